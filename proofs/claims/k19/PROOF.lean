import PyProof.Rows.All
import Wide.All
import OpenK.AllK
import Wide.FinOn
import HandS.ForMost
import HandS.ForExc
import HandS.Walk
import HandS.IsInst
import HandS.Deep
import HandS.TupAny
import HandS.Wide
import HandS.SetFor
import HandS.Conv
import HandS.TupMul
import HandS.Lambda
import HandS.HotCalls
import HandS.ExcIs
import HandS.EndTab
import KE.GoesMore
import HandS.SortInts
import HandS.RaiseMore
import KE.GoesComp
import PyProof.SumWalkG
import PyProof.P3Eq
import HandS.TupLen
import KE.KDictDisplayH
import HandS.NamedTupSort
import KE.KEqDict
import KE.DatumOrd
import HandS.TupLe
import KE.SortData
import HandS.Text
import KE.IntTextLaws
import PySem.Challenge.RW_slidingrow_k19_whole_tables
set_option Elab.async false
set_option linter.all false
set_option maxRecDepth 100000
set_option maxHeartbeats 1000000
/-! A heap-free layer over HandS: data (PyData) in the place of values and heaps. -/
namespace Pd
open PySem PySem.Spec PyProof.Rows L2

/-- no table of code objects; nothing, or such a table -/
def nt (o : HO) : Prop := ∀ ps, o ≠ .tbl ps
def bl (H : Hp) (a : Addr) : Prop := ∀ o, H a = some o → nt o → False
theorem nt_lst {xs : List V} : nt (.lst xs) := fun _ z => nomatch z
theorem nt_tup {xs : List V} : nt (.tup xs) := fun _ z => nomatch z
theorem nt_dT {xs} : nt (.dT xs) := fun _ z => nomatch z
theorem bl_none {H : Hp} {a : Addr} (h : H a = none) : bl H a := fun o e _ => by rw [h] at e; cases e
/-! ### data as it stands in a heap, off the addresses O -/
/-- a dict's data: keys are tuples of ints -/
def encD (kvs : List (List Int × PyData)) : List (PyData × PyData) := kvs.map fun p => (.tuple (p.1.map .int), p.2)
mutual
inductive Is (O : Addr → Prop) (H : Hp) : V → PyData → Prop
  | non : Is O H .non .none
  | bl (b : Bool) : Is O H (.bl b) (.bool b)
  | int (i : Int) : Is O H (.int i) (.int i)
  | str (x : Str) : Is O H (.str x) (.str x)
  | lst {a : Addr} {xs : List V} {ds : List PyData} : ¬ O a → H a = some (.lst xs) → IsAll O H xs ds → Is O H (.ref a) (.list ds)
  | tup {a : Addr} {xs : List V} {ds : List PyData} : ¬ O a → H a = some (.tup xs) → IsAll O H xs ds → Is O H (.ref a) (.tuple ds)
  | dct {a : Addr} {od : Obj} {ws : List (List Key × V)} {es : List (PyData × PyData)} (kvs : List (List Int × PyData)) : ¬ O a → H a = some (.frz od (.dT ws)) → es = encD kvs → ws.map (·.1) = kvs.map (fun k => k.1.map Sum.inl) → IsAll O H (ws.map (·.2)) (kvs.map (·.2)) → Is O H (.ref a) (.dict es)
inductive IsAll (O : Addr → Prop) (H : Hp) : List V → List PyData → Prop
  | nil : IsAll O H [] []
  | cons {v : V} {vs : List V} {d : PyData} {ds : List PyData} : Is O H v d → IsAll O H vs ds → IsAll O H (v :: vs) (d :: ds)
end

theorem nt_frz {o : Obj} {u : HO} : nt (.frz o u) := fun _ z => nomatch z
theorem Is.imp {O O' : Addr → Prop} {H H' : Hp} (k : ∀ a o, ¬ O a → nt o → H a = some o → ¬ O' a ∧ H' a = some o) (d : PyData) (v : V) (h : Is O H v d) : Is O' H' v d :=
  Is.rec (motive_1 := fun v d _ => Is O' H' v d) (motive_2 := fun vs ds _ => IsAll O' H' vs ds) .non .bl .int .str (fun n e _ ih => .lst (k _ _ n nt_lst e).1 (k _ _ n nt_lst e).2 ih) (fun n e _ ih => .tup (k _ _ n nt_tup e).1 (k _ _ n nt_tup e).2 ih)
    (fun kvs n e h1 h2 _ ih => .dct kvs (k _ _ n nt_frz e).1 (k _ _ n nt_frz e).2 h1 h2 ih) .nil (fun _ _ i1 i2 => .cons i1 i2) h
theorem IsAll.imp {O O' : Addr → Prop} {H H' : Hp} (k : ∀ a o, ¬ O a → nt o → H a = some o → ¬ O' a ∧ H' a = some o) (ds : List PyData) (vs : List V) (h : IsAll O H vs ds) : IsAll O' H' vs ds :=
  IsAll.rec (motive_1 := fun v d _ => Is O' H' v d) (motive_2 := fun vs ds _ => IsAll O' H' vs ds) .non .bl .int .str (fun n e _ ih => .lst (k _ _ n nt_lst e).1 (k _ _ n nt_lst e).2 ih) (fun n e _ ih => .tup (k _ _ n nt_tup e).1 (k _ _ n nt_tup e).2 ih)
    (fun kvs n e h1 h2 _ ih => .dct kvs (k _ _ n nt_frz e).1 (k _ _ n nt_frz e).2 h1 h2 ih) .nil (fun _ _ i1 i2 => .cons i1 i2) h
theorem can_cons {d : PyData} {ds : List PyData} (h : PyData.canLayAll0 (d :: ds) = true) : d.canLay0 = true ∧ PyData.canLayAll0 ds = true := by simpa [PyData.canLayAll0] using h
theorem Is.dp {O : Addr → Prop} {H : Hp} (K : PySem.W.Frag) (d : PyData) (v : V) (h : Is O H v d) (hc : d.canLay0 = true) : Dp K H v d :=
  Is.rec (motive_1 := fun v d _ => d.canLay0 = true → Dp K H v d) (motive_2 := fun vs ds _ => PyData.canLayAll0 ds = true → DpAll K H vs ds) (fun _ => .non) (fun b _ => .bl b) (fun i _ => .int i) (fun x _ => .str x) (fun n e _ ih c => .lst (SqL.of e) (ih (by simpa [PyData.canLay0] using c))) (fun n e _ ih c => .tup (SqT.of e) (ih (by simpa [PyData.canLay0] using c)))
    (fun kvs n e h1 h2 _ ih c => by simp [PyData.canLay0] at c) (fun _ => .nil) (fun _ _ i1 i2 c => .cons (i1 (can_cons c).1) (i2 (can_cons c).2)) h hc
/-- all that H tracks is as it was; .. but at O -/
def Ext (H H' : Hp) : Prop := ∀ a o, H a = some o → H' a = some o
def Ex (O : Addr → Prop) (H H' : Hp) : Prop := ∀ a o, ¬ O a → nt o → H a = some o → H' a = some o
/-- a thing that can be owned: no table, no tuple -/
def nw (o : HO) : Prop := nt o ∧ ∀ xs, o ≠ .tup xs
theorem nw_lst {xs : List V} : nw (.lst xs) := ⟨nt_lst, fun _ z => nomatch z⟩
theorem nw_dT {xs} : nw (.dT xs) := ⟨nt_dT, fun _ z => nomatch z⟩
theorem nw_frz {o : Obj} {u : HO} : nw (.frz o u) := ⟨nt_frz, fun _ z => nomatch z⟩
def Al (O : Addr → Prop) (H : Hp) : Prop := ∀ a, O a → ∃ o, H a = some o ∧ nw o
theorem Ext.refl (H : Hp) : Ext H H := fun _ _ h => h
theorem Ext.trans {H H1 H2 : Hp} (a : Ext H H1) (b : Ext H1 H2) : Ext H H2 := fun x o h => b x o (a x o h)
theorem Ext.new {H : Hp} {p : Addr} {o : HO} (h : H p = none) : Ext H (upd H p o) := fun a u e => by
  rw [upd_ne (ne_of_none e h)]; exact e
theorem Ext.ex {O : Addr → Prop} {H H' : Hp} (e : Ext H H') : Ex O H H' := fun a o _ _ h => e a o h
theorem Ex.refl (O : Addr → Prop) (H : Hp) : Ex O H H := fun _ _ _ _ h => h
theorem Ex.trans {O : Addr → Prop} {H H1 H2 : Hp} (a : Ex O H H1) (b : Ex O H1 H2) : Ex O H H2 := fun x o n m h => b x o n m (a x o n m h)
theorem Al.ext {O : Addr → Prop} {H H' : Hp} (al : Al O H) (e : Ext H H') : Al O H' := fun a ha => by
  obtain ⟨o, h1, h2⟩ := al a ha
  exact ⟨o, e a o h1, h2⟩
theorem Al.bl {O : Addr → Prop} {H : Hp} (al : Al O H) {p : Addr} (h : Pd.bl H p) : ¬ O p := fun ho => by
  obtain ⟨o, h1, h2⟩ := al p ho
  exact h o h1 h2.1
theorem Al.notup {O : Addr → Prop} {H : Hp} (al : Al O H) {p : Addr} {xs : List V} (h : H p = some (.tup xs)) : ¬ O p := fun ho => by
  obtain ⟨o, h1, h2⟩ := al p ho
  rw [h] at h1
  cases h1
  exact h2.2 xs rfl
theorem Al.fresh {O : Addr → Prop} {H : Hp} (al : Al O H) {p : Addr} (h : H p = none) : ¬ O p := al.bl (bl_none h)
theorem Is.ex {O : Addr → Prop} {H H' : Hp} {v : V} {d : PyData} (h : Is O H v d) (e : Ex O H H') : Is O H' v d := Is.imp (fun a o n m q => ⟨n, e a o n m q⟩) d v h
theorem IsAll.ex {O : Addr → Prop} {H H' : Hp} {v : List V} {d : List PyData} (h : IsAll O H v d) (e : Ex O H H') : IsAll O H' v d := IsAll.imp (fun a o n m q => ⟨n, e a o n m q⟩) d v h
theorem Is.ext {O : Addr → Prop} {H H' : Hp} {v : V} {d : PyData} (h : Is O H v d) (e : Ext H H') : Is O H' v d := h.ex e.ex
theorem IsAll.ext {O : Addr → Prop} {H H' : Hp} {v : List V} {d : List PyData} (h : IsAll O H v d) (e : Ext H H') : IsAll O H' v d := h.ex e.ex
theorem IsAll.length {O : Addr → Prop} {H : Hp} : ∀ {vs : List V} {ds : List PyData}, IsAll O H vs ds → vs.length = ds.length
  | [], [], _ => rfl
  | _ :: _, _ :: _, h => by cases h with | cons _ t => simp [IsAll.length t]
  | [], _ :: _, h => by cases h
  | _ :: _, [], h => by cases h
theorem IsAll.get {O : Addr → Prop} {H : Hp} : ∀ {vs : List V} {ds : List PyData} {i : Nat} {d : PyData}, IsAll O H vs ds → ds[i]? = some d → ∃ v, vs[i]? = some v ∧ Is O H v d
  | _, [], i, d, _, e => by simp at e
  | _, d0 :: ds, 0, d, h, e => by
    cases h with
    | cons h1 _ => simp at e; subst e; exact ⟨_, rfl, h1⟩
  | _, d0 :: ds, i + 1, d, h, e => by
    cases h with
    | cons _ h2 =>
      obtain ⟨v, e1, e2⟩ := IsAll.get (i := i) (d := d) h2 (by simpa using e)
      exact ⟨v, by simpa using e1, e2⟩
theorem IsAll.getV {O : Addr → Prop} {H : Hp} {vs : List V} {ds : List PyData} {i : Nat} {v : V} (h : IsAll O H vs ds) (e : vs[i]? = some v) : ∃ d, ds[i]? = some d ∧ Is O H v d := by
  have hl := h.length
  have hi : i < vs.length := (List.getElem?_eq_some_iff.mp e).1
  have e2 : ds[i]? = some (ds[i]'(by omega)) := List.getElem?_eq_getElem _
  obtain ⟨v', e3, e4⟩ := h.get e2
  rw [e] at e3; cases e3
  exact ⟨_, e2, e4⟩
theorem IsAll.append {O : Addr → Prop} {H : Hp} : ∀ {vs ws : List V} {ds es : List PyData}, IsAll O H vs ds → IsAll O H ws es → IsAll O H (vs ++ ws) (ds ++ es)
  | [], _, [], _, _, h => h
  | _ :: _, _, _ :: _, _, h, h2 => by cases h with | cons h1 t => exact .cons h1 (IsAll.append t h2)
  | [], _, _ :: _, _, h, _ => by cases h
  | _ :: _, _, [], _, h, _ => by cases h
theorem IsAll.set {O : Addr → Prop} {H : Hp} {v : V} {d : PyData} (hv : Is O H v d) : ∀ {vs : List V} {ds : List PyData} (i : Nat), IsAll O H vs ds → IsAll O H (vs.set i v) (ds.set i d)
  | [], [], _, _ => .nil
  | _ :: _, _ :: _, 0, h => by cases h with | cons h1 t => exact .cons hv t
  | _ :: _, _ :: _, i + 1, h => by cases h with | cons h1 t => exact .cons h1 (IsAll.set hv i t)
  | [], _ :: _, _, h => by cases h
  | _ :: _, [], _, h => by cases h
theorem IsAll.take {O : Addr → Prop} {H : Hp} : ∀ {vs : List V} {ds : List PyData} (n : Nat), IsAll O H vs ds → IsAll O H (vs.take n) (ds.take n)
  | [], [], _, _ => by simpa using IsAll.nil
  | _ :: _, _ :: _, 0, _ => .nil
  | _ :: _, _ :: _, n + 1, h => by cases h with | cons h1 t => exact .cons h1 (IsAll.take n t)
  | [], _ :: _, _, h => by cases h
  | _ :: _, [], _, h => by cases h
theorem IsAll.drop {O : Addr → Prop} {H : Hp} : ∀ {vs : List V} {ds : List PyData} (n : Nat), IsAll O H vs ds → IsAll O H (vs.drop n) (ds.drop n)
  | [], [], _, _ => by simpa using IsAll.nil
  | _ :: _, _ :: _, 0, h => h
  | _ :: _, _ :: _, n + 1, h => by cases h with | cons h1 t => exact IsAll.drop n t
  | [], _ :: _, _, h => by cases h
  | _ :: _, [], _, h => by cases h
/-- ints, texts, truth values: lists of them -/
theorem IsAll.ints {O : Addr → Prop} {H : Hp} : ∀ {vs : List V} {ns : List Int}, IsAll O H vs (ns.map .int) → vs = ns.map V.int
  | [], [], _ => rfl
  | _ :: _, _ :: _, h => by
    cases h with
    | cons h1 t => cases h1; rw [IsAll.ints t]; rfl
  | [], _ :: _, h => by cases h
  | _ :: _, [], h => by cases h
theorem isAll_ints {O : Addr → Prop} {H : Hp} : ∀ {ns : List Int}, IsAll O H (ns.map V.int) (ns.map .int)
  | [] => .nil
  | n :: ns => .cons (.int n) isAll_ints
theorem IsAll.bls {O : Addr → Prop} {H : Hp} : ∀ {vs : List V} {ns : List Bool}, IsAll O H vs (ns.map .bool) → vs = ns.map V.bl
  | [], [], _ => rfl
  | _ :: _, _ :: _, h => by
    cases h with
    | cons h1 t => cases h1; rw [IsAll.bls t]; rfl
  | [], _ :: _, h => by cases h
  | _ :: _, [], h => by cases h
def flat : PyData → Bool
  | .none => true | .bool _ => true | .int _ => true | .str _ => true | _ => false
theorem Is.flat {O O' : Addr → Prop} {H H' : Hp} {v : V} {d : PyData} (f : flat d = true) (h : Is O H v d) : Is O' H' v d := by
  cases h with
  | non => exact .non
  | bl b => exact .bl b
  | int i => exact .int i
  | str x => exact .str x
  | lst => cases f
  | tup => cases f
  | dct => cases f
theorem Is.newT {O : Addr → Prop} {H : Hp} {p : Addr} {xs : List V} {ds : List PyData} (al : Al O H) (hp : H p = none) (h : IsAll O H xs ds) : Is O (upd H p (.tup xs)) (.ref p) (.tuple ds) :=
  .tup (al.fresh hp) upd_same (h.ext (Ext.new hp))
theorem Is.newL {O : Addr → Prop} {H : Hp} {p : Addr} {xs : List V} {ds : List PyData} (al : Al O H) (hp : H p = none) (h : IsAll O H xs ds) : Is O (upd H p (.lst xs)) (.ref p) (.list ds) :=
  .lst (al.fresh hp) upd_same (h.ext (Ext.new hp))

/-- a caught exception of the class D, at a -/
def XO (D a : Addr) : HO := .ext fun h => ∃ oe, h.get? a = some oe ∧ L2N.Zn (.ref D) none oe ∧ ∃ vs, oe.data = .fields vs
theorem nt_XO {D a : Addr} : nt (XO D a) := fun _ z => nomatch z
inductive XAll (O : Addr → Prop) (H : Hp) : List V → List Addr → Prop
  | nil : XAll O H [] []
  | cons {a D : Addr} {vs : List V} {Ds : List Addr} : ¬ O a → H a = some (XO D a) → XAll O H vs Ds → XAll O H (.ref a :: vs) (D :: Ds)
theorem XAll.imp {O O' : Addr → Prop} {H H' : Hp} (k : ∀ a o, ¬ O a → nt o → H a = some o → ¬ O' a ∧ H' a = some o) {vs : List V} {Ds : List Addr} (h : XAll O H vs Ds) : XAll O' H' vs Ds := by
  induction h with
  | nil => exact .nil
  | cons n e _ ih => exact .cons (k _ _ n nt_XO e).1 (k _ _ n nt_XO e).2 ih
theorem XAll.ex {O : Addr → Prop} {H H' : Hp} {vs : List V} {Ds : List Addr} (h : XAll O H vs Ds) (e : Ex O H H') : XAll O H' vs Ds := XAll.imp (fun a o n m q => ⟨n, e a o n m q⟩) h
theorem XAll.ext {O : Addr → Prop} {H H' : Hp} {vs : List V} {Ds : List Addr} (h : XAll O H vs Ds) (e : Ext H H') : XAll O H' vs Ds := h.ex e.ex
theorem XAll.length {O : Addr → Prop} {H : Hp} {vs : List V} {Ds : List Addr} (h : XAll O H vs Ds) : vs.length = Ds.length := by
  induction h with
  | nil => rfl
  | cons _ _ _ ih => rw [List.length_cons, List.length_cons, ih]
theorem XAll.append {O : Addr → Prop} {H : Hp} {vs ws : List V} {Ds Es : List Addr} (h : XAll O H vs Ds) (h2 : XAll O H ws Es) : XAll O H (vs ++ ws) (Ds ++ Es) := by
  induction h with
  | nil => exact h2
  | cons n e _ ih => exact .cons n e ih
theorem XAll.get {O : Addr → Prop} {H : Hp} {vs : List V} {Ds : List Addr} (h : XAll O H vs Ds) : ∀ {i : Nat} {v : V}, vs[i]? = some v → ∃ a D, v = .ref a ∧ Ds[i]? = some D ∧ ¬ O a ∧ H a = some (XO D a) := by
  induction h with
  | nil => intro i v e; simp at e
  | cons n e _ ih =>
    intro i v hv
    cases i with
    | zero => simp at hv; subst hv; exact ⟨_, _, rfl, rfl, n, e⟩
    | succ i => exact ih (by simpa using hv)
/-- what can be owned and changed: a list, a dict, an instance -/
def kd (o : HO) : Prop := (∃ xs, o = .lst xs) ∨ (∃ xs, o = .dT xs) ∨ ∃ C dx fs, o = .ins C dx fs
theorem kd.nw {o : HO} (h : kd o) : Pd.nw o := by
  rcases h with ⟨xs, rfl⟩ | ⟨xs, rfl⟩ | ⟨C, dx, fs, rfl⟩
  · exact nw_lst
  · exact nw_dT
  · exact ⟨fun _ z => (nomatch z), fun _ z => (nomatch z)⟩
theorem kd.nt {o : HO} (h : kd o) : Pd.nt o := h.nw.1
/-- a kind of owned things -/
structure GS where
  R : (Addr → Prop) → Hp → Addr → HO → Prop
  st : ∀ {O O' : Addr → Prop} {H H' : Hp} {p : Addr} {o : HO}, (∀ a u, ¬ O a → Pd.nt u → H a = some u → ¬ O' a ∧ H' a = some u) → R O H p o → R O' H' p o
  kd : ∀ {O : Addr → Prop} {H : Hp} {p : Addr} {o : HO}, R O H p o → Pd.kd o
theorem GS.ex (G : GS) {O : Addr → Prop} {H H' : Hp} {p : Addr} {o : HO} (e : Ex O H H') (h : G.R O H p o) : G.R O H' p o := G.st (fun a u n m q => ⟨n, e a u n m q⟩) h
theorem GS.more (G : GS) {O O' : Addr → Prop} {H H' : Hp} {p : Addr} {o : HO} (hn : ∀ a, O' a → O a ∨ Pd.bl H a) (e : Ex O H H') (h : G.R O H p o) : G.R O' H' p o := G.st (fun a u n m q => ⟨fun z => by
  rcases hn a z with z | z
  · exact n z
  · exact z u q m, e a u n m q⟩) h
/-! ### slots -/
inductive Sl where
  | no | raw (v : V) | tab (T : List (Addr × Str)) | val (d : PyData) | own (ds : List PyData) | dice | dct (kvs : List (List Int × PyData)) | fz (u : Addr → HO) | xl (Ds : List Addr) | gn (G : GS) (m c : Bool)
def Sl.mut : Sl → Bool
  | .own _ => true | .dice => true | .dct _ => true | .xl _ => true | .gn _ _ _ => true | _ => false
/-- the frame of a run: the heap at its start, what the caller owns, what may change of it, the dice that were handed in, what is owned at the start -/
structure Fm where
  H0 : Hp
  Oc : Addr → Prop
  M : Addr → Prop
  Dc : Addr → Prop
  Ob : Addr → Prop
  T : List (Addr × Str)
def Fm.Mu (W : Fm) (a : Addr) : Prop := W.H0 a = none ∨ W.M a
/-- a dict with keys of ints and its data -/
def IsKvs (O : Addr → Prop) (H : Hp) (ws : List (List Key × V)) (kvs : List (List Int × PyData)) : Prop := ws.map (·.1) = kvs.map (fun k => k.1.map Sum.inl) ∧ IsAll O H (ws.map (·.2)) (kvs.map (·.2))
def SlOk (W : Fm) (O : Addr → Prop) (H : Hp) (x : Option V) : Sl → Prop
  | .no => True
  | .raw v => x = some v
  | .tab T => W.T = T ∧ ∀ a ps, W.H0 a = some (.tbl ps) → W.M a
  | .val d => ∃ v, x = some v ∧ Is O H v d
  | .fz u => ∃ p, x = some (.ref p) ∧ ¬ O p ∧ H p = some (u p) ∧ nt (u p)
  | .xl Ds => ∃ p xs, x = some (.ref p) ∧ O p ∧ ¬ W.Oc p ∧ W.Mu p ∧ H p = some (.lst xs) ∧ XAll O H xs Ds
  | .gn G m c => ∃ p o, x = some (.ref p) ∧ O p ∧ (c = true → ¬ W.Oc p) ∧ (m = true → W.Mu p) ∧ H p = some o ∧ G.R O H p o
  | .own ds => ∃ p xs, x = some (.ref p) ∧ O p ∧ ¬ W.Oc p ∧ W.Mu p ∧ H p = some (.lst xs) ∧ IsAll O H xs ds
  | .dice => ∃ p c k, x = some (.ref p) ∧ O p ∧ W.Mu p ∧ H p = some (.lst [.int c, .int k])
  | .dct kvs => ∃ p ws, x = some (.ref p) ∧ O p ∧ ¬ W.Oc p ∧ W.Mu p ∧ H p = some (.dT ws) ∧ IsKvs O H ws kvs
/-- the dice of a state -/
def Dx (σ : L2.St) (ρ : List Sl) (a : Addr) : Prop := ∃ i : Nat, σ[i]? = some (some (V.ref a)) ∧ ρ[i]? = some Sl.dice
/-- all but the dice is as it was -/
def ExD (σ : L2.St) (ρ : List Sl) (H H' : Hp) : Prop := ∀ a o, ¬ Dx σ ρ a → nt o → H a = some o → H' a = some o
structure Gd (W : Fm) (O : Addr → Prop) (σ : L2.St) (H : Hp) (ρ : List Sl) : Prop where
  len : σ.length = ρ.length
  sl : ∀ (i : Nat) (x : Option V) (s : Sl), σ[i]? = some x → ρ[i]? = some s → SlOk W O H x s
  uq : ∀ (i j : Nat) (p : Addr) (s t : Sl), i ≠ j → σ[i]? = some (some (.ref p)) → σ[j]? = some (some (.ref p)) → ρ[i]? = some s → ρ[j]? = some t → s.mut = true → t.mut = true → False
  al : Al O H
  sup : ∀ a, W.Oc a → O a
  ext : ∀ a o, W.H0 a = some o → ¬ W.M a → H a = some o
  dc : ∀ a, W.Dc a → Dx σ ρ a
  kp : ∀ a o, W.H0 a = some o → nt o → ∃ o', H a = some o' ∧ nt o'
  nw : ∀ a, O a → W.Ob a ∨ bl W.H0 a
  tb : LamX.Tabs W.T H
section
variable {W : Fm} {O : Addr → Prop} {σ : L2.St} {H H' H1 H2 : Hp} {ρ : List Sl}
theorem SlOk.imp {x : Option V} {s : Sl} (h : SlOk W O H x s) (e : Ext H H') : SlOk W O H' x s := by
  cases s with
  | no => trivial
  | raw v => exact h
  | tab T => exact h
  | val d => obtain ⟨v, e1, e2⟩ := h; exact ⟨v, e1, e2.ext e⟩
  | fz u => obtain ⟨p, e1, e2, e3, e4⟩ := h; exact ⟨p, e1, e2, e _ _ e3, e4⟩
  | own ds => obtain ⟨p, xs, e1, e2, e3, e4, e5, e6⟩ := h; exact ⟨p, xs, e1, e2, e3, e4, e _ _ e5, e6.ext e⟩
  | xl ds => obtain ⟨p, xs, e1, e2, e3, e4, e5, e6⟩ := h; exact ⟨p, xs, e1, e2, e3, e4, e _ _ e5, e6.ext e⟩
  | gn G m c => obtain ⟨p, o, e1, e2, e3, e4, e5, e6⟩ := h; exact ⟨p, o, e1, e2, e3, e4, e _ _ e5, G.ex e.ex e6⟩
  | dice => obtain ⟨p, c, k, e1, e2, e3, e4⟩ := h; exact ⟨p, c, k, e1, e2, e3, e _ _ e4⟩
  | dct kvs => obtain ⟨p, ws, e1, e2, e3, e4, e5, e6, e7⟩ := h; exact ⟨p, ws, e1, e2, e3, e4, e _ _ e5, e6, e7.ext e⟩
theorem ext_none (e : Ext H H') {a : Addr} (h : H' a = none) : H a = none := by
  cases q : H a with
  | none => rfl
  | some o => rw [e a o q] at h; cases h
theorem Gd.ext' (g : Gd W O σ H ρ) (e : Ext H H') : Gd W O σ H' ρ :=
  ⟨g.len, fun i x s h1 h2 => (g.sl i x s h1 h2).imp e, g.uq, g.al.ext e, g.sup, fun a o h1 h2 => e a o (g.ext a o h1 h2), g.dc, fun a o h1 h2 => by
    obtain ⟨o', e1, e2⟩ := g.kp a o h1 h2
    exact ⟨o', e a o' e1, e2⟩, g.nw, g.tb.ext e⟩
theorem Gd.keep (g : Gd W O σ H ρ) (a : Addr) (h : H a = none) : W.Mu a := by
  cases q : W.H0 a with
  | none => exact .inl q
  | some o =>
    by_cases hm : W.M a
    · exact .inr hm
    · rw [g.ext a o q hm] at h; cases h
theorem Gd.kbl (g : Gd W O σ H ρ) {a : Addr} (h : bl H a) : bl W.H0 a := fun o h1 h2 => by
  obtain ⟨o', e1, e2⟩ := g.kp a o h1 h2
  exact h o' e1 e2
theorem Gd.at (g : Gd W O σ H ρ) {i : Nat} {s : Sl} (h : ρ[i]? = some s) : ∃ x, σ[i]? = some x ∧ SlOk W O H x s := by
  have hi : i < ρ.length := (List.getElem?_eq_some_iff.mp h).1
  have e : σ[i]? = some (σ[i]'(by rw [g.len]; exact hi)) := List.getElem?_eq_getElem _
  exact ⟨_, e, g.sl i _ _ e h⟩
theorem Gd.val (g : Gd W O σ H ρ) {i : Nat} {d : PyData} (h : ρ[i]? = some (.val d)) : ∃ v, σ[i]? = some (some v) ∧ Is O H v d := by
  obtain ⟨x, e, v, e1, e2⟩ := g.at h
  exact ⟨v, by rw [e, e1], e2⟩
theorem Gd.dxO (g : Gd W O σ H ρ) {a : Addr} (h : Dx σ ρ a) : O a := by
  obtain ⟨i, h1, h2⟩ := h
  obtain ⟨p, c, k, e1, e2, _⟩ := g.sl i _ _ h1 h2
  cases e1
  exact e2
theorem ExD.refl (σ : L2.St) (ρ : List Sl) (H : Hp) : ExD σ ρ H H := fun _ _ _ _ h => h
theorem ExD.trans (a : ExD σ ρ H H1) (b : ExD σ ρ H1 H2) : ExD σ ρ H H2 := fun x o n m h => b x o n m (a x o n m h)
theorem Ext.exd (e : Ext H H') : ExD σ ρ H H' := fun a o _ _ h => e a o h
theorem Gd.exO (g : Gd W O σ H ρ) (e : ExD σ ρ H1 H2) : Ex O H1 H2 := fun a o n m h => e a o (fun z => n (g.dxO z)) m h
theorem Is.exd {v : V} {d : PyData} (h : Is O H1 v d) (g : Gd W O σ H ρ) (e : ExD σ ρ H1 H2) : Is O H2 v d := h.ex (g.exO e)
theorem IsAll.exd {v : List V} {d : List PyData} (h : IsAll O H1 v d) (g : Gd W O σ H ρ) (e : ExD σ ρ H1 H2) : IsAll O H2 v d := h.ex (g.exO e)
end
end Pd
set_option Elab.async false
set_option linter.all false
set_option maxRecDepth 100000
set_option maxHeartbeats 1000000
namespace Pd
open PySem PySem.Spec PyProof.Rows L2

/-! ### the readings by data -/
def tX (ρ : List Sl) (φ : PyData → Prop) : TE := fun σ H Q => ∃ W O, Gd W O σ H ρ ∧ ∀ d v H', φ d → Gd W O σ H' ρ → ExD σ ρ H H' → Is O H' v d → Q v H'
def tXT (ρ : List Sl) (β : Bool → Prop) : TT := fun σ H Q => ∃ W O, Gd W O σ H ρ ∧ ∀ b H', β b → Gd W O σ H' ρ → ExD σ ρ H H' → Q b H'
def tXA (ρ : List Sl) (φ : List PyData → Prop) : TA := fun σ H Q => ∃ W O, Gd W O σ H ρ ∧ ∀ ds vs H', φ ds → Gd W O σ H' ρ → ExD σ ρ H H' → IsAll O H' vs ds → Q vs H'
abbrev XE (X : Cx) (e : Expr) (ρ : List Sl) (φ : PyData → Prop) : Prop := PE X e (tX ρ φ)
abbrev XV (X : Cx) (e : Expr) (ρ : List Sl) (d : PyData) : Prop := PE X e (tX ρ fun z => z = d)
abbrev TX (X : Cx) (e : Expr) (ρ : List Sl) (β : Bool → Prop) : Prop := PT X e (tXT ρ β)
abbrev TV (X : Cx) (e : Expr) (ρ : List Sl) (b : Bool) : Prop := PT X e (tXT ρ fun z => z = b)
abbrev XA (X : Cx) (es : List Expr) (ρ : List Sl) (φ : List PyData → Prop) : Prop := PA X es (tXA ρ φ)
abbrev AV (X : Cx) (es : List Expr) (ρ : List Sl) (ds : List PyData) : Prop := PA X es (tXA ρ fun z => z = ds)
theorem PE.imp {X : Cx} {e : Expr} {t t' : TE} (h : PE X e t) (k : ∀ σ H Q, t' σ H Q → t σ H Q) : PE X e t' := ⟨fun pins s σ H Q I q => h.run pins s σ H Q I (k σ H Q q)⟩
theorem PT.imp {X : Cx} {e : Expr} {t t' : TT} (h : PT X e t) (k : ∀ σ H Q, t' σ H Q → t σ H Q) : PT X e t' := ⟨fun pins s σ H Q I q => h.run pins s σ H Q I (k σ H Q q)⟩
theorem PA.imp {X : Cx} {e : List Expr} {t t' : TA} (h : PA X e t) (k : ∀ σ H Q, t' σ H Q → t σ H Q) : PA X e t' := ⟨fun pos pins s σ H Q I q => h.run pos pins s σ H Q I (k σ H Q q)⟩
theorem PW.imp {X : Cx} {e : Expr} {t t' : TT} (h : PW X e t) (k : ∀ σ H Q, t' σ H Q → t σ H Q) : PW X e t' := ⟨fun w pins s σ H Q I q => h.run w pins s σ H Q I (k σ H Q q)⟩
theorem PE.exi {X : Cx} {e : Expr} {α : Type} {p : α → Prop} {t : α → TE} (h : ∀ a, p a → PE X e (t a)) : PE X e (fun σ H Q => ∃ a, p a ∧ t a σ H Q) := ⟨fun pins s σ H Q I ⟨a, ha, q⟩ => (h a ha).run pins s σ H Q I q⟩
theorem PT.exi {X : Cx} {e : Expr} {α : Type} {p : α → Prop} {t : α → TT} (h : ∀ a, p a → PT X e (t a)) : PT X e (fun σ H Q => ∃ a, p a ∧ t a σ H Q) := ⟨fun pins s σ H Q I ⟨a, ha, q⟩ => (h a ha).run pins s σ H Q I q⟩
theorem PTs.exi {X : Cx} {e : List Expr} {α : Type} {p : α → Prop} {t : α → TT} (h : ∀ a, p a → PTs X e (t a)) : PTs X e (fun σ H Q => ∃ a, p a ∧ t a σ H Q) := ⟨fun pins s σ H Q I ⟨a, ha, q⟩ => (h a ha).run pins s σ H Q I q⟩
theorem PSs.exi {X : Cx} {e : List Stmt} {α : Type} {p : α → Prop} {t : α → TS} (h : ∀ a, p a → PSs X e (t a)) : PSs X e (fun D σ H => ∃ a, p a ∧ t a D σ H) := ⟨fun pins s σ H D I ⟨a, ha, q⟩ => (h a ha).run pins s σ H D I q⟩
section
variable {X : Cx} {ρ : List Sl} {φ ψ χ : PyData → Prop} {a b c e : Expr} {es : List Expr} {pos : Pos} {d : PyData}
/-- weaken -/
theorem XE.mono (h : XE X e ρ φ) (k : ∀ z, φ z → ψ z) : XE X e ρ ψ := PE.imp h fun σ H Q ⟨W, O, g, q⟩ => ⟨W, O, g, fun d v H' hd => q d v H' (k d hd)⟩
theorem TX.mono {β γ : Bool → Prop} (h : TX X e ρ β) (k : ∀ z, β z → γ z) : TX X e ρ γ := PT.imp h fun σ H Q ⟨W, O, g, q⟩ => ⟨W, O, g, fun d H' hd => q d H' (k d hd)⟩
theorem XA.mono {φ ψ : List PyData → Prop} (h : XA X es ρ φ) (k : ∀ z, φ z → ψ z) : XA X es ρ ψ := PA.imp h fun σ H Q ⟨W, O, g, q⟩ => ⟨W, O, g, fun d v H' hd => q d v H' (k d hd)⟩
theorem XV.is {d' : PyData} (h : XV X e ρ d) (k : d = d') : XV X e ρ d' := by rw [← k]; exact h
theorem TV.is {b b' : Bool} (h : TV X e ρ b) (k : b = b') : TV X e ρ b' := by rw [← k]; exact h
/-! names, constants -/
theorem x_var {i : Nat} {x : Str} (hN : X.N[i]? = some x) (hv : Vis X.env.scope x) (h : ρ[i]? = some (.val d)) (hd : (x == ("__debug__" : Str)) = false := by decide) (hcd : (x == ("__classdict__" : Str)) = false := by decide) : XV X (.Name x pos) ρ d :=
  PE.imp (pe_var hN hv hd hcd) fun σ H Q ⟨W, O, g, q⟩ => by
    obtain ⟨v, e1, e2⟩ := g.val h
    exact ⟨v, e1, q d v H rfl g (ExD.refl σ ρ H) e2⟩
theorem xv (i : Nat) {x : Str} (h : ρ[i]? = some (.val d)) (hN : X.N[i]? = some x := by rfl) (hv : Vis X.env.scope x := by first | exact Or.inl rfl | exact Or.inr (Or.inl rfl) | exact Or.inr (Or.inr rfl))
    (hd : (x == ("__debug__" : Str)) = false := by decide) (hcd : (x == ("__classdict__" : Str)) = false := by decide) : XV X (.Name x pos) ρ d := x_var hN hv h hd hcd
theorem x_c {v : V} (h : PE X e (tC v)) (hi : ∀ O H, Is O H v d) : XV X e ρ d := PE.imp h fun σ H Q ⟨W, O, g, q⟩ => q d v H rfl g (ExD.refl σ ρ H) (hi O H)
theorem x_int {i j} : XV X (.Constant (.int i) j pos) ρ (.int i) := x_c pe_int fun _ _ => .int i
theorem x_bl {i j} : XV X (.Constant (.bool i) j pos) ρ (.bool i) := x_c pe_bl fun _ _ => .bl i
theorem x_str {i j} : XV X (.Constant (.str i) j pos) ρ (.str i) := x_c pe_str fun _ _ => .str i
theorem x_non {j} : XV X (.Constant .none j pos) ρ .none := x_c pe_non fun _ _ => .non
/-! operators -/
def RD (r : R2) (d e : PyData) (χ : PyData → Prop) : Prop := ∀ O H x y, Al O H → Is O H x d → Is O H y e → ∀ Q : VK, (∀ z v H', χ z → Ext H H' → Is O H' v z → Q v H') → r x y H Q
abbrev RV (r : R2) (d e z : PyData) : Prop := RD r d e fun w => w = z
def RU (r : V → Hp → VK → Prop) (d : PyData) (χ : PyData → Prop) : Prop := ∀ O H x, Al O H → Is O H x d → ∀ Q : VK, (∀ z v H', χ z → Ext H H' → Is O H' v z → Q v H') → r x H Q
def RC (r : List V → Hp → VK → Prop) (ds : List PyData) (χ : PyData → Prop) : Prop := ∀ O H vs, Al O H → IsAll O H vs ds → ∀ Q : VK, (∀ z v H', χ z → Ext H H' → Is O H' v z → Q v H') → r vs H Q
abbrev RCV (r : List V → Hp → VK → Prop) (ds : List PyData) (z : PyData) : Prop := RC r ds fun w => w = z
theorem op2 {r : R2} (hr : ∀ d e, φ d → ψ e → RD r d e χ) : ∀ σ H Q, tX ρ χ σ H Q → tOp r (tX ρ φ) (tX ρ ψ) σ H Q := fun σ H Q ⟨W, O, g, k⟩ =>
  ⟨W, O, g, fun d x H1 hd g1 e1 i1 => ⟨W, O, g1, fun e y H2 he g2 e2 i2 => hr d e hd he O H2 x y g2.al (i1.exd g1 e2) i2 Q fun z v H3 hz e3 i3 => k z v H3 hz (g2.ext' e3) ((e1.trans e2).trans e3.exd) i3⟩⟩
theorem X_op {op : Operator} {r : R2} (ho : OpR X (binaryOp op) r) (ha : XE X a ρ φ) (hb : XE X b ρ ψ) (hr : ∀ d e, φ d → ψ e → RD r d e χ) : XE X (.BinOp a op b pos) ρ χ := PE.imp (pe_op ho ha hb) (op2 hr)
theorem X_cmp {op : CmpOp} {r : R2} (ho : OpR X (compareOp op) r) (ha : XE X a ρ φ) (hb : XE X b ρ ψ) (hr : ∀ d e, φ d → ψ e → RD r d e χ) (hm : behindInMarks op b = false) : XE X (.Compare a [op] [b] pos) ρ χ := PE.imp (pe_cmpR ho ha hb hm) (op2 hr)
theorem X_ix {r : R2} (ho : IxR X r) (ha : XE X a ρ φ) (hb : XE X b ρ ψ) (hr : ∀ d e, φ d → ψ e → RD r d e χ) (hs : PlainIx b := by exact fun _ _ => rfl) : XE X (.Subscript a b pos) ρ χ := PE.imp (pe_ix ho ha hb hs) (op2 hr)
theorem det2 {r : R2} {d e : PyData} (h : RD r d e χ) : ∀ d' e', (fun z => z = d) d' → (fun z => z = e) e' → RD r d' e' χ := fun _ _ h1 h2 => by rw [h1, h2]; exact h
theorem det1 {r : List V → Hp → VK → Prop} {d : List PyData} (h : RC r d χ) : ∀ d', (fun z => z = d) d' → RC r d' χ := fun _ h1 => by rw [h1]; exact h
theorem x_op {op : Operator} {r : R2} {d e : PyData} (ho : OpR X (binaryOp op) r) (ha : XV X a ρ d) (hb : XV X b ρ e) (hr : RD r d e χ) : XE X (.BinOp a op b pos) ρ χ := X_op ho ha hb (det2 hr)
theorem x_cmp {op : CmpOp} {r : R2} {d e : PyData} (ho : OpR X (compareOp op) r) (ha : XV X a ρ d) (hb : XV X b ρ e) (hr : RD r d e χ) (hm : behindInMarks op b = false := by first | exact nomark _ | rfl) : XE X (.Compare a [op] [b] pos) ρ χ := X_cmp ho ha hb (det2 hr) hm
theorem x_ix {r : R2} {d e : PyData} (ho : IxR X r) (ha : XV X a ρ d) (hb : XV X b ρ e) (hr : RD r d e χ) (hs : PlainIx b := by exact fun _ _ => rfl) : XE X (.Subscript a b pos) ρ χ := X_ix ho ha hb (det2 hr) hs
theorem x_un {op : UnaryOp} {r : V → Hp → VK → Prop} (ho : UnR X (unaryOp op) r) (ha : XV X a ρ d) (hr : RU r d χ) : XE X (.UnaryOp op a pos) ρ χ := PE.imp (pe_un ho ha) fun σ H Q ⟨W, O, g, k⟩ =>
  ⟨W, O, g, fun d' x H1 hd g1 e1 i1 => by subst hd; exact hr O H1 x g1.al i1 Q fun z v H3 hz e3 i3 => k z v H3 hz (g1.ext' e3) (e1.trans e3.exd) i3⟩
/-! what the operators do with data -/
theorem RD.now {r : R2} {d e z : PyData} (h : ∀ O H x y, Is O H x d → Is O H y e → ∃ v, Is O H v z ∧ ∀ Q : VK, Q v H → r x y H Q) : RV r d e z := fun O H x y _ i1 i2 Q k => by
  obtain ⟨v, i3, q⟩ := h O H x y i1 i2
  exact q Q (k z v H rfl (Ext.refl H) i3)
theorem rd_i {f : Int → Int → Int} {i j : Int} : RV (rI0 fun i j => .int (f i j)) (.int i) (.int j) (.int (f i j)) := RD.now fun O H x y h1 h2 => by
  cases h1; cases h2; exact ⟨_, .int _, fun Q q => ⟨i, j, rfl, rfl, q⟩⟩
theorem rd_b {f : Int → Int → Bool} {i j : Int} : RV (rI0 fun i j => .bl (f i j)) (.int i) (.int j) (.bool (f i j)) := RD.now fun O H x y h1 h2 => by
  cases h1; cases h2; exact ⟨_, .bl _, fun Q q => ⟨i, j, rfl, rfl, q⟩⟩
theorem rd_c {f : Int → Int → Int} {C : Int → Int → Prop} {i j : Int} (hc : C i j) : RV (rI C fun i j => .int (f i j)) (.int i) (.int j) (.int (f i j)) := RD.now fun O H x y h1 h2 => by
  cases h1; cases h2; exact ⟨_, .int _, fun Q q => ⟨i, j, rfl, rfl, hc, q⟩⟩
theorem rd_add {i j : Int} : RV (rI0 fun i j => .int (i + j)) (.int i) (.int j) (.int (i + j)) := rd_i
theorem rd_sub {i j : Int} : RV (rI0 fun i j => .int (i - j)) (.int i) (.int j) (.int (i - j)) := rd_i
theorem rd_mul {i j : Int} (hc : CMul i j) : RV (rI CMul fun i j => .int (i * j)) (.int i) (.int j) (.int (i * j)) := rd_c hc
theorem rd_mod {i j : Int} (hc : 0 < j) : RV (rI (fun _ j => 0 < j) fun i j => .int (i % j)) (.int i) (.int j) (.int (i % j)) := rd_c hc
theorem rd_fdiv {i j : Int} (hc : CDiv i j) : RV (rI CDiv fun i j => .int (i / j)) (.int i) (.int j) (.int (i / j)) := rd_c hc
theorem rd_lt {i j : Int} : RV (rI0 fun i j => .bl (decide (i < j))) (.int i) (.int j) (.bool (decide (i < j))) := rd_b
theorem rd_le {i j : Int} : RV (rI0 fun i j => .bl (decide (i ≤ j))) (.int i) (.int j) (.bool (decide (i ≤ j))) := rd_b
theorem rd_gt {i j : Int} : RV (rI0 fun i j => .bl (decide (j < i))) (.int i) (.int j) (.bool (decide (j < i))) := rd_b
theorem rd_ge {i j : Int} : RV (rI0 fun i j => .bl (decide (j ≤ i))) (.int i) (.int j) (.bool (decide (j ≤ i))) := rd_b
/-- == and != of data -/
def Shp (d : PyData) : Prop := SeqAt.shaped d = true
theorem Shp.can {d : PyData} (h : Shp d) : d.canLay0 = true := by
  unfold Shp SeqAt.shaped at h
  rw [Bool.and_eq_true] at h
  exact h.1
theorem rd_eqD {K : PySem.W.Frag} {d e : PyData} (hd : Shp d) (he : Shp e) : RV (rEqD K) d e (.bool (PyData.eqv d e)) := RD.now fun O H x y h1 h2 => ⟨_, .bl _, fun Q q => ⟨d, e, h1.dp K d x hd.can, h2.dp K e y he.can, hd, he, q⟩⟩
theorem rd_neD {K : PySem.W.Frag} {d e : PyData} (hd : Shp d) (he : Shp e) : RV (rNeD K) d e (.bool (!PyData.eqv d e)) := RD.now fun O H x y h1 h2 => ⟨_, .bl _, fun Q q => ⟨d, e, h1.dp K d x hd.can, h2.dp K e y he.can, hd, he, q⟩⟩
/-- t + u of tuples -/
theorem rd_cat {K : PySem.W.Frag} {ds es : List PyData} (hl : ds.length + es.length ≤ 100000) : RV (rCatA K) (.tuple ds) (.tuple es) (.tuple (ds ++ es)) := fun O H x y al h1 h2 Q k => by
  cases h1 with
  | tup n1 e1 r1 =>
    cases h2 with
    | @tup b ys _ n2 e2 r2 =>
      rename_i a xs
      have l1 := r1.length
      have l2 := r2.length
      refine ⟨a, b, xs, ys, rfl, rfl, SqT.of e1, SqT.of e2, by rw [sizeLine_eq]; omega, fun hx => ?_, fun _ hy => ?_, fun _ _ p hp => ?_⟩
      · have : ds = [] := by cases ds with | nil => rfl | cons => rw [hx] at l1; simp at l1
        subst this
        exact k _ _ H rfl (Ext.refl H) (.tup n2 e2 r2)
      · have : es = [] := by cases es with | nil => rfl | cons => rw [hy] at l2; simp at l2
        subst this
        rw [List.append_nil] at k
        exact k _ _ H rfl (Ext.refl H) (.tup n1 e1 r1)
      · exact k _ _ _ rfl (Ext.new hp) (Is.newT al hp (r1.append r2))
theorem rd_catL {ds es : List PyData} (hl : ds.length + es.length ≤ 100000) : RV rCat (.list ds) (.list es) (.list (ds ++ es)) := fun O H x y al h1 h2 Q k => by
  cases h1 with
  | lst n1 e1 r1 =>
    cases h2 with
    | @lst b ys _ n2 e2 r2 =>
      rename_i a xs
      have l1 := r1.length
      have l2 := r2.length
      exact ⟨a, b, xs, ys, rfl, rfl, e1, e2, by rw [sizeLine_eq]; omega, fun p hp => k _ _ _ rfl (Ext.new hp) (Is.newL al hp (r1.append r2))⟩
/-- items -/
theorem rd_ixT {K : PySem.W.Frag} {ds : List PyData} {i : Int} {j : Nat} {z : PyData} (hi : ixN ds.length i = some j) (hz : ds[j]? = some z) : RV (rIxT K) (.tuple ds) (.int i) z := RD.now fun O H x y h1 h2 => by
  cases h1 with
  | tup n1 e1 r1 =>
    cases h2
    obtain ⟨v, e2, e3⟩ := r1.get hz
    refine ⟨v, e3, fun Q q => ⟨_, _, i, v, rfl, rfl, SqT.of e1, ?_, q⟩⟩
    unfold atI
    rw [r1.length, hi]
    exact e2
theorem rd_ixL {K : PySem.W.Frag} {ds : List PyData} {i : Int} {j : Nat} {z : PyData} (hi : ixN ds.length i = some j) (hz : ds[j]? = some z) : RV (rIxL K) (.list ds) (.int i) z := RD.now fun O H x y h1 h2 => by
  cases h1 with
  | lst n1 e1 r1 =>
    cases h2
    obtain ⟨v, e2, e3⟩ := r1.get hz
    refine ⟨v, e3, fun Q q => ⟨_, _, i, v, rfl, rfl, SqL.of e1, ?_, q⟩⟩
    unfold atI
    rw [r1.length, hi]
    exact e2
theorem ixN_nat {n j : Nat} {i : Int} (e : i = j) (hj : j < n) : ixN n i = some j := by
  subst e
  unfold ixN
  rw [if_pos (by omega), if_pos (by omega)]
  simp
/-! ### arguments, displays -/
theorem a_nil : AV X [] ρ [] := PA.imp pa_nil fun σ H Q ⟨W, O, g, k⟩ => k [] [] H rfl g (ExD.refl σ ρ H) .nil
theorem X_cons {φ' : List PyData → Prop} {χ' : List PyData → Prop} (ha : XE X e ρ φ) (hr : XA X es ρ φ') (hk : ∀ d ds, φ d → φ' ds → χ' (d :: ds)) (hs : starEach (e :: es) X.env = (false, eval e X.env) :: starEach es X.env := by rfl) : XA X (e :: es) ρ χ' :=
  PA.imp (pa_cons ha hr hs) fun σ H Q ⟨W, O, g, k⟩ => ⟨W, O, g, fun d x H1 hd g1 e1 i1 => ⟨W, O, g1, fun ds xs H2 hds g2 e2 i2 => k (d :: ds) (x :: xs) H2 (hk d ds hd hds) g2 (e1.trans e2) (.cons (i1.exd g1 e2) i2)⟩⟩
theorem a_cons {ds : List PyData} (ha : XV X e ρ d) (hr : AV X es ρ ds) (hs : starEach (e :: es) X.env = (false, eval e X.env) :: starEach es X.env := by rfl) : AV X (e :: es) ρ (d :: ds) := X_cons ha hr (fun _ _ h1 h2 => by rw [h1, h2]) hs
theorem x_tup {x1} {ds : List PyData} (h : AV X es ρ ds) (hl : ds.length ≤ 100000 := by exact Nat.le_of_ble_eq_true rfl) : XV X (.Tuple es x1 pos) ρ (.tuple ds) := PE.imp (pe_tup h) fun σ H Q ⟨W, O, g, k⟩ =>
  ⟨W, O, g, fun d x H1 hd g1 e1 i1 => by
    subst hd
    refine ⟨by rw [sizeLine_eq, i1.length]; omega, fun p hp => k _ _ _ rfl (g1.ext' (Ext.new hp)) (e1.trans (Ext.new hp).exd) (Is.newT g1.al hp i1)⟩⟩
theorem x_lst {ds : List PyData} (h : AV X es ρ ds) (hl : ds.length ≤ 100000 := by exact Nat.le_of_ble_eq_true rfl) : XV X (.List es pos) ρ (.list ds) := PE.imp (pe_lst h) fun σ H Q ⟨W, O, g, k⟩ =>
  ⟨W, O, g, fun d x H1 hd g1 e1 i1 => by
    subst hd
    refine ⟨by rw [sizeLine_eq, i1.length]; omega, fun p hp => k _ _ _ rfl (g1.ext' (Ext.new hp)) (e1.trans (Ext.new hp).exd) (Is.newL g1.al hp i1)⟩⟩
theorem X_tup {x1} {φ' : List PyData → Prop} (h : XA X es ρ φ') (hl : ∀ ds, φ' ds → ds.length ≤ 100000) : XE X (.Tuple es x1 pos) ρ (fun z => ∃ ds, φ' ds ∧ z = .tuple ds) := PE.imp (pe_tup h) fun σ H Q ⟨W, O, g, k⟩ =>
  ⟨W, O, g, fun d x H1 hd g1 e1 i1 => by
    have := hl d hd
    refine ⟨by rw [sizeLine_eq, i1.length]; omega, fun p hp => k _ _ _ ⟨d, hd, rfl⟩ (g1.ext' (Ext.new hp)) (e1.trans (Ext.new hp).exd) (Is.newT g1.al hp i1)⟩⟩
/-! ### calls of built-ins -/
theorem X_cb {r : List V → Hp → VK → Prop} {φ' : List PyData → Prop} (hr : ∀ ds, φ' ds → RC r ds χ) : ∀ σ H Q, tX ρ χ σ H Q → tCB r (tXA ρ φ') σ H Q := fun σ H Q ⟨W, O, g, k⟩ =>
  ⟨W, O, g, fun ds vs H1 hd g1 e1 i1 => hr ds hd O H1 vs g1.al i1 Q fun z v H3 hz e3 i3 => k z v H3 hz (g1.ext' e3) (e1.trans e3.exd) i3⟩
theorem X_callB {id : String} {x : Str} {p : Pos} {r : List V → Hp → VK → Prop} {φ' : List PyData → Prop} (hc : CallR X (.builtin id) r) (hg : Gl X x) (hm : X.mg x = none) (hv : bootBuiltins x = some (.builtin id)) (ha : XA X (e :: es) ρ φ') (hr : ∀ ds, φ' ds → RC r ds χ) (hn : x ≠ "__name__" := by decide) (hdb : (x == ("__debug__" : Str)) = false := by decide)
    (he : starEach (e :: es) X.env = (false, eval e X.env) :: starEach es X.env := by rfl) (hpl : (backTo pos (starEach es X.env)).any (·.1) = false := by rfl) :
    XE X (.Call (.Name x p) (e :: es) [] pos) ρ χ := PE.imp (pe_callB hc hg hm hv ha hn hdb he hpl) (X_cb hr)
theorem X_callT {T : String} {x : Str} {p : Pos} {r : List V → Hp → VK → Prop} {φ' : List PyData → Prop} (hc : CallR X (.type T) r) (hg : Gl X x) (hm : X.mg x = none) (hv : bootBuiltins x = some (.type T)) (ha : XA X (e :: es) ρ φ') (hr : ∀ ds, φ' ds → RC r ds χ) (hn : x ≠ "__name__" := by decide) (hdb : (x == ("__debug__" : Str)) = false := by decide)
    (he : starEach (e :: es) X.env = (false, eval e X.env) :: starEach es X.env := by rfl) (hpl : (backTo pos (starEach es X.env)).any (·.1) = false := by rfl) :
    XE X (.Call (.Name x p) (e :: es) [] pos) ρ χ := PE.imp (pe_callTy hc hg hm hv ha hn hdb he hpl) (X_cb hr)
theorem x_callB {id : String} {x : Str} {p : Pos} {r : List V → Hp → VK → Prop} {ds : List PyData} (hc : CallR X (.builtin id) r) (hm : X.mg x = none) (ha : AV X (e :: es) ρ ds) (hr : RC r ds χ) (hg : Gl X x := by rfl) (hv : bootBuiltins x = some (.builtin id) := by decide +kernel) (hn : x ≠ "__name__" := by decide) (hdb : (x == ("__debug__" : Str)) = false := by decide)
    (he : starEach (e :: es) X.env = (false, eval e X.env) :: starEach es X.env := by rfl) (hpl : (backTo pos (starEach es X.env)).any (·.1) = false := by rfl) :
    XE X (.Call (.Name x p) (e :: es) [] pos) ρ χ := X_callB hc hg hm hv ha (det1 hr) hn hdb he hpl
theorem x_callT {T : String} {x : Str} {p : Pos} {r : List V → Hp → VK → Prop} {ds : List PyData} (hc : CallR X (.type T) r) (hm : X.mg x = none) (ha : AV X (e :: es) ρ ds) (hr : RC r ds χ) (hg : Gl X x := by rfl) (hv : bootBuiltins x = some (.type T) := by decide +kernel) (hn : x ≠ "__name__" := by decide) (hdb : (x == ("__debug__" : Str)) = false := by decide)
    (he : starEach (e :: es) X.env = (false, eval e X.env) :: starEach es X.env := by rfl) (hpl : (backTo pos (starEach es X.env)).any (·.1) = false := by rfl) :
    XE X (.Call (.Name x p) (e :: es) [] pos) ρ χ := X_callT hc hg hm hv ha (det1 hr) hn hdb he hpl
/-! tests -/
theorem tx_val {b : Bool} (h : XV X e ρ (.bool b)) (he : ∀ whole, isTrue e X.env whole = (do let v ← whole; standAt e.pos; holding [v] (truthy v)) := by intro _; rfl) : TV X e ρ b := PT.imp (pt_val h he) fun σ H Q ⟨W, O, g, k⟩ =>
  ⟨W, O, g, fun d x H1 hd g1 e1 i1 => by subst hd; cases i1; exact ⟨b, rfl, k b H1 rfl g1 e1⟩⟩
theorem TX_val {β : Bool → Prop} (h : XE X e ρ fun z => ∃ b, β b ∧ z = .bool b) (he : ∀ whole, isTrue e X.env whole = (do let v ← whole; standAt e.pos; holding [v] (truthy v)) := by intro _; rfl) : TX X e ρ β := PT.imp (pt_val h he) fun σ H Q ⟨W, O, g, k⟩ =>
  ⟨W, O, g, fun d x H1 hd g1 e1 i1 => by obtain ⟨b, hb, rfl⟩ := hd; cases i1; exact ⟨b, rfl, k b H1 hb g1 e1⟩⟩
theorem TX_cmp {op : CmpOp} {r : R2} {β : Bool → Prop} (ho : OpR X (compareOp op) r) (ha : XE X a ρ φ) (hb : XE X b ρ ψ) (hr : ∀ d e, φ d → ψ e → RD r d e fun z => ∃ b, β b ∧ z = .bool b) (hm : behindInMarks op b = false) : TX X (.Compare a [op] [b] pos) ρ β := PT.imp (pt_cmpR ho ha hb hm) fun σ H Q ⟨W, O, g, k⟩ =>
  op2 hr σ H _ ⟨W, O, g, fun d x H1 hd g1 e1 i1 => by obtain ⟨b, hb, rfl⟩ := hd; cases i1; exact ⟨b, rfl, k b H1 hb g1 e1⟩⟩
theorem tx_cmp {op : CmpOp} {r : R2} {d e : PyData} {k : Bool} (ho : OpR X (compareOp op) r) (ha : XV X a ρ d) (hb : XV X b ρ e) (hr : RV r d e (.bool k)) (hm : behindInMarks op b = false := by first | exact nomark _ | rfl) : TV X (.Compare a [op] [b] pos) ρ k :=
  TX_cmp ho ha hb (fun d' e' h1 h2 => by
    subst h1 h2
    exact fun O H x y al i1 i2 Q q => hr O H x y al i1 i2 Q fun z v H' hz => q z v H' ⟨k, rfl, hz⟩) hm
theorem chain2 {r r' : R2} {d e f : PyData} {p q : Bool} (h1 : RV r d e (.bool p)) (h2 : p = true → RV r' e f (.bool q)) : ∀ σ H Q, tX ρ (fun z => z = .bool (p && q)) σ H Q → tChain r r' (tX ρ fun z => z = d) (tX ρ fun z => z = e) (tX ρ fun z => z = f) σ H Q := fun σ H Q ⟨W, O, g, k⟩ =>
  ⟨W, O, g, fun d' x H1 hd g1 e1 i1 => ⟨W, O, g1, fun e' y H2 he g2 e2 i2 => by
    subst hd he
    refine h1 O H2 x y g2.al (i1.exd g1 e2) i2 _ fun z v H3 hz e3 i3 => ?_
    subst hz
    cases i3
    refine ⟨p, rfl, ?_⟩
    have g3 := g2.ext' e3
    have e123 := (e1.trans e2).trans e3.exd
    cases p with
    | false => exact k _ _ H3 rfl g3 e123 (.bl _)
    | true =>
      refine ⟨W, O, g3, fun f' w H4 hf g4 e4 i4 => ?_⟩
      subst hf
      exact h2 rfl O H4 y w g4.al ((i2.ext e3).exd g3 e4) i4 Q fun z v H5 hz e5 i5 => by
        subst hz
        exact k _ _ H5 rfl (g4.ext' e5) ((e123.trans e4).trans e5.exd) i5⟩⟩
theorem x_chain {op op' : CmpOp} {r r' : R2} {d e f : PyData} {p q : Bool} (ho : OpR X (compareOp op) r) (ho' : OpR X (compareOp op') r') (ha : XV X a ρ d) (hb : XV X b ρ e) (hc : XV X c ρ f) (h1 : RV r d e (.bool p)) (h2 : p = true → RV r' e f (.bool q))
    (hm : lastMarks [op, op'] [b, c] = false := by with_unfolding_all rfl) : XV X (.Compare a [op, op'] [b, c] pos) ρ (.bool (p && q)) := PE.imp (pe_chain ho ho' ha hb hc hm) (chain2 h1 h2)
theorem tx_chain {op op' : CmpOp} {r r' : R2} {d e f : PyData} {p q : Bool} (ho : OpR X (compareOp op) r) (ho' : OpR X (compareOp op') r') (ha : XV X a ρ d) (hb : XV X b ρ e) (hc : XV X c ρ f) (h1 : RV r d e (.bool p)) (h2 : p = true → RV r' e f (.bool q))
    (hm : lastMarks [op, op'] [b, c] = false := by with_unfolding_all rfl) : TV X (.Compare a [op, op'] [b, c] pos) ρ (p && q) := PT.imp (pt_chain ho ho' ha hb hc hm) fun σ H Q ⟨W, O, g, k⟩ =>
  chain2 h1 h2 σ H _ ⟨W, O, g, fun d x H1 hd g1 e1 i1 => by subst hd; cases i1; exact ⟨_, rfl, k _ H1 rfl g1 e1⟩⟩
theorem tx_not {k : Bool} (h : TV X e ρ k) : TV X (.UnaryOp .Not e pos) ρ (!k) := PT.imp (pt_not h) fun σ H Q ⟨W, O, g, q⟩ => ⟨W, O, g, fun b H' hb g' e' => by subst hb; exact q _ H' rfl g' e'⟩
abbrev WV (X : Cx) (e : Expr) (ρ : List Sl) (b : Bool) : Prop := PW X e (tXT ρ fun z => z = b)
theorem wv_pt {k : Bool} (h : WV X e ρ k) : TV X e ρ k := PW.pt h
theorem w_and1 {k : Bool} (h : TV X a ρ k) : WV X (.BoolOp .And [a] pos) ρ k := pw_and1 h
theorem w_or1 {k : Bool} (h : TV X a ρ k) : WV X (.BoolOp .Or [a] pos) ρ k := pw_or1 h
theorem w_and {k l : Bool} (h : TV X a ρ k) (h2 : k = true → WV X (.BoolOp .And (b :: es) pos) ρ l) : WV X (.BoolOp .And (a :: b :: es) pos) ρ (k && l) := by
  cases k with
  | true => exact PW.imp (pw_and h (h2 rfl)) fun σ H Q ⟨W, O, g, q⟩ => ⟨W, O, g, fun b H' hb g' e' => by subst hb; exact ⟨W, O, g', fun b2 H2 hb2 g2 e2 => by subst hb2; exact q _ H2 rfl g2 (e'.trans e2)⟩⟩
  | false =>
    refine PW.imp (pw_and (tB' := fun _ _ _ => False) h ⟨fun _ _ _ _ _ _ _ z => z.elim⟩) fun σ H Q ⟨W, O, g, q⟩ => ⟨W, O, g, fun b H' hb g' e' => by subst hb; exact q _ H' rfl g' e'⟩
theorem w_or {k l : Bool} (h : TV X a ρ k) (h2 : k = false → WV X (.BoolOp .Or (b :: es) pos) ρ l) : WV X (.BoolOp .Or (a :: b :: es) pos) ρ (k || l) := by
  cases k with
  | false => exact PW.imp (pw_or h (h2 rfl)) fun σ H Q ⟨W, O, g, q⟩ => ⟨W, O, g, fun b H' hb g' e' => by subst hb; exact ⟨W, O, g', fun b2 H2 hb2 g2 e2 => by subst hb2; exact q _ H2 rfl g2 (e'.trans e2)⟩⟩
  | true =>
    refine PW.imp (pw_or (tB' := fun _ _ _ => False) h ⟨fun _ _ _ _ _ _ _ z => z.elim⟩) fun σ H Q ⟨W, O, g, q⟩ => ⟨W, O, g, fun b H' hb g' e' => by subst hb; exact q _ H' rfl g' e'⟩
theorem x_one {op} (h : XE X a ρ φ) : XE X (.BoolOp op [a] pos) ρ φ := pe_one h
theorem x_and {k l : Bool} (h : XV X a ρ (.bool k)) (h2 : k = true → XV X (.BoolOp .And (b :: es) pos) ρ (.bool l)) : XV X (.BoolOp .And (a :: b :: es) pos) ρ (.bool (k && l)) := by
  cases k with
  | true => exact PE.imp (pe_and h (h2 rfl)) fun σ H Q ⟨W, O, g, q⟩ => ⟨W, O, g, fun b v H' hb g' e' i' => by subst hb; cases i'; exact ⟨true, rfl, W, O, g', fun b2 v2 H2 hb2 g2 e2 i2 => by subst hb2; exact q _ _ H2 rfl g2 (e'.trans e2) i2⟩⟩
  | false =>
    refine PE.imp (pe_and (tb := fun _ _ _ => False) h ⟨fun _ _ _ _ _ _ z => z.elim⟩) fun σ H Q ⟨W, O, g, q⟩ => ⟨W, O, g, fun b v H' hb g' e' i' => by subst hb; cases i'; exact ⟨false, rfl, q _ _ H' rfl g' e' (.bl _)⟩⟩
theorem x_or {k l : Bool} (h : XV X a ρ (.bool k)) (h2 : k = false → XV X (.BoolOp .Or (b :: es) pos) ρ (.bool l)) : XV X (.BoolOp .Or (a :: b :: es) pos) ρ (.bool (k || l)) := by
  cases k with
  | false => exact PE.imp (pe_or h (h2 rfl)) fun σ H Q ⟨W, O, g, q⟩ => ⟨W, O, g, fun b v H' hb g' e' i' => by subst hb; cases i'; exact ⟨false, rfl, W, O, g', fun b2 v2 H2 hb2 g2 e2 i2 => by subst hb2; exact q _ _ H2 rfl g2 (e'.trans e2) i2⟩⟩
  | true =>
    refine PE.imp (pe_or (tb := fun _ _ _ => False) h ⟨fun _ _ _ _ _ _ z => z.elim⟩) fun σ H Q ⟨W, O, g, q⟩ => ⟨W, O, g, fun b v H' hb g' e' i' => by subst hb; cases i'; exact ⟨true, rfl, q _ _ H' rfl g' e' (.bl _)⟩⟩
theorem x_not {k : Bool} (h : XV X a ρ (.bool k)) : XV X (.UnaryOp .Not a pos) ρ (.bool (!k)) := PE.imp (pe_not h) fun σ H Q ⟨W, O, g, q⟩ => ⟨W, O, g, fun b v H' hb g' e' i' => by subst hb; cases i'; exact ⟨k, rfl, q _ _ H' rfl g' e' (.bl _)⟩⟩
theorem X_if {β : Bool → Prop} (hc : TX X c ρ β) (ha : β true → XE X a ρ χ) (hb : β false → XE X b ρ χ) : XE X (.IfExp c a b pos) ρ χ :=
  PE.imp (pe_ifExp (ta := fun σ H Q => ∃ (_ : Unit), β true ∧ tX ρ χ σ H Q) (tb := fun σ H Q => ∃ (_ : Unit), β false ∧ tX ρ χ σ H Q) hc (PE.exi fun _ h => ha h) (PE.exi fun _ h => hb h)) fun σ H Q ⟨W, O, g, q⟩ => ⟨W, O, g, fun b H' hb g' e' => by
    cases b with
    | true => exact ⟨(), hb, W, O, g', fun d v H2 h1 g2 e2 i2 => q d v H2 h1 g2 (e'.trans e2) i2⟩
    | false => exact ⟨(), hb, W, O, g', fun d v H2 h1 g2 e2 i2 => q d v H2 h1 g2 (e'.trans e2) i2⟩⟩
theorem x_if {k : Bool} (hc : TV X c ρ k) (ha : k = true → XE X a ρ χ) (hb : k = false → XE X b ρ χ) : XE X (.IfExp c a b pos) ρ χ := X_if hc (fun h => ha h.symm) (fun h => hb h.symm)
end
end Pd
set_option Elab.async false
set_option linter.all false
set_option maxRecDepth 100000
set_option maxHeartbeats 1000000
namespace Pd
open PySem PySem.Spec PyProof.Rows L2
/-! ### defs: promises by data, calls -/
def spF {α : Type} (args : α → List PyData) (pre : α → Prop) (post : α → PyData → Prop) : Sp := fun vs H Q _ => ∃ (a : α) (O : Addr → Prop), Al O H ∧ IsAll O H vs (args a) ∧ pre a ∧ ∀ d v H', post a d → Ext H H' → Is O H' v d → Q v H'
/-- the first argument: dice -/
def spD {α : Type} (args : α → List PyData) (pre : α → Prop) (post : α → PyData → Prop) : Sp := fun vs H Q _ => ∃ (a : α) (O : Addr → Prop) (p : Addr) (c k : Int) (ws : List V), vs = .ref p :: ws ∧ O p ∧ Al O H ∧ H p = some (.lst [.int c, .int k]) ∧ IsAll O H ws (args a) ∧ pre a ∧
  ∀ d v H' c' k', post a d → (∀ b o, b ≠ p → H b = some o → H' b = some o) → H' p = some (.lst [.int c', .int k']) → Is O H' v d → Q v H'
structure Has (K : PySem.W.Frag) (mg : Str → Option Value) (x : Str) (f : Addr) (fd : FuncData) (ps : List Str) : Prop where
  gl : mg x = some (.ref f)
  kp : PySem.W.keepIn K (.ref f) = true
  bd : Binds K fd ps []
/-- tables stay when an object that is none of theirs changes -/
theorem tabs_but {T : List (Addr × Str)} {H H' : Hp} {p : Addr} (t : LamX.Tabs T H) (hp : ∃ o, H p = some o ∧ ∃ xs, o = .lst xs) (hk : ∀ b o, b ≠ p → H b = some o → H' b = some o) : LamX.Tabs T H' := fun q hq => by
  obtain ⟨ps, h1, h2, h3⟩ := t q hq
  obtain ⟨o, ho, xs, rfl⟩ := hp
  refine ⟨ps, hk _ _ (fun z => ?_) h1, h2, fun pos cv hc => ?_⟩
  · rw [z, ho] at h1; cases h1
  · obtain ⟨c, e1, e2⟩ := h3 pos cv hc
    refine ⟨c, e1, hk _ _ (fun z => ?_) e2⟩
    rw [z, ho] at e2
    unfold LamX.CodeO at e2
    cases e2
section
variable {W : Fm} {O : Addr → Prop} {σ : L2.St} {H H' : Hp} {ρ : List Sl}
theorem Gd.diced (g : Gd W O σ H ρ) {i : Nat} {p : Addr} {c k : Int} (hi : ρ[i]? = some .dice) (hσ : σ[i]? = some (some (.ref p))) (hk : ∀ b o, b ≠ p → H b = some o → H' b = some o) (hp : H' p = some (.lst [.int c, .int k])) : Gd W O σ H' ρ := by
  have hx : Dx σ ρ p := ⟨i, hσ, hi⟩
  have hO : O p := g.dxO hx
  have ex : Ex O H H' := fun a o n _ h => hk a o (fun z => n (by rw [z]; exact hO)) h
  have mu : W.Mu p := by
    obtain ⟨q, _, _, e, _, m, _⟩ := g.sl i _ _ hσ hi
    cases e
    exact m
  have onl : ∃ o, H p = some o ∧ ∃ xs, o = .lst xs := by
    obtain ⟨q, c1, k1, e1, _, _, e4⟩ := g.sl i _ _ hσ hi
    cases e1
    exact ⟨_, e4, _, rfl⟩
  have keepN : ∀ a o, H a = some o → nt o → ∃ o', H' a = some o' ∧ nt o' := fun a o h1 h2 => by
    by_cases hap : a = p
    · exact ⟨_, by rw [hap]; exact hp, nt_lst⟩
    · exact ⟨o, hk a o hap h1, h2⟩
  refine ⟨g.len, fun j x s h1 h2 => ?_, g.uq, fun a ha => ?_, g.sup, fun a o h1 h2 => ?_, g.dc, fun a o h1 h2 => ?_, g.nw, tabs_but g.tb onl hk⟩
  · have old := g.sl j x s h1 h2
    cases s with
    | no => trivial
    | raw v => exact old
    | tab T => exact old
    | val d => obtain ⟨v, e1, e2⟩ := old; exact ⟨v, e1, e2.ex ex⟩
    | fz u => obtain ⟨q, e1, e2, e3, e4⟩ := old; exact ⟨q, e1, e2, ex q (u q) e2 e4 e3, e4⟩
    | own ds =>
      obtain ⟨q, xs, e1, e2, e3, e4, e5, e6⟩ := old
      have hij : i ≠ j := fun z => by subst z; rw [hi] at h2; cases h2
      have hqp : q ≠ p := fun z => g.uq i j p _ _ hij hσ (by rw [h1, e1, z]) hi h2 rfl rfl
      exact ⟨q, xs, e1, e2, e3, e4, hk _ _ hqp e5, e6.ex ex⟩
    | xl ds =>
      obtain ⟨q, xs, e1, e2, e3, e4, e5, e6⟩ := old
      have hij : i ≠ j := fun z => by subst z; rw [hi] at h2; cases h2
      have hqp : q ≠ p := fun z => g.uq i j p _ _ hij hσ (by rw [h1, e1, z]) hi h2 rfl rfl
      exact ⟨q, xs, e1, e2, e3, e4, hk _ _ hqp e5, e6.ex ex⟩
    | gn G gm gc =>
      obtain ⟨q, xs, e1, e2, e3, e4, e5, e6⟩ := old
      have hij : i ≠ j := fun z => by subst z; rw [hi] at h2; cases h2
      have hqp : q ≠ p := fun z => g.uq i j p _ _ hij hσ (by rw [h1, e1, z]) hi h2 rfl rfl
      exact ⟨q, xs, e1, e2, e3, e4, hk _ _ hqp e5, G.ex ex e6⟩
    | dice =>
      obtain ⟨q, c1, k1, e1, e2, e3, e4⟩ := old
      by_cases hqp : q = p
      · subst hqp; exact ⟨q, c, k, e1, e2, e3, hp⟩
      · exact ⟨q, c1, k1, e1, e2, e3, hk _ _ hqp e4⟩
    | dct kvs =>
      obtain ⟨q, ws, e1, e2, e3, e4, e5, e6, e7⟩ := old
      have hij : i ≠ j := fun z => by subst z; rw [hi] at h2; cases h2
      have hqp : q ≠ p := fun z => g.uq i j p _ _ hij hσ (by rw [h1, e1, z]) hi h2 rfl rfl
      exact ⟨q, ws, e1, e2, e3, e4, hk _ _ hqp e5, e6, e7.ex ex⟩
  · obtain ⟨o, h1, h2⟩ := g.al a ha
    by_cases hap : a = p
    · exact ⟨_, by rw [hap]; exact hp, nw_lst⟩
    · exact ⟨o, hk a o hap h1, h2⟩
  · refine hk a o (fun z => ?_) (g.ext a o h1 h2)
    subst z
    rcases mu with z | z
    · rw [h1] at z; cases z
    · exact h2 z
  · obtain ⟨o', e1, e2⟩ := g.kp a o h1 h2
    exact keepN a o' e1 e2
end
section
variable {X : Cx} {ρ : List Sl} {φ ψ χ : PyData → Prop} {a b c e : Expr} {es : List Expr} {pos : Pos} {d : PyData}
theorem X_call {α : Type} {args : α → List PyData} {pre : α → Prop} {post : α → PyData → Prop} {φ' : List PyData → Prop} {k : Nat} {f : Addr} {fd : FuncData} {ps : List Str} {x : Str} {p : Pos}
    (F : FnOk X.prog X.w X.K X.mg X.base CX0 k f fd ps (spF args pre post)) (hr : Room k X.A) (T : Has X.K X.mg x f fd ps) (ha : XA X (e :: es) ρ φ') (hp : ∀ ds, φ' ds → ∃ a, ds = args a ∧ pre a ∧ ∀ z, post a z → χ z) (hg : Gl X x := by rfl) (hdb : (x == ("__debug__" : Str)) = false := by decide)
    (he : starEach (e :: es) X.env = (false, eval e X.env) :: starEach es X.env := by rfl) (hpl : (backTo pos (starEach es X.env)).any (·.1) = false := by rfl) : XE X (.Call (.Name x p) (e :: es) [] pos) ρ χ :=
  PE.imp (pe_call F hr hg T.gl T.kp T.bd .nil pass0 ha hdb he hpl) fun σ H Q ⟨W, O, g, q⟩ => ⟨W, O, g, fun ds vs H1 hd g1 e1 i1 => by
    obtain ⟨a, rfl, h1, h2⟩ := hp ds hd
    show spF args pre post (vs ++ []) H1 Q E0
    rw [List.append_nil]
    exact ⟨a, O, g1.al, i1, h1, fun z v H2 hz e2 i2 => q z v H2 (h2 z hz) (g1.ext' e2) (e1.trans e2.exd) i2⟩⟩
theorem x_call {α : Type} {args : α → List PyData} {pre : α → Prop} {post : α → PyData → Prop} {k : Nat} {f : Addr} {fd : FuncData} {ps : List Str} {x : Str} {p : Pos} (a : α)
    (F : FnOk X.prog X.w X.K X.mg X.base CX0 k f fd ps (spF args pre post)) (hr : Room k X.A) (T : Has X.K X.mg x f fd ps) (ha : AV X (e :: es) ρ (args a)) (hp : pre a) (hg : Gl X x := by rfl) (hdb : (x == ("__debug__" : Str)) = false := by decide)
    (he : starEach (e :: es) X.env = (false, eval e X.env) :: starEach es X.env := by rfl) (hpl : (backTo pos (starEach es X.env)).any (·.1) = false := by rfl) : XE X (.Call (.Name x p) (e :: es) [] pos) ρ (post a) :=
  X_call F hr T ha (fun ds h => ⟨a, h, hp, fun _ h => h⟩) hg hdb he hpl
theorem X_callD {α : Type} {args : α → List PyData} {pre : α → Prop} {post : α → PyData → Prop} {φ' : List PyData → Prop} {k : Nat} {f : Addr} {fd : FuncData} {ps : List Str} {x y : Str} {p p2 : Pos} (i : Nat)
    (F : FnOk X.prog X.w X.K X.mg X.base CX0 k f fd ps (spD args pre post)) (hr : Room k X.A) (T : Has X.K X.mg x f fd ps) (ha : XA X es ρ φ') (hp : ∀ ds, φ' ds → ∃ a, ds = args a ∧ pre a ∧ ∀ z, post a z → χ z)
    (hi : ρ[i]? = some .dice := by rfl) (hN : X.N[i]? = some y := by rfl) (hv : Vis X.env.scope y := by first | exact Or.inl rfl | exact Or.inr (Or.inl rfl) | exact Or.inr (Or.inr rfl)) (hg : Gl X x := by rfl) (hdb : (x == ("__debug__" : Str)) = false := by decide)
    (hyb : (y == ("__debug__" : Str)) = false := by decide) (hyc : (y == ("__classdict__" : Str)) = false := by decide)
    (he : starEach (.Name y p2 :: es) X.env = (false, eval (.Name y p2) X.env) :: starEach es X.env := by rfl) (hpl : (backTo pos (starEach es X.env)).any (·.1) = false := by rfl) : XE X (.Call (.Name x p) (.Name y p2 :: es) [] pos) ρ χ :=
  PE.imp (pe_call F hr hg T.gl T.kp T.bd .nil pass0 (pa_cons (pe_var hN hv hyb hyc) ha he) hdb he hpl) fun σ H Q ⟨W, O, g, q⟩ => by
    obtain ⟨x0, hx0, p0, c0, k0, e0, hO, _⟩ := g.at hi
    subst e0
    refine ⟨.ref p0, hx0, W, O, g, fun ds vs H1 hd g1 e1 i1 => ?_⟩
    obtain ⟨a, rfl, h1, h2⟩ := hp ds hd
    show spD args pre post ((V.ref p0 :: vs) ++ []) H1 Q E0
    rw [List.append_nil]
    obtain ⟨p1, c1, k1, e1', _, _, hl⟩ := g1.sl i _ _ hx0 hi
    cases e1'
    refine ⟨a, O, p0, c1, k1, vs, rfl, hO, g1.al, hl, i1, h1, fun z v H2 c' k' hz hk hp' i2 => ?_⟩
    refine q z v H2 (h2 z hz) (g1.diced hi hx0 hk hp') (e1.trans fun b o n _ h => hk b o (fun z => n (by rw [z]; exact ⟨i, hx0, hi⟩)) h) i2
theorem x_callD {α : Type} {args : α → List PyData} {pre : α → Prop} {post : α → PyData → Prop} {k : Nat} {f : Addr} {fd : FuncData} {ps : List Str} {x y : Str} {p p2 : Pos} (i : Nat) (a : α)
    (F : FnOk X.prog X.w X.K X.mg X.base CX0 k f fd ps (spD args pre post)) (hr : Room k X.A) (T : Has X.K X.mg x f fd ps) (ha : AV X es ρ (args a)) (hp : pre a)
    (hi : ρ[i]? = some .dice := by rfl) (hN : X.N[i]? = some y := by rfl) (hv : Vis X.env.scope y := by first | exact Or.inl rfl | exact Or.inr (Or.inl rfl) | exact Or.inr (Or.inr rfl)) (hg : Gl X x := by rfl) (hdb : (x == ("__debug__" : Str)) = false := by decide)
    (hyb : (y == ("__debug__" : Str)) = false := by decide) (hyc : (y == ("__classdict__" : Str)) = false := by decide)
    (he : starEach (.Name y p2 :: es) X.env = (false, eval (.Name y p2) X.env) :: starEach es X.env := by rfl) (hpl : (backTo pos (starEach es X.env)).any (·.1) = false := by rfl) : XE X (.Call (.Name x p) (.Name y p2 :: es) [] pos) ρ (post a) :=
  X_callD i F hr T ha (fun ds h => ⟨a, h, hp, fun _ h => h⟩) hi hN hv hg hdb hyb hyc he hpl
end
/-! ### statements -/
def Rt (W : Fm) (O : Addr → Prop) (H : Hp) : Prop := (∀ a, W.Oc a → O a) ∧ (∀ a o, W.H0 a = some o → ¬ W.M a → H a = some o) ∧ ∀ a, W.Dc a → ∃ c k, H a = some (.lst [.int c, .int k])
theorem Gd.rt {W : Fm} {O : Addr → Prop} {σ : L2.St} {H : Hp} {ρ : List Sl} (g : Gd W O σ H ρ) : Rt W O H := ⟨g.sup, g.ext, fun a h => by
  obtain ⟨i, h1, h2⟩ := g.dc a h
  obtain ⟨p, c, k, e, _, _, q⟩ := g.sl i _ _ h1 h2
  cases e
  exact ⟨c, k, q⟩⟩
def tS (ρ : List Sl) (nx : List Sl → Prop) (rt : PyData → Prop) : TS := fun D σ H => ∃ W O, Gd W O σ H ρ ∧ (∀ ρ' O' σ' H', nx ρ' → Gd W O' σ' H' ρ' → D.nx σ' H') ∧ ∀ d v O' H', rt d → Is O' H' v d → Rt W O' H' → D.rt v H'
abbrev SX (X : Cx) (st : Stmt) (ρ : List Sl) (nx : List Sl → Prop) (rt : PyData → Prop) : Prop := PS X st (tS ρ nx rt)
abbrev SXs (X : Cx) (st : List Stmt) (ρ : List Sl) (nx : List Sl → Prop) (rt : PyData → Prop) : Prop := PSs X st (tS ρ nx rt)
theorem PS.imp {X : Cx} {e : Stmt} {t t' : TS} (h : PS X e t) (k : ∀ D σ H, t' D σ H → t D σ H) : PS X e t' := ⟨fun pins s σ H D I q => h.run pins s σ H D I (k D σ H q)⟩
theorem PSs.imp {X : Cx} {e : List Stmt} {t t' : TS} (h : PSs X e t) (k : ∀ D σ H, t' D σ H → t D σ H) : PSs X e t' := ⟨fun pins s σ H D I q => h.run pins s σ H D I (k D σ H q)⟩
/-- what may be laid into a slot -/
def tXS (ρ : List Sl) (φ : Sl → Prop) : TE := fun σ H Q => ∃ W O, Gd W O σ H ρ ∧ ∀ s v H' O', φ s → Gd W O' σ H' ρ → (∀ a, O a → O' a) → (∀ a, O' a → O a ∨ bl H a) → ExD σ ρ H H' → SlOk W O' H' (some v) s → (s.mut = true → ∃ p, v = .ref p ∧ bl H p) → Q v H'
abbrev XS (X : Cx) (e : Expr) (ρ : List Sl) (φ : Sl → Prop) : Prop := PE X e (tXS ρ φ)
abbrev SV (X : Cx) (e : Expr) (ρ : List Sl) (s : Sl) : Prop := PE X e (tXS ρ fun z => z = s)
section
variable {W : Fm} {O O' : Addr → Prop} {σ : L2.St} {H H' : Hp} {ρ : List Sl}
def nd (ρ : List Sl) (i : Nat) : Bool := match ρ[i]? with
  | some .dice => false
  | _ => true
theorem nd_of {i : Nat} (h : nd ρ i = true) : ρ[i]? ≠ some .dice := fun z => by unfold nd at h; rw [z] at h; cases h
theorem Dx.set {a : Addr} {i : Nat} {x : Option V} {s : Sl} (hn : ρ[i]? ≠ some .dice) (h : Dx σ ρ a) : Dx (σ.set i x) (ρ.set i s) a := by
  obtain ⟨j, h1, h2⟩ := h
  have hij : i ≠ j := fun z => by subst z; exact hn h2
  exact ⟨j, by rw [List.getElem?_set_ne hij]; exact h1, by rw [List.getElem?_set_ne hij]; exact h2⟩
/-- a slot is written -/
theorem Gd.set (g : Gd W O σ H ρ) {i : Nat} {v : V} {s : Sl} (h : SlOk W O H (some v) s) (hf : s.mut = true → ∃ p, v = .ref p ∧ ∀ (j : Nat) (t : Sl), σ[j]? = some (some (V.ref p)) → ρ[j]? = some t → t.mut = true → False) (hn : ρ[i]? ≠ some .dice) : Gd W O (σ.set i (some v)) H (ρ.set i s) := by
  refine ⟨by rw [List.length_set, List.length_set]; exact g.len, fun j x t h1 h2 => ?_, fun j l p t u hjl h1 h2 h3 h4 h5 h6 => ?_, g.al, g.sup, g.ext, fun a ha => (g.dc a ha).set hn, g.kp, g.nw, g.tb⟩
  · by_cases hij : i = j
    · subst hij
      have hi : i < σ.length := by
        have := (List.getElem?_eq_some_iff.mp h1).1
        rwa [List.length_set] at this
      rw [List.getElem?_set_self hi] at h1
      rw [List.getElem?_set_self (by rw [← g.len]; exact hi)] at h2
      cases h1; cases h2
      exact h
    · rw [List.getElem?_set_ne hij] at h1 h2
      exact g.sl j x t h1 h2
  · by_cases hij : i = j
    · subst hij
      rw [List.getElem?_set_ne hjl] at h2 h4
      have hi : i < σ.length := by
        have := (List.getElem?_eq_some_iff.mp h1).1
        rwa [List.length_set] at this
      rw [List.getElem?_set_self hi] at h1
      rw [List.getElem?_set_self (by rw [← g.len]; exact hi)] at h3
      cases h1; cases h3
      obtain ⟨q, e, hq⟩ := hf h5
      cases e
      exact hq l u h2 h4 h6
    · by_cases hil : i = l
      · subst hil
        rw [List.getElem?_set_ne hij] at h1 h3
        have hi : i < σ.length := by
          have := (List.getElem?_eq_some_iff.mp h2).1
          rwa [List.length_set] at this
        rw [List.getElem?_set_self hi] at h2
        rw [List.getElem?_set_self (by rw [← g.len]; exact hi)] at h4
        cases h2; cases h4
        obtain ⟨q, e, hq⟩ := hf h6
        cases e
        exact hq j t h1 h3 h5
      · rw [List.getElem?_set_ne hij] at h1 h3
        rw [List.getElem?_set_ne hil] at h2 h4
        exact g.uq j l p t u hjl h1 h2 h3 h4 h5 h6
theorem Gd.there (g : Gd W O σ H ρ) {j : Nat} {t : Sl} {p : Addr} (h1 : σ[j]? = some (some (.ref p))) (h2 : ρ[j]? = some t) (h3 : t.mut = true) : O p ∧ ∃ o, H p = some o ∧ nt o := by
  have h := g.sl j _ _ h1 h2
  cases t with
  | no => cases h3
  | raw v => cases h3
  | tab T => cases h3
  | val d => cases h3
  | fz u => cases h3
  | own ds => obtain ⟨q, xs, e1, e2, e3, e4, e5, _⟩ := h; cases e1; exact ⟨e2, _, e5, nt_lst⟩
  | xl ds => obtain ⟨q, xs, e1, e2, e3, e4, e5, _⟩ := h; cases e1; exact ⟨e2, _, e5, nt_lst⟩
  | gn G gm gc => obtain ⟨q, xs, e1, e2, e3, e4, e5, e6⟩ := h; cases e1; exact ⟨e2, _, e5, (G.kd e6).nt⟩
  | dice => obtain ⟨q, _, _, e1, e2, e3, e5⟩ := h; cases e1; exact ⟨e2, _, e5, nt_lst⟩
  | dct kvs => obtain ⟨q, xs, e1, e2, e3, e4, e5, _⟩ := h; cases e1; exact ⟨e2, _, e5, nt_dT⟩
theorem Gd.setNew {H0 : Hp} {O0 : Addr → Prop} (g0 : Gd W O0 σ H0 ρ) (g : Gd W O σ H ρ) {i : Nat} {v : V} {s : Sl} (h : SlOk W O H (some v) s) (hf : s.mut = true → ∃ p, v = .ref p ∧ bl H0 p) (hn : ρ[i]? ≠ some .dice) : Gd W O (σ.set i (some v)) H (ρ.set i s) :=
  g.set h (fun hm => by
    obtain ⟨p, e, hp⟩ := hf hm
    exact ⟨p, e, fun j t h1 h2 h3 => by
      obtain ⟨_, o, q1, q2⟩ := g0.there h1 h2 h3
      exact hp o q1 q2⟩) hn
theorem Is.more {v : V} {d : PyData} (h : Is O H v d) (hn : ∀ a, O' a → O a ∨ Pd.bl H a) (e : Ex O H H') : Is O' H' v d := Is.imp (fun a o n m q => ⟨fun z => by
  rcases hn a z with z | z
  · exact n z
  · exact z o q m, e a o n m q⟩) d v h
theorem IsAll.more {v : List V} {d : List PyData} (h : IsAll O H v d) (hn : ∀ a, O' a → O a ∨ Pd.bl H a) (e : Ex O H H') : IsAll O' H' v d := IsAll.imp (fun a o n m q => ⟨fun z => by
  rcases hn a z with z | z
  · exact n z
  · exact z o q m, e a o n m q⟩) d v h
theorem XAll.more {v : List V} {d : List Addr} (h : XAll O H v d) (hn : ∀ a, O' a → O a ∨ Pd.bl H a) (e : Ex O H H') : XAll O' H' v d := XAll.imp (fun a o n m q => ⟨fun z => by
  rcases hn a z with z | z
  · exact n z
  · exact z o q m, e a o n m q⟩) h
/-- one more is owned: it was new -/
theorem Gd.own (g : Gd W O σ H ρ) {p : Addr} {o : HO} (hp : H p = none) (ho : Pd.nw o) : Gd W (fun a => O a ∨ a = p) σ (upd H p o) ρ ∧ W.Mu p ∧ ¬ W.Oc p := by
  have mu : W.Mu p := g.keep p hp
  have hn : ∀ a, (O a ∨ a = p) → O a ∨ bl H a := fun a h => h.imp id fun e => by rw [e]; exact bl_none hp
  have hOc : ¬ W.Oc p := fun z => g.al.fresh hp (g.sup p z)
  have ex : ∀ O1 : Addr → Prop, Ex O1 H (upd H p o) := fun O1 => (Ext.new hp).ex
  refine ⟨⟨g.len, fun i x s h1 h2 => ?_, g.uq, fun a ha => ?_, fun a h => .inl (g.sup a h), fun a u h1 h2 => Ext.new hp a u (g.ext a u h1 h2), g.dc, fun a u h1 h2 => by
      obtain ⟨o', e1, e2⟩ := g.kp a u h1 h2
      exact ⟨o', Ext.new hp a o' e1, e2⟩, fun a h => ?_, g.tb.ext (Ext.new hp)⟩, mu, hOc⟩
  · have old := g.sl i x s h1 h2
    cases s with
    | no => trivial
    | raw v => exact old
    | tab T => exact old
    | val d => obtain ⟨v, e1, e2⟩ := old; exact ⟨v, e1, e2.more hn (ex _)⟩
    | fz u => obtain ⟨q, e1, e2, e3, e4⟩ := old; exact ⟨q, e1, fun z => (hn q z).elim e2 (fun y => y (u q) e3 e4), ex (fun _ => False) q (u q) (fun z => z) e4 e3, e4⟩
    | own ds => obtain ⟨q, xs, e1, e2, e3, e4, e5, e6⟩ := old; exact ⟨q, xs, e1, .inl e2, e3, e4, Ext.new hp _ _ e5, e6.more hn (ex _)⟩
    | xl ds => obtain ⟨q, xs, e1, e2, e3, e4, e5, e6⟩ := old; exact ⟨q, xs, e1, .inl e2, e3, e4, Ext.new hp _ _ e5, e6.more hn (ex _)⟩
    | gn G gm gc => obtain ⟨q, xs, e1, e2, e3, e4, e5, e6⟩ := old; exact ⟨q, xs, e1, .inl e2, e3, e4, Ext.new hp _ _ e5, G.more hn (ex _) e6⟩
    | dice => obtain ⟨q, c, k, e1, e2, e3, e4⟩ := old; exact ⟨q, c, k, e1, .inl e2, e3, Ext.new hp _ _ e4⟩
    | dct kvs => obtain ⟨q, ws, e1, e2, e3, e4, e5, e6, e7⟩ := old; exact ⟨q, ws, e1, .inl e2, e3, e4, Ext.new hp _ _ e5, e6, e7.more hn (ex _)⟩
  · rcases ha with ha | ha
    · exact g.al.ext (Ext.new hp) a ha
    · rw [ha]; exact ⟨o, upd_same, ho⟩
  · rcases h with h | h
    · exact g.nw a h
    · rw [h]; exact .inr (g.kbl (bl_none hp))
end
section
variable {X : Cx} {ρ : List Sl} {φ ψ χ : PyData → Prop} {a b c e : Expr} {es : List Expr} {pos : Pos} {d : PyData} {st : Stmt} {rest : List Stmt} {nx nx' mid : List Sl → Prop} {rt : PyData → Prop} {i j : Nat}
theorem XE.xs (h : XE X e ρ φ) : XS X e ρ (fun s => ∃ d, φ d ∧ s = .val d) := PE.imp h fun σ H Q ⟨W, O, g, q⟩ => ⟨W, O, g, fun d v H' hd g' e' i' => q (.val d) v H' O ⟨d, hd, rfl⟩ g' (fun _ h => h) (fun _ h => .inl h) e' ⟨v, rfl, i'⟩ (fun z => nomatch z)⟩
theorem XV.sv (h : XV X e ρ d) : SV X e ρ (.val d) := PE.imp h fun σ H Q ⟨W, O, g, q⟩ => ⟨W, O, g, fun d v H' hd g' e' i' => q (.val d) v H' O (by rw [hd]) g' (fun _ h => h) (fun _ h => .inl h) e' ⟨v, rfl, i'⟩ (fun z => nomatch z)⟩
/-- [a, b, ..], to be owned -/
theorem s_lst {ds : List PyData} (h : AV X es ρ ds) (hl : ds.length ≤ 100000 := by exact Nat.le_of_ble_eq_true rfl) : SV X (.List es pos) ρ (.own ds) := PE.imp (pe_lst h) fun σ H Q ⟨W, O, g, k⟩ =>
  ⟨W, O, g, fun d x H1 hd g1 e1 i1 => by
    subst hd
    refine ⟨by rw [sizeLine_eq, i1.length]; omega, fun p hp => ?_⟩
    obtain ⟨g2, mu, hoc⟩ := g1.own (o := .lst x) hp nw_lst
    have hpH : bl H p := fun o q m => by
      by_cases hd : Dx σ ρ p
      · exact g1.al.fresh hp (g1.dxO hd)
      · rw [e1 p o hd m q] at hp; cases hp
    refine k _ (.ref p) _ _ rfl g2 (fun _ h => .inl h) (fun a h => h.imp id fun z => by rw [z]; exact hpH) (e1.trans (Ext.new hp).exd) ⟨p, x, rfl, .inr rfl, hoc, mu, upd_same, i1.more (fun a h => h.imp id fun z => by rw [z]; exact bl_none hp) (Ext.new hp).ex⟩ (fun _ => ⟨p, rfl, hpH⟩)⟩
/-- list(..) of a list or a tuple, to be owned -/
theorem s_list {x : Str} {p0 : Pos} (hm : X.mg x = none) {ds : List PyData} (h : XE X e ρ fun z => z = .tuple ds ∨ z = .list ds) (hg : Gl X x := by rfl) (hv : bootBuiltins x = some (.type "list") := by decide +kernel) (hn : x ≠ "__name__" := by decide) (hdb : (x == ("__debug__" : Str)) = false := by decide)
    (hs : starEach [e] X.env = (false, eval e X.env) :: starEach [] X.env := by rfl) (hpl : (backTo pos (starEach [] X.env)).any (·.1) = false := by rfl) : SV X (.Call (.Name x p0) [e] [] pos) ρ (.own ds) :=
  PE.imp (pe_callTy call_list_of hg hm hv (pa_cons h pa_nil hs) hn hdb hs hpl) fun σ H Q ⟨W, O, g, k⟩ => ⟨W, O, g, fun d v H1 hd g1 e1 i1 => by
    have fin : ∀ (q : Addr) (ys : List V), v = .ref q → (SqL X.K H1 q ys ∨ SqT X.K H1 q ys) → IsAll O H1 ys ds → ∃ p ys, [v] = [V.ref p] ∧ (SqL X.K H1 p ys ∨ SqT X.K H1 p ys) ∧ ∀ l, H1 l = none → Q (.ref l) (upd H1 l (.lst ys)) := fun q ys e0 hq hy => by
      refine ⟨q, ys, by rw [e0], hq, fun p hp => ?_⟩
      obtain ⟨g2, mu, hoc⟩ := g1.own (o := .lst ys) hp nw_lst
      have hpH : bl H p := fun o q m => by
        by_cases hd : Dx σ ρ p
        · exact g1.al.fresh hp (g1.dxO hd)
        · rw [e1 p o hd m q] at hp; cases hp
      exact k _ (.ref p) _ _ rfl g2 (fun _ h => .inl h) (fun a h => h.imp id fun z => by rw [z]; exact hpH) (e1.trans (Ext.new hp).exd) ⟨p, ys, rfl, .inr rfl, hoc, mu, upd_same, hy.more (fun a h => h.imp id fun z => by rw [z]; exact bl_none hp) (Ext.new hp).ex⟩ (fun _ => ⟨p, rfl, hpH⟩)
    rcases hd with hd | hd
    · subst hd
      cases i1 with
      | tup n1 e2 r2 => exact fin _ _ rfl (.inr (SqT.of e2)) r2
    · subst hd
      cases i1 with
      | lst n1 e2 r2 => exact fin _ _ rfl (.inl (SqL.of e2)) r2⟩
/-! blocks -/
theorem s_nil (h : nx ρ) : SXs X [] ρ nx rt := PSs.imp pss_nil fun D σ H ⟨W, O, g, k1, _⟩ => k1 ρ O σ H h g
theorem s_seq (h : SX X st ρ mid rt) (k : ∀ ρ', mid ρ' → SXs X rest ρ' nx rt) : SXs X (st :: rest) ρ nx rt :=
  PSs.imp (pss_cons (u := fun D σ H => ∃ ρ', mid ρ' ∧ tS ρ' nx rt D σ H) h (PSs.exi k)) fun D σ H ⟨W, O, g, k1, k2⟩ => ⟨W, O, g, fun ρ' O' σ' H' hm g' => ⟨ρ', hm, W, O', g', k1, k2⟩, k2⟩
theorem s_one (h : SX X st ρ nx rt) : SXs X [st] ρ nx rt := pss_one h
theorem SX.mono (h : SX X st ρ nx rt) (k : ∀ ρ', nx ρ' → nx' ρ') : SX X st ρ nx' rt := PS.imp h fun D σ H ⟨W, O, g, k1, k2⟩ => ⟨W, O, g, fun ρ' O' σ' H' hm g' => k1 ρ' O' σ' H' (k ρ' hm) g', k2⟩
theorem SXs.mono (h : SXs X rest ρ nx rt) (k : ∀ ρ', nx ρ' → nx' ρ') : SXs X rest ρ nx' rt := PSs.imp h fun D σ H ⟨W, O, g, k1, k2⟩ => ⟨W, O, g, fun ρ' O' σ' H' hm g' => k1 ρ' O' σ' H' (k ρ' hm) g', k2⟩
/-- assignment of a name -/
theorem S_set {φ : Sl → Prop} {x : Str} {pos' : Pos} (i : Nat) (he : XS X e ρ φ) (hφ : ∀ s, φ s → nx (ρ.set i s)) (hN : X.N.Nodup) (hn : nd ρ i = true := by rfl) (hi : X.N[i]? = some x := by rfl) (hx : Loc X.env.scope x := by first | exact Or.inl rfl | exact Or.inr rfl)
    (hs : swapsWith e (some (.Name x pos')) pos.line X.env = pure false := by rfl) (hf : X.fn x = true ∨ X.env.scope.names.lookup x = some .local := by first | exact .inl rfl | exact .inr rfl | assumption) : SX X (.Assign [.Name x pos'] e pos) ρ nx rt :=
  PS.imp (ps_set (i := i) hN hi hx he hs hf) fun D σ H ⟨W, O, g, k1, k2⟩ => ⟨W, O, g, fun s v H' O' hs g' _ _ e' ok fr => k1 _ O' _ H' (hφ s hs) (g.setNew g' ok fr (nd_of hn))⟩
theorem S_asg {φ : Sl → Prop} {x : Str} {pos' : Pos} (i : Nat) (he : XS X e ρ φ) (k : ∀ s, φ s → SXs X rest (ρ.set i s) nx rt) (hN : X.N.Nodup) (hn : nd ρ i = true := by rfl) (hi : X.N[i]? = some x := by rfl) (hx : Loc X.env.scope x := by first | exact Or.inl rfl | exact Or.inr rfl)
    (hs : swapsWith e (some (.Name x pos')) pos.line X.env = pure false := by rfl) (hf : X.fn x = true ∨ X.env.scope.names.lookup x = some .local := by first | exact .inl rfl | exact .inr rfl | assumption) : SXs X (.Assign [.Name x pos'] e pos :: rest) ρ nx rt :=
  s_seq (mid := fun ρ' => ∃ s, φ s ∧ ρ' = ρ.set i s) (S_set i he (fun s h => ⟨s, h, rfl⟩) hN hn hi hx hs hf) fun ρ' ⟨s, h, e⟩ => by rw [e]; exact k s h
theorem s_asg {s : Sl} {x : Str} {pos' : Pos} (i : Nat) (he : SV X e ρ s) (k : SXs X rest (ρ.set i s) nx rt) (hN : X.N.Nodup) (hn : nd ρ i = true := by rfl) (hi : X.N[i]? = some x := by rfl) (hx : Loc X.env.scope x := by first | exact Or.inl rfl | exact Or.inr rfl)
    (hs : swapsWith e (some (.Name x pos')) pos.line X.env = pure false := by rfl) (hf : X.fn x = true ∨ X.env.scope.names.lookup x = some .local := by first | exact .inl rfl | exact .inr rfl | assumption) : SXs X (.Assign [.Name x pos'] e pos :: rest) ρ nx rt :=
  S_asg i he (fun s' h => by rw [h]; exact k) hN hn hi hx hs hf
/-- return -/
theorem S_ret (h : XE X e ρ φ) (k : ∀ z, φ z → rt z) : SXs X (.Return (some e) pos :: rest) ρ nx rt :=
  PSs.imp (pss_cons (u := tNever) (ps_ret h) pss_never) fun D σ H ⟨W, O, g, k1, k2⟩ => ⟨W, O, g, fun d v H' hd g' e' i' => k2 d v O H' (k d hd) i' g'.rt⟩
theorem s_ret (h : XV X e ρ d) (k : rt d) : SXs X (.Return (some e) pos :: rest) ρ nx rt := S_ret h fun z hz => by rw [hz]; exact k
/-- an expression alone -/
theorem S_expr (h : XE X e ρ φ) (k : SXs X rest ρ nx rt) (hs : swapsWith e none pos.line X.env = pure false := by rfl) : SXs X (.Expr e pos :: rest) ρ nx rt :=
  s_seq (mid := fun ρ' => ρ' = ρ) (PS.imp (ps_expr h hs) fun D σ H ⟨W, O, g, k1, k2⟩ => ⟨W, O, g, fun d v H' hd g' e' i' => k1 ρ O σ H' rfl g'⟩) fun ρ' h => by rw [h]; exact k
/-- if -/
theorem S_if {β : Bool → Prop} {ta tb : List Stmt} (hc : TX X c ρ β) (ha : β true → SXs X ta ρ mid rt) (hb : β false → SXs X tb ρ mid rt) (k : ∀ ρ', mid ρ' → SXs X rest ρ' nx rt) : SXs X (.If c ta tb pos :: rest) ρ nx rt :=
  s_seq (PS.imp (ps_if (t := fun D σ H => ∃ (_ : Unit), β true ∧ tS ρ mid rt D σ H) (u := fun D σ H => ∃ (_ : Unit), β false ∧ tS ρ mid rt D σ H) hc (PSs.exi fun _ h => ha h) (PSs.exi fun _ h => hb h)) fun D σ H ⟨W, O, g, k1, k2⟩ => ⟨W, O, g, fun b H' hb g' e' => by
    cases b with
    | true => exact ⟨(), hb, W, O, g', k1, k2⟩
    | false => exact ⟨(), hb, W, O, g', k1, k2⟩⟩) k
theorem s_if {k : Bool} {ta tb : List Stmt} (hc : TV X c ρ k) (ha : k = true → SXs X ta ρ mid rt) (hb : k = false → SXs X tb ρ mid rt) (kk : ∀ ρ', mid ρ' → SXs X rest ρ' nx rt) : SXs X (.If c ta tb pos :: rest) ρ nx rt := S_if hc (fun h => ha h.symm) (fun h => hb h.symm) kk
/-- if c: .. return -/
theorem s_ifR {k : Bool} {ta : List Stmt} (hc : TV X c ρ k) (ha : k = true → SXs X ta ρ (fun _ => False) rt) (hb : k = false → SXs X rest ρ nx rt) : SXs X (.If c ta [] pos :: rest) ρ nx rt :=
  s_if (mid := fun ρ' => k = false ∧ ρ' = ρ) hc (fun h => (ha h).mono fun _ z => z.elim) (fun h => s_nil ⟨h, rfl⟩) fun ρ' ⟨h, e⟩ => by rw [e]; exact hb h
/-- if c: never taken -/
theorem s_ifN {ta : List Stmt} (hc : TV X c ρ false) (hb : SXs X rest ρ nx rt) : SXs X (.If c ta [] pos :: rest) ρ nx rt := s_ifR hc (fun h => nomatch h) (fun _ => hb)
theorem s_never {ts : List Stmt} (h : False) : SXs X ts ρ nx rt := h.elim
end
end Pd
set_option Elab.async false
set_option linter.all false
set_option maxRecDepth 100000
set_option maxHeartbeats 1000000
namespace Pd
open PySem PySem.Spec PyProof.Rows L2
section
variable {W : Fm} {O O' : Addr → Prop} {σ : L2.St} {H H' : Hp} {ρ : List Sl}
theorem Gd.via (g : Gd W O σ H ρ) (e : ExD σ ρ H H') (hx : ∀ a o, W.H0 a = some o → ¬ W.M a → H' a = some o) (ht : LamX.Tabs W.T H') (hd : ∀ (j : Nat) (p : Addr), σ[j]? = some (some (.ref p)) → ρ[j]? = some .dice → ∃ c k, H' p = some (.lst [.int c, .int k])) : Gd W O σ H' ρ := by
  have ex : Ex O H H' := g.exO e
  have nn : ∀ a o, H a = some o → nt o → ∃ o', H' a = some o' ∧ nt o' := fun a o h m => by
    by_cases hx : Dx σ ρ a
    · obtain ⟨j, h1, h2⟩ := hx
      obtain ⟨c, k, z⟩ := hd j a h1 h2
      exact ⟨_, z, nt_lst⟩
    · exact ⟨o, e a o hx m h, m⟩
  have nx : ∀ (j : Nat) (p : Addr) (s : Sl), σ[j]? = some (some (.ref p)) → ρ[j]? = some s → s.mut = true → s ≠ .dice → ¬ Dx σ ρ p := fun j p s h1 h2 h3 h4 ⟨l, h5, h6⟩ => by
    by_cases hjl : j = l
    · subst hjl; rw [h2] at h6; cases h6; exact h4 rfl
    · exact g.uq j l p s .dice hjl h1 h5 h2 h6 h3 rfl
  refine ⟨g.len, fun j x s h1 h2 => ?_, g.uq, fun a ha => by
    obtain ⟨o, h1, h2⟩ := g.al a ha
    by_cases hx : Dx σ ρ a
    · obtain ⟨j, q1, q2⟩ := hx
      obtain ⟨c, k, z⟩ := hd j a q1 q2
      exact ⟨_, z, nw_lst⟩
    · exact ⟨o, e a o hx h2.1 h1, h2⟩, g.sup, hx, g.dc, fun a o h1 h2 => by
    obtain ⟨o', e1, e2⟩ := g.kp a o h1 h2
    exact nn a o' e1 e2, g.nw, ht⟩
  · have old := g.sl j x s h1 h2
    cases s with
    | no => trivial
    | raw v => exact old
    | tab T => exact old
    | val d => obtain ⟨v, e1, e2⟩ := old; exact ⟨v, e1, e2.ex ex⟩
    | fz u => obtain ⟨q, e1, e2, e3, e4⟩ := old; exact ⟨q, e1, e2, ex q (u q) e2 e4 e3, e4⟩
    | own ds =>
      obtain ⟨q, xs, e1, e2, e3, e4, e5, e6⟩ := old
      subst e1
      exact ⟨q, xs, rfl, e2, e3, e4, e q _ (nx j q _ h1 h2 rfl (fun z => nomatch z)) nt_lst e5, e6.ex ex⟩
    | xl ds =>
      obtain ⟨q, xs, e1, e2, e3, e4, e5, e6⟩ := old
      subst e1
      exact ⟨q, xs, rfl, e2, e3, e4, e q _ (nx j q _ h1 h2 rfl (fun z => nomatch z)) nt_lst e5, e6.ex ex⟩
    | gn G gm gc =>
      obtain ⟨q, xs, e1, e2, e3, e4, e5, e6⟩ := old
      subst e1
      exact ⟨q, xs, rfl, e2, e3, e4, e q _ (nx j q _ h1 h2 rfl (fun z => nomatch z)) (G.kd e6).nt e5, G.ex ex e6⟩
    | dice =>
      obtain ⟨q, c1, k1, e1, e2, e3, e4⟩ := old
      subst e1
      obtain ⟨c, k, z⟩ := hd j q h1 h2
      exact ⟨q, c, k, rfl, e2, e3, z⟩
    | dct kvs =>
      obtain ⟨q, ws, e1, e2, e3, e4, e5, e6, e7⟩ := old
      subst e1
      exact ⟨q, ws, rfl, e2, e3, e4, e q _ (nx j q _ h1 h2 rfl (fun z => nomatch z)) nt_dT e5, e6, e7.ex ex⟩
theorem Gd.dices (g : Gd W O σ H ρ) : ∀ (j : Nat) (p : Addr), σ[j]? = some (some (.ref p)) → ρ[j]? = some .dice → ∃ c k, H p = some (.lst [.int c, .int k]) := fun j p h1 h2 => by
  obtain ⟨q, c, k, e1, _, _, h⟩ := g.sl j _ _ h1 h2
  cases e1
  exact ⟨c, k, h⟩
/-- an owned list is from now on a value -/
theorem Gd.frz (g : Gd W O σ H ρ) {i : Nat} {ds : List PyData} (hi : ρ[i]? = some (.own ds)) : ∃ O' : Addr → Prop, (∀ a, O' a → O a) ∧ Gd W O' σ H (ρ.set i (.val (.list ds))) := by
  obtain ⟨x, hx, p, xs, e1, e2, e3, e4, e5, e6⟩ := g.at hi
  subst e1
  have sub : ∀ a, O a ∧ a ≠ p → O a := fun a h => h.1
  have im : ∀ a o, ¬ O a → nt o → H a = some o → ¬ (O a ∧ a ≠ p) ∧ H a = some o := fun a o h1 _ h2 => ⟨fun z => h1 z.1, h2⟩
  refine ⟨fun a => O a ∧ a ≠ p, sub, by rw [List.length_set]; exact g.len, fun j x s h1 h2 => ?_, fun j l q s t hjl h1 h2 h3 h4 h5 h6 => ?_, fun a ha => g.al a ha.1, fun a h => ⟨g.sup a h, fun z => e3 (z ▸ h)⟩, g.ext, fun a ha => ?_, g.kp, fun a h => g.nw a h.1, g.tb⟩
  · by_cases hij : i = j
    · subst hij
      rw [hx] at h1; cases h1
      rw [List.getElem?_set_self (by rw [← g.len]; exact (List.getElem?_eq_some_iff.mp hx).1)] at h2
      cases h2
      exact ⟨_, rfl, .lst (fun z => z.2 rfl) e5 (IsAll.imp im ds xs e6)⟩
    · rw [List.getElem?_set_ne hij] at h2
      have old := g.sl j x s h1 h2
      cases s with
      | no => trivial
      | raw v => exact old
      | tab T => exact old
      | val d => obtain ⟨v, f1, f2⟩ := old; exact ⟨v, f1, Is.imp im _ _ f2⟩
      | fz u => obtain ⟨q, e1, e2, e3, e4⟩ := old; exact ⟨q, e1, (im q (u q) e2 e4 e3).1, (im q (u q) e2 e4 e3).2, e4⟩
      | own es =>
        obtain ⟨q, ys, f1, f2, f3, f4, f5, f6⟩ := old
        subst f1
        exact ⟨q, ys, rfl, ⟨f2, fun z => g.uq i j p _ _ hij hx (z ▸ h1) hi h2 rfl rfl⟩, f3, f4, f5, IsAll.imp im _ _ f6⟩
      | xl es =>
        obtain ⟨q, ys, f1, f2, f3, f4, f5, f6⟩ := old
        subst f1
        exact ⟨q, ys, rfl, ⟨f2, fun z => g.uq i j p _ _ hij hx (z ▸ h1) hi h2 rfl rfl⟩, f3, f4, f5, XAll.imp im f6⟩
      | gn G gm gc =>
        obtain ⟨q, ys, f1, f2, f3, f4, f5, f6⟩ := old
        subst f1
        exact ⟨q, ys, rfl, ⟨f2, fun z => g.uq i j p _ _ hij hx (z ▸ h1) hi h2 rfl rfl⟩, f3, f4, f5, G.st im f6⟩
      | dice =>
        obtain ⟨q, c1, k1, f1, f2, f3, f4⟩ := old
        subst f1
        exact ⟨q, c1, k1, rfl, ⟨f2, fun z => g.uq i j p _ _ hij hx (z ▸ h1) hi h2 rfl rfl⟩, f3, f4⟩
      | dct kvs =>
        obtain ⟨q, ws, f1, f2, f3, f4, f5, f6, f7⟩ := old
        subst f1
        exact ⟨q, ws, rfl, ⟨f2, fun z => g.uq i j p _ _ hij hx (z ▸ h1) hi h2 rfl rfl⟩, f3, f4, f5, f6, IsAll.imp im _ _ f7⟩
  · have other : ∀ (l : Nat) (t : Sl), (ρ.set i (.val (.list ds)))[l]? = some t → t.mut = true → ρ[l]? = some t := fun l t h h' => by
      by_cases hil : i = l
      · subst hil
        rw [List.getElem?_set_self (by rw [← g.len]; exact (List.getElem?_eq_some_iff.mp hx).1)] at h
        cases h; cases h'
      · rwa [List.getElem?_set_ne hil] at h
    exact g.uq j l q s t hjl h1 h2 (other j s h3 h5) (other l t h4 h6) h5 h6
  · obtain ⟨j, h1, h2⟩ := g.dc a ha
    have hij : i ≠ j := fun z => by subst z; rw [hi] at h2; cases h2
    exact ⟨j, h1, by rw [List.getElem?_set_ne hij]; exact h2⟩
theorem dx_set {i : Nat} {s : Sl} {a : Addr} (hi : ρ[i]? ≠ some .dice) (hs : s ≠ .dice) : Dx σ (ρ.set i s) a ↔ Dx σ ρ a := by
  constructor
  · rintro ⟨j, h1, h2⟩
    by_cases hij : i = j
    · subst hij
      have hl : i < ρ.length := by
        have := (List.getElem?_eq_some_iff.mp h2).1
        rwa [List.length_set] at this
      rw [List.getElem?_set_self hl] at h2
      cases h2
      exact absurd rfl hs
    · rw [List.getElem?_set_ne hij] at h2; exact ⟨j, h1, h2⟩
  · rintro ⟨j, h1, h2⟩
    have hij : i ≠ j := fun z => by subst z; exact hi h2
    exact ⟨j, h1, by rw [List.getElem?_set_ne hij]; exact h2⟩
theorem tabs_upd {T : List (Addr × Str)} {p : Addr} {o : HO} (t : LamX.Tabs T H) (hp : ∃ u, H p = some u ∧ kd u) : LamX.Tabs T (upd H p o) := fun q hq => by
  obtain ⟨ps, h1, h2, h3⟩ := t q hq
  have key : ∀ b v, H b = some v → ¬ kd v → upd H p o b = some v := fun b v e n1 => by
    rw [upd_ne (fun z => ?_)]
    · exact e
    · obtain ⟨u, hu, hx⟩ := hp
      rw [z, hu] at e
      cases e
      exact n1 hx
  refine ⟨ps, key _ _ h1 (fun z => by rcases z with ⟨_, z⟩ | ⟨_, z⟩ | ⟨_, _, _, z⟩ <;> cases z), h2, fun pos cv hc => ?_⟩
  obtain ⟨c, e1, e2⟩ := h3 pos cv hc
  exact ⟨c, e1, key _ _ e2 (fun z => by unfold LamX.CodeO at z; rcases z with ⟨_, z⟩ | ⟨_, z⟩ | ⟨_, _, _, z⟩ <;> cases z)⟩
/-- an owned list is changed -/
theorem Gd.wrOwn (g : Gd W O σ H ρ) {i : Nat} {s0 s1 : Sl} {p : Addr} {o : HO} (hi : ρ[i]? = some s0) (hm : s0.mut = true) (hd : s0 ≠ .dice) (hσ : σ[i]? = some (some (.ref p))) (hs : SlOk W O (upd H p o) (some (.ref p)) s1) (hs1 : s1 ≠ .dice) (hmu : W.Mu p) (hnt : Pd.nw o) : Gd W O σ (upd H p o) (ρ.set i s1) := by
  have hO : O p := (g.there hσ hi hm).1
  have hpo : ∃ u, H p = some u ∧ kd u := by
    have h := g.sl i _ _ hσ hi
    cases s0 with
    | no => cases hm
    | raw v => cases hm
    | tab T => cases hm
    | val d => cases hm
    | fz u => cases hm
    | own ds => obtain ⟨q, xs, e1, e2, e3, e4, e5, _⟩ := h; cases e1; exact ⟨_, e5, .inl ⟨_, rfl⟩⟩
    | xl ds => obtain ⟨q, xs, e1, e2, e3, e4, e5, _⟩ := h; cases e1; exact ⟨_, e5, .inl ⟨_, rfl⟩⟩
    | gn G gm gc => obtain ⟨q, xs, e1, e2, e3, e4, e5, e6⟩ := h; cases e1; exact ⟨_, e5, G.kd e6⟩
    | dice => exact absurd rfl hd
    | dct kvs => obtain ⟨q, xs, e1, e2, e3, e4, e5, _⟩ := h; cases e1; exact ⟨_, e5, .inr (.inl ⟨_, rfl⟩)⟩
  have ex : Ex O H (upd H p o) := fun a u n _ h => by rw [upd_ne (fun z => n (by rw [z]; exact hO))]; exact h
  have len : i < ρ.length := (List.getElem?_eq_some_iff.mp hi).1
  refine ⟨by rw [List.length_set]; exact g.len, fun j x s h1 h2 => ?_, fun j l q s t hjl h1 h2 h3 h4 h5 h6 => ?_, fun a ha => ?_, g.sup, fun a u h1 h2 => ?_, fun a ha => ?_, fun a u h1 h2 => ?_, g.nw, tabs_upd g.tb hpo⟩
  · by_cases hij : i = j
    · subst hij
      rw [hσ] at h1; cases h1
      rw [List.getElem?_set_self len] at h2
      cases h2
      exact hs
    · rw [List.getElem?_set_ne hij] at h2
      have old := g.sl j x s h1 h2
      cases s with
      | no => trivial
      | raw v => exact old
      | tab T => exact old
      | val d => obtain ⟨v, f1, f2⟩ := old; exact ⟨v, f1, f2.ex ex⟩
      | fz u => obtain ⟨q, e1, e2, e3, e4⟩ := old; exact ⟨q, e1, e2, ex q (u q) e2 e4 e3, e4⟩
      | own es =>
        obtain ⟨q, ys, f1, f2, f3, f4, f5, f6⟩ := old
        subst f1
        have hqp : q ≠ p := fun z => g.uq i j p _ _ hij hσ (z ▸ h1) hi h2 hm rfl
        exact ⟨q, ys, rfl, f2, f3, f4, by rw [upd_ne hqp]; exact f5, f6.ex ex⟩
      | xl es =>
        obtain ⟨q, ys, f1, f2, f3, f4, f5, f6⟩ := old
        subst f1
        have hqp : q ≠ p := fun z => g.uq i j p _ _ hij hσ (z ▸ h1) hi h2 hm rfl
        exact ⟨q, ys, rfl, f2, f3, f4, by rw [upd_ne hqp]; exact f5, f6.ex ex⟩
      | gn G gm gc =>
        obtain ⟨q, ys, f1, f2, f3, f4, f5, f6⟩ := old
        subst f1
        have hqp : q ≠ p := fun z => g.uq i j p _ _ hij hσ (z ▸ h1) hi h2 hm rfl
        exact ⟨q, ys, rfl, f2, f3, f4, by rw [upd_ne hqp]; exact f5, G.ex ex f6⟩
      | dice =>
        obtain ⟨q, c1, k1, f1, f2, f3, f4⟩ := old
        subst f1
        have hqp : q ≠ p := fun z => g.uq i j p _ _ hij hσ (z ▸ h1) hi h2 hm rfl
        exact ⟨q, c1, k1, rfl, f2, f3, by rw [upd_ne hqp]; exact f4⟩
      | dct kvs =>
        obtain ⟨q, ws, f1, f2, f3, f4, f5, f6, f7⟩ := old
        subst f1
        have hqp : q ≠ p := fun z => g.uq i j p _ _ hij hσ (z ▸ h1) hi h2 hm rfl
        exact ⟨q, ws, rfl, f2, f3, f4, by rw [upd_ne hqp]; exact f5, f6, f7.ex ex⟩
  · have back : ∀ (l : Nat) (t : Sl), (ρ.set i s1)[l]? = some t → t.mut = true → ∃ t', ρ[l]? = some t' ∧ t'.mut = true := fun l t h h' => by
      by_cases hil : i = l
      · subst hil; exact ⟨s0, hi, hm⟩
      · rw [List.getElem?_set_ne hil] at h; exact ⟨t, h, h'⟩
    obtain ⟨s', h3', h5'⟩ := back j s h3 h5
    obtain ⟨t', h4', h6'⟩ := back l t h4 h6
    exact g.uq j l q s' t' hjl h1 h2 h3' h4' h5' h6'
  · by_cases hap : a = p
    · rw [hap]; exact ⟨o, upd_same, hnt⟩
    · rw [upd_ne hap]; exact g.al a ha
  · have hap : a ≠ p := fun z => by
      subst z
      rcases hmu with z | z
      · rw [h1] at z; cases z
      · exact h2 z
    rw [upd_ne hap]; exact g.ext a u h1 h2
  · exact (dx_set (by rw [hi]; exact fun z => hd (Option.some.inj z)) hs1).mpr (g.dc a ha)
  · by_cases hap : a = p
    · rw [hap]; exact ⟨o, upd_same, hnt.1⟩
    · rw [upd_ne hap]; exact g.kp a u h1 h2
end
section
variable {X : Cx} {ρ : List Sl} {φ ψ χ : PyData → Prop} {a b c e : Expr} {es : List Expr} {pos : Pos} {d : PyData} {st : Stmt} {rest : List Stmt} {nx nx' mid : List Sl → Prop} {rt : PyData → Prop} {i j : Nat}
/-- an owned list read as a value, for an answer that is flat -/
theorem x_frz {ds : List PyData} (i : Nat) (h : XE X e (ρ.set i (.val (.list ds))) φ) (hi : ρ[i]? = some (.own ds) := by rfl) (hf : ∀ z, φ z → flat z = true := by intro z h; subst h; rfl) : XE X e ρ φ := PE.imp h fun σ H Q ⟨W, O, g, k⟩ => by
  obtain ⟨O', sub, g'⟩ := g.frz hi
  have nd : ρ[i]? ≠ some .dice := by rw [hi]; exact fun z => nomatch z
  refine ⟨W, O', g', fun d v H1 hd g1 e1 i1 => ?_⟩
  have e1' : ExD σ ρ H H1 := fun a o n m q => e1 a o (fun z => n ((dx_set (s := .val (.list ds)) nd (fun z => nomatch z)).mp z)) m q
  refine k d v H1 hd (g.via e1' g1.ext g1.tb fun j p h1 h2 => ?_) e1' (i1.flat (hf d hd))
  have hij : i ≠ j := fun z => by subst z; exact nd h2
  exact g1.dices j p h1 (by rw [List.getElem?_set_ne hij]; exact h2)
theorem t_frz {ds : List PyData} {β : Bool → Prop} (i : Nat) (h : TX X e (ρ.set i (.val (.list ds))) β) (hi : ρ[i]? = some (.own ds) := by rfl) : TX X e ρ β := PT.imp h fun σ H Q ⟨W, O, g, k⟩ => by
  obtain ⟨O', sub, g'⟩ := g.frz hi
  have nd : ρ[i]? ≠ some .dice := by rw [hi]; exact fun z => nomatch z
  refine ⟨W, O', g', fun d H1 hd g1 e1 => ?_⟩
  have e1' : ExD σ ρ H H1 := fun a o n m q => e1 a o (fun z => n ((dx_set (s := .val (.list ds)) nd (fun z => nomatch z)).mp z)) m q
  refine k d H1 hd (g.via e1' g1.ext g1.tb fun j p h1 h2 => ?_) e1'
  have hij : i ≠ j := fun z => by subst z; exact nd h2
  exact g1.dices j p h1 (by rw [List.getElem?_set_ne hij]; exact h2)
theorem s_frz {ds : List PyData} {ts : List Stmt} (i : Nat) (h : SXs X ts (ρ.set i (.val (.list ds))) nx rt) (hi : ρ[i]? = some (.own ds) := by rfl) : SXs X ts ρ nx rt := PSs.imp h fun D σ H ⟨W, O, g, k1, k2⟩ => by
  obtain ⟨O', sub, g'⟩ := g.frz hi
  exact ⟨W, O', g', k1, k2⟩
/-- xs.append(e) -/
theorem S_app {ds : List PyData} {y : Str} {p1 p2 p3 : Pos} (i : Nat) (he : XE X e ρ φ) (k : ∀ d, φ d → SXs X rest (ρ.set i (.own (ds ++ [d]))) nx rt) (hl : ds.length < 100000) (hi : ρ[i]? = some (.own ds) := by rfl)
    (hN : X.N[i]? = some y := by rfl) (hv : Vis X.env.scope y := by first | exact Or.inl rfl | exact Or.inr (Or.inl rfl) | exact Or.inr (Or.inr rfl)) (hyb : (y == ("__debug__" : Str)) = false := by decide) (hyc : (y == ("__classdict__" : Str)) = false := by decide)
    (hbase : attributeBase (.Name y p1) "append" X.env (eval (.Name y p1) X.env) = eval (.Name y p1) X.env := by rfl)
    (hfew : ((backTo p3 (starEach [e] X.env)).all (fun x => !x.1) && (backToKw p3 (keywordEach [] X.env)).all (fun x => x.1.isSome)
      && decide (([e] : List Expr).length + ([] : List Keyword).length + (if ([] : List Keyword).isEmpty then 0 else 1) < 30)) = true := by rfl)
    (hline : (p2.endLine == p3.line) = true := by rfl) (hs : starEach [e] X.env = (false, eval e X.env) :: starEach [] X.env := by rfl) (hplain : (backTo p3 (starEach [] X.env)).any (·.1) = false := by rfl)
    (hsw : swapsWith (.Call (.Attribute (.Name y p1) "append" p2) [e] [] p3) none pos.line X.env = pure false := by rfl) :
    SXs X (.Expr (.Call (.Attribute (.Name y p1) "append" p2) [e] [] p3) pos :: rest) ρ nx rt :=
  s_seq (mid := fun ρ' => ∃ d, φ d ∧ ρ' = ρ.set i (.own (ds ++ [d]))) (PS.imp (ps_expr (pe_bm PySem.F.plainAttrs_list PySem.F.slot_list_append PySem.F.type_list_append mt_append (pe_var hN hv hyb hyc) (pa_cons he pa_nil hs) hbase hfew hline hs hplain) hsw) fun D σ H ⟨W, O, g, k1, k2⟩ => by
    obtain ⟨x, hx, p, xs, e1, e2, e3, e4, e5, e6⟩ := g.at hi
    subst e1
    refine ⟨.ref p, hx, .inl ⟨rfl, _, .inl (.inl e5)⟩, W, O, g, fun d v H' hd g' ed i' => ?_⟩
    obtain ⟨p', xs', e1', _, _, e4', e5', e6'⟩ := g'.sl i _ _ hx hi
    cases e1'
    refine ⟨p, xs', v, rfl, rfl, e5', by rw [sizeLine_eq, e6'.length]; omega, ?_⟩
    refine k1 _ O σ _ ⟨d, hd, rfl⟩ (g'.wrOwn hi rfl (fun z => nomatch z) hx ?_ (fun z => nomatch z) e4' nw_lst)
    have ex : Ex O H' (upd H' p (.lst (xs' ++ [v]))) := fun a u n _ h => by rw [upd_ne (fun z => n (by rw [z]; exact e2))]; exact h
    exact ⟨p, _, rfl, e2, e3, e4', upd_same, (e6'.append (.cons i' .nil)).ex ex⟩) fun ρ' ⟨d, hd, e⟩ => by rw [e]; exact k d hd
theorem s_app {ds : List PyData} {y : Str} {p1 p2 p3 : Pos} (i : Nat) (he : XV X e ρ d) (k : SXs X rest (ρ.set i (.own (ds ++ [d]))) nx rt) (hl : ds.length < 100000) (hi : ρ[i]? = some (.own ds) := by rfl)
    (hN : X.N[i]? = some y := by rfl) (hv : Vis X.env.scope y := by first | exact Or.inl rfl | exact Or.inr (Or.inl rfl) | exact Or.inr (Or.inr rfl)) (hyb : (y == ("__debug__" : Str)) = false := by decide) (hyc : (y == ("__classdict__" : Str)) = false := by decide)
    (hbase : attributeBase (.Name y p1) "append" X.env (eval (.Name y p1) X.env) = eval (.Name y p1) X.env := by rfl)
    (hfew : ((backTo p3 (starEach [e] X.env)).all (fun x => !x.1) && (backToKw p3 (keywordEach [] X.env)).all (fun x => x.1.isSome)
      && decide (([e] : List Expr).length + ([] : List Keyword).length + (if ([] : List Keyword).isEmpty then 0 else 1) < 30)) = true := by rfl)
    (hline : (p2.endLine == p3.line) = true := by rfl) (hs : starEach [e] X.env = (false, eval e X.env) :: starEach [] X.env := by rfl) (hplain : (backTo p3 (starEach [] X.env)).any (·.1) = false := by rfl)
    (hsw : swapsWith (.Call (.Attribute (.Name y p1) "append" p2) [e] [] p3) none pos.line X.env = pure false := by rfl) :
    SXs X (.Expr (.Call (.Attribute (.Name y p1) "append" p2) [e] [] p3) pos :: rest) ρ nx rt := S_app i he (fun d' h => by rw [h]; exact k) hl hi hN hv hyb hyc hbase hfew hline hs hplain hsw
/-- xs[k] = e -/
theorem s_setit {ds : List PyData} {y : Str} {p1 p2 : Pos} {n : Int} {m : Nat} (i : Nat) (he : XV X e ρ d) (hk : XV X b ρ (.int n)) (hm : ixN ds.length n = some m) (k : SXs X rest (ρ.set i (.own (ds.set m d))) nx rt) (hi : ρ[i]? = some (.own ds) := by rfl)
    (hN : X.N[i]? = some y := by rfl) (hv : Vis X.env.scope y := by first | exact Or.inl rfl | exact Or.inr (Or.inl rfl) | exact Or.inr (Or.inr rfl)) (hyb : (y == ("__debug__" : Str)) = false := by decide) (hyc : (y == ("__classdict__" : Str)) = false := by decide)
    (hpg : ∀ {to ti : TE}, PE X (.Name y p1) to → PE X b ti → PG X (.Subscript (.Name y p1) b p2) (gSub to ti rSetL) := by exact fun h1 h2 => pg_sub h1 h2 set_list)
    (hs : swapsWithSole [.Subscript (.Name y p1) b p2] e pos.line X.env = pure false := by rfl) (hw : swappedStores [.Subscript (.Name y p1) b p2] e X.env = pure none := by rfl) :
    SXs X (.Assign [.Subscript (.Name y p1) b p2] e pos :: rest) ρ nx rt :=
  s_seq (mid := fun ρ' => ρ' = ρ.set i (.own (ds.set m d))) (PS.imp (ps_asg he (hpg (pe_var hN hv hyb hyc) hk) hs hw) fun D σ H ⟨W, O, g, k1, k2⟩ => by
    refine ⟨W, O, g, fun d' v H' hd g' ed i' => ?_⟩
    subst hd
    obtain ⟨x, hx, p, xs, e1, e2, e3, e4, e5, e6⟩ := g'.at hi
    subst e1
    refine ⟨.ref p, hx, W, O, g', fun z w H2 hz g2 ed2 i2 => ?_⟩
    subst hz
    cases i2
    obtain ⟨p', xs', e1', _, _, e4', e5', e6'⟩ := g2.sl i _ _ hx hi
    cases e1'
    refine ⟨p, xs', n, m, rfl, rfl, e5', by rw [e6'.length]; exact hm, ?_⟩
    refine k1 _ O σ _ rfl (g2.wrOwn hi rfl (fun z => nomatch z) hx ?_ (fun z => nomatch z) e4' nw_lst)
    have ex : Ex O H2 (upd H2 p (.lst (xs'.set m v))) := fun a u n _ h => by rw [upd_ne (fun z => n (by rw [z]; exact e2))]; exact h
    exact ⟨p, _, rfl, e2, e3, e4', upd_same, (e6'.set (i'.exd g' ed2) m).ex ex⟩) fun ρ' e => by rw [e]; exact k
/-- a, b = e1, e2: two locals -/
theorem S_par {φ ψ : Sl → Prop} {x y : Str} {px py pt : Pos} {kt k2 pt2} (i j : Nat) (ha : XS X a ρ φ) (hb : XS X b ρ ψ) (k : ∀ s t, φ s → ψ t → SXs X rest ((ρ.set i s).set j t) nx rt) (hc : X.calm = true) (hN : X.N.Nodup) (hni : nd ρ i = true := by rfl) (hnj : nd ρ j = true := by rfl)
    (hps : ∀ {ta : TA}, PA X [a, b] ta → PS X (.Assign [.Tuple [.Name x px, .Name y py] kt pt] (.Tuple [a, b] k2 pt2) pos) (tPar i j ta)) (hij : i ≠ j := by decide)
    (hφ : ∀ s, φ s → s ≠ .dice := by intro s h; subst h; exact fun z => nomatch z)
    (hs1 : starEach [a, b] X.env = (false, eval a X.env) :: starEach [b] X.env := by rfl) (hs2 : starEach [b] X.env = (false, eval b X.env) :: starEach [] X.env := by rfl) : SXs X (.Assign [.Tuple [.Name x px, .Name y py] kt pt] (.Tuple [a, b] k2 pt2) pos :: rest) ρ nx rt :=
  s_seq (mid := fun ρ' => ∃ s t, φ s ∧ ψ t ∧ ρ' = (ρ.set i s).set j t) (PS.imp (hps (pa_cons ha (pa_cons hb pa_nil hs2) hs1)) fun D σ H ⟨W, O, g, k1, k2⟩ => by
    refine ⟨W, O, g, fun s v H1 O1 hs g1 sub1 new1 ed1 ok1 fr1 => ⟨W, O1, g1, fun t w H2 O2 ht g2 sub2 new2 ed2 ok2 fr2 => ⟨v, w, rfl, k1 _ O2 _ H2 ⟨s, t, hs, ht, rfl⟩ ?_⟩⟩⟩
    have ex : Ex O1 H1 H2 := g1.exO ed2
    have ok1' : SlOk W O2 H2 (some v) s := by
      cases s with
      | no => trivial
      | raw v => exact ok1
      | tab T => exact ok1
      | val d => obtain ⟨u, f1, f2⟩ := ok1; exact ⟨u, f1, f2.more new2 ex⟩
      | fz u => obtain ⟨q, e1, e2, e3, e4⟩ := ok1; exact ⟨q, e1, fun z => (new2 q z).elim e2 (fun y => y (u q) e3 e4), ex q (u q) e2 e4 e3, e4⟩
      | own es =>
        obtain ⟨q, ys, f1, f2, f3, f4, f5, f6⟩ := ok1
        obtain ⟨p, ep, hp⟩ := fr1 rfl
        cases f1; cases ep
        have nx : ¬ Dx σ ρ q := fun ⟨l, l1, l2⟩ => by
          obtain ⟨_, o, q1, q2⟩ := g.there l1 l2 rfl
          exact hp o q1 q2
        exact ⟨q, ys, rfl, sub2 q f2, f3, f4, ed2 q _ nx nt_lst f5, f6.more new2 ex⟩
      | xl es =>
        obtain ⟨q, ys, f1, f2, f3, f4, f5, f6⟩ := ok1
        obtain ⟨p, ep, hp⟩ := fr1 rfl
        cases f1; cases ep
        have nx : ¬ Dx σ ρ q := fun ⟨l, l1, l2⟩ => by
          obtain ⟨_, o, q1, q2⟩ := g.there l1 l2 rfl
          exact hp o q1 q2
        exact ⟨q, ys, rfl, sub2 q f2, f3, f4, ed2 q _ nx nt_lst f5, f6.more new2 ex⟩
      | gn G gm gc =>
        obtain ⟨q, ys, f1, f2, f3, f4, f5, f6⟩ := ok1
        obtain ⟨p, ep, hp⟩ := fr1 rfl
        cases f1; cases ep
        have nx : ¬ Dx σ ρ q := fun ⟨l, l1, l2⟩ => by
          obtain ⟨_, o, q1, q2⟩ := g.there l1 l2 rfl
          exact hp o q1 q2
        exact ⟨q, ys, rfl, sub2 q f2, f3, f4, ed2 q _ nx (G.kd f6).nt f5, G.more new2 ex f6⟩
      | dice => exact absurd rfl (hφ _ hs)
      | dct kvs =>
        obtain ⟨q, ys, f1, f2, f3, f4, f5, f6, f7⟩ := ok1
        obtain ⟨p, ep, hp⟩ := fr1 rfl
        cases f1; cases ep
        have nx : ¬ Dx σ ρ q := fun ⟨l, l1, l2⟩ => by
          obtain ⟨_, o, q1, q2⟩ := g.there l1 l2 rfl
          exact hp o q1 q2
        exact ⟨q, ys, rfl, sub2 q f2, f3, f4, ed2 q _ nx nt_dT f5, f6, f7.more new2 ex⟩
    have g3 := g.setNew (i := i) g2 ok1' (fun hm => fr1 hm) (nd_of hni)
    refine g3.set ok2 (fun hm => ?_) ?_
    · obtain ⟨p, ep, hp⟩ := fr2 hm
      refine ⟨p, ep, fun l u h1 h2 h3 => ?_⟩
      by_cases hil : i = l
      · subst hil
        have hi : i < σ.length := by
          have := (List.getElem?_eq_some_iff.mp h1).1
          rwa [List.length_set] at this
        rw [List.getElem?_set_self hi] at h1
        cases h1
        rw [List.getElem?_set_self (by rw [← g.len]; exact hi)] at h2
        cases h2
        cases s with
        | no => cases h3
        | raw v => cases h3
        | tab T => cases h3
        | val d => cases h3
        | fz u => cases h3
        | own es => obtain ⟨q, ys, f1, f2, f3, f4, f5, f6⟩ := ok1; cases f1; exact hp _ f5 nt_lst
        | xl es => obtain ⟨q, ys, f1, f2, f3, f4, f5, f6⟩ := ok1; cases f1; exact hp _ f5 nt_lst
        | gn G gm gc => obtain ⟨q, ys, f1, f2, f3, f4, f5, f6⟩ := ok1; cases f1; exact hp _ f5 (G.kd f6).nt
        | dice => exact absurd rfl (hφ _ hs)
        | dct kvs => obtain ⟨q, ys, f1, f2, f3, f4, f5, f6⟩ := ok1; cases f1; exact hp _ f5 nt_dT
      · rw [List.getElem?_set_ne hil] at h1 h2
        obtain ⟨_, o, q1, q2⟩ := g1.there h1 h2 h3
        exact hp o q1 q2
    · rw [List.getElem?_set_ne hij]; exact nd_of hnj) fun ρ' ⟨s, t, h1, h2, e⟩ => by rw [e]; exact k s t h1 h2
end
end Pd
set_option Elab.async false
set_option linter.all false
set_option maxRecDepth 100000
set_option maxHeartbeats 1000000
namespace Pd
open PySem PySem.Spec PyProof.Rows L2
/-! ### what is walked -/
/-- item i of ys is handed out -/
def Yd (O : Addr → Prop) (Hs : Hp) (ys : List PyData) : Nat → Hp → V → Hp → Prop := fun i H x H' => Ext H H' ∧ ∃ d, ys[i]? = some d ∧ ∀ O' : Addr → Prop, Al O' H → (∀ a, O' a → O a ∨ bl Hs a) → Is O' H' x d
def tXI (ρ : List Sl) (ys : List PyData) : TI := fun σ H R => ∃ W O, Gd W O σ H ρ ∧ ∀ J H', Gd W O σ H' ρ → ExD σ ρ H H' → Walk J ys.length (fun H1 => Ex O H' H1) (Yd O H' ys) → R J H'
abbrev IX (X : Cx) (tg iter : Expr) (ρ : List Sl) (ys : List PyData) : Prop := PI X tg iter (tXI ρ ys)
theorem PI.imp {X : Cx} {tg e : Expr} {t t' : TI} (h : PI X tg e t) (k : ∀ σ H Q, t' σ H Q → t σ H Q) : PI X tg e t' := ⟨fun pins s σ H Q I q => h.run pins s σ H Q I (k σ H Q q)⟩
section
variable {X : Cx} {ρ : List Sl} {φ ψ χ : PyData → Prop} {tg a b c e : Expr} {es : List Expr} {pos : Pos} {d : PyData}
theorem yd_item {O : Addr → Prop} {Hs H : Hp} {x : V} {d : PyData} (h : Is O Hs x d) (e : Ex O Hs H) : ∀ O' : Addr → Prop, Al O' H → (∀ a, O' a → O a ∨ bl Hs a) → Is O' H x d := fun O' _ hn => h.more hn e
theorem i_list {ds : List PyData} (h : XV X e ρ (.list ds)) : IX X tg e ρ ds := PI.imp (pi_list h) fun σ H R ⟨W, O, g, k⟩ => ⟨W, O, g, fun d v H' hd g' e' i' => by
  subst hd
  cases i' with
  | @lst p xs _ n1 e1 r1 =>
    refine ⟨p, rfl, ⟨xs, SqL.of e1⟩, k _ H' g' e' ?_⟩
    rw [← r1.length]
    refine (walk_list (K := X.K) (a := p) (xs := xs)).mono (fun H1 ex => SqL.of (ex p _ n1 nt_lst e1)) fun i H1 x H2 hi ex ⟨eH, hx⟩ => ?_
    subst eH
    obtain ⟨d, hd, is⟩ := r1.getV hx
    exact ⟨Ext.refl _, d, hd, yd_item is ex⟩⟩
theorem i_tup {ds : List PyData} (h : XV X e ρ (.tuple ds)) : IX X tg e ρ ds := PI.imp (pi_tup h) fun σ H R ⟨W, O, g, k⟩ => ⟨W, O, g, fun d v H' hd g' e' i' => by
  subst hd
  cases i' with
  | @tup p xs _ n1 e1 r1 =>
    refine ⟨p, rfl, ⟨xs, SqT.of e1⟩, k _ H' g' e' ?_⟩
    rw [← r1.length]
    refine (walk_tup (K := X.K) (a := p) (xs := xs)).mono (fun H1 ex => SqT.of (ex p _ n1 nt_tup e1)) fun i H1 x H2 hi ex ⟨eH, hx⟩ => ?_
    subst eH
    obtain ⟨d, hd, is⟩ := r1.getV hx
    exact ⟨Ext.refl _, d, hd, yd_item is ex⟩⟩
/-- the numbers lo, lo + 1, .. -/
def rng (lo : Int) (n : Nat) : List Int := (List.range n).map fun i => lo + (i : Nat)
theorem rng_length (lo : Int) (n : Nat) : (rng lo n).length = n := by unfold rng; rw [List.length_map, List.length_range]
theorem rng_get {lo : Int} {n i : Nat} (h : i < n) : (rng lo n)[i]? = some (lo + (i : Nat)) := by
  unfold rng
  rw [List.getElem?_map, List.getElem?_range h]
  rfl
theorem i_rng1 {p : Pos} {n : Int} (hm : X.mg "range" = none) (h : XV X a ρ (.int n)) (hn : -(2 ^ 62) ≤ n ∧ n < 2 ^ 62) (hg : Gl X "range" := by rfl) (hs : starEach [a] X.env = [(false, eval a X.env)] := by rfl) : IX X tg (.Call (.Name "range" p) [a] [] pos) ρ ((rng 0 n.toNat).map .int) :=
  PI.imp (pi_range1 hg hm (a_cons h a_nil (by rw [hs]; rfl)) hs) fun σ H R ⟨W, O, g, k⟩ => ⟨W, O, g, fun ds vs H' hd g' e' i' => by
    subst hd
    cases i' with
    | cons h1 h2 =>
      cases h1; cases h2
      refine ⟨n, rfl, hn.1, hn.2, k _ H' g' e' ?_⟩
      rw [List.length_map, rng_length]
      refine (walk_range (lo := 0) (n := n.toNat)).mono (fun _ _ => trivial) fun i H1 x H2 hi ex ⟨eH, hx⟩ => ?_
      subst eH hx
      exact ⟨Ext.refl _, _, by rw [List.getElem?_map, rng_get hi]; rfl, fun _ _ _ => .int _⟩⟩
theorem i_rng2 {p : Pos} {m n : Int} (hm : X.mg "range" = none) (h : XV X a ρ (.int m)) (h2 : XV X b ρ (.int n)) (hn : -(2 ^ 62) ≤ m ∧ m < 2 ^ 62 ∧ -(2 ^ 62) ≤ n ∧ n < 2 ^ 62) (hg : Gl X "range" := by rfl) (hs : starEach [a, b] X.env = [(false, eval a X.env), (false, eval b X.env)] := by rfl) (hs2 : starEach [b] X.env = [(false, eval b X.env)] := by rfl) :
    IX X tg (.Call (.Name "range" p) [a, b] [] pos) ρ ((rng m (n - m).toNat).map .int) :=
  PI.imp (pi_range2 hg hm (a_cons h (a_cons h2 a_nil (by rw [hs2]; rfl)) (by rw [hs, hs2])) hs hs2) fun σ H R ⟨W, O, g, k⟩ => ⟨W, O, g, fun ds vs H' hd g' e' i' => by
    subst hd
    cases i' with
    | cons h1 h2 =>
      cases h2 with
      | cons h2 h3 =>
      cases h1; cases h2; cases h3
      refine ⟨m, n, rfl, hn, k _ H' g' e' ?_⟩
      rw [List.length_map, rng_length]
      refine (walk_range (lo := m) (n := (n - m).toNat)).mono (fun _ _ => trivial) fun i H1 x H2 hi ex ⟨eH, hx⟩ => ?_
      subst eH hx
      exact ⟨Ext.refl _, _, by rw [List.getElem?_map, rng_get hi]; rfl, fun _ _ _ => .int _⟩⟩
/-- enumerate's pairs -/
def enums (ds : List PyData) : List PyData := (ds.zipIdx).map fun p => .tuple [.int (p.2 : Nat), p.1]
theorem enums_length (ds : List PyData) : (enums ds).length = ds.length := by unfold enums; rw [List.length_map, List.length_zipIdx]
theorem enums_get {ds : List PyData} {i : Nat} {d : PyData} (h : ds[i]? = some d) : (enums ds)[i]? = some (.tuple [.int (i : Nat), d]) := by
  unfold enums
  rw [List.getElem?_map, List.getElem?_zipIdx, h]
  simp
theorem i_enum {p : Pos} {ds : List PyData} {elts : List Expr} {kk : Nat} {tpos : Pos} (hm : X.mg "enumerate" = none) (h : XV X e ρ (.list ds)) (hg : Gl X "enumerate" := by rfl) (hs : starEach [e] X.env = [(false, eval e X.env)] := by rfl) :
    IX X (.Tuple elts kk tpos) (.Call (.Name "enumerate" p) [e] [] pos) ρ (enums ds) :=
  PI.imp (pi_enum hg hm (a_cons h a_nil (by rw [hs]; rfl)) hs) fun σ H R ⟨W, O, g, k⟩ => ⟨W, O, g, fun es vs H' hd g' e' i' => by
    subst hd
    cases i' with
    | cons h1 h2 =>
      cases h2
      cases h1 with
      | @lst q xs _ n1 e1 r1 =>
        refine ⟨q, xs, rfl, SqL.of e1, k _ H' g' e' ?_⟩
        rw [enums_length, ← r1.length]
        refine (walk_enum (K := X.K) (a := q) (xs := xs)).mono (fun H1 ex => SqL.of (ex q _ n1 nt_lst e1)) fun i H1 x H2 hi ex ⟨T, x1, x2, hv, hT, hH, hx1, hx2⟩ => ?_
        subst hv hH
        obtain ⟨d, hd, is⟩ := r1.getV hx2
        cases hx1
        refine ⟨Ext.new hT, _, enums_get hd, fun O' al hn => Is.newT al hT (.cons (.int _) (.cons (yd_item is ex O' al hn) .nil))⟩⟩
end
/-! ### loops -/
section
variable {W : Fm} {O O' : Addr → Prop} {σ : L2.St} {H H' : Hp} {ρ ρ' : List Sl}
/-- the frame of a loop that starts at H -/
def Fm.loop (W : Fm) (H : Hp) (O : Addr → Prop) : Fm := ⟨H, W.Oc, fun a => W.Mu a ∧ (O a ∨ ∃ ps, H a = some (.tbl ps)), W.Dc, O, W.T⟩
theorem Gd.enter (g : Gd W O σ H ρ) : Gd (W.loop H O) O σ H ρ := by
  refine ⟨g.len, fun i x s h1 h2 => ?_, g.uq, g.al, g.sup, fun a o h _ => h, g.dc, fun a o h1 h2 => ⟨o, h1, h2⟩, fun a h => .inl h, g.tb⟩
  have old := g.sl i x s h1 h2
  cases s with
  | no => trivial
  | raw v => exact old
  | tab T => exact ⟨old.1, fun a ps h => by
      have h : H a = some (.tbl ps) := h
      refine ⟨?_, .inr ⟨ps, h⟩⟩
      cases q : W.H0 a with
      | none => exact .inl q
      | some o =>
        by_cases hm : W.M a
        · exact .inr hm
        · have := g.ext a o q hm
          rw [h] at this
          cases this
          exact .inr (old.2 a ps q)⟩
  | val d => exact old
  | fz u => exact old
  | own ds => obtain ⟨p, xs, e1, e2, e3, e4, e5⟩ := old; exact ⟨p, xs, e1, e2, e3, .inr ⟨e4, .inl e2⟩, e5⟩
  | xl ds => obtain ⟨p, xs, e1, e2, e3, e4, e5⟩ := old; exact ⟨p, xs, e1, e2, e3, .inr ⟨e4, .inl e2⟩, e5⟩
  | gn G gm gc => obtain ⟨p, xs, e1, e2, e3, e4, e5⟩ := old; exact ⟨p, xs, e1, e2, e3, fun h => .inr ⟨e4 h, .inl e2⟩, e5⟩
  | dice => obtain ⟨p, c, k, e1, e2, e4, e5⟩ := old; exact ⟨p, c, k, e1, e2, .inr ⟨e4, .inl e2⟩, e5⟩
  | dct ds => obtain ⟨p, xs, e1, e2, e3, e4, e5⟩ := old; exact ⟨p, xs, e1, e2, e3, .inr ⟨e4, .inl e2⟩, e5⟩
theorem loop_mu (g : Gd W O σ H ρ) {a : Addr} (h : (W.loop H O).Mu a) : W.Mu a := by
  rcases h with h | h
  · exact g.keep a h
  · exact h.1
theorem loop_ext (g : Gd W O σ H ρ) (h : ∀ a o, (W.loop H O).H0 a = some o → ¬ (W.loop H O).M a → H' a = some o) : ∀ a o, W.H0 a = some o → ¬ W.M a → H' a = some o := fun a o h1 h2 => h a o (g.ext a o h1 h2) fun z => by
  rcases z.1 with z | z
  · rw [h1] at z; cases z
  · exact h2 z
theorem Gd.leave {σ' : L2.St} (g : Gd W O σ H ρ) (g' : Gd (W.loop H O) O' σ' H' ρ') : Gd W O' σ' H' ρ' := by
  refine ⟨g'.len, fun i x s h1 h2 => ?_, g'.uq, g'.al, g'.sup, loop_ext g g'.ext, g'.dc, fun a o h1 h2 => by
      obtain ⟨o', e1, e2⟩ := g.kp a o h1 h2
      exact g'.kp a o' e1 e2, fun a h => ?_, g'.tb⟩
  · have old := g'.sl i x s h1 h2
    cases s with
    | no => trivial
    | raw v => exact old
    | tab T => exact ⟨old.1, fun a ps h => by
        by_cases hm : W.M a
        · exact hm
        · have h1 := g.ext a _ h hm
          rcases (old.2 a ps h1).1 with z | z
          · rw [h] at z; cases z
          · exact z⟩
    | val d => exact old
    | fz u => exact old
    | own ds => obtain ⟨p, xs, e1, e2, e3, e4, e5⟩ := old; exact ⟨p, xs, e1, e2, e3, loop_mu g e4, e5⟩
    | xl ds => obtain ⟨p, xs, e1, e2, e3, e4, e5⟩ := old; exact ⟨p, xs, e1, e2, e3, loop_mu g e4, e5⟩
    | gn G gm gc => obtain ⟨p, xs, e1, e2, e3, e4, e5⟩ := old; exact ⟨p, xs, e1, e2, e3, fun h => loop_mu g (e4 h), e5⟩
    | dice => obtain ⟨p, c, k, e1, e2, e4, e5⟩ := old; exact ⟨p, c, k, e1, e2, loop_mu g e4, e5⟩
    | dct ds => obtain ⟨p, xs, e1, e2, e3, e4, e5⟩ := old; exact ⟨p, xs, e1, e2, e3, loop_mu g e4, e5⟩
  · rcases g'.nw a h with z | z
    · exact g.nw a z
    · exact .inr (g.kbl z)
theorem loop_rt (g : Gd W O σ H ρ) (h : Rt (W.loop H O) O' H') : Rt W O' H' := ⟨h.1, loop_ext g h.2.1, h.2.2⟩
end
section
variable {X : Cx} {ρ : List Sl} {φ ψ χ : PyData → Prop} {a b c e iter : Expr} {es : List Expr} {pos : Pos} {d : PyData} {st : Stmt} {rest body : List Stmt} {nx nx' mid : List Sl → Prop} {rt : PyData → Prop} {i j : Nat}
/-- what a target does with an item: the slots behind it -/
structure TgR (g : TG) (asg : PyData → List Sl → Option (List Sl)) : Prop where
  run : ∀ (W : Fm) (O : Addr → Prop) (v : V) (d : PyData) (σ : L2.St) (H : Hp) (ρ ρ' : List Sl) (Q : L2.St → Hp → Prop), Gd W O σ H ρ → Is O H v d → asg d ρ = some ρ' → (∀ σ', Gd W O σ' H ρ' → (∀ H1 H2, ExD σ' ρ' H1 H2 → ExD σ ρ H1 H2) → Q σ' H) → g v σ H Q
def asg1 (j : Nat) : PyData → List Sl → Option (List Sl) := fun d ρ => if nd ρ j = true then some (ρ.set j (.val d)) else none
def asg2 (i j : Nat) : PyData → List Sl → Option (List Sl) := fun d ρ => match d with
  | .tuple [x, y] => if nd ρ i = true ∧ nd ρ j = true then some ((ρ.set i (.val x)).set j (.val y)) else none
  | _ => none
theorem exd_set {σ : L2.St} {ρ : List Sl} {i : Nat} {x : Option V} {s : Sl} (hn : ρ[i]? ≠ some .dice) {H1 H2 : Hp} (h : ExD (σ.set i x) (ρ.set i s) H1 H2) (hs : s ≠ .dice) : ExD σ ρ H1 H2 := fun a o n m q => h a o (fun ⟨l, l1, l2⟩ => by
    by_cases hil : i = l
    · subst hil
      have hl : i < ρ.length := by
        have := (List.getElem?_eq_some_iff.mp l2).1
        rwa [List.length_set] at this
      rw [List.getElem?_set_self hl] at l2
      cases l2
      exact hs rfl
    · rw [List.getElem?_set_ne hil] at l1 l2
      exact n ⟨l, l1, l2⟩) m q
theorem tg1 (j : Nat) : TgR (gName j) (asg1 j) := ⟨fun W O v d σ H ρ ρ' Q g is h k => by
  unfold asg1 at h
  split at h
  · rename_i hn
    cases h
    exact k _ (g.set (s := .val d) ⟨v, rfl, is⟩ (fun z => nomatch z) (nd_of hn)) fun H1 H2 h => exd_set (nd_of hn) h (fun z => nomatch z)
  · cases h⟩
theorem nd_set {ρ : List Sl} {i j : Nat} {d : PyData} (h : nd ρ j = true) : nd (ρ.set i (.val d)) j = true := by
  unfold nd at h ⊢
  by_cases hij : i = j
  · subst hij
    by_cases hl : i < ρ.length
    · rw [List.getElem?_set_self hl]
    · rw [List.getElem?_eq_none (by rw [List.length_set]; omega)]
  · rw [List.getElem?_set_ne hij]; exact h
theorem tg2 (K : PySem.W.Frag) (i j : Nat) : TgR (gTup K 2 (gCons (gName i) (gCons (gName j) gNil))) (asg2 i j) := ⟨fun W O v d σ H ρ ρ' Q g is h k => by
  unfold asg2 at h
  split at h
  · rename_i x y
    split at h
    · rename_i hn
      cases h
      cases is with
      | tup n e r =>
        cases r with
        | cons r1 r2 =>
          cases r2 with
          | cons r2 r3 =>
            cases r3
            refine ⟨_, _, rfl, SqT.of e, rfl, _, _, rfl, _, _, rfl, rfl, ?_⟩
            have g1 := g.set (i := i) (s := .val x) ⟨_, rfl, r1⟩ (fun z => nomatch z) (nd_of hn.1)
            have g2 := g1.set (i := j) (s := .val y) ⟨_, rfl, r2⟩ (fun z => nomatch z) (nd_of (nd_set hn.2))
            exact k _ g2 fun H1 H2 h => exd_set (nd_of hn.1) (exd_set (nd_of (nd_set hn.2)) h (fun z => nomatch z)) (fun z => nomatch z)
    · cases h
  · cases h⟩
/-- for target in iter -/
theorem S_for {tg : Expr} {g : TG} {asg : PyData → List Sl → Option (List Sl)} {ys : List PyData} (hI : IX X tg iter ρ ys) (hg : PG X tg g) (hT : TgR g asg) (Inv : Nat → List Sl → Prop) (h0 : Inv 0 ρ)
    (hs : ∀ i d ρ1, ys[i]? = some d → Inv i ρ1 → ∃ ρ2, asg d ρ1 = some ρ2 ∧ SXs X body ρ2 (Inv (i + 1)) rt) (hd : ∀ ρ1, Inv ys.length ρ1 → nx ρ1) (hp : PassesOwn (model X.prog X.w) X.A X.env X.xe) (hc : X.calm = true)
    (hps : ∀ {wi : TI} {tb : TS}, PI X tg iter wi → PSs X body tb → PS X (.For tg iter body [] pos) (tFor wi g tb) := by exact fun h1 h2 => ps_for (by assumption) (by assumption) h1 (by assumption) h2) : SX X (.For tg iter body [] pos) ρ nx rt :=
  PS.imp (hps (tb := fun D σ H => ∃ q : Nat × PyData × List Sl × List Sl, (ys[q.1]? = some q.2.1 ∧ Inv q.1 q.2.2.1 ∧ asg q.2.1 q.2.2.1 = some q.2.2.2) ∧ tS q.2.2.2 (Inv (q.1 + 1)) rt D σ H) hI (PSs.exi fun q ⟨h1, h2, h3⟩ => by
    obtain ⟨ρ2, e, h⟩ := hs q.1 q.2.1 q.2.2.1 h1 h2
    rw [e] at h3; cases h3
    exact h)) fun D σ H ⟨W, O, gd, k1, k2⟩ => ⟨W, O, gd, fun J H' gd' ed w => by
    refine for_it (g := g) (tb := fun D σ H => ∃ q : Nat × PyData × List Sl × List Sl, (ys[q.1]? = some q.2.1 ∧ Inv q.1 q.2.2.1 ∧ asg q.2.1 q.2.2.1 = some q.2.2.2) ∧ tS q.2.2.2 (Inv (q.1 + 1)) rt D σ H) w
      (fun i σ1 H1 => ∃ O1 ρ1, Inv i ρ1 ∧ Gd (W.loop H' O) O1 σ1 H1 ρ1) ⟨O, ρ, h0, gd'.enter⟩ (fun i σ1 H1 hi ⟨O1, ρ1, _, g1⟩ => fun a o n m h => g1.ext a o h fun z => z.2.elim n fun ⟨ps, q⟩ => m ps (Option.some.inj (h.symm.trans q))) (fun i x σ1 H1 H2 hi hP hY => ?_) fun σ1 H1 ⟨O1, ρ1, hi1, g1⟩ => k1 ρ1 O1 σ1 H1 (hd ρ1 hi1) (gd'.leave g1)
    obtain ⟨O1, ρ1, hi1, g1⟩ := hP
    obtain ⟨e2, d, hd, is⟩ := hY
    have is1 := is O1 g1.al g1.nw
    obtain ⟨ρ2, ea, _⟩ := hs i d ρ1 hd hi1
    refine hT.run _ O1 x d σ1 H2 ρ1 ρ2 _ (g1.ext' e2) is1 ea fun σ2 g2 _ => ⟨(i, d, ρ1, ρ2), ⟨hd, hi1, ea⟩, W.loop H' O, O1, g2, fun ρ3 O3 σ3 H3 hi3 g3 => ⟨O3, ρ3, hi3, g3⟩, fun d3 v3 O3 H3 hr i3 r3 => k2 d3 v3 O3 H3 hr i3 (loop_rt gd' r3)⟩⟩
/-- while -/
theorem S_while (Inv : Nat → List Sl → Prop) (m0 : Nat) (h0 : Inv m0 ρ)
    (hs : ∀ m ρ1, Inv m ρ1 → ∃ k, TV X c ρ1 k ∧ (k = true → SXs X body ρ1 (fun ρ2 => ∃ m', m' < m ∧ Inv m' ρ2) rt) ∧ (k = false → nx ρ1)) (hp : PassesOwn (model X.prog X.w) X.A X.env X.xe) : SX X (.While c body [] pos) ρ nx rt :=
  PS.imp (ps_while (tc := fun σ H Q => ∃ q : Nat × List Sl × Bool, (Inv q.1 q.2.1 ∧ TV X c q.2.1 q.2.2) ∧ tXT q.2.1 (fun z => z = q.2.2) σ H Q) (tb := fun D σ H => ∃ q : Nat × List Sl, (Inv q.1 q.2 ∧ SXs X body q.2 (fun ρ2 => ∃ m', m' < q.1 ∧ Inv m' ρ2) rt) ∧ tS q.2 (fun ρ2 => ∃ m', m' < q.1 ∧ Inv m' ρ2) rt D σ H) hp (PT.exi fun q h => h.2) (PSs.exi fun q h => h.2))
    fun D σ H ⟨W, O, gd, k1, k2⟩ => by
      refine ⟨fun m σ1 H1 => ∃ O1 ρ1, Inv m ρ1 ∧ Gd W O1 σ1 H1 ρ1, ⟨m0, O, ρ, h0, gd⟩, fun m σ1 H1 ⟨O1, ρ1, hi1, g1⟩ => ?_⟩
      obtain ⟨k, hk, ht, hf⟩ := hs m ρ1 hi1
      refine ⟨(m, ρ1, k), ⟨hi1, hk⟩, W, O1, g1, fun b H2 hb g2 e2 => ?_⟩
      have hb : b = k := hb
      subst hb
      cases b with
      | true =>
        exact ⟨fun σ3 H3 => ∃ m', m' < m ∧ ∃ O3 ρ3, Inv m' ρ3 ∧ Gd W O3 σ3 H3 ρ3, fun σ3 H3 h => h, (m, ρ1), ⟨hi1, ht rfl⟩, W, O1, g2, fun ρ3 O3 σ3 H3 ⟨m', hm, hi3⟩ g3 => ⟨m', hm, O3, ρ3, hi3, g3⟩, k2⟩
      | false => exact k1 ρ1 O1 σ1 H2 (hf rfl) g2
end
/-! ### a def's start -/
section
variable {P : Program} {w : World} {K : PySem.W.Frag} {mg : Str → Option Value} {base : Heap}
theorem gd_start {O : Addr → Prop} {H : Hp} {vs : List V} {ds : List PyData} {n : Nat} (al : Al O H) (h : IsAll O H vs ds) : Gd ⟨H, O, fun _ => False, fun _ => False, O, []⟩ O (vs.map some ++ List.replicate n none) H (ds.map .val ++ List.replicate n .no) := by
  have hl := h.length
  have cases' : ∀ (i : Nat) (x : Option V) (s : Sl), (vs.map some ++ List.replicate n none)[i]? = some x → (ds.map Sl.val ++ List.replicate n Sl.no)[i]? = some s → (∃ v d, x = some v ∧ s = .val d ∧ Is O H v d) ∨ s = .no := fun i x s h1 h2 => by
    by_cases hi : i < vs.length
    · rw [List.getElem?_append_left (by rw [List.length_map]; exact hi), List.getElem?_map] at h1
      rw [List.getElem?_append_left (by rw [List.length_map]; omega), List.getElem?_map] at h2
      cases q1 : vs[i]? with
      | none => rw [q1] at h1; cases h1
      | some v =>
        obtain ⟨d, q2, is⟩ := h.getV q1
        rw [q1] at h1; rw [q2] at h2
        cases h1; cases h2
        exact .inl ⟨v, d, rfl, rfl, is⟩
    · rw [List.getElem?_append_right (by rw [List.length_map]; omega), List.getElem?_replicate] at h2
      split at h2
      · cases h2; exact .inr rfl
      · cases h2
  refine ⟨by simp [hl], fun i x s h1 h2 => ?_, fun i j p s t _ h1 _ h3 _ h5 _ => ?_, al, fun _ h => h, fun _ _ h _ => h, fun _ h => h.elim, fun a o h1 h2 => ⟨o, h1, h2⟩, fun _ h => .inl h, fun _ h => nomatch h⟩
  · rcases cases' i x s h1 h2 with ⟨v, d, rfl, rfl, is⟩ | rfl
    · exact ⟨v, rfl, is⟩
    · trivial
  · rcases cases' i _ s h1 h3 with ⟨v, d, _, rfl, _⟩ | rfl <;> cases h5
/-- a def of data -/
theorem fnP {α : Type} {args : α → List PyData} {pre : α → Prop} {post : α → PyData → Prop} {x qual : Str} {st : Stmt} {f : Addr} {fd : FuncData} {N ps : List Str} {k : Nat} (F : Fun K x qual st f fd) (S : FnScope N ps (defScope st)) (len : ∀ a, (args a).length = ps.length)
    (body : ∀ (a : α), pre a → ∀ (cdv : Value) (A : Around) (outer : List Env) (s : Shared) (H : Hp) (E : XK), Room k (A.deeper (envOfC qual (defScope st) s.heap.objs.size f cdv)) →
      SXs (cxOf CX0 P w K mg base N qual (defScope st) f cdv A outer s H E).nox (defBody st) ((args a).map .val ++ List.replicate (N.length - ps.length) .no) (fun _ => post a .none) (post a)) : FnOk P w K mg base CX0 (k + 1) f fd ps (spF args pre post) := by
  refine F.ok S (fun vs H Q E h => ?_) (fun cdv A outer s H vs Q E hr h => ?_)
  · obtain ⟨a, O, _, i, _⟩ := h
    rw [i.length, len]
  · obtain ⟨a, O, al, is, hp, q⟩ := h
    have hl : vs.length = ps.length := by rw [is.length, len]
    refine ⟨_, body a hp cdv A outer s H E hr, ⟨H, O, fun _ => False, fun _ => False, O, []⟩, O, ?_, fun ρ' O' σ' H' hn g' => ?_, fun d v O' H' hr is' rt => ?_⟩
    · unfold L2.start
      rw [hl]
      exact gd_start al is
    · exact q .none .non H' hn (fun a o h => g'.ext a o h (fun z => z)) .non
    · exact q d v H' hr (fun a o h => rt.2.1 a o h (fun z => z)) (Is.imp (fun a o n _ h => ⟨fun z => n (rt.1 a z), h⟩) d v is')
/-- a def of dice and data -/
theorem fnD {α : Type} {args : α → List PyData} {pre : α → Prop} {post : α → PyData → Prop} {x qual : Str} {st : Stmt} {f : Addr} {fd : FuncData} {N ps : List Str} {k : Nat} (F : Fun K x qual st f fd) (S : FnScope N ps (defScope st)) (len : ∀ a, (args a).length + 1 = ps.length)
    (body : ∀ (a : α), pre a → ∀ (cdv : Value) (A : Around) (outer : List Env) (s : Shared) (H : Hp) (E : XK), Room k (A.deeper (envOfC qual (defScope st) s.heap.objs.size f cdv)) →
      SXs (cxOf CX0 P w K mg base N qual (defScope st) f cdv A outer s H E).nox (defBody st) (.dice :: ((args a).map .val ++ List.replicate (N.length - ps.length) .no)) (fun _ => post a .none) (post a)) : FnOk P w K mg base CX0 (k + 1) f fd ps (spD args pre post) := by
  refine F.ok S (fun vs H Q E h => ?_) (fun cdv A outer s H vs Q E hr h => ?_)
  · obtain ⟨a, O, p, c, k, ws, e, _, _, _, i, _⟩ := h
    rw [e, List.length_cons, i.length, len]
  · obtain ⟨a, O, p, c, k0, ws, rfl, hO, al, hl, is, hp, q⟩ := h
    have hlen : (V.ref p :: ws).length = ps.length := by rw [List.length_cons, is.length, len]
    have g0 := gd_start (n := N.length - ps.length) al is
    have gg : Gd ⟨H, O, fun a => a = p, fun a => a = p, O, []⟩ O (L2.start N (.ref p :: ws)) H (.dice :: ((args a).map .val ++ List.replicate (N.length - ps.length) .no)) := by
      unfold L2.start
      rw [hlen]
      refine ⟨by simp [is.length], fun i x s h1 h2 => ?_, fun i j q s t hij h1 h2 h3 h4 h5 h6 => ?_, al, fun _ h => h, fun _ _ h _ => h, fun b hb => ⟨0, by rw [show b = p from hb]; rfl, rfl⟩, fun a o h1 h2 => ⟨o, h1, h2⟩, fun _ h => .inl h, fun _ h => nomatch h⟩
      · cases i with
        | zero =>
          cases h1; cases h2
          exact ⟨p, c, k0, rfl, hO, .inr rfl, hl⟩
        | succ i =>
          have := g0.sl i x s (by simpa using h1) (by simpa using h2)
          cases s with
          | no => trivial
          | raw v => exact this
          | tab T => exact ⟨this.1, fun a ps h => (this.2 a ps h).elim⟩
          | val d => exact this
          | fz u => exact this
          | own ds => obtain ⟨q, xs, _, e2, e3, _⟩ := this; exact absurd e2 e3
          | xl ds => obtain ⟨q, xs, _, e2, e3, _⟩ := this; exact absurd e2 e3
          | gn G gm gc =>
            exfalso
            have h2' : ((args a).map Sl.val ++ List.replicate (N.length - ps.length) Sl.no)[i]? = some (.gn G gm gc) := by simpa using h2
            have := List.mem_of_getElem? h2'
            simp at this
          | dice => 
            exfalso
            have h2' : ((args a).map Sl.val ++ List.replicate (N.length - ps.length) Sl.no)[i]? = some .dice := by simpa using h2
            have := List.mem_of_getElem? h2'
            simp at this
          | dct kvs => obtain ⟨q, xs, _, e2, e3, _⟩ := this; exact absurd e2 e3
      · have nomut : ∀ (l : Nat) (t : Sl), ((args a).map Sl.val ++ List.replicate (N.length - ps.length) Sl.no)[l]? = some t → t.mut = true → False := fun l t h h' => by
          have := List.mem_of_getElem? h
          simp only [List.mem_append, List.mem_map, List.mem_replicate] at this
          rcases this with ⟨_, _, rfl⟩ | ⟨_, rfl⟩ <;> cases h'
        cases i with
        | zero =>
          cases j with
          | zero => exact hij rfl
          | succ j => exact nomut j t (by simpa using h4) h6
        | succ i => exact nomut i s (by simpa using h3) h5
    refine ⟨_, body a hp cdv A outer s H E hr, _, O, gg, fun ρ' O' σ' H' hn g' => ?_, fun d v O' H' hr is' rt => ?_⟩
    · obtain ⟨c', k', hd⟩ := g'.rt.2.2 p rfl
      exact q .none .non H' c' k' hn (fun b o hb h => g'.ext b o h hb) hd .non
    · obtain ⟨c', k', hd⟩ := rt.2.2 p rfl
      exact q d v H' c' k' hr (fun b o hb h => rt.2.1 b o h hb) hd (Is.imp (fun a o n _ h => ⟨fun z => n (rt.1 a z), h⟩) d v is')
end
end Pd
set_option Elab.async false
set_option linter.all false
set_option maxRecDepth 100000
set_option maxHeartbeats 1000000
/-! enumerate(tuple) -/
namespace PdE
open PySem PySem.Spec PyProof.Rows L2 Pd
set_option maxHeartbeats 1000000 in
theorem meets_enumT {v : Value} {o : Obj} {H : Heap → Prop} (B : Begins v o H) :
    Meets (Builtin.«enumerate.__new__» ⟨[.type "enumerate", v], []⟩) (fun _ R s => H s.heap ∧
      R (.ok (.ret (.ref (s.heap.push o).objs.size))) { s with heap := (s.heap.push o).push { cls := .type "enumerate", data := .fields #[.none, .bool false, .ref s.heap.objs.size, rawInt 0, .none, .none] } }) :=
  .of_wp fun prog w A R s h => by
    obtain ⟨hp, g, d, tk, os⟩ := s; obtain ⟨h1, h⟩ := h
    have hsub := sub_enumerate
    have q1 : ∀ {A' : Around} {E : Value → Shared → Prop} {Q : Value → Shared → Prop}, Q (.ref hp.objs.size) ⟨hp.push o, g, d, tk, os⟩ → wpAny (model prog w) A' (pyIter v) Q E ⟨hp, g, d, tk, os⟩ :=
      fun q => B.iter prog w _ _ ⟨hp, g, d, tk, os⟩ _ h1 q
    wp_walk using q1
    refine wpAny_stack_any fun st => wpAny_pure ?_
    split
    · rename_i c _ _ _ _ _
      cases (c == Value.type "enumerate")
      · wp_walk using q1
        exact ⟨_, rfl, h⟩
      · wp_walk using q1
        exact ⟨_, rfl, h⟩
    · wp_walk using q1
      exact ⟨_, rfl, h⟩
section
variable {prog : Program} {w : World} {A : Around} {E : Value → Shared → Prop} {s : Shared}
theorem call_enumB {v : Value} {o : Obj} {H : Heap → Prop} {Q : Value → Shared → Prop} (B : Begins v o H) (h1 : H s.heap)
    (h : ∀ h', IsEnum h' (s.heap.objs.size + 1) s.heap.objs.size 0 .none → h'.get? s.heap.objs.size = some o → h'.objs.size = s.heap.objs.size + 2 →
      (∀ b o, s.heap.get? b = some o → h'.get? b = some o) → Q (.ref (s.heap.objs.size + 1)) { s with heap := h' }) :
    wpAny (model prog w) A (call (.type "enumerate") [v]) Q E s := by
  refine callType_new F.called_enumerate (by decide) (F.typeCall_enumerate_1 _) (F.newCall_enumerate_1 _) (fun obj => F.args_object_init_2 obj _) F.entry_enumerate_new
    (meets_enumT B) ⟨h1, ?_⟩
  have hz : (s.heap.push o).objs.size = s.heap.objs.size + 1 := Heap.size_push ..
  show _ ∧ _
  rw [hz]
  have he : IsEnum ((s.heap.push o).push { cls := .type "enumerate", data := .fields #[.none, .bool false, .ref s.heap.objs.size, rawInt 0, .none, .none] }) (s.heap.objs.size + 1) s.heap.objs.size 0 .none := by
    have := Heap.get?_push_size (s.heap.push o) (o := { cls := .type "enumerate", data := .fields #[.none, .bool false, .ref s.heap.objs.size, rawInt 0, .none, .none] }) rfl
    rw [hz] at this; exact this
  refine ⟨⟨_, he, rfl⟩, h _ he (Heap.get?_push_of_some _ (Heap.get?_push_size _ B.free)) (by rw [Heap.size_push, hz]) fun b o x => Heap.get?_push_of_some _ (Heap.get?_push_of_some _ x)⟩
end
/-- the tuple at a, each item in a new pair -/
def IteT (K : PySem.W.Frag) (a : Addr) : It :=
  ⟨fun i H => ∃ (xs : List V) (x : V), SqT K H a xs ∧ xs[i]? = some x, fun i H v H' => ∃ T x, v = .ref T ∧ H T = none ∧ H' = upd H T (.tup [.int (i : Nat), x]) ∧ ∀ xs, SqT K H a xs → xs[i]? = some x, fun i H => ∃ xs : List V, SqT K H a xs ∧ xs.length = i⟩
theorem turn_enumT {P : Program} {w : World} {K : PySem.W.Frag} {elts : List Expr} {kk : Nat} {tpos : Pos} (a e it : Addr) :
    Turn P w K (.Tuple elts kk tpos) (IteT K a) [e, it] e (fun i h => (∃ old, IsEnum h e it ((i : Nat) : Int) old) ∧ h.IsTupleIter it a i ∧ e ≠ it ∧ a ≠ it ∧ a ≠ e) where
  mem := by simp
  obj := fun i h st b hb => by
    obtain ⟨⟨old, he⟩, ⟨o, ho, hc, hd⟩, _⟩ := st
    have e' : b = e ∨ b = it := by simpa using hb
    rcases e' with z | z
    · rw [z]; exact ⟨_, he, fun v q => nomatch q⟩
    · rw [z]; exact ⟨o, ho, fun v q => by rw [hd] at q; cases q⟩
  keep := fun i h h' st k => let ⟨⟨old, he⟩, hi, hne⟩ := st; ⟨⟨old, k e (by simp) _ he⟩, hi.at fun o q => k it (by simp) o q, hne⟩
  item := by
    intro X hP hw hK hc i pins s σ H E I hf st hg
    subst hP hw hK
    obtain ⟨⟨old, he⟩, hit, hne, hai, hae⟩ := st
    obtain ⟨xs, x, hq, hx⟩ := hg
    obtain ⟨its, rv, p, hz⟩ := I.tuple hq
    obtain ⟨u, hu, ru⟩ := rv.get hx
    have hel : e < s.heap.objs.size := Heap.lt_size he
    have hil : it < s.heap.objs.size := by obtain ⟨_, q, _⟩ := hit; exact Heap.lt_size q
    have p' : s.heap.IsTuple a its.toArray := p
    have hlt : i < its.toArray.size := by
      have := (List.getElem?_eq_some_iff.mp hu).1
      simpa using this
    have hin : X.A.in1.handled = none := I.ok.hd hc
    refine wpAny_pyNext_enum_itemD (Draws.tuple (prog := X.prog) (w := X.w) hin it a hai its.toArray) he ⟨hit, p'⟩ hlt hne (by simp [hne, Ne.symm hae]) fun u' h' tk hu' ho hst hT hsz hk => ?_
    have eu : u' = u := by
      have : its.toArray[i]? = some u := by simpa using hu
      exact Option.some.inj (hu'.symm.trans this)
    subst eu
    refine ⟨_, rfl, wpAny_letOwnedTupleGo_enum (s := { s with heap := h', toks := tk + 1 }) ho fun h'' he' sb => ?_⟩
    have hT2 : h''.get? s.heap.objs.size = some { cls := .type "tuple", data := .seq #[.int i tk, u'] } := (sb.2 _ (Nat.ne_of_gt hel)).trans hT
    have new : ObjOk X.prog X.w (upd H s.heap.objs.size (.tup [.int (i : Nat), x])) h'' s.heap.objs.size (.tup [.int (i : Nat), x]) :=
      ⟨by show 2 ≤ sizeLine; decide, [.int i tk, u'], .cons ⟨_, rfl⟩ (.cons ru .nil), ⟨_, hT2, rfl, _, rfl⟩⟩
    have I1 : Inv X pins σ (upd H s.heap.objs.size (.tup [.int (i : Nat), x])) { s with heap := h'', toks := tk + 1 } :=
      I.turnedNew (ch := [e, it]) (fun b ob hb q => (sb.2 b (fun z => hb (by simp [z]))).trans (hk b ob (fun z => hb (by simp [z])) (fun z => hb (by simp [z])) q)) hf (Nat.le_refl _) new
    refine ⟨.ref s.heap.objs.size, _, I1, rfl, ⟨_, x, rfl, I.hok.fresh (Nat.le_refl _), rfl, fun ys hy => by rw [I.tuple_inj hy hq]; exact hx⟩, ⟨⟨u', ?_⟩, hst.1.at fun o q => (sb.2 it (Ne.symm hne)).trans q, hne, hai, hae⟩, fun b hb => ?_⟩
    · have e1 : ((i + 1 : Nat) : Int) = (i : Int) + 1 := by omega
      rw [e1]; exact he'
    · have hb' : b < s.heap.objs.size := by
        have e' : b = e ∨ b = it := by simpa using hb
        rcases e' with z | z
        · rw [z]; exact hel
        · rw [z]; exact hil
      rw [upd_ne (Nat.ne_of_lt hb')]
      exact (hf b hb).1
  done := by
    intro X hP hw hK hc i pins s σ H E I hf st hg
    subst hP hw hK
    obtain ⟨⟨old, he⟩, hit, hne, hai, hae⟩ := st
    obtain ⟨xs, hq, hx⟩ := hg
    obtain ⟨its, rv, p, hz⟩ := I.tuple hq
    obtain ⟨f0, f1, f2, f3, f4, f5⟩ := hf it (by simp)
    have hl := rv.length
    have p' : s.heap.IsTuple a its.toArray := p
    have hin : X.A.in1.handled = none := I.ok.hd hc
    have ei : i = its.toArray.size := by simp; omega
    refine wpAny_pyNext_enum_endD (Draws.tuple (prog := X.prog) (w := X.w) hin it a hai its.toArray) he (by rw [← ei]; exact ⟨hit, p'⟩) fun h' eb => ⟨rfl, I.turned (t' := s.toks) (fun b o hb q => eb b o hb q) f0 f1 f3 f4 f5⟩
  self := fun A i s Q E st h => let ⟨⟨_, he⟩, _⟩ := st; wpAny_pyIter_enum he h
def iEnumT (K : PySem.W.Frag) (ta : TA) : TI := fun σ H R => ta σ H fun vs H1 => ∃ a xs, vs = [.ref a] ∧ SqT K H1 a xs ∧ R (IteT K a) H1
theorem pi_enumT {X : Cx} {e : Expr} {ta : TA} {p pos tpos : Pos} {elts : List Expr} {kk : Nat} (hg : Gl X "enumerate") (hm : X.mg "enumerate" = none) (ha : PA X [e] ta) (hs : starEach [e] X.env = [(false, eval e X.env)] := by rfl) :
    PI X (.Tuple elts kk tpos) (.Call (.Name "enumerate" p) [e] [] pos) (iEnumT X.K ta) := by
  refine ⟨fun pins s σ H R I h => ?_⟩
  refine Call_ (ld_blt I hg hm boot_enumerate (PyProof.Rows.callWith_type1 (thn (ha.run pos pins s σ H _ I h) fun us s1 ⟨vs, H1, I1, r1, q1⟩ => ?_) hs rfl))
  obtain ⟨a, xs, ex, hq, q⟩ := q1
  subst ex
  cases r1 with
  | cons r rr =>
    cases rr
    cases r
    obtain ⟨its, rv, p', hz⟩ := I1.tuple hq
    have p2 : s1.heap.IsTuple a its.toArray := p'
    have ha : a < s1.heap.objs.size := by obtain ⟨_, q, _⟩ := p2; exact Heap.lt_size q
    refine call_enumB (begins_tuple a its.toArray) p2 fun h' he hit hsz hk => wpAny_pyIter_enum he ?_
    have I2 : Inv X pins σ H1 { s1 with heap := h' } := I1.kept (t' := s1.toks) hk
    refine ⟨s1.heap.objs.size + 1, [s1.heap.objs.size + 1, s1.heap.objs.size], _, _, H1, rfl, I2, turn_enumT a (s1.heap.objs.size + 1) s1.heap.objs.size, ⟨⟨.none, he⟩, ⟨_, hit, rfl, rfl⟩, Nat.succ_ne_self _, Nat.ne_of_lt ha, Nat.ne_of_lt (Nat.lt_succ_of_lt ha)⟩, fun b hb => ?_, q⟩
    have e' : b = s1.heap.objs.size + 1 ∨ b = s1.heap.objs.size := by simpa using hb
    have hle : s1.heap.objs.size ≤ b := by
      rcases e' with z | z
      · rw [z]; exact Nat.le_add_right _ _
      · rw [z]; exact Nat.le_refl _
    exact I1.fpOk hle (I1.hok.fresh hle)
theorem walk_enumT {K : PySem.W.Frag} {a : Addr} {xs : List V} : Walk (IteT K a) xs.length (fun H => H a = some (.tup xs)) (YPair (fun i => some (.int (i : Nat))) (fun i => xs[i]?)) :=
  ⟨fun i H hi h => ⟨xs, xs[i], SqT.of h, by simp [hi]⟩, fun H h => ⟨xs, SqT.of h, rfl⟩, fun i H v H' hi h ⟨T, x, e1, e2, e3, e4⟩ => ⟨T, _, x, e1, e2, e3, rfl, e4 xs (SqT.of h)⟩⟩
end PdE
namespace Pd
open PySem PySem.Spec PyProof.Rows L2 PdE
theorem i_enumT {X : Cx} {ρ : List Sl} {e : Expr} {pos p : Pos} {ds : List PyData} {elts : List Expr} {kk : Nat} {tpos : Pos} (hm : X.mg "enumerate" = none) (h : XV X e ρ (.tuple ds)) (hg : Gl X "enumerate" := by rfl) (hs : starEach [e] X.env = [(false, eval e X.env)] := by rfl) :
    IX X (.Tuple elts kk tpos) (.Call (.Name "enumerate" p) [e] [] pos) ρ (enums ds) :=
  PI.imp (pi_enumT hg hm (a_cons h a_nil (by rw [hs]; rfl)) hs) fun σ H R ⟨W, O, g, k⟩ => ⟨W, O, g, fun es vs H' hd g' e' i' => by
    subst hd
    cases i' with
    | cons h1 h2 =>
      cases h2
      cases h1 with
      | @tup q xs _ n1 e1 r1 =>
        refine ⟨q, xs, rfl, SqT.of e1, k _ H' g' e' ?_⟩
        rw [enums_length, ← r1.length]
        refine (walk_enumT (K := X.K) (a := q) (xs := xs)).mono (fun H1 ex => ex q _ n1 nt_tup e1) fun i H1 x H2 hi ex ⟨T, x1, x2, hv, hT, hH, hx1, hx2⟩ => ?_
        subst hv hH
        obtain ⟨d, hd, is⟩ := r1.getV hx2
        cases hx1
        refine ⟨Ext.new hT, _, enums_get hd, fun O' al hn => Is.newT al hT (.cons (.int _) (.cons (yd_item is ex O' al hn) .nil))⟩⟩
end Pd
set_option Elab.async false
set_option linter.all false
set_option maxRecDepth 100000
set_option maxHeartbeats 1000000
namespace Pd
open PySem PySem.Spec PyProof.Rows L2
/-! ### comprehensions -/
def wipeS (ρ : List Sl) : List Nat → List Sl
  | [] => ρ
  | v :: vs => (wipeS ρ vs).set v .no
theorem wipe_get (σ : L2.St) (i : Nat) : ∀ vs : List Nat, (wipe σ vs)[i]? = if i ∈ vs ∧ i < σ.length then some none else σ[i]?
  | [] => by simp [wipe]
  | v :: vs => by
    unfold wipe
    by_cases hv : v = i
    · subst hv
      by_cases hl : v < σ.length
      · rw [List.getElem?_set_self (by rw [wipe_length]; exact hl)]
        simp [hl]
      · rw [List.getElem?_eq_none (by rw [List.length_set, wipe_length]; omega)]
        simp [hl]
    · rw [List.getElem?_set_ne hv, wipe_get σ i vs]
      have : i ≠ v := fun z => hv z.symm
      simp [this]
theorem wipeS_len (ρ : List Sl) : ∀ vs : List Nat, (wipeS ρ vs).length = ρ.length
  | [] => rfl
  | v :: vs => by unfold wipeS; rw [List.length_set, wipeS_len ρ vs]
theorem wipeS_get (ρ : List Sl) (i : Nat) : ∀ vs : List Nat, (wipeS ρ vs)[i]? = if i ∈ vs ∧ i < ρ.length then some .no else ρ[i]?
  | [] => by simp [wipeS]
  | v :: vs => by
    unfold wipeS
    by_cases hv : v = i
    · subst hv
      by_cases hl : v < ρ.length
      · rw [List.getElem?_set_self (by rw [wipeS_len]; exact hl)]
        simp [hl]
      · rw [List.getElem?_eq_none (by rw [List.length_set, wipeS_len]; omega)]
        simp [hl]
    · rw [List.getElem?_set_ne hv, wipeS_get ρ i vs]
      have : i ≠ v := fun z => hv z.symm
      simp [this]
theorem wipe_set {σ : L2.St} {vs : List Nat} {j : Nat} {x : Option V} (hj : j ∈ vs) : wipe (σ.set j x) vs = wipe σ vs := by
  apply List.ext_getElem?
  intro i
  rw [wipe_get, wipe_get, List.length_set]
  by_cases hi : i ∈ vs ∧ i < σ.length
  · rw [if_pos hi, if_pos hi]
  · rw [if_neg hi, if_neg hi]
    by_cases hij : j = i
    · subst hij
      have : ¬ j < σ.length := fun z => hi ⟨hj, z⟩
      rw [List.getElem?_eq_none (by rw [List.length_set]; omega), List.getElem?_eq_none (by omega)]
    · rw [List.getElem?_set_ne hij]
theorem wipe_wipe (σ : L2.St) (vs : List Nat) : wipe (wipe σ vs) vs = wipe σ vs := by
  apply List.ext_getElem?
  intro i
  rw [wipe_get (wipe σ vs), wipe_length]
  by_cases hi : i ∈ vs ∧ i < σ.length
  · rw [if_pos hi, wipe_get, if_pos hi]
  · rw [if_neg hi]
section
variable {W : Fm} {O : Addr → Prop} {σ : L2.St} {H H' : Hp} {ρ : List Sl}
theorem dx_wipe {vs : List Nat} (hn : ∀ v ∈ vs, nd ρ v = true) {a : Addr} (hl : σ.length = ρ.length) : Dx (wipe σ vs) (wipeS ρ vs) a ↔ Dx σ ρ a := by
  constructor
  · rintro ⟨j, h1, h2⟩
    rw [wipe_get] at h1
    rw [wipeS_get] at h2
    split at h2
    · cases h2
    · rename_i hj
      rw [if_neg (by rw [hl]; exact hj)] at h1
      exact ⟨j, h1, h2⟩
  · rintro ⟨j, h1, h2⟩
    have hj : ¬ (j ∈ vs ∧ j < ρ.length) := fun z => nd_of (hn j z.1) h2
    refine ⟨j, ?_, ?_⟩
    · rw [wipe_get, if_neg (by rw [hl]; exact hj)]; exact h1
    · rw [wipeS_get, if_neg hj]; exact h2
theorem Gd.wiped (g : Gd W O σ H ρ) {vs : List Nat} (hn : ∀ v ∈ vs, nd ρ v = true) : Gd W O (wipe σ vs) H (wipeS ρ vs) := by
  refine ⟨by rw [wipe_length, wipeS_len]; exact g.len, fun j x s h1 h2 => ?_, fun i j p s t hij h1 h2 h3 h4 h5 h6 => ?_, g.al, g.sup, g.ext, fun a ha => (dx_wipe hn g.len).mpr (g.dc a ha), g.kp, g.nw, g.tb⟩
  · rw [wipe_get] at h1
    rw [wipeS_get] at h2
    split at h2
    · cases h2; trivial
    · rename_i hj
      rw [if_neg (by rw [g.len]; exact hj)] at h1
      exact g.sl j x s h1 h2
  · have back : ∀ (l : Nat) (t : Sl) (q : Addr), (wipe σ vs)[l]? = some (some (V.ref q)) → (wipeS ρ vs)[l]? = some t → t.mut = true → σ[l]? = some (some (V.ref q)) ∧ ρ[l]? = some t := fun l t q h1 h2 h3 => by
      rw [wipe_get] at h1
      rw [wipeS_get] at h2
      split at h2
      · cases h2; cases h3
      · rename_i hj
        rw [if_neg (by rw [g.len]; exact hj)] at h1
        exact ⟨h1, h2⟩
    obtain ⟨a1, a2⟩ := back i s p h1 h3 h5
    obtain ⟨b1, b2⟩ := back j t p h2 h4 h6
    exact g.uq i j p s t hij a1 b1 a2 b2 h5 h6
/-- one more is owned: it was new; the dice may have turned -/
theorem Gd.own2 (g : Gd W O σ H ρ) {p : Addr} (hp : H p = none) (e : ExD σ ρ H H') (hx : ∀ a o, W.H0 a = some o → ¬ W.M a → H' a = some o) (ht : LamX.Tabs W.T H') (hd : ∀ (j : Nat) (p : Addr), σ[j]? = some (some (.ref p)) → ρ[j]? = some .dice → ∃ c k, H' p = some (.lst [.int c, .int k])) (hp' : ∃ o, H' p = some o ∧ Pd.nw o) : Gd W (fun a => O a ∨ a = p) σ H' ρ := by
  have g' := g.via e hx ht hd
  have hn : ∀ a, (O a ∨ a = p) → O a ∨ bl H a := fun a h => h.imp id fun e => by rw [e]; exact bl_none hp
  have ex : Ex O H H' := g.exO e
  refine ⟨g.len, fun i x s h1 h2 => ?_, g.uq, fun a ha => ?_, fun a h => .inl (g.sup a h), g'.ext, g.dc, g'.kp, fun a h => ?_, ht⟩
  · have old := g.sl i x s h1 h2
    have new := g'.sl i x s h1 h2
    cases s with
    | no => trivial
    | raw v => exact old
    | tab T => exact old
    | val d => obtain ⟨v, e1, e2⟩ := old; exact ⟨v, e1, e2.more hn ex⟩
    | fz u => obtain ⟨q, e1, e2, e3, e4⟩ := old; exact ⟨q, e1, fun z => (hn q z).elim e2 (fun y => y (u q) e3 e4), ex q (u q) e2 e4 e3, e4⟩
    | own ds =>
      obtain ⟨q, xs, e1, e2, e3, e4, e5, e6⟩ := old
      obtain ⟨q', xs', e1', _, _, _, e5', _⟩ := new
      subst e1
      cases e1'
      have hx : ¬ Dx σ ρ q := fun ⟨l, l1, l2⟩ => by
        by_cases hil : i = l
        · subst hil; rw [h2] at l2; cases l2
        · exact g.uq i l q _ _ hil h1 l1 h2 l2 rfl rfl
      exact ⟨q, xs, rfl, .inl e2, e3, e4, e q _ hx nt_lst e5, e6.more hn ex⟩
    | xl ds =>
      obtain ⟨q, xs, e1, e2, e3, e4, e5, e6⟩ := old
      obtain ⟨q', xs', e1', _, _, _, e5', _⟩ := new
      subst e1
      cases e1'
      have hx : ¬ Dx σ ρ q := fun ⟨l, l1, l2⟩ => by
        by_cases hil : i = l
        · subst hil; rw [h2] at l2; cases l2
        · exact g.uq i l q _ _ hil h1 l1 h2 l2 rfl rfl
      exact ⟨q, xs, rfl, .inl e2, e3, e4, e q _ hx nt_lst e5, e6.more hn ex⟩
    | gn G gm gc =>
      obtain ⟨q, xs, e1, e2, e3, e4, e5, e6⟩ := old
      obtain ⟨q', xs', e1', _, _, _, e5', _⟩ := new
      subst e1
      cases e1'
      have hx : ¬ Dx σ ρ q := fun ⟨l, l1, l2⟩ => by
        by_cases hil : i = l
        · subst hil; rw [h2] at l2; cases l2
        · exact g.uq i l q _ _ hil h1 l1 h2 l2 rfl rfl
      exact ⟨q, xs, rfl, .inl e2, e3, e4, e q _ hx (G.kd e6).nt e5, G.more hn ex e6⟩
    | dice => obtain ⟨q, c, k, e1, e2, e3, e4⟩ := new; exact ⟨q, c, k, e1, .inl e2, e3, e4⟩
    | dct kvs =>
      obtain ⟨q, ws, e1, e2, e3, e4, e5, e6, e7⟩ := old
      subst e1
      have hx : ¬ Dx σ ρ q := fun ⟨l, l1, l2⟩ => by
        by_cases hil : i = l
        · subst hil; rw [h2] at l2; cases l2
        · exact g.uq i l q _ _ hil h1 l1 h2 l2 rfl rfl
      exact ⟨q, ws, rfl, .inl e2, e3, e4, e q _ hx nt_dT e5, e6, e7.more hn ex⟩
  · rcases ha with ha | ha
    · exact g'.al a ha
    · rw [ha]; exact hp'
  · rcases h with h | h
    · exact g.nw a h
    · rw [h]; exact .inr (g.kbl (bl_none hp))
end
/-- what a target does, the slots vs being its own -/
structure TgW (g : TG) (vs : List Nat) (asg : PyData → List Sl → Option (List Sl)) : Prop where
  run : ∀ (W : Fm) (O : Addr → Prop) (v : V) (d : PyData) (σ : L2.St) (H : Hp) (ρ ρ' : List Sl) (Q : L2.St → Hp → Prop), Gd W O σ H ρ → Is O H v d → asg d ρ = some ρ' →
    (∀ σ', Gd W O σ' H ρ' → (∀ H1 H2, ExD σ' ρ' H1 H2 → ExD σ ρ H1 H2) → (∀ a, Dx σ ρ a → Dx σ' ρ' a) → wipe σ' vs = wipe σ vs → Q σ' H) → g v σ H Q
theorem tw1 (j : Nat) {vs : List Nat} (hj : j ∈ vs) : TgW (gName j) vs (asg1 j) := ⟨fun W O v d σ H ρ ρ' Q g is h k => by
  unfold asg1 at h
  split at h
  · rename_i hn
    cases h
    exact k _ (g.set (s := .val d) ⟨v, rfl, is⟩ (fun z => nomatch z) (nd_of hn)) (fun H1 H2 h => exd_set (nd_of hn) h (fun z => nomatch z)) (fun a h => h.set (nd_of hn)) (wipe_set hj)
  · cases h⟩
theorem tw2 (K : PySem.W.Frag) (i j : Nat) {vs : List Nat} (hi : i ∈ vs) (hj : j ∈ vs) : TgW (gTup K 2 (gCons (gName i) (gCons (gName j) gNil))) vs (asg2 i j) := ⟨fun W O v d σ H ρ ρ' Q g is h k => by
  unfold asg2 at h
  split at h
  · rename_i x y
    split at h
    · rename_i hn
      cases h
      cases is with
      | tup n e r =>
        cases r with
        | cons r1 r2 =>
          cases r2 with
          | cons r2 r3 =>
            cases r3
            refine ⟨_, _, rfl, SqT.of e, rfl, _, _, rfl, _, _, rfl, rfl, ?_⟩
            have g1 := g.set (i := i) (s := .val x) ⟨_, rfl, r1⟩ (fun z => nomatch z) (nd_of hn.1)
            have g2 := g1.set (i := j) (s := .val y) ⟨_, rfl, r2⟩ (fun z => nomatch z) (nd_of (nd_set hn.2))
            exact k _ g2 (fun H1 H2 h => exd_set (nd_of hn.1) (exd_set (nd_of (nd_set hn.2)) h (fun z => nomatch z)) (fun z => nomatch z)) (fun a h => (h.set (nd_of hn.1)).set (nd_of (nd_set hn.2))) (by rw [wipe_set hj, wipe_set hi])
    · cases h
  · cases h⟩
section
variable {X : Cx} {ρ : List Sl} {pos : Pos}
theorem take_step {α : Type} {L : List α} {i : Nat} {b : α} (h : L[i]? = some b) : L.take (i + 1) = L.take i ++ [b] := by
  rw [List.take_add_one, h]
  rfl
theorem lc_read {β : Type} {own : List (Str × Nat)} {g : TG} {asg : PyData → List Sl → Option (List Sl)} {enc : β → PyData} (L : List β) (c : β → Bool) (r : β → PyData) (ρ2 : β → List Sl)
    (hT : TgW g (own.map (·.2)) asg) (hnd : ∀ v ∈ own.map (·.2), nd ρ v = true) (ha : ∀ b, b ∈ L → asg (enc b) (wipeS ρ (own.map (·.2))) = some (ρ2 b)) (hl : L.length ≤ 40000) :
    ∀ σ H Q, tX ρ (fun z => z = .list ((L.filter c).map r)) σ H Q → tLc (tXI ρ (L.map enc)) g (fun σ H Q => ∃ b, b ∈ L ∧ tXT (ρ2 b) (fun z => z = c b) σ H Q) (fun σ H Q => ∃ b, (b ∈ L ∧ c b = true) ∧ tX (ρ2 b) (fun z => z = r b) σ H Q) (own.map (·.2)) σ H Q :=
    fun σ H Q ⟨W, O, gd, k⟩ => ⟨W, O, gd, fun J H1 gd1 ed1 w D hD => by
      have hO1 : ∀ a, (O a ∨ a = D) → O a ∨ bl H1 a := fun a h => h.imp id fun e => by rw [e]; exact bl_none hD
      have nOD : ¬ O D := gd1.al.fresh hD
      have nDx : ¬ Dx σ ρ D := fun z => nOD (gd1.dxO z)
      refine lc_it (g := g) (tt := fun σ H Q => ∃ b, b ∈ L ∧ tXT (ρ2 b) (fun z => z = c b) σ H Q) (te := fun σ H Q => ∃ b, (b ∈ L ∧ c b = true) ∧ tX (ρ2 b) (fun z => z = r b) σ H Q) w
        (fun i H' => ∃ acc, H' D = some (.lst acc) ∧ IsAll (fun a => O a ∨ a = D) H' acc (((L.take i).filter c).map r) ∧ ExD σ ρ H1 H' ∧ (∀ a o, W.H0 a = some o → ¬ W.M a → H' a = some o) ∧ LamX.Tabs W.T H' ∧ ∀ (j : Nat) (p : Addr), σ[j]? = some (some (.ref p)) → ρ[j]? = some .dice → ∃ c k, H' p = some (.lst [.int c, .int k]))
        ⟨[], upd_same, .nil, (Ext.new hD).exd, (gd1.ext' (Ext.new hD)).ext, (gd1.ext' (Ext.new hD)).tb, (gd1.ext' (Ext.new hD)).dices⟩ (fun i H' _ ⟨_, _, _, ed, _⟩ => gd1.exO ed) (fun i x H' H2 hi hP hY => ?_) fun H' ⟨acc, hacc, hall, ed, hxt, htb, hdc⟩ => ?_
      · obtain ⟨acc, hacc, hall, ed, hxt, htb, hdc⟩ := hP
        obtain ⟨e2, d, hd, is⟩ := hY
        rw [List.getElem?_map] at hd
        cases hb : L[i]? with
        | none => rw [hb] at hd; cases hd
        | some b =>
          rw [hb] at hd
          cases hd
          have hbL : b ∈ L := List.mem_of_getElem? hb
          have g1 : Gd W (fun a => O a ∨ a = D) σ H' ρ := gd1.own2 hD ed hxt htb hdc ⟨_, hacc, nw_lst⟩
          have is1 := is _ g1.al hO1
          rw [List.length_map] at hi
          have hlen : acc.length ≤ i := by
            rw [hall.length, List.length_map]
            exact Nat.le_trans (List.length_filter_le _ _) (by rw [List.length_take]; exact Nat.min_le_left _ _)
          refine hT.run W _ x (enc b) (wipe σ (own.map (·.2))) H2 (wipeS ρ (own.map (·.2))) (ρ2 b) _ ((g1.ext' e2).wiped hnd) is1 (ha b hbL) ?_
          intro σ2 g2 tr dxm hw
          refine ⟨by rw [hw, wipe_wipe], b, hbL, W, _, g2, fun bb H3 hbb g3 e3 => ?_⟩
          have hbb : bb = c b := hbb
          have tr' : ∀ {Ha Hb : Hp}, ExD σ2 (ρ2 b) Ha Hb → ExD σ ρ Ha Hb := fun {Ha Hb} z => fun a o n m h => tr Ha Hb z a o (fun q => n ((dx_wipe hnd gd.len).mp q)) m h
          have dxm' : ∀ a, Dx σ ρ a → Dx σ2 (ρ2 b) a := fun a h => dxm a ((dx_wipe hnd gd.len).mpr h)
          have dice3 : ∀ {Hx : Hp} (_ : Gd W (fun a => O a ∨ a = D) σ2 Hx (ρ2 b)) (j : Nat) (p : Addr), σ[j]? = some (some (.ref p)) → ρ[j]? = some .dice → ∃ c k, Hx p = some (.lst [.int c, .int k]) := fun {Hx} gx j p h1 h2 => by
            obtain ⟨l, l1, l2⟩ := dxm' p ⟨j, h1, h2⟩
            exact gx.dices l p l1 l2
          have ed3 : ExD σ ρ H' H3 := (Ext.exd e2).trans (tr' e3)
          cases hc : c b with
          | true =>
            rw [hbb, hc]
            refine (show if true = true then _ else _ from ?_)
            rw [if_pos rfl]
            refine ⟨b, ⟨hbL, hc⟩, W, _, g3, fun z y H4 hz g4 e4 i4 => ?_⟩
            have hz : z = r b := hz
            subst hz
            have ed4 : ExD σ ρ H' H4 := ed3.trans (tr' e4)
            have hD4 : H4 D = some (.lst acc) := ed4 D _ nDx nt_lst hacc
            refine ⟨acc, hD4, by rw [sizeLine_eq]; omega, acc ++ [y], upd_same, ?_, ?_, fun a u h1 h2 => ?_, tabs_upd g4.tb ⟨_, hD4, .inl ⟨_, rfl⟩⟩, fun j p h1 h2 => ?_⟩
            · rw [take_step hb, List.filter_append, List.map_append]
              have ef : List.filter c [b] = [b] := by rw [List.filter_cons, if_pos hc]; rfl
              rw [ef]
              have ex4 : Ex (fun a => O a ∨ a = D) H' H4 := g1.exO ed4
              refine ((hall.ex ex4).append (.cons i4 .nil)).ex fun a u n _ h => ?_
              rw [upd_ne (fun z => n (.inr z))]; exact h
            · exact fun a u n m h => by rw [upd_ne (ne_of_none h hD)]; exact (ed.trans ed4) a u n m h
            · rw [upd_ne (ne_of_none (gd1.ext a u h1 h2) hD)]; exact g4.ext a u h1 h2
            · obtain ⟨c', k', h⟩ := dice3 g4 j p h1 h2
              refine ⟨c', k', ?_⟩
              rw [upd_ne (fun z => nDx (by rw [← z]; exact ⟨j, h1, h2⟩))]; exact h
          | false =>
            rw [hbb, hc]
            refine (show if false = true then _ else _ from ?_)
            rw [if_neg Bool.false_ne_true]
            refine ⟨acc, ed3 D _ nDx nt_lst hacc, ?_, ed.trans ed3, g3.ext, g3.tb, dice3 g3⟩
            rw [take_step hb, List.filter_append]
            have ef : List.filter c [b] = [] := by rw [List.filter_cons, if_neg (by rw [hc]; exact Bool.false_ne_true)]; rfl
            rw [ef, List.append_nil]
            exact hall.ex (g1.exO ed3)
      · rw [List.length_map, List.take_length] at hall
        exact k _ (.ref D) H' rfl (gd1.via ed hxt htb hdc) (ed1.trans ed) (.lst nOD hacc (IsAll.imp (fun a o n _ h => ⟨fun z => n (.inl z), h⟩) _ _ hall))⟩
theorem X_lc {β : Type} {tg elt iter : Expr} {ifs : List Expr} {scope : Scope} {own : List (Str × Nat)} {g : TG} {asg : PyData → List Sl → Option (List Sl)} {enc : β → PyData} (L : List β) (c : β → Bool) (r : β → PyData) (ρ2 : β → List Sl)
    (hI : IX X tg iter ρ (L.map enc)) (hT : TgW g (own.map (·.2)) asg) (hnd : ∀ v ∈ own.map (·.2), nd ρ v = true) (ha : ∀ b, b ∈ L → asg (enc b) (wipeS ρ (own.map (·.2))) = some (ρ2 b)) (hl : L.length ≤ 40000)
    (hpe : ∀ {wi : TI} {tt : TT} {te : TE}, PI X tg iter wi → (∀ (s : Shared) (H : Hp) (C : Addr) (cl : List (Str × Addr)) (fp : List Addr), PTs (X.blk s H scope (compEnvC scope cl C X.env) fp) ifs tt) →
      (∀ (s : Shared) (H : Hp) (C : Addr) (cl : List (Str × Addr)) (fp : List Addr), PE (X.blk s H scope (compEnvC scope cl C X.env) fp) elt te) → PE X (.ListComp elt [⟨tg, iter, ifs, 0⟩] scope pos) (tLc wi g tt te (own.map (·.2))))
    (ht : ∀ b, b ∈ L → ∀ (s : Shared) (H : Hp) (C : Addr) (cl : List (Str × Addr)) (fp : List Addr), PTs (X.blk s H scope (compEnvC scope cl C X.env) fp) ifs (tXT (ρ2 b) fun z => z = c b))
    (he : ∀ b, b ∈ L → c b = true → ∀ (s : Shared) (H : Hp) (C : Addr) (cl : List (Str × Addr)) (fp : List Addr), PE (X.blk s H scope (compEnvC scope cl C X.env) fp) elt (tX (ρ2 b) fun z => z = r b)) :
    XV X (.ListComp elt [⟨tg, iter, ifs, 0⟩] scope pos) ρ (.list ((L.filter c).map r)) :=
  PE.imp (hpe (tt := fun σ H Q => ∃ b, b ∈ L ∧ tXT (ρ2 b) (fun z => z = c b) σ H Q) (te := fun σ H Q => ∃ b, (b ∈ L ∧ c b = true) ∧ tX (ρ2 b) (fun z => z = r b) σ H Q) hI (fun s H C cl fp => PTs.exi fun b hb => ht b hb s H C cl fp) (fun s H C cl fp => PE.exi fun b hb => he b hb.1 hb.2 s H C cl fp)) (lc_read (own := own) L c r ρ2 hT hnd ha hl)
/-- y = [..] -/
theorem S_lc {β : Type} {tg elt iter : Expr} {ifs : List Expr} {scope : Scope} {own : List (Str × Nat)} {g : TG} {asg : PyData → List Sl → Option (List Sl)} {enc : β → PyData} {y : Str} {py spos : Pos} {nx : List Sl → Prop} {rt : PyData → Prop} (m : Nat) (L : List β) (c : β → Bool) (r : β → PyData) (ρ2 : β → List Sl)
    (hI : IX X tg iter ρ (L.map enc)) (hT : TgW g (own.map (·.2)) asg) (hnd : ∀ v ∈ own.map (·.2), nd ρ v = true) (ha : ∀ b, b ∈ L → asg (enc b) (wipeS ρ (own.map (·.2))) = some (ρ2 b)) (hl : L.length ≤ 40000)
    (hps : ∀ {wi : TI} {tt : TT} {te : TE}, PI X tg iter wi → (∀ (s : Shared) (H : Hp) (C : Addr) (cl : List (Str × Addr)) (fp : List Addr), PTs (X.blk s H scope (compEnvC scope cl C X.env) fp) ifs tt) →
      (∀ (s : Shared) (H : Hp) (C : Addr) (cl : List (Str × Addr)) (fp : List Addr), PE (X.blk s H scope (compEnvC scope cl C X.env) fp) elt te) → PS X (.Assign [.Name y py] (.ListComp elt [⟨tg, iter, ifs, 0⟩] scope pos) spos) (tAsg (tLc wi g tt te (own.map (·.2))) (gName m)))
    (ht : ∀ b, b ∈ L → ∀ (s : Shared) (H : Hp) (C : Addr) (cl : List (Str × Addr)) (fp : List Addr), PTs (X.blk s H scope (compEnvC scope cl C X.env) fp) ifs (tXT (ρ2 b) fun z => z = c b))
    (he : ∀ b, b ∈ L → c b = true → ∀ (s : Shared) (H : Hp) (C : Addr) (cl : List (Str × Addr)) (fp : List Addr), PE (X.blk s H scope (compEnvC scope cl C X.env) fp) elt (tX (ρ2 b) fun z => z = r b))
    (hm : nd ρ m = true) (hx : nx (ρ.set m (.val (.list ((L.filter c).map r))))) : SX X (.Assign [.Name y py] (.ListComp elt [⟨tg, iter, ifs, 0⟩] scope pos) spos) ρ nx rt :=
  PS.imp (hps (tt := fun σ H Q => ∃ b, b ∈ L ∧ tXT (ρ2 b) (fun z => z = c b) σ H Q) (te := fun σ H Q => ∃ b, (b ∈ L ∧ c b = true) ∧ tX (ρ2 b) (fun z => z = r b) σ H Q) hI (fun s H C cl fp => PTs.exi fun b hb => ht b hb s H C cl fp) (fun s H C cl fp => PE.exi fun b hb => he b hb.1 hb.2 s H C cl fp))
    fun D σ H ⟨W, O, gd, k1, k2⟩ => lc_read (own := own) L c r ρ2 hT hnd ha hl σ H _ ⟨W, O, gd, fun d v H' hd g' e' i' => by
      subst hd
      exact k1 _ O _ H' hx (g'.set (s := .val _) ⟨v, rfl, i'⟩ (fun z => nomatch z) (nd_of hm))⟩
end
end Pd
set_option Elab.async false
set_option linter.all false
set_option maxRecDepth 100000
set_option maxHeartbeats 1000000
namespace Pd
open PySem PySem.Spec PyProof.Rows L2
/-! ### sum, max of a tuple of ints -/
section
variable {prog : Program} {w : World} {A : Around} {E : Value → Shared → Prop} {s : Shared} {l : Addr} {xs : Array (Int × Tok)}
theorem iter_intTup {Q : Value → Shared → Prop} (hl : s.heap.IsTuple l (intItems xs))
    (h : ∀ s₂ : Shared, s₂ = { s with heap := s.heap.push { cls := .type "tuple_iterator", data := .fields #[.ref l, .int 0 0] } } →
      (s₂.heap.IsTupleIter s.heap.objs.size l 0 ∧ s₂.heap.IsTuple l (intItems xs)) → (∀ b ∈ [s.heap.objs.size, l], b < s₂.heap.objs.size) → l ≠ s.heap.objs.size → Q (.ref s.heap.objs.size) s₂) :
    wpAny (model prog w) A (pyIter (.ref l)) Q E s := by
  have hlt : l < s.heap.objs.size := by obtain ⟨_, e, _⟩ := hl; exact Heap.lt_size e
  refine wpAny_pyIter_tuple hl (h _ rfl ⟨⟨_, Heap.get?_push_size _ rfl, rfl, rfl⟩, hl.push _⟩ (fun b hb => ?_) (Nat.ne_of_lt hlt))
  show b < (s.heap.push _).objs.size
  rw [Heap.size_push]
  rcases List.mem_cons.mp hb with rfl | hb
  · exact Nat.lt_succ_self _
  · rcases List.mem_cons.mp hb with rfl | hb
    · exact Nat.lt_succ_of_lt hlt
    · cases hb
theorem old_keptT {h' : Heap} (hk : ∀ b o, b ∉ [s.heap.objs.size] → (s.heap.push { cls := .type "tuple_iterator", data := .fields #[.ref l, .int 0 0] }).get? b = some o → h'.get? b = some o) :
    ∀ b o, s.heap.get? b = some o → h'.get? b = some o := fun b o e => by
  refine hk b o (fun hm => ?_) (Heap.get?_push_of_some _ e)
  rcases List.mem_cons.mp hm with e1 | hm
  · exact absurd (e1 ▸ Heap.lt_size e) (Nat.lt_irrefl _)
  · cases hm
theorem sum_intTup {Q : Value → Shared → Prop} (hh : A.handled = none) (hl : s.heap.IsTuple l (intItems xs))
    (h : ∀ h' tk t', (∀ b o, s.heap.get? b = some o → h'.get? b = some o) → Q (.int (preSum (numAt xs) xs.size) t') { s with heap := h', toks := tk }) :
    wpAny (model prog w) A (call (.builtin "sum") [.ref l]) Q E s := by
  refine call_sum_walkG (iter_intTup hl fun s₂ e st hfp hlI => ?_)
  subst e
  refine ⟨_, _, _, _, _, _, numAt xs, rfl, Walks.tuple (A := A.in1) hh _ l hlI (intItems xs), st, hfp, (fun _ _ => intItems_at), fun h' tk t' hk => ?_⟩
  have := h h' tk t' (old_keptT hk)
  simpa [intItems] using this
theorem max_intTup {Q : Value → Shared → Prop} (hh : A.handled = none) (hl : s.heap.IsTuple l (intItems xs)) (hne : 0 < xs.size)
    (h : ∀ v h' tk, (intItems xs)[argBest (fun i j => decide (numAt xs i > numAt xs j)) (xs.size - 1)]? = some v → (∀ b o, s.heap.get? b = some o → h'.get? b = some o) → Q v { s with heap := h', toks := tk }) :
    wpAny (model prog w) A (call (.builtin "max") [.ref l]) Q E s := by
  refine call_max_walk (iter_intTup hl fun s₂ e st hfp hlI => ?_)
  subst e
  refine ⟨_, _, _, _, _, _, _, rfl, Walks.tuple (A := A.in1) hh _ l hlI (intItems xs), st, hfp, by simpa [intItems] using hne, CmpOf.ints_gt (numAt xs) (fun _ _ => intItems_at), fun v h' tk hP hk => ?_⟩
  exact h v h' tk (by simpa [intItems] using hP) (old_keptT hk)
end
section
variable {X : Cx}
def rSumT (K : PySem.W.Frag) : List V → Hp → VK → Prop := fun vs H Q => ∃ (a : Addr) (ns : List Int), vs = [V.ref a] ∧ SqT K H a (ns.map V.int) ∧ Q (.int ns.sum) H
def rMaxT (K : PySem.W.Frag) : List V → Hp → VK → Prop := fun vs H Q => ∃ (a : Addr) (ns : List Int), vs = [V.ref a] ∧ SqT K H a (ns.map V.int) ∧ 0 < ns.length ∧ ∀ m, m ∈ ns → (∀ y, y ∈ ns → y ≤ m) → Q (.int m) H
theorem cr_sumT (hc : X.calm = true) : CallR X (.builtin "sum") (rSumT X.K) := by
  intro pins s σ H vs us Q I r h
  obtain ⟨a, ns, rfl, hs, q⟩ := h
  obtain ⟨its, rv, hl, _⟩ := I.tuple hs
  rw [Vals.ref1 r]
  have hi := rv.ints
  obtain ⟨xs, e⟩ := hi.allInts.items
  have hn : numsOf (intItems xs).toList = ns := by rw [← e]; exact hi.numsOf
  rw [nums_intItems] at hn
  have hl' : s.heap.IsTuple a its.toArray := hl
  rw [e] at hl'
  refine sum_intTup (I.ok.hd hc) hl' fun h' tk t' hk => ?_
  rw [preSum_eq, List.take_of_length_le (by simp), hn]
  exact ⟨.int _, H, I.kept hk, ⟨_, rfl⟩, q⟩
theorem cr_maxT (hc : X.calm = true) : CallR X (.builtin "max") (rMaxT X.K) := by
  intro pins s σ H vs us Q I r h
  obtain ⟨a, ns, rfl, hs, hne, q⟩ := h
  obtain ⟨its, rv, hl, _⟩ := I.tuple hs
  rw [Vals.ref1 r]
  have hi := rv.ints
  obtain ⟨xs, e⟩ := hi.allInts.items
  have hn : numsOf (intItems xs).toList = ns := by rw [← e]; exact hi.numsOf
  rw [nums_intItems] at hn
  subst hn
  have hl' : s.heap.IsTuple a its.toArray := hl
  rw [e] at hl'
  have hsz : 0 < xs.size := by simpa using hne
  refine max_intTup (I.ok.hd hc) hl' hsz fun v h' tk hv hk => ?_
  obtain ⟨t, rfl⟩ := intItems_at hv
  obtain ⟨h1, h2⟩ := argBest_gt (numAt xs) (xs.size - 1)
  refine ⟨.int _, H, I.kept hk, ⟨_, rfl⟩, q _ ?_ fun b hb => ?_⟩
  · rw [numAt_eq]; exact PySem.getD_mem (by rw [List.length_map, Array.length_toList]; omega)
  · obtain ⟨j, hj, rfl⟩ := mem_getD hb
    rw [List.length_map, Array.length_toList] at hj
    rw [← numAt_eq]; exact h2 j (by omega)
end
/-! ### rows, lists of ints -/
abbrev tI (ns : List Int) : PyData := .tuple (ns.map .int)
abbrev lI (ns : List Int) : PyData := .list (ns.map .int)
abbrev lB (bs : List Bool) : PyData := .list (bs.map .bool)
section
variable {K : PySem.W.Frag}
theorem rc_now {r : List V → Hp → VK → Prop} {ds : List PyData} {z : PyData} (h : ∀ O H vs, IsAll O H vs ds → ∃ v, Is O H v z ∧ ∀ Q : VK, Q v H → r vs H Q) : RCV r ds z := fun O H vs _ i Q k => by
  obtain ⟨v, i3, q⟩ := h O H vs i
  exact q Q (k z v H rfl (Ext.refl H) i3)
theorem IsAll.one {O : Addr → Prop} {H : Hp} {vs : List V} {d : PyData} (h : IsAll O H vs [d]) : ∃ v, vs = [v] ∧ Is O H v d := by
  cases h with
  | cons h1 h2 => cases h2; exact ⟨_, rfl, h1⟩
theorem IsAll.two {O : Addr → Prop} {H : Hp} {vs : List V} {d e : PyData} (h : IsAll O H vs [d, e]) : ∃ v w, vs = [v, w] ∧ Is O H v d ∧ Is O H w e := by
  cases h with
  | cons h1 h2 =>
    cases h2 with
    | cons h2 h3 => cases h3; exact ⟨_, _, rfl, h1, h2⟩
theorem Is.list {O : Addr → Prop} {H : Hp} {v : V} {ds : List PyData} (h : Is O H v (.list ds)) : ∃ p xs, v = .ref p ∧ ¬ O p ∧ H p = some (.lst xs) ∧ IsAll O H xs ds := by
  cases h with
  | lst n e r => exact ⟨_, _, rfl, n, e, r⟩
theorem Is.tuple {O : Addr → Prop} {H : Hp} {v : V} {ds : List PyData} (h : Is O H v (.tuple ds)) : ∃ p xs, v = .ref p ∧ ¬ O p ∧ H p = some (.tup xs) ∧ IsAll O H xs ds := by
  cases h with
  | tup n e r => exact ⟨_, _, rfl, n, e, r⟩
theorem rc_sumL {ns : List Int} : RCV (rSum K) [lI ns] (.int ns.sum) := rc_now fun O H vs h => by
  obtain ⟨v, rfl, hv⟩ := h.one
  obtain ⟨p, xs, rfl, _, e, r⟩ := hv.list
  have := r.ints
  subst this
  exact ⟨_, .int _, fun Q q => ⟨p, ns, rfl, SqL.of e, q⟩⟩
theorem rc_sumT {ns : List Int} : RCV (rSumT K) [tI ns] (.int ns.sum) := rc_now fun O H vs h => by
  obtain ⟨v, rfl, hv⟩ := h.one
  obtain ⟨p, xs, rfl, _, e, r⟩ := hv.tuple
  have := r.ints
  subst this
  exact ⟨_, .int _, fun Q q => ⟨p, ns, rfl, SqT.of e, q⟩⟩
theorem rc_maxT {ns : List Int} (h0 : ns ≠ []) : RC (rMaxT K) [tI ns] (fun z => ∃ m, m ∈ ns ∧ (∀ y, y ∈ ns → y ≤ m) ∧ z = .int m) := fun O H vs _ h Q k => by
  obtain ⟨v, rfl, hv⟩ := h.one
  obtain ⟨p, xs, rfl, _, e, r⟩ := hv.tuple
  have := r.ints
  subst this
  exact ⟨p, ns, rfl, SqT.of e, List.length_pos_iff.mpr h0, fun m h1 h2 => k _ _ H ⟨m, h1, h2, rfl⟩ (Ext.refl H) (.int m)⟩
theorem rc_minL {ns : List Int} (h0 : ns ≠ []) : RC (rMin K) [lI ns] (fun z => ∃ m, m ∈ ns ∧ (∀ y, y ∈ ns → m ≤ y) ∧ z = .int m) := fun O H vs _ h Q k => by
  obtain ⟨v, rfl, hv⟩ := h.one
  obtain ⟨p, xs, rfl, _, e, r⟩ := hv.list
  have := r.ints
  subst this
  exact ⟨p, ns, rfl, SqL.of e, List.length_pos_iff.mpr h0, fun m h1 h2 => k _ _ H ⟨m, h1, h2, rfl⟩ (Ext.refl H) (.int m)⟩
theorem rc_all {bs : List Bool} : RCV (rAll K) [lB bs] (.bool (bs.all id)) := rc_now fun O H vs h => by
  obtain ⟨v, rfl, hv⟩ := h.one
  obtain ⟨p, xs, rfl, _, e, r⟩ := hv.list
  have := r.bls
  subst this
  exact ⟨_, .bl _, fun Q q => ⟨p, bs, rfl, SqL.of e, q⟩⟩
theorem rc_any {bs : List Bool} : RCV (rAny K) [lB bs] (.bool (bs.any id)) := rc_now fun O H vs h => by
  obtain ⟨v, rfl, hv⟩ := h.one
  obtain ⟨p, xs, rfl, _, e, r⟩ := hv.list
  have := r.bls
  subst this
  exact ⟨_, .bl _, fun Q q => ⟨p, bs, rfl, SqL.of e, q⟩⟩
abbrev rLen (K : PySem.W.Frag) : List V → Hp → VK → Prop := fun xs H Q => ∃ p ys, xs = [.ref p] ∧ (SqL K H p ys ∨ SqT K H p ys) ∧ Q (.int ys.length) H
theorem rc_lenT {ds : List PyData} : RCV (rLen K) [.tuple ds] (.int (ds.length : Nat)) := rc_now fun O H vs h => by
  obtain ⟨v, rfl, hv⟩ := h.one
  obtain ⟨p, xs, rfl, _, e, r⟩ := hv.tuple
  exact ⟨_, .int _, fun Q q => ⟨p, xs, rfl, .inr (SqT.of e), by rw [r.length]; exact q⟩⟩
theorem rc_lenL {ds : List PyData} : RCV (rLen K) [.list ds] (.int (ds.length : Nat)) := rc_now fun O H vs h => by
  obtain ⟨v, rfl, hv⟩ := h.one
  obtain ⟨p, xs, rfl, _, e, r⟩ := hv.list
  exact ⟨_, .int _, fun Q q => ⟨p, xs, rfl, .inl (SqL.of e), by rw [r.length]; exact q⟩⟩
abbrev rTuple (K : PySem.W.Frag) : List V → Hp → VK → Prop := fun xs H Q => ∃ p ys, xs = [.ref p] ∧ ((SqL K H p ys ∧ ∀ l, H l = none → Q (.ref l) (upd H l (.tup ys))) ∨ (SqT K H p ys ∧ Q (.ref p) H))
theorem rc_tuple {ds : List PyData} : RCV (rTuple K) [.list ds] (.tuple ds) := fun O H vs al h Q k => by
  obtain ⟨v, rfl, hv⟩ := h.one
  obtain ⟨p, xs, rfl, _, e, r⟩ := hv.list
  exact ⟨p, xs, rfl, .inl ⟨SqL.of e, fun l hl => k _ _ _ rfl (Ext.new hl) (Is.newT al hl r)⟩⟩
abbrev rList (K : PySem.W.Frag) : List V → Hp → VK → Prop := fun xs H Q => ∃ p ys, xs = [.ref p] ∧ (SqL K H p ys ∨ SqT K H p ys) ∧ ∀ l, H l = none → Q (.ref l) (upd H l (.lst ys))
theorem rc_listT {ds : List PyData} : RCV (rList K) [.tuple ds] (.list ds) := fun O H vs al h Q k => by
  obtain ⟨v, rfl, hv⟩ := h.one
  obtain ⟨p, xs, rfl, _, e, r⟩ := hv.tuple
  exact ⟨p, xs, rfl, .inr (SqT.of e), fun l hl => k _ _ _ rfl (Ext.new hl) (Is.newL al hl r)⟩
theorem rc_listL {ds : List PyData} : RCV (rList K) [.list ds] (.list ds) := fun O H vs al h Q k => by
  obtain ⟨v, rfl, hv⟩ := h.one
  obtain ⟨p, xs, rfl, _, e, r⟩ := hv.list
  exact ⟨p, xs, rfl, .inl (SqL.of e), fun l hl => k _ _ _ rfl (Ext.new hl) (Is.newL al hl r)⟩
theorem rc_min2 {i j : Int} : RCV (fun xs H Q => ∃ i j, xs = [.int i, .int j] ∧ Q (.int (if j < i then j else i)) H) [.int i, .int j] (.int (if j < i then j else i)) := rc_now fun O H vs h => by
  obtain ⟨v, w, rfl, hv, hw⟩ := h.two
  cases hv; cases hw
  exact ⟨_, .int _, fun Q q => ⟨i, j, rfl, q⟩⟩
theorem rc_max2 {i j : Int} : RCV (fun xs H Q => ∃ i j, xs = [.int i, .int j] ∧ Q (.int (if j > i then j else i)) H) [.int i, .int j] (.int (if j > i then j else i)) := rc_now fun O H vs h => by
  obtain ⟨v, w, rfl, hv, hw⟩ := h.two
  cases hv; cases hw
  exact ⟨_, .int _, fun Q q => ⟨i, j, rfl, q⟩⟩
end
/-! ### isinstance -/
theorem kit_NoneType_int : kitB "NoneType" "int" = some false := by decide +kernel
theorem kit_bool_int : kitB "bool" "int" = some true := by decide +kernel
theorem kit_int_int : kitB "int" "int" = some true := by decide +kernel
theorem kit_str_int : kitB "str" "int" = some false := by decide +kernel
theorem kit_list_int : kitB "list" "int" = some false := by decide +kernel
theorem kit_tuple_int : kitB "tuple" "int" = some false := by decide +kernel
theorem kit_dict_int : kitB "dict" "int" = some false := by decide +kernel
theorem kit_NoneType_bool : kitB "NoneType" "bool" = some false := by decide +kernel
theorem kit_bool_bool : kitB "bool" "bool" = some true := by decide +kernel
theorem kit_int_bool : kitB "int" "bool" = some false := by decide +kernel
theorem kit_str_bool : kitB "str" "bool" = some false := by decide +kernel
theorem kit_list_bool : kitB "list" "bool" = some false := by decide +kernel
theorem kit_tuple_bool : kitB "tuple" "bool" = some false := by decide +kernel
theorem kit_dict_bool : kitB "dict" "bool" = some false := by decide +kernel
theorem kit_NoneType_tuple : kitB "NoneType" "tuple" = some false := by decide +kernel
theorem kit_bool_tuple : kitB "bool" "tuple" = some false := by decide +kernel
theorem kit_int_tuple : kitB "int" "tuple" = some false := by decide +kernel
theorem kit_str_tuple : kitB "str" "tuple" = some false := by decide +kernel
theorem kit_list_tuple : kitB "list" "tuple" = some false := by decide +kernel
theorem kit_tuple_tuple : kitB "tuple" "tuple" = some true := by decide +kernel
theorem kit_dict_tuple : kitB "dict" "tuple" = some false := by decide +kernel
theorem kit_NoneType_str : kitB "NoneType" "str" = some false := by decide +kernel
theorem kit_bool_str : kitB "bool" "str" = some false := by decide +kernel
theorem kit_int_str : kitB "int" "str" = some false := by decide +kernel
theorem kit_str_str : kitB "str" "str" = some true := by decide +kernel
theorem kit_list_str : kitB "list" "str" = some false := by decide +kernel
theorem kit_tuple_str : kitB "tuple" "str" = some false := by decide +kernel
theorem kit_dict_str : kitB "dict" "str" = some false := by decide +kernel
theorem kit_NoneType_list : kitB "NoneType" "list" = some false := by decide +kernel
theorem kit_bool_list : kitB "bool" "list" = some false := by decide +kernel
theorem kit_int_list : kitB "int" "list" = some false := by decide +kernel
theorem kit_str_list : kitB "str" "list" = some false := by decide +kernel
theorem kit_list_list : kitB "list" "list" = some true := by decide +kernel
theorem kit_tuple_list : kitB "tuple" "list" = some false := by decide +kernel
theorem kit_dict_list : kitB "dict" "list" = some false := by decide +kernel
def tyD : PyData → String
  | .none => "NoneType" | .bool _ => "bool" | .int _ => "int" | .str _ => "str" | .list _ => "list" | .tuple _ => "tuple" | .dict _ => "dict"
/-- the types, with dicts that stand still -/
def TyY (K : PySem.W.Frag) (H : Hp) (v : V) (t : Value) : Prop := TyX K H v t ∨ ∃ a od ws, v = .ref a ∧ H a = some (.frz od (.dT ws)) ∧ t = .type "dict"
def rIsiY (K : PySem.W.Frag) : List V → Hp → VK → Prop := fun xs H Q => ∃ (x c : V) (t u : Value) (b : Bool), xs = [x, c] ∧ ClsV c u ∧ TyY K H x t ∧ PySem.W.kitOne K t u = some b ∧ Q (.bl b) H
theorem call_isiY {X : Cx} : CallR X (.builtin "isinstance") (rIsiY X.K) := by
  intro pins s σ H xs us Q I r h
  obtain ⟨x, c, t, u, b, rfl, k, ty, e, q⟩ := h
  obtain ⟨u1, u2, rfl, r1, r2⟩ := vals2 r
  have e2 := k.eq r2
  subst e2
  rcases ty with ty | ⟨a, od, ws, rfl, ea, rfl⟩
  · obtain ⟨P, Z, p, hx⟩ := kit_of I r1 ty
    exact PySem.W.kia_one Z I.kIn p e hx fun tk => ⟨.bl b, H, I.tok tk, rfl, q⟩
  · cases (show u1 = Value.ref a from r1)
    obtain ⟨_, _, _, vs, _, o, es, ep, h1, h2, _⟩ := (show ObjOk X.prog X.w H s.heap a (.frz od (.dT ws)) from I.hok a _ ea)
    exact PySem.W.kia_one PySem.W.kitx_dict I.kIn ⟨o, h1, h2.1⟩ e (fun z => nomatch z) fun tk => ⟨.bl b, H, I.tok tk, rfl, q⟩
theorem Is.ty {O : Addr → Prop} {H : Hp} {K : PySem.W.Frag} {v : V} {d : PyData} (h : Is O H v d) : TyY K H v (.type (tyD d)) := by
  cases h with
  | non => exact .inl (.base .non)
  | bl b => exact .inl (.base (.bl b))
  | int i => exact .inl (.base (.int i))
  | str x => exact .inl (.base (.str x))
  | lst n e r => exact .inl (.base (.lst e))
  | tup n e r => exact .inl (.base (.tup e))
  | dct kvs n e h1 h2 r => exact .inr ⟨_, _, _, rfl, e, rfl⟩
section
variable {X : Cx} {ρ : List Sl} {φ χ : PyData → Prop} {a e : Expr} {es : List Expr} {pos : Pos} {d : PyData}
theorem x_isi (T : String) {y : Str} {p p2 : Pos} {b : Bool} (hm : X.mg "isinstance" = none) (hm2 : X.mg y = none) (h : XV X e ρ d) (hk : kitB (tyD d) T = some b) (hv2 : bootBuiltins y = some (.type T) := by decide +kernel) (hg : Gl X "isinstance" := by rfl) (hg2 : Gl X y := by rfl)
    (hn2 : y ≠ "__name__" := by decide) (hd2 : (y == ("__debug__" : Str)) = false := by decide) (hs1 : starEach [e, .Name y p2] X.env = (false, eval e X.env) :: starEach [.Name y p2] X.env := by rfl) (hs2 : starEach [.Name y p2] X.env = (false, eval (.Name y p2) X.env) :: starEach [] X.env := by rfl)
    (hpl : (backTo pos (starEach [.Name y p2] X.env)).any (·.1) = false := by rfl) :
    XV X (.Call (.Name "isinstance" p) [e, .Name y p2] [] pos) ρ (.bool b) :=
  PE.imp (pe_callB call_isiY hg hm (by decide +kernel) (pa_cons h (pa_cons (pe_bltn (v := .ty T) hg2 hm2 hv2 rfl hn2 hd2) pa_nil hs2) hs1) (by decide) (by decide) hs1 hpl) fun σ H Q ⟨W, O, g, k⟩ => ⟨W, O, g, fun d' v H1 hd g1 e1 i1 => by
    subst hd
    exact ⟨v, .ty T, .type (tyD d'), .type T, b, rfl, .ty T, i1.ty, kit_ty hk, k _ _ H1 rfl g1 e1 (.bl b)⟩⟩
end
end Pd
set_option Elab.async false
set_option linter.all false
set_option maxRecDepth 100000
set_option maxHeartbeats 1000000
namespace Pd
open PySem PySem.Spec PyProof.Rows L2
/-- a def of the text, its promise kept -/
def Df (P : Program) (w : World) (K : PySem.W.Frag) (mg : Str → Option Value) (base : Heap) (k : Nat) (x : Str) (ps : List Str) (sp : Sp) : Prop := ∃ f fd, Has K mg x f fd ps ∧ FnOk P w K mg base CX0 k f fd ps sp
/-- a def stands in the text -/
def Tx (K : PySem.W.Frag) (mg : Str → Option Value) (x : Str) (st : Stmt) (ps : List Str) : Prop := ∃ f fd, Fun K x x st f fd ∧ Has K mg x f fd ps
section
variable {P : Program} {w : World} {K : PySem.W.Frag} {mg : Str → Option Value} {base : Heap}
theorem Df.mk {α : Type} {args : α → List PyData} {pre : α → Prop} {post : α → PyData → Prop} {x : Str} {st : Stmt} {N ps : List Str} {k : Nat} (T : Tx K mg x st ps) (S : FnScope N ps (defScope st)) (len : ∀ a, (args a).length = ps.length)
    (body : ∀ (a : α), pre a → ∀ (f : Addr) (cdv : Value) (A : Around) (outer : List Env) (s : Shared) (H : Hp) (E : XK), Room k (A.deeper (envOfC x (defScope st) s.heap.objs.size f cdv)) →
      SXs (cxOf CX0 P w K mg base N x (defScope st) f cdv A outer s H E).nox (defBody st) ((args a).map .val ++ List.replicate (N.length - ps.length) .no) (fun _ => post a .none) (post a)) : Df P w K mg base (k + 1) x ps (spF args pre post) := by
  obtain ⟨f, fd, F, h⟩ := T
  exact ⟨f, fd, h, fnP F S len fun a hp cdv A outer s H E hr => body a hp f cdv A outer s H E hr⟩
theorem Df.mkD {α : Type} {args : α → List PyData} {pre : α → Prop} {post : α → PyData → Prop} {x : Str} {st : Stmt} {N ps : List Str} {k : Nat} (T : Tx K mg x st ps) (S : FnScope N ps (defScope st)) (len : ∀ a, (args a).length + 1 = ps.length)
    (body : ∀ (a : α), pre a → ∀ (f : Addr) (cdv : Value) (A : Around) (outer : List Env) (s : Shared) (H : Hp) (E : XK), Room k (A.deeper (envOfC x (defScope st) s.heap.objs.size f cdv)) →
      SXs (cxOf CX0 P w K mg base N x (defScope st) f cdv A outer s H E).nox (defBody st) (.dice :: ((args a).map .val ++ List.replicate (N.length - ps.length) .no)) (fun _ => post a .none) (post a)) : Df P w K mg base (k + 1) x ps (spD args pre post) := by
  obtain ⟨f, fd, F, h⟩ := T
  exact ⟨f, fd, h, fnD F S len fun a hp cdv A outer s H E hr => body a hp f cdv A outer s H E hr⟩
end
section
variable {X : Cx} {ρ : List Sl} {φ χ : PyData → Prop} {a e : Expr} {es : List Expr} {pos : Pos} {d : PyData}
theorem X_f {α : Type} {args : α → List PyData} {pre : α → Prop} {post : α → PyData → Prop} {φ' : List PyData → Prop} {k j : Nat} {ps : List Str} {x : Str} {p : Pos}
    (F : Df X.prog X.w X.K X.mg X.base k x ps (spF args pre post)) (hr : Room j X.A) (ha : XA X (e :: es) ρ φ') (hp : ∀ ds, φ' ds → ∃ a, ds = args a ∧ pre a ∧ ∀ z, post a z → χ z) (hj : k ≤ j := by decide) (hg : Gl X x := by rfl) (hdb : (x == ("__debug__" : Str)) = false := by decide)
    (he : starEach (e :: es) X.env = (false, eval e X.env) :: starEach es X.env := by rfl) (hpl : (backTo pos (starEach es X.env)).any (·.1) = false := by rfl) : XE X (.Call (.Name x p) (e :: es) [] pos) ρ χ := by
  obtain ⟨f, fd, T, G⟩ := F
  exact X_call G (hr.mono hj) T ha hp hg hdb he hpl
theorem x_f {α : Type} {args : α → List PyData} {pre : α → Prop} {post : α → PyData → Prop} {k j : Nat} {ps : List Str} {x : Str} {p : Pos} (a : α)
    (F : Df X.prog X.w X.K X.mg X.base k x ps (spF args pre post)) (hr : Room j X.A) (ha : AV X (e :: es) ρ (args a)) (hp : pre a) (hχ : post a = χ) (hj : k ≤ j := by decide) (hg : Gl X x := by rfl) (hdb : (x == ("__debug__" : Str)) = false := by decide)
    (he : starEach (e :: es) X.env = (false, eval e X.env) :: starEach es X.env := by rfl) (hpl : (backTo pos (starEach es X.env)).any (·.1) = false := by rfl) : XE X (.Call (.Name x p) (e :: es) [] pos) ρ χ := by
  obtain ⟨f, fd, T, G⟩ := F
  rw [← hχ]
  exact x_call a G (hr.mono hj) T ha hp hg hdb he hpl
theorem x_fD {α : Type} {args : α → List PyData} {pre : α → Prop} {post : α → PyData → Prop} {k j : Nat} {ps : List Str} {x y : Str} {p p2 : Pos} (i : Nat) (a : α)
    (F : Df X.prog X.w X.K X.mg X.base k x ps (spD args pre post)) (hr : Room j X.A) (ha : AV X es ρ (args a)) (hp : pre a) (hχ : post a = χ) (hj : k ≤ j := by decide)
    (hi : ρ[i]? = some .dice := by rfl) (hN : X.N[i]? = some y := by rfl) (hv : Vis X.env.scope y := by first | exact Or.inl rfl | exact Or.inr (Or.inl rfl) | exact Or.inr (Or.inr rfl)) (hg : Gl X x := by rfl) (hdb : (x == ("__debug__" : Str)) = false := by decide)
    (hyb : (y == ("__debug__" : Str)) = false := by decide) (hyc : (y == ("__classdict__" : Str)) = false := by decide)
    (he : starEach (.Name y p2 :: es) X.env = (false, eval (.Name y p2) X.env) :: starEach es X.env := by rfl) (hpl : (backTo pos (starEach es X.env)).any (·.1) = false := by rfl) : XE X (.Call (.Name x p) (.Name y p2 :: es) [] pos) ρ χ := by
  obtain ⟨f, fd, T, G⟩ := F
  rw [← hχ]
  exact x_callD i a G (hr.mono hj) T ha hp hi hN hv hg hdb hyb hyc he hpl
theorem X_fD {α : Type} {args : α → List PyData} {pre : α → Prop} {post : α → PyData → Prop} {φ' : List PyData → Prop} {k j : Nat} {ps : List Str} {x y : Str} {p p2 : Pos} (i : Nat)
    (F : Df X.prog X.w X.K X.mg X.base k x ps (spD args pre post)) (hr : Room j X.A) (ha : XA X es ρ φ') (hp : ∀ ds, φ' ds → ∃ a, ds = args a ∧ pre a ∧ ∀ z, post a z → χ z) (hj : k ≤ j := by decide)
    (hi : ρ[i]? = some .dice := by rfl) (hN : X.N[i]? = some y := by rfl) (hv : Vis X.env.scope y := by first | exact Or.inl rfl | exact Or.inr (Or.inl rfl) | exact Or.inr (Or.inr rfl)) (hg : Gl X x := by rfl) (hdb : (x == ("__debug__" : Str)) = false := by decide)
    (hyb : (y == ("__debug__" : Str)) = false := by decide) (hyc : (y == ("__classdict__" : Str)) = false := by decide)
    (he : starEach (.Name y p2 :: es) X.env = (false, eval (.Name y p2) X.env) :: starEach es X.env := by rfl) (hpl : (backTo pos (starEach es X.env)).any (·.1) = false := by rfl) : XE X (.Call (.Name x p) (.Name y p2 :: es) [] pos) ρ χ := by
  obtain ⟨f, fd, T, G⟩ := F
  exact X_callD i G (hr.mono hj) T ha hp hi hN hv hg hdb hyb hyc he hpl
theorem x_g {α : Type} {args : α → List PyData} {pre : α → Prop} {post : α → PyData → Prop} {k j : Nat} {ps : List Str} {x : Str} {p : Pos} (z : PyData) (a : α)
    (F : Df X.prog X.w X.K X.mg X.base k x ps (spF args pre post)) (hr : Room j X.A) (ha : AV X (e :: es) ρ (args a)) (hp : pre a) (hχ : post a = fun w => w = z) (hj : k ≤ j := by decide) (hg : Gl X x := by rfl) (hdb : (x == ("__debug__" : Str)) = false := by decide)
    (he : starEach (e :: es) X.env = (false, eval e X.env) :: starEach es X.env := by rfl) (hpl : (backTo pos (starEach es X.env)).any (·.1) = false := by rfl) : XV X (.Call (.Name x p) (e :: es) [] pos) ρ z :=
  x_f a F hr ha hp hχ hj hg hdb he hpl
end
end Pd
set_option Elab.async false
set_option linter.all false
set_option maxRecDepth 100000
set_option maxHeartbeats 1000000
namespace Pd
open PySem PySem.Spec PyProof.Rows L2
section
variable {X : Cx} {ρ : List Sl} {pos px py : Pos} {elt iter cnd : Expr} {scope : Scope} {x y : Str}
theorem tv_is {e : Expr} {k k' : Bool} (h : TV X e ρ k) (hk : k = k') : TV X e ρ k' := by rw [← hk]; exact h
theorem xv_is {e : Expr} {k k' : PyData} (h : XV X e ρ k) (hk : k = k') : XV X e ρ k' := by rw [← hk]; exact h
theorem mem_one {v i : Nat} (h : v ∈ [i]) : v = i := by simpa using h
/-- [elt for x in iter] -/
theorem x_lc1 {β : Type} {enc : β → PyData} (i : Nat) (L : List β) (r : β → PyData) (hN : X.N.Nodup) (ok : BlkOk X.N X.env.scope scope [(x, i)]) (hI : IX X (.Name x px) iter ρ (L.map enc)) (hl : L.length ≤ 40000)
    (hg : ∀ (s : Shared) (H : Hp) (C : Addr) (cl : List (Str × Addr)) (fp : List Addr), PG (X.blk s H scope (compEnvC scope cl C X.env) fp) (.Name x px) (gName i))
    (he : ∀ b, b ∈ L → ∀ (s : Shared) (H : Hp) (C : Addr) (cl : List (Str × Addr)) (fp : List Addr), PE (X.blk s H scope (compEnvC scope cl C X.env) fp) elt (tX ((wipeS ρ [i]).set i (.val (enc b))) fun z => z = r b))
    (hc : X.calm = true := by rfl) (hnd : nd ρ i = true := by rfl) (hnd2 : nd (wipeS ρ [i]) i = true := by rfl) (hs : ∀ x, foldedSetIterable iter X.env x = pure x := by intro _; rfl) : XV X (.ListComp elt [⟨.Name x px, iter, [], 0⟩] scope pos) ρ (.list (L.map r)) := by
  have h := X_lc (pos := pos) (ifs := []) (elt := elt) (scope := scope) (g := gName i) (asg := asg1 i) (own := [(x, i)]) L (fun _ => true) r (fun b => (wipeS ρ [i]).set i (.val (enc b))) hI (tw1 i (by simp)) (fun v hv => by rw [mem_one hv]; exact hnd)
    (fun b _ => by show asg1 i (enc b) (wipeS ρ [i]) = _; unfold asg1; rw [if_pos hnd2]) hl (fun h1 h2 h3 => pe_lc hc hN h1 ok hg h2 h3 hs) (fun b _ s H C cl fp => PTs.imp' pts_nil) (fun b hb _ => he b hb)
  rw [List.filter_eq_self.mpr (fun _ _ => rfl)] at h
  exact h
where PTs.imp' {X : Cx} {e : List Expr} {ρ : List Sl} (h : PTs X e tYes) : PTs X e (tXT ρ fun z => z = true) := ⟨fun pins s σ H Q I ⟨W, O, g, k⟩ => h.run pins s σ H Q I (k true H rfl g (ExD.refl σ ρ H))⟩
theorem pts_nil' {X : Cx} {ρ : List Sl} : PTs X [] (tXT ρ fun z => z = true) := ⟨fun pins s σ H Q I ⟨W, O, g, k⟩ => pts_nil.run pins s σ H Q I (k true H rfl g (ExD.refl σ ρ H))⟩
/-- [elt for x in iter if cnd] -/
theorem x_lc1f {β : Type} {enc : β → PyData} (i : Nat) (L : List β) (c : β → Bool) (r : β → PyData) (hN : X.N.Nodup) (ok : BlkOk X.N X.env.scope scope [(x, i)]) (hI : IX X (.Name x px) iter ρ (L.map enc)) (hl : L.length ≤ 40000)
    (hg : ∀ (s : Shared) (H : Hp) (C : Addr) (cl : List (Str × Addr)) (fp : List Addr), PG (X.blk s H scope (compEnvC scope cl C X.env) fp) (.Name x px) (gName i))
    (ht : ∀ b, b ∈ L → ∀ (s : Shared) (H : Hp) (C : Addr) (cl : List (Str × Addr)) (fp : List Addr), PT (X.blk s H scope (compEnvC scope cl C X.env) fp) cnd (tXT ((wipeS ρ [i]).set i (.val (enc b))) fun z => z = c b))
    (he : ∀ b, b ∈ L → c b = true → ∀ (s : Shared) (H : Hp) (C : Addr) (cl : List (Str × Addr)) (fp : List Addr), PE (X.blk s H scope (compEnvC scope cl C X.env) fp) elt (tX ((wipeS ρ [i]).set i (.val (enc b))) fun z => z = r b))
    (hc : X.calm = true := by rfl) (hnd : nd ρ i = true := by rfl) (hnd2 : nd (wipeS ρ [i]) i = true := by rfl) (hs : ∀ x, foldedSetIterable iter X.env x = pure x := by intro _; rfl) : XV X (.ListComp elt [⟨.Name x px, iter, [cnd], 0⟩] scope pos) ρ (.list ((L.filter c).map r)) :=
  X_lc (pos := pos) (ifs := [cnd]) (elt := elt) (scope := scope) (g := gName i) (asg := asg1 i) (own := [(x, i)]) L c r (fun b => (wipeS ρ [i]).set i (.val (enc b))) hI (tw1 i (by simp)) (fun v hv => by rw [mem_one hv]; exact hnd)
    (fun b _ => by show asg1 i (enc b) (wipeS ρ [i]) = _; unfold asg1; rw [if_pos hnd2]) hl (fun h1 h2 h3 => pe_lc hc hN h1 ok hg h2 h3 hs) (fun b hb s H C cl fp => pts_one (ht b hb s H C cl fp)) he
theorem asg2_ok {ρ : List Sl} {i j : Nat} {x y : PyData} (h : nd ρ i = true ∧ nd ρ j = true) : asg2 i j (.tuple [x, y]) ρ = some ((ρ.set i (.val x)).set j (.val y)) := by
  show (if nd ρ i = true ∧ nd ρ j = true then some ((ρ.set i (.val x)).set j (.val y)) else none) = _
  rw [if_pos h]
theorem mem_two {v i j : Nat} (h : v ∈ [i, j]) : v = i ∨ v = j := by simpa using h
/-- [elt for x, y in iter] -/
theorem x_lc2 {β : Type} {p q : β → PyData} {tk : Nat} {pt : Pos} (i j : Nat) (L : List β) (r : β → PyData) (hN : X.N.Nodup) (ok : BlkOk X.N X.env.scope scope [(x, i), (y, j)]) (hI : IX X (.Tuple [.Name x px, .Name y py] tk pt) iter ρ (L.map fun b => .tuple [p b, q b])) (hl : L.length ≤ 40000)
    (hg : ∀ (s : Shared) (H : Hp) (C : Addr) (cl : List (Str × Addr)) (fp : List Addr), PG (X.blk s H scope (compEnvC scope cl C X.env) fp) (.Tuple [.Name x px, .Name y py] tk pt) (gTup X.K 2 (gCons (gName i) (gCons (gName j) gNil))))
    (he : ∀ b, b ∈ L → ∀ (s : Shared) (H : Hp) (C : Addr) (cl : List (Str × Addr)) (fp : List Addr), PE (X.blk s H scope (compEnvC scope cl C X.env) fp) elt (tX (((wipeS ρ [i, j]).set i (.val (p b))).set j (.val (q b))) fun z => z = r b))
    (hc : X.calm = true := by rfl) (hnd : nd ρ i = true ∧ nd ρ j = true := by exact ⟨rfl, rfl⟩) (hnd2 : nd (wipeS ρ [i, j]) i = true ∧ nd (wipeS ρ [i, j]) j = true := by exact ⟨rfl, rfl⟩) (hs : ∀ x, foldedSetIterable iter X.env x = pure x := by intro _; rfl) :
    XV X (.ListComp elt [⟨.Tuple [.Name x px, .Name y py] tk pt, iter, [], 0⟩] scope pos) ρ (.list (L.map r)) := by
  have h := X_lc (pos := pos) (ifs := []) (elt := elt) (scope := scope) (g := gTup X.K 2 (gCons (gName i) (gCons (gName j) gNil))) (asg := asg2 i j) (own := [(x, i), (y, j)]) L (fun _ => true) r (fun b => ((wipeS ρ [i, j]).set i (.val (p b))).set j (.val (q b))) hI (tw2 X.K i j (by simp) (by simp)) (fun v hv => by rcases mem_two hv with e | e <;> rw [e]; exact hnd.1; exact hnd.2)
    (fun b _ => asg2_ok hnd2) hl (fun h1 h2 h3 => pe_lc hc hN h1 ok hg h2 h3 hs) (fun b _ s H C cl fp => pts_nil') (fun b hb _ => he b hb)
  rw [List.filter_eq_self.mpr (fun _ _ => rfl)] at h
  exact h
/-- [elt for x, y in iter if cnd] -/
theorem x_lc2f {β : Type} {p q : β → PyData} {tk : Nat} {pt : Pos} (i j : Nat) (L : List β) (c : β → Bool) (r : β → PyData) (hN : X.N.Nodup) (ok : BlkOk X.N X.env.scope scope [(x, i), (y, j)]) (hI : IX X (.Tuple [.Name x px, .Name y py] tk pt) iter ρ (L.map fun b => .tuple [p b, q b])) (hl : L.length ≤ 40000)
    (hg : ∀ (s : Shared) (H : Hp) (C : Addr) (cl : List (Str × Addr)) (fp : List Addr), PG (X.blk s H scope (compEnvC scope cl C X.env) fp) (.Tuple [.Name x px, .Name y py] tk pt) (gTup X.K 2 (gCons (gName i) (gCons (gName j) gNil))))
    (ht : ∀ b, b ∈ L → ∀ (s : Shared) (H : Hp) (C : Addr) (cl : List (Str × Addr)) (fp : List Addr), PT (X.blk s H scope (compEnvC scope cl C X.env) fp) cnd (tXT (((wipeS ρ [i, j]).set i (.val (p b))).set j (.val (q b))) fun z => z = c b))
    (he : ∀ b, b ∈ L → c b = true → ∀ (s : Shared) (H : Hp) (C : Addr) (cl : List (Str × Addr)) (fp : List Addr), PE (X.blk s H scope (compEnvC scope cl C X.env) fp) elt (tX (((wipeS ρ [i, j]).set i (.val (p b))).set j (.val (q b))) fun z => z = r b))
    (hc : X.calm = true := by rfl) (hnd : nd ρ i = true ∧ nd ρ j = true := by exact ⟨rfl, rfl⟩) (hnd2 : nd (wipeS ρ [i, j]) i = true ∧ nd (wipeS ρ [i, j]) j = true := by exact ⟨rfl, rfl⟩) (hs : ∀ x, foldedSetIterable iter X.env x = pure x := by intro _; rfl) :
    XV X (.ListComp elt [⟨.Tuple [.Name x px, .Name y py] tk pt, iter, [cnd], 0⟩] scope pos) ρ (.list ((L.filter c).map r)) :=
  X_lc (pos := pos) (ifs := [cnd]) (elt := elt) (scope := scope) (g := gTup X.K 2 (gCons (gName i) (gCons (gName j) gNil))) (asg := asg2 i j) (own := [(x, i), (y, j)]) L c r (fun b => ((wipeS ρ [i, j]).set i (.val (p b))).set j (.val (q b))) hI (tw2 X.K i j (by simp) (by simp)) (fun v hv => by rcases mem_two hv with e | e <;> rw [e]; exact hnd.1; exact hnd.2)
    (fun b _ => asg2_ok hnd2) hl (fun h1 h2 h3 => pe_lc hc hN h1 ok hg h2 h3 hs) (fun b hb s H C cl fp => pts_one (ht b hb s H C cl fp)) he
theorem enums_ints (ns : List Int) : enums (ns.map .int) = ns.zipIdx.map fun p => .tuple [.int (p.2 : Nat), .int p.1] := by
  unfold enums
  rw [List.zipIdx_map, List.map_map]
  rfl
theorem mapI {β : Type} (f : β → Int) (L : List β) : (L.map fun b => PyData.int (f b)) = (L.map f).map .int := by rw [List.map_map]; rfl
theorem mapB {β : Type} (f : β → Bool) (L : List β) : (L.map fun b => PyData.bool (f b)) = (L.map f).map .bool := by rw [List.map_map]; rfl
theorem x_lI {β : Type} {e : Expr} {f : β → Int} {L : List β} (h : XV X e ρ (.list (L.map fun b => .int (f b)))) : XV X e ρ (lI (L.map f)) := by rw [mapI] at h; exact h
theorem x_lB {β : Type} {e : Expr} {f : β → Bool} {L : List β} (h : XV X e ρ (.list (L.map fun b => .bool (f b)))) : XV X e ρ (lB (L.map f)) := by rw [mapB] at h; exact h
theorem i_enumTI {X : Cx} {ρ : List Sl} {e : Expr} {pos p : Pos} {ns : List Int} {elts : List Expr} {kk : Nat} {tpos : Pos} (hm : X.mg "enumerate" = none) (h : XV X e ρ (tI ns)) (hg : Gl X "enumerate" := by rfl) (hs : starEach [e] X.env = [(false, eval e X.env)] := by rfl) :
    IX X (.Tuple elts kk tpos) (.Call (.Name "enumerate" p) [e] [] pos) ρ (ns.zipIdx.map fun p => .tuple [.int (p.2 : Nat), .int p.1]) := by
  rw [← enums_ints]
  exact i_enumT hm h hg hs
theorem i_enumLI {X : Cx} {ρ : List Sl} {e : Expr} {pos p : Pos} {ns : List Int} {elts : List Expr} {kk : Nat} {tpos : Pos} (hm : X.mg "enumerate" = none) (h : XV X e ρ (lI ns)) (hg : Gl X "enumerate" := by rfl) (hs : starEach [e] X.env = [(false, eval e X.env)] := by rfl) :
    IX X (.Tuple elts kk tpos) (.Call (.Name "enumerate" p) [e] [] pos) ρ (ns.zipIdx.map fun p => .tuple [.int (p.2 : Nat), .int p.1]) := by
  rw [← enums_ints]
  exact i_enum hm h hg hs
end
section
variable {X : Cx} {ρ : List Sl} {pos px py spos pz : Pos} {elt iter cnd : Expr} {scope : Scope} {x y z : Str} {rest : List Stmt} {nx : List Sl → Prop} {rt : PyData → Prop}
/-- z = [elt for x in iter] -/
theorem s_lc1 {β : Type} {enc : β → PyData} (m i : Nat) (L : List β) (r : β → PyData) (hN : X.N.Nodup) (ok : BlkOk X.N X.env.scope scope [(x, i)]) (hI : IX X (.Name x px) iter ρ (L.map enc)) (hl : L.length ≤ 40000)
    (hg : ∀ (s : Shared) (H : Hp) (C : Addr) (cl : List (Str × Addr)) (fp : List Addr), PG (X.blk s H scope (compEnvC scope cl C X.env) fp) (.Name x px) (gName i))
    (he : ∀ b, b ∈ L → ∀ (s : Shared) (H : Hp) (C : Addr) (cl : List (Str × Addr)) (fp : List Addr), PE (X.blk s H scope (compEnvC scope cl C X.env) fp) elt (tX ((wipeS ρ [i]).set i (.val (enc b))) fun z => z = r b))
    (k : SXs X rest (ρ.set m (.val (.list (L.map r)))) nx rt) (hy : X.N[m]? = some z := by rfl) (hyl : X.env.scope.names.lookup z = some .local := by rfl)
    (hsw : swapsWith (.ListComp elt [⟨.Name x px, iter, [], 0⟩] scope pos) (some (.Name z pz)) spos.line X.env = pure true := by exact sw_true rfl rfl rfl (by decide +kernel))
    (hc : X.calm = true := by rfl) (hm : nd ρ m = true := by rfl) (hnd : nd ρ i = true := by rfl) (hnd2 : nd (wipeS ρ [i]) i = true := by rfl) (hs : ∀ x, foldedSetIterable iter X.env x = pure x := by intro _; rfl) :
    SXs X (.Assign [.Name z pz] (.ListComp elt [⟨.Name x px, iter, [], 0⟩] scope pos) spos :: rest) ρ nx rt :=
  s_seq (mid := fun ρ' => ρ' = ρ.set m (.val (.list (L.map r)))) (S_lc (pos := pos) (ifs := []) (elt := elt) (scope := scope) (g := gName i) (asg := asg1 i) (own := [(x, i)]) m L (fun _ => true) r (fun b => (wipeS ρ [i]).set i (.val (enc b))) hI (tw1 i (by simp)) (fun v hv => by rw [mem_one hv]; exact hnd)
    (fun b _ => by show asg1 i (enc b) (wipeS ρ [i]) = _; unfold asg1; rw [if_pos hnd2]) hl (fun h1 h2 h3 => ps_setLc (i := m) hc hN hy hyl hsw h1 ok hg h2 h3 hs) (fun b _ s H C cl fp => pts_nil') (fun b hb _ => he b hb) hm (by rw [List.filter_eq_self.mpr (fun _ _ => rfl)])) fun ρ' e => by rw [e]; exact k
/-- z = [elt for x in iter if cnd] -/
theorem s_lc1f {β : Type} {enc : β → PyData} (m i : Nat) (L : List β) (c : β → Bool) (r : β → PyData) (hN : X.N.Nodup) (ok : BlkOk X.N X.env.scope scope [(x, i)]) (hI : IX X (.Name x px) iter ρ (L.map enc)) (hl : L.length ≤ 40000)
    (hg : ∀ (s : Shared) (H : Hp) (C : Addr) (cl : List (Str × Addr)) (fp : List Addr), PG (X.blk s H scope (compEnvC scope cl C X.env) fp) (.Name x px) (gName i))
    (ht : ∀ b, b ∈ L → ∀ (s : Shared) (H : Hp) (C : Addr) (cl : List (Str × Addr)) (fp : List Addr), PT (X.blk s H scope (compEnvC scope cl C X.env) fp) cnd (tXT ((wipeS ρ [i]).set i (.val (enc b))) fun z => z = c b))
    (he : ∀ b, b ∈ L → c b = true → ∀ (s : Shared) (H : Hp) (C : Addr) (cl : List (Str × Addr)) (fp : List Addr), PE (X.blk s H scope (compEnvC scope cl C X.env) fp) elt (tX ((wipeS ρ [i]).set i (.val (enc b))) fun z => z = r b))
    (k : SXs X rest (ρ.set m (.val (.list ((L.filter c).map r)))) nx rt) (hy : X.N[m]? = some z := by rfl) (hyl : X.env.scope.names.lookup z = some .local := by rfl)
    (hsw : swapsWith (.ListComp elt [⟨.Name x px, iter, [cnd], 0⟩] scope pos) (some (.Name z pz)) spos.line X.env = pure true := by exact sw_true rfl rfl rfl (by decide +kernel))
    (hc : X.calm = true := by rfl) (hm : nd ρ m = true := by rfl) (hnd : nd ρ i = true := by rfl) (hnd2 : nd (wipeS ρ [i]) i = true := by rfl) (hs : ∀ x, foldedSetIterable iter X.env x = pure x := by intro _; rfl) :
    SXs X (.Assign [.Name z pz] (.ListComp elt [⟨.Name x px, iter, [cnd], 0⟩] scope pos) spos :: rest) ρ nx rt :=
  s_seq (mid := fun ρ' => ρ' = ρ.set m (.val (.list ((L.filter c).map r)))) (S_lc (pos := pos) (ifs := [cnd]) (elt := elt) (scope := scope) (g := gName i) (asg := asg1 i) (own := [(x, i)]) m L c r (fun b => (wipeS ρ [i]).set i (.val (enc b))) hI (tw1 i (by simp)) (fun v hv => by rw [mem_one hv]; exact hnd)
    (fun b _ => by show asg1 i (enc b) (wipeS ρ [i]) = _; unfold asg1; rw [if_pos hnd2]) hl (fun h1 h2 h3 => ps_setLc (i := m) hc hN hy hyl hsw h1 ok hg h2 h3 hs) (fun b hb s H C cl fp => pts_one (ht b hb s H C cl fp)) he hm rfl) fun ρ' e => by rw [e]; exact k
/-- z = [elt for x, y in iter] -/
theorem s_lc2 {β : Type} {p q : β → PyData} {tk : Nat} {pt : Pos} (m i j : Nat) (L : List β) (r : β → PyData) (hN : X.N.Nodup) (ok : BlkOk X.N X.env.scope scope [(x, i), (y, j)]) (hI : IX X (.Tuple [.Name x px, .Name y py] tk pt) iter ρ (L.map fun b => .tuple [p b, q b])) (hl : L.length ≤ 40000)
    (hg : ∀ (s : Shared) (H : Hp) (C : Addr) (cl : List (Str × Addr)) (fp : List Addr), PG (X.blk s H scope (compEnvC scope cl C X.env) fp) (.Tuple [.Name x px, .Name y py] tk pt) (gTup X.K 2 (gCons (gName i) (gCons (gName j) gNil))))
    (he : ∀ b, b ∈ L → ∀ (s : Shared) (H : Hp) (C : Addr) (cl : List (Str × Addr)) (fp : List Addr), PE (X.blk s H scope (compEnvC scope cl C X.env) fp) elt (tX (((wipeS ρ [i, j]).set i (.val (p b))).set j (.val (q b))) fun z => z = r b))
    (k : SXs X rest (ρ.set m (.val (.list (L.map r)))) nx rt) (hy : X.N[m]? = some z := by rfl) (hyl : X.env.scope.names.lookup z = some .local := by rfl)
    (hsw : swapsWith (.ListComp elt [⟨.Tuple [.Name x px, .Name y py] tk pt, iter, [], 0⟩] scope pos) (some (.Name z pz)) spos.line X.env = pure true := by exact sw_true rfl rfl rfl (by decide +kernel))
    (hc : X.calm = true := by rfl) (hm : nd ρ m = true := by rfl) (hnd : nd ρ i = true ∧ nd ρ j = true := by exact ⟨rfl, rfl⟩) (hnd2 : nd (wipeS ρ [i, j]) i = true ∧ nd (wipeS ρ [i, j]) j = true := by exact ⟨rfl, rfl⟩) (hs : ∀ x, foldedSetIterable iter X.env x = pure x := by intro _; rfl) :
    SXs X (.Assign [.Name z pz] (.ListComp elt [⟨.Tuple [.Name x px, .Name y py] tk pt, iter, [], 0⟩] scope pos) spos :: rest) ρ nx rt :=
  s_seq (mid := fun ρ' => ρ' = ρ.set m (.val (.list (L.map r)))) (S_lc (pos := pos) (ifs := []) (elt := elt) (scope := scope) (g := gTup X.K 2 (gCons (gName i) (gCons (gName j) gNil))) (asg := asg2 i j) (own := [(x, i), (y, j)]) m L (fun _ => true) r (fun b => ((wipeS ρ [i, j]).set i (.val (p b))).set j (.val (q b))) hI (tw2 X.K i j (by simp) (by simp)) (fun v hv => by rcases mem_two hv with e | e <;> rw [e]; exact hnd.1; exact hnd.2)
    (fun b _ => asg2_ok hnd2) hl (fun h1 h2 h3 => ps_setLc (i := m) hc hN hy hyl hsw h1 ok hg h2 h3 hs) (fun b _ s H C cl fp => pts_nil') (fun b hb _ => he b hb) hm (by rw [List.filter_eq_self.mpr (fun _ _ => rfl)])) fun ρ' e => by rw [e]; exact k
theorem s_lc2I {β : Type} {p q : β → PyData} {tk : Nat} {pt : Pos} (m i j : Nat) (L : List β) (f : β → Int) (hN : X.N.Nodup) (ok : BlkOk X.N X.env.scope scope [(x, i), (y, j)]) (hI : IX X (.Tuple [.Name x px, .Name y py] tk pt) iter ρ (L.map fun b => .tuple [p b, q b])) (hl : L.length ≤ 40000)
    (hg : ∀ (s : Shared) (H : Hp) (C : Addr) (cl : List (Str × Addr)) (fp : List Addr), PG (X.blk s H scope (compEnvC scope cl C X.env) fp) (.Tuple [.Name x px, .Name y py] tk pt) (gTup X.K 2 (gCons (gName i) (gCons (gName j) gNil))))
    (he : ∀ b, b ∈ L → ∀ (s : Shared) (H : Hp) (C : Addr) (cl : List (Str × Addr)) (fp : List Addr), PE (X.blk s H scope (compEnvC scope cl C X.env) fp) elt (tX (((wipeS ρ [i, j]).set i (.val (p b))).set j (.val (q b))) fun z => z = .int (f b)))
    (k : SXs X rest (ρ.set m (.val (lI (L.map f)))) nx rt) (hy : X.N[m]? = some z := by rfl) (hyl : X.env.scope.names.lookup z = some .local := by rfl)
    (hsw : swapsWith (.ListComp elt [⟨.Tuple [.Name x px, .Name y py] tk pt, iter, [], 0⟩] scope pos) (some (.Name z pz)) spos.line X.env = pure true := by exact sw_true rfl rfl rfl (by decide +kernel))
    (hc : X.calm = true := by rfl) (hm : nd ρ m = true := by rfl) (hnd : nd ρ i = true ∧ nd ρ j = true := by exact ⟨rfl, rfl⟩) (hnd2 : nd (wipeS ρ [i, j]) i = true ∧ nd (wipeS ρ [i, j]) j = true := by exact ⟨rfl, rfl⟩) (hs : ∀ x, foldedSetIterable iter X.env x = pure x := by intro _; rfl) :
    SXs X (.Assign [.Name z pz] (.ListComp elt [⟨.Tuple [.Name x px, .Name y py] tk pt, iter, [], 0⟩] scope pos) spos :: rest) ρ nx rt :=
  s_lc2 m i j L (fun b => .int (f b)) hN ok hI hl hg he (by rw [mapI]; exact k) hy hyl hsw hc hm hnd hnd2 hs
theorem s_lc1I {β : Type} {enc : β → PyData} (m i : Nat) (L : List β) (f : β → Int) (hN : X.N.Nodup) (ok : BlkOk X.N X.env.scope scope [(x, i)]) (hI : IX X (.Name x px) iter ρ (L.map enc)) (hl : L.length ≤ 40000)
    (hg : ∀ (s : Shared) (H : Hp) (C : Addr) (cl : List (Str × Addr)) (fp : List Addr), PG (X.blk s H scope (compEnvC scope cl C X.env) fp) (.Name x px) (gName i))
    (he : ∀ b, b ∈ L → ∀ (s : Shared) (H : Hp) (C : Addr) (cl : List (Str × Addr)) (fp : List Addr), PE (X.blk s H scope (compEnvC scope cl C X.env) fp) elt (tX ((wipeS ρ [i]).set i (.val (enc b))) fun z => z = .int (f b)))
    (k : SXs X rest (ρ.set m (.val (lI (L.map f)))) nx rt) (hy : X.N[m]? = some z := by rfl) (hyl : X.env.scope.names.lookup z = some .local := by rfl)
    (hsw : swapsWith (.ListComp elt [⟨.Name x px, iter, [], 0⟩] scope pos) (some (.Name z pz)) spos.line X.env = pure true := by exact sw_true rfl rfl rfl (by decide +kernel))
    (hc : X.calm = true := by rfl) (hm : nd ρ m = true := by rfl) (hnd : nd ρ i = true := by rfl) (hnd2 : nd (wipeS ρ [i]) i = true := by rfl) (hs : ∀ x, foldedSetIterable iter X.env x = pure x := by intro _; rfl) :
    SXs X (.Assign [.Name z pz] (.ListComp elt [⟨.Name x px, iter, [], 0⟩] scope pos) spos :: rest) ρ nx rt :=
  s_lc1 m i L (fun b => .int (f b)) hN ok hI hl hg he (by rw [mapI]; exact k) hy hyl hsw hc hm hnd hnd2 hs
/-- x, y = e: e a pair -/
theorem S_unp {e : Expr} {φ : PyData → PyData → Prop} {tk : Nat} {pt : Pos} (i j : Nat) (he : XE X e ρ fun z => ∃ a b, φ a b ∧ z = .tuple [a, b]) (k : ∀ a b, φ a b → SXs X rest ((ρ.set i (.val a)).set j (.val b)) nx rt) (hg : PG X (.Tuple [.Name x px, .Name y py] tk pt) (gTup X.K 2 (gCons (gName i) (gCons (gName j) gNil))))
    (hni : nd ρ i = true := by rfl) (hnj : nd ρ j = true := by rfl) (hs : swapsWithSole [.Tuple [.Name x px, .Name y py] tk pt] e pos.line X.env = pure false := by rfl) (hw : swappedStores [.Tuple [.Name x px, .Name y py] tk pt] e X.env = pure none := by rfl) :
    SXs X (.Assign [.Tuple [.Name x px, .Name y py] tk pt] e pos :: rest) ρ nx rt :=
  s_seq (mid := fun ρ' => ∃ a b, φ a b ∧ ρ' = (ρ.set i (.val a)).set j (.val b)) (PS.imp (ps_asg he hg hs hw) fun D σ H ⟨W, O, g, k1, k2⟩ => ⟨W, O, g, fun d v H' hd g' e' i' => by
    obtain ⟨a, b, hab, rfl⟩ := hd
    exact (tg2 X.K i j).run W O v _ σ H' ρ _ _ g' i' (asg2_ok ⟨hni, hnj⟩) fun σ2 g2 _ => k1 _ O σ2 H' ⟨a, b, hab, rfl⟩ g2⟩) fun ρ' ⟨a, b, hab, e⟩ => by rw [e]; exact k a b hab
theorem s_unp {e : Expr} {a b : PyData} {tk : Nat} {pt : Pos} (i j : Nat) (he : XV X e ρ (.tuple [a, b])) (k : SXs X rest ((ρ.set i (.val a)).set j (.val b)) nx rt) (hg : PG X (.Tuple [.Name x px, .Name y py] tk pt) (gTup X.K 2 (gCons (gName i) (gCons (gName j) gNil))))
    (hni : nd ρ i = true := by rfl) (hnj : nd ρ j = true := by rfl) (hs : swapsWithSole [.Tuple [.Name x px, .Name y py] tk pt] e pos.line X.env = pure false := by rfl) (hw : swappedStores [.Tuple [.Name x px, .Name y py] tk pt] e X.env = pure none := by rfl) :
    SXs X (.Assign [.Tuple [.Name x px, .Name y py] tk pt] e pos :: rest) ρ nx rt :=
  S_unp (φ := fun c d => c = a ∧ d = b) i j (XE.mono he fun z hz => ⟨a, b, ⟨rfl, rfl⟩, hz⟩) (fun c d h => by rw [h.1, h.2]; exact k) hg hni hnj hs hw
end
theorem RD.mono {r : R2} {d e : PyData} {φ χ : PyData → Prop} (h : RD r d e φ) (k : ∀ z, φ z → χ z) : RD r d e χ := fun O H x y al i1 i2 Q q => h O H x y al i1 i2 Q fun z v H' hz => q z v H' (k z hz)
theorem RC.mono {r : List V → Hp → VK → Prop} {ds : List PyData} {φ χ : PyData → Prop} (h : RC r ds φ) (k : ∀ z, φ z → χ z) : RC r ds χ := fun O H vs al i Q q => h O H vs al i Q fun z v H' hz => q z v H' (k z hz)
end Pd
set_option Elab.async false
set_option linter.all false
set_option maxRecDepth 100000
set_option maxHeartbeats 1000000
namespace Pd
open PySem PySem.Spec PyProof.Rows L2
/-! ### shapes, for == -/
def Sh (n : Nat) (d : PyData) : Prop := d.canLay0 = true ∧ d.depth ≤ n
def ShA (n : Nat) (ds : List PyData) : Prop := PyData.canLayAll0 ds = true ∧ PyData.depthAll ds ≤ n
theorem Sh.shp {n : Nat} {d : PyData} (h : Sh n d) (hn : n ≤ 64 := by decide) : Shp d := by
  unfold Shp SeqAt.shaped
  rw [h.1, Bool.true_and]
  exact decide_eq_true (Nat.le_trans h.2 hn)
theorem sh_int {n : Nat} (i : Int) : Sh n (.int i) := ⟨rfl, by unfold PyData.depth; exact Nat.zero_le _⟩
theorem sh_bool {n : Nat} (i : Bool) : Sh n (.bool i) := ⟨rfl, by unfold PyData.depth; exact Nat.zero_le _⟩
theorem sh_none {n : Nat} : Sh n .none := ⟨rfl, by unfold PyData.depth; exact Nat.zero_le _⟩
theorem shA_nil {n : Nat} : ShA n [] := ⟨by unfold PyData.canLayAll0; rfl, by unfold PyData.depthAll; exact Nat.zero_le _⟩
theorem shA_cons {n : Nat} {d : PyData} {ds : List PyData} (h : Sh n d) (t : ShA n ds) : ShA n (d :: ds) := ⟨by unfold PyData.canLayAll0; rw [h.1, t.1]; rfl, by unfold PyData.depthAll; exact Nat.max_le.mpr ⟨h.2, t.2⟩⟩
theorem sh_tup {n : Nat} {ds : List PyData} (h : ShA n ds) : Sh (n + 1) (.tuple ds) := ⟨by unfold PyData.canLay0; exact h.1, by unfold PyData.depth; exact Nat.succ_le_succ h.2⟩
theorem sh_lst {n : Nat} {ds : List PyData} (h : ShA n ds) : Sh (n + 1) (.list ds) := ⟨by unfold PyData.canLay0; exact h.1, by unfold PyData.depth; exact Nat.succ_le_succ h.2⟩
theorem shA_map {β : Type} {n : Nat} {f : β → PyData} (h : ∀ b, Sh n (f b)) : ∀ L : List β, ShA n (L.map f)
  | [] => shA_nil
  | b :: L => shA_cons (h b) (shA_map h L)
theorem sh_tI {n : Nat} (ns : List Int) : Sh (n + 1) (tI ns) := sh_tup (shA_map (fun b => sh_int b) ns)
theorem sh_lI {n : Nat} (ns : List Int) : Sh (n + 1) (lI ns) := sh_lst (shA_map (fun b => sh_int b) ns)
theorem eqvAll_map {β : Type} [DecidableEq β] {f : β → PyData} (h : ∀ a b, PyData.eqv (f a) (f b) = decide (a = b)) : ∀ xs ys : List β, PyData.eqvAll (xs.map f) (ys.map f) = decide (xs = ys)
  | [], [] => by unfold PyData.eqvAll; simp
  | [], _ :: _ => by unfold PyData.eqvAll; simp
  | _ :: _, [] => by unfold PyData.eqvAll; simp
  | x :: xs, y :: ys => by
    rw [List.map_cons, List.map_cons]
    unfold PyData.eqvAll
    rw [h x y, eqvAll_map h xs ys]
    by_cases e : x = y <;> by_cases e2 : xs = ys <;> simp [e, e2]
theorem eqv_int (a b : Int) : PyData.eqv (.int a) (.int b) = decide (a = b) := by unfold PyData.eqv; exact Bool.beq_eq_decide_eq _ _
theorem eqv_tI (a b : List Int) : PyData.eqv (tI a) (tI b) = decide (a = b) := by show PyData.eqv (.tuple _) (.tuple _) = _; unfold PyData.eqv; exact eqvAll_map eqv_int a b
theorem eqv_lI (a b : List Int) : PyData.eqv (lI a) (lI b) = decide (a = b) := by show PyData.eqv (.list _) (.list _) = _; unfold PyData.eqv; exact eqvAll_map eqv_int a b
section
variable {X : Cx} {ρ : List Sl} {e : Expr} {pos : Pos}
theorem s_listT {x : Str} {p0 : Pos} (hm : X.mg x = none) {ds : List PyData} (h : XV X e ρ (.tuple ds)) (hg : Gl X x := by rfl) (hv : bootBuiltins x = some (.type "list") := by decide +kernel) (hn : x ≠ "__name__" := by decide) (hdb : (x == ("__debug__" : Str)) = false := by decide)
    (hs : starEach [e] X.env = (false, eval e X.env) :: starEach [] X.env := by rfl) (hpl : (backTo pos (starEach [] X.env)).any (·.1) = false := by rfl) : SV X (.Call (.Name x p0) [e] [] pos) ρ (.own ds) :=
  s_list hm (XE.mono h fun z hz => .inl hz) hg hv hn hdb hs hpl
theorem sv_x {d : PyData} (h : XV X e ρ d) : SV X e ρ (.val d) := XV.sv h
theorem xs_x {φ : PyData → Prop} (h : XE X e ρ φ) : XS X e ρ (fun s => ∃ d, φ d ∧ s = .val d) := XE.xs h
end
theorem rd_catI {K : PySem.W.Frag} {a b : List Int} (hl : a.length + b.length ≤ 100000) : RV (rCatA K) (tI a) (tI b) (tI (a ++ b)) := by
  show RV (rCatA K) _ _ (.tuple ((a ++ b).map .int))
  rw [List.map_append]
  exact rd_cat (by rw [List.length_map, List.length_map]; exact hl)
theorem rd_eqTI {K : PySem.W.Frag} {a b : List Int} : RV (rEqD K) (tI a) (tI b) (.bool (decide (a = b))) := by rw [← eqv_tI]; exact rd_eqD (sh_tI (n := 0) a).shp (sh_tI (n := 0) b).shp
theorem rd_neTI {K : PySem.W.Frag} {a b : List Int} : RV (rNeD K) (tI a) (tI b) (.bool (!decide (a = b))) := by rw [← eqv_tI]; exact rd_neD (sh_tI (n := 0) a).shp (sh_tI (n := 0) b).shp
theorem rd_eqLI {K : PySem.W.Frag} {a b : List Int} : RV (rEqD K) (lI a) (lI b) (.bool (decide (a = b))) := by rw [← eqv_lI]; exact rd_eqD (sh_lI (n := 0) a).shp (sh_lI (n := 0) b).shp
theorem rd_neLI {K : PySem.W.Frag} {a b : List Int} : RV (rNeD K) (lI a) (lI b) (.bool (!decide (a = b))) := by rw [← eqv_lI]; exact rd_neD (sh_lI (n := 0) a).shp (sh_lI (n := 0) b).shp
theorem rd_eqI {K : PySem.W.Frag} {a b : Int} : RV (rEqD K) (.int a) (.int b) (.bool (decide (a = b))) := by rw [← eqv_int]; exact rd_eqD (sh_int (n := 0) a).shp (sh_int (n := 0) b).shp
theorem rd_neI {K : PySem.W.Frag} {a b : Int} : RV (rNeD K) (.int a) (.int b) (.bool (!decide (a = b))) := by rw [← eqv_int]; exact rd_neD (sh_int (n := 0) a).shp (sh_int (n := 0) b).shp
/-! ### in, not in, of data -/
def rInT (K : PySem.W.Frag) : R2 := fun x y H Q => ∃ d ds, Dp K H x d ∧ Dp K H y (.tuple ds) ∧ SeqAt.shaped d = true ∧ SeqAt.shaped (.tuple ds) = true ∧ Q (.bl (ds.any fun z => PyData.eqv z d)) H
def rNotInT (K : PySem.W.Frag) : R2 := fun x y H Q => ∃ d ds, Dp K H x d ∧ Dp K H y (.tuple ds) ∧ SeqAt.shaped d = true ∧ SeqAt.shaped (.tuple ds) = true ∧ Q (.bl (!ds.any fun z => PyData.eqv z d)) H
theorem room_inT {A : Around} {d : PyData} {n : Nat} (sd : SeqAt.shaped d = true) (hu : A.units + 65 < cLine) : A.units + 1 + min n d.depth < cLine := by
  have := SeqAt.depth_of_shaped sd
  have : min n d.depth ≤ d.depth := Nat.min_le_right _ _
  omega
section
variable {X : Cx}
theorem op_inT (hu : X.A.units + 65 < cLine) : OpR X (compareOp .In) (rInT X.K) := by
  intro pins s σ H x y v u Q I rx ry h
  obtain ⟨d, ds, hd, he, sd, se, q⟩ := h
  obtain ⟨as, r1⟩ := Dp.reads I d x v hd rx
  obtain ⟨bs, r2⟩ := Dp.reads I (.tuple ds) y u he ry
  exact SeqAt.in_tuple_reads r2 r1 (SeqAt.canLay_of_shaped se) (SeqAt.canLay_of_shaped sd) (room_inT sd hu) ⟨.bl _, H, I, rfl, q⟩
theorem op_notInT (hu : X.A.units + 65 < cLine) : OpR X (compareOp .NotIn) (rNotInT X.K) := by
  intro pins s σ H x y v u Q I rx ry h
  obtain ⟨d, ds, hd, he, sd, se, q⟩ := h
  obtain ⟨as, r1⟩ := Dp.reads I d x v hd rx
  obtain ⟨bs, r2⟩ := Dp.reads I (.tuple ds) y u he ry
  exact SeqAt.notIn_tuple_reads r2 r1 (SeqAt.canLay_of_shaped se) (SeqAt.canLay_of_shaped sd) (room_inT sd hu) ⟨.bl _, H, I, rfl, q⟩
end
theorem Room.units65 {k : Nat} {A : Around} (r : Room k A) : A.units + 65 < cLine := by have := r.un; omega
theorem rd_inT {K : PySem.W.Frag} {d : PyData} {ds : List PyData} (hd : Shp d) (he : Shp (.tuple ds)) : RV (rInT K) d (.tuple ds) (.bool (ds.any fun z => PyData.eqv z d)) := RD.now fun O H x y h1 h2 => ⟨_, .bl _, fun Q q => ⟨d, ds, h1.dp K d x hd.can, h2.dp K _ y he.can, hd, he, q⟩⟩
theorem rd_notInT {K : PySem.W.Frag} {d : PyData} {ds : List PyData} (hd : Shp d) (he : Shp (.tuple ds)) : RV (rNotInT K) d (.tuple ds) (.bool (!ds.any fun z => PyData.eqv z d)) := RD.now fun O H x y h1 h2 => ⟨_, .bl _, fun Q q => ⟨d, ds, h1.dp K d x hd.can, h2.dp K _ y he.can, hd, he, q⟩⟩
theorem rd_inL {K : PySem.W.Frag} {d : PyData} {ds : List PyData} (hd : Shp d) (he : Shp (.list ds)) : RV (rInD K) d (.list ds) (.bool (ds.any fun z => PyData.eqv z d)) := RD.now fun O H x y h1 h2 => ⟨_, .bl _, fun Q q => ⟨d, ds, h1.dp K d x hd.can, h2.dp K _ y he.can, hd, he, q⟩⟩
theorem rd_notInL {K : PySem.W.Frag} {d : PyData} {ds : List PyData} (hd : Shp d) (he : Shp (.list ds)) : RV (rNotInD K) d (.list ds) (.bool (!ds.any fun z => PyData.eqv z d)) := RD.now fun O H x y h1 h2 => ⟨_, .bl _, fun Q q => ⟨d, ds, h1.dp K d x hd.can, h2.dp K _ y he.can, hd, he, q⟩⟩
theorem any_eqv {β : Type} [DecidableEq β] {f : β → PyData} (h : ∀ a b, PyData.eqv (f a) (f b) = decide (a = b)) (L : List β) (x : β) : ((L.map f).any fun z => PyData.eqv z (f x)) = decide (x ∈ L) := by
  induction L with
  | nil => simp
  | cons y L ih =>
    rw [List.map_cons, List.any_cons, ih, h y x]
    by_cases e : y = x
    · subst e; simp
    · have e' : ¬ x = y := fun z => e z.symm
      simp [e, e']
theorem any_eqv_iff {β : Type} [DecidableEq β] {f : β → PyData} (h : ∀ a b, PyData.eqv (f a) (f b) = decide (a = b)) (L : List β) (x : β) : ((L.map f).any fun z => PyData.eqv z (f x)) = true ↔ x ∈ L := by
  rw [any_eqv h]
  exact decide_eq_true_iff
/-! ### xs * n -/
theorem rep_one {α : Type} (x : α) : ∀ n : Nat, (List.replicate n [x]).flatten = List.replicate n x
  | 0 => rfl
  | n + 1 => by rw [List.replicate_succ, List.flatten_cons, rep_one x n]; rfl
theorem rd_rep {d : PyData} {k : Int} (h1 : -(2 ^ 63) ≤ k) (h2 : k ≤ 100000) : RV rRep (.list [d]) (.int k) (.list (List.replicate k.toNat d)) := fun O H x y al i1 i2 Q q => by
  obtain ⟨p, xs, rfl, n1, e, r⟩ := i1.list
  cases i2
  obtain ⟨v, rfl, hv⟩ := r.one
  refine ⟨p, k, [v], rfl, rfl, e, h1, by omega, by show 1 * k.toNat ≤ sizeLine; rw [sizeLine_eq]; omega, fun l hl => ?_⟩
  rw [rep_one]
  have key : ∀ n : Nat, IsAll O H (List.replicate n v) (List.replicate n d) := fun n => by
    induction n with
    | zero => exact .nil
    | succ n ih => exact .cons hv ih
  exact q _ _ _ rfl (Ext.new hl) (Is.newL al hl (key _))
/-! ### sorted, ints -/
def insI (x : Int) : List Int → List Int
  | [] => [x]
  | y :: l => if x ≤ y then x :: y :: l else y :: insI x l
def sortI : List Int → List Int
  | [] => []
  | x :: l => insI x (sortI l)
theorem insI_perm (x : Int) : ∀ l, (insI x l).Perm (x :: l)
  | [] => .refl _
  | y :: l => by
    unfold insI
    by_cases h : x ≤ y
    · rw [if_pos h]
    · rw [if_neg h]
      exact (List.Perm.cons y (insI_perm x l)).trans (List.Perm.swap x y l)
theorem sortI_perm : ∀ l, (sortI l).Perm l
  | [] => .refl _
  | x :: l => (insI_perm x _).trans (List.Perm.cons x (sortI_perm l))
theorem insI_sorted (x : Int) : ∀ l : List Int, l.Pairwise (· ≤ ·) → (insI x l).Pairwise (· ≤ ·)
  | [], _ => by unfold insI; simp
  | y :: l, h => by
    unfold insI
    rw [List.pairwise_cons] at h
    by_cases hx : x ≤ y
    · rw [if_pos hx, List.pairwise_cons]
      refine ⟨fun z hz => ?_, List.pairwise_cons.mpr h⟩
      rcases List.mem_cons.mp hz with e | hz
      · rw [e]; exact hx
      · exact Int.le_trans hx (h.1 z hz)
    · rw [if_neg hx, List.pairwise_cons]
      refine ⟨fun z hz => ?_, insI_sorted x l h.2⟩
      rcases List.mem_cons.mp ((insI_perm x l).mem_iff.mp hz) with e | hz
      · rw [e]; omega
      · exact h.1 z hz
theorem sortI_sorted : ∀ l, (sortI l).Pairwise (· ≤ ·)
  | [] => List.Pairwise.nil
  | x :: l => insI_sorted x _ (sortI_sorted l)
theorem sorted_one : ∀ {a b : List Int}, a.Perm b → a.Pairwise (· ≤ ·) → b.Pairwise (· ≤ ·) → a = b
  | [], b, h, _, _ => (List.nil_perm.mp h).symm
  | x :: a, [], h, _, _ => absurd h.length_eq (by simp)
  | x :: a, y :: b, h, ha, hb => by
    rw [List.pairwise_cons] at ha hb
    have h1 : x ∈ y :: b := h.mem_iff.mp List.mem_cons_self
    have h2 : y ∈ x :: a := h.mem_iff.mpr List.mem_cons_self
    have e : x = y := by
      rcases List.mem_cons.mp h1 with e | h1
      · exact e
      · rcases List.mem_cons.mp h2 with e | h2
        · exact e.symm
        · have := ha.1 y h2
          have := hb.1 x h1
          omega
    subst e
    rw [sorted_one (List.Perm.cons_inv h) ha.2 hb.2]
theorem rc_sortedI {K : PySem.W.Frag} {ns : List Int} : RCV (rSortedI K) [lI ns] (lI (sortI ns)) := fun O H vs al h Q k => by
  obtain ⟨v, rfl, hv⟩ := h.one
  obtain ⟨p, xs, rfl, _, e, r⟩ := hv.list
  have := r.ints
  subst this
  refine ⟨p, ns, rfl, SqL.of e, fun ns' q hp hs hq => ?_⟩
  have : ns' = sortI ns := sorted_one (hp.trans (sortI_perm ns).symm) hs (sortI_sorted ns)
  subst this
  exact k _ _ _ rfl (Ext.new hq) (Is.newL al hq isAll_ints)
end Pd
set_option Elab.async false
set_option linter.all false
set_option maxRecDepth 100000
set_option maxHeartbeats 1000000
/-! Rows as lists of ints: the plain laws. -/
namespace Sr
open PySem Pd
/-! ### what is_whole and is_row tell -/
def isWhole (d : PyData) (lo hi : Int) : Bool := match d with
  | .int i => decide (lo ≤ i) && decide (i ≤ hi)
  | _ => false
def toI : PyData → Int
  | .int i => i
  | _ => 0
def fallsB (ns : List Int) : Bool := (List.range (ns.length - 1)).all fun i => decide (ns.getD (i + 1) 0 ≤ ns.getD i 0)
def isRowD (d : PyData) : Bool := match d with
  | .tuple ds => decide (ds.length ≤ 18) && ds.all (isWhole · 1 18) && (decide ((ds.map toI).sum ≤ 18) && fallsB (ds.map toI))
  | _ => false
/-- a row -/
structure Row (ns : List Int) : Prop where
  pos : ∀ n ∈ ns, 1 ≤ n
  falls : ∀ i, ns.getD (i + 1) 0 ≤ ns.getD i 0
  sum : ns.sum ≤ 18
theorem sum_nonneg : ∀ {ns : List Int}, (∀ n ∈ ns, 0 ≤ n) → 0 ≤ ns.sum
  | [], _ => by simp
  | n :: ns, h => by
    have := sum_nonneg (ns := ns) fun m hm => h m (List.mem_cons_of_mem _ hm)
    have h1 := h n List.mem_cons_self
    rw [List.sum_cons]
    omega
theorem len_le_sum : ∀ {ns : List Int}, (∀ n ∈ ns, 1 ≤ n) → (ns.length : Int) ≤ ns.sum
  | [], _ => by simp
  | n :: ns, h => by
    have := len_le_sum (ns := ns) fun m hm => h m (List.mem_cons_of_mem _ hm)
    have h1 := h n List.mem_cons_self
    rw [List.sum_cons, List.length_cons]
    omega
theorem mem_le_sum : ∀ {ns : List Int}, (∀ n ∈ ns, 0 ≤ n) → ∀ n ∈ ns, n ≤ ns.sum
  | [], _, n, hn => by cases hn
  | m :: ns, h, n, hn => by
    have h0 := sum_nonneg (ns := ns) fun m hm => h m (List.mem_cons_of_mem _ hm)
    have h1 := h m List.mem_cons_self
    rw [List.sum_cons]
    rcases List.mem_cons.mp hn with e | hn
    · subst e; omega
    · have := mem_le_sum (ns := ns) (fun m hm => h m (List.mem_cons_of_mem _ hm)) n hn
      omega
theorem Row.len {ns : List Int} (h : Row ns) : ns.length ≤ 18 := by
  have := len_le_sum h.pos
  have := h.sum
  omega
theorem Row.le {ns : List Int} (h : Row ns) : ∀ n ∈ ns, n ≤ 18 := fun n hn => by
  have := mem_le_sum (ns := ns) (fun m hm => by have := h.pos m hm; omega) n hn
  have := h.sum
  omega
theorem map_toI (ns : List Int) : (ns.map PyData.int).map toI = ns := by
  rw [List.map_map]
  have : (toI ∘ PyData.int) = id := rfl
  rw [this, List.map_id]
theorem Row.is {ns : List Int} (h : Row ns) : isRowD (tI ns) = true := by
  show (decide ((ns.map PyData.int).length ≤ 18) && (ns.map PyData.int).all (isWhole · 1 18) && (decide (((ns.map PyData.int).map toI).sum ≤ 18) && fallsB ((ns.map PyData.int).map toI))) = true
  rw [map_toI, Bool.and_eq_true, Bool.and_eq_true, Bool.and_eq_true]
  refine ⟨⟨?_, ?_⟩, ?_, ?_⟩
  · have := h.len
    simpa using this
  · rw [List.all_eq_true]
    intro d hd
    obtain ⟨n, hn, rfl⟩ := List.mem_map.mp hd
    have h1 := h.pos n hn
    have h2 := h.le n hn
    simp [isWhole, h1, h2]
  · simpa using h.sum
  · unfold fallsB
    rw [List.all_eq_true]
    intro i _
    simpa using h.falls i
theorem ints_of_whole : ∀ {ds : List PyData} {lo hi : Int}, ds.all (isWhole · lo hi) = true → ∃ ns : List Int, ds = ns.map .int
  | [], _, _, _ => ⟨[], rfl⟩
  | d :: ds, lo, hi, h => by
    rw [List.all_cons, Bool.and_eq_true] at h
    obtain ⟨ns, rfl⟩ := ints_of_whole h.2
    cases d with
    | int i => exact ⟨i :: ns, rfl⟩
    | _ => exact absurd h.1 (by simp [isWhole])
theorem getD_nil (i : Nat) : ([] : List Int).getD i 0 = 0 := by simp
theorem row_nil : Row [] := ⟨fun n hn => (by cases hn), fun i => (by simp), (by simp)⟩
end Sr
set_option Elab.async false
set_option linter.all false
set_option maxRecDepth 100000
set_option maxHeartbeats 1000000
/-! Slides. -/
namespace Sr
open PySem Pd
theorem map_rng {α : Type} (n : Nat) (f : Int → α) : (rng 0 n).map f = (List.range n).map fun i => f ((i : Nat) : Int) := by
  unfold rng
  rw [List.map_map]
  refine List.map_congr_left fun i _ => ?_
  show f (0 + (i : Int)) = f (i : Int)
  rw [Int.zero_add]
def stepsL (ns : List Int) : List Int := (List.range ns.length).map fun i => ns.getD i 0 - ns.getD (i + 1) 0
def weightL (ns : List Int) : Int := (ns.zipIdx.map fun p => ((p.2 : Nat) : Int) * p.1).sum
/-- the places that can slide -/
def freeN (s : Int) (ns : List Int) : List Nat := (List.range ns.length).filter fun i => decide (s ≤ ns.getD i 0 - ns.getD (i + 1) 0)
def placesL (s : Int) (ns : List Int) : List Int := (freeN s ns).map fun i => ((i : Nat) : Int)
/-- the slide of a place -/
def mv (ns : List Int) (p : Nat) : List Int := if p + 1 < ns.length then (ns.set p (ns.getD p 0 - 1)).set (p + 1) (ns.getD (p + 1) 0 + 1) else ns.set p (ns.getD p 0 - 1) ++ [1]
theorem getD_app0 (ns : List Int) (k : Nat) : (ns ++ [0]).getD k 0 = ns.getD k 0 := by
  rw [List.getD_eq_getElem?_getD, List.getD_eq_getElem?_getD]
  by_cases h : k < ns.length
  · rw [List.getElem?_append_left h]
  · rw [List.getElem?_append_right (by omega), List.getElem?_eq_none (l := ns) (by omega)]
    cases hk : k - ns.length with
    | zero => rfl
    | succ m => rfl
theorem zipIdx_filter_map (ns : List Int) (s : Int) : ((stepsL ns).zipIdx.filter fun p => decide (s ≤ p.1)).map (fun p => ((p.2 : Nat) : Int)) = placesL s ns := by
  unfold placesL freeN stepsL
  rw [List.zipIdx_map, List.zipIdx_eq_zip_range', ← List.range_eq_range', List.length_range]
  have : ∀ l : List Nat, ((l.zip l).map (Prod.map (fun i => ns.getD i 0 - ns.getD (i + 1) 0) id) |>.filter fun p => decide (s ≤ p.1)).map (fun p => ((p.2 : Nat) : Int)) = (l.filter fun i => decide (s ≤ ns.getD i 0 - ns.getD (i + 1) 0)).map fun i => ((i : Nat) : Int) := by
    intro l
    induction l with
    | nil => rfl
    | cons a l ih =>
      simp only [List.zip_cons_cons, List.map_cons, Prod.map, id, List.filter_cons]
      by_cases h : s ≤ ns.getD a 0 - ns.getD (a + 1) 0
      · rw [if_pos (by simpa using h), if_pos (by simpa using h), List.map_cons, List.map_cons]
        congr 1
      · rw [if_neg (by simpa using h), if_neg (by simpa using h)]
        exact ih
  exact this _
theorem mem_freeN {s : Int} {ns : List Int} {p : Nat} : p ∈ freeN s ns ↔ p < ns.length ∧ s ≤ ns.getD p 0 - ns.getD (p + 1) 0 := by
  unfold freeN
  rw [List.mem_filter, List.mem_range]
  simp
theorem getD_set (ns : List Int) (i j : Nat) (x : Int) (hi : i < ns.length) : (ns.set i x).getD j 0 = if j = i then x else ns.getD j 0 := by
  rw [List.getD_eq_getElem?_getD, List.getD_eq_getElem?_getD]
  by_cases h : i = j
  · subst h
    rw [List.getElem?_set_self hi, if_pos rfl]
    rfl
  · rw [List.getElem?_set_ne h, if_neg (fun z => h z.symm)]
theorem getD_out {ns : List Int} {i : Nat} (h : ns.length ≤ i) : ns.getD i 0 = 0 := by
  rw [List.getD_eq_getElem?_getD, List.getElem?_eq_none h]
  rfl
theorem getD_mem {ns : List Int} {i : Nat} (h : i < ns.length) : ns.getD i 0 ∈ ns := by
  rw [List.getD_eq_getElem?_getD, List.getElem?_eq_getElem h]
  exact List.getElem_mem h
/-- heights behind a slide -/
theorem ht_mv {ns : List Int} {p : Nat} (hp : p < ns.length) (j : Nat) : (mv ns p).getD j 0 = ns.getD j 0 - (if j = p then 1 else 0) + (if j = p + 1 then 1 else 0) := by
  unfold mv
  by_cases h : p + 1 < ns.length
  · rw [if_pos h, getD_set _ _ _ _ (by rw [List.length_set]; exact h), getD_set _ _ _ _ hp]
    by_cases h1 : j = p + 1
    · subst h1
      rw [if_pos rfl, if_neg (by omega), if_pos rfl]
      omega
    · rw [if_neg h1, if_neg h1]
      by_cases h2 : j = p
      · subst h2; rw [if_pos rfl, if_pos rfl]; omega
      · rw [if_neg h2, if_neg h2]; omega
  · rw [if_neg h]
    have hl : p + 1 = ns.length := by omega
    by_cases h1 : j < ns.length
    · have : (ns.set p (ns.getD p 0 - 1) ++ [1]).getD j 0 = (ns.set p (ns.getD p 0 - 1)).getD j 0 := by
        rw [List.getD_eq_getElem?_getD (l := ns.set p (ns.getD p 0 - 1) ++ [1]), List.getD_eq_getElem?_getD (l := ns.set p (ns.getD p 0 - 1)), List.getElem?_append_left (by rw [List.length_set]; exact h1)]
      rw [this, getD_set _ _ _ _ hp, if_neg (show ¬ j = p + 1 by omega)]
      by_cases h2 : j = p
      · subst h2; rw [if_pos rfl, if_pos rfl]; omega
      · rw [if_neg h2, if_neg h2]; omega
    · have : (ns.set p (ns.getD p 0 - 1) ++ [1]).getD j 0 = if j = ns.length then 1 else 0 := by
        rw [List.getD_eq_getElem?_getD (l := ns.set p (ns.getD p 0 - 1) ++ [1]), List.getElem?_append_right (by rw [List.length_set]; omega), List.length_set]
        by_cases h3 : j = ns.length
        · subst h3; rw [if_pos rfl, Nat.sub_self]; rfl
        · rw [if_neg h3]
          have : 1 ≤ j - ns.length := by omega
          rw [List.getElem?_eq_none (by simpa using this)]
          rfl
      rw [this, getD_out (by omega), hl, if_neg (show ¬ j = p by omega)]
      by_cases h3 : j = ns.length
      · rw [if_pos h3]; omega
      · rw [if_neg h3]; omega
theorem len_mv {ns : List Int} {p : Nat} (hp : p < ns.length) : (mv ns p).length = max ns.length (p + 2) := by
  unfold mv
  by_cases h : p + 1 < ns.length
  · rw [if_pos h, List.length_set, List.length_set]; omega
  · rw [if_neg h, List.length_append, List.length_set]
    show ns.length + 1 = _
    omega
/-- what moved does -/
theorem mv_filter {ns : List Int} {p : Nat} (hp : p < ns.length) (h1 : ∀ n ∈ ns, 1 ≤ n) (h2 : 2 ≤ ns.getD p 0) :
    ((((ns ++ [0]).set p (ns.getD p 0 - 1)).set (p + 1) (ns.getD (p + 1) 0 + 1)).filter fun n => decide (0 < n)) = mv ns p := by
  have pos1 : ∀ n ∈ ns.set p (ns.getD p 0 - 1), 0 < n := fun n hn => by
    rcases List.mem_or_eq_of_mem_set hn with z | z
    · have := h1 n z; omega
    · omega
  have e1 : (ns ++ [0]).set p (ns.getD p 0 - 1) = ns.set p (ns.getD p 0 - 1) ++ [0] := by rw [List.set_append_left _ _ hp]
  rw [e1]
  unfold mv
  by_cases h : p + 1 < ns.length
  · rw [if_pos h, List.set_append_left _ _ (by rw [List.length_set]; exact h), List.filter_append]
    have e2 : List.filter (fun n => decide ((0 : Int) < n)) [0] = [] := by decide
    rw [e2, List.append_nil, List.filter_eq_self]
    intro n hn
    rcases List.mem_or_eq_of_mem_set hn with z | z
    · simpa using pos1 n z
    · have : 0 < ns.getD (p + 1) 0 := by have := h1 _ (getD_mem h); omega
      rw [z]
      exact decide_eq_true (by omega)
  · rw [if_neg h, List.set_append_right _ _ (by rw [List.length_set]; omega), List.length_set]
    have hl : p + 1 = ns.length := by omega
    rw [show p + 1 - ns.length = 0 by omega, getD_out (ns := ns) (i := p + 1) (by omega)]
    show List.filter _ (ns.set p (ns.getD p 0 - 1) ++ [1]) = _
    rw [List.filter_append]
    have e2 : List.filter (fun n => decide ((0 : Int) < n)) [1] = [1] := by decide
    rw [e2]
    congr 1
    rw [List.filter_eq_self]
    intro n hn
    simpa using pos1 n hn
/-! sums and squares -/
def sq (ns : List Int) : Nat := (ns.map fun n => n.natAbs * n.natAbs).sum
theorem sum_set' : ∀ {ns : List Int} {p : Nat} {x : Int}, p < ns.length → (ns.set p x).sum = ns.sum - ns.getD p 0 + x
  | [], _, _, h => by simp at h
  | n :: ns, 0, x, _ => by simp [List.set]; omega
  | n :: ns, p + 1, x, h => by
    have := sum_set' (ns := ns) (p := p) (x := x) (by simpa using h)
    simp only [List.set, List.sum_cons, List.getD_cons_succ]
    omega
theorem sum_mv {ns : List Int} {p : Nat} (hp : p < ns.length) : (mv ns p).sum = ns.sum := by
  unfold mv
  by_cases h : p + 1 < ns.length
  · rw [if_pos h, sum_set' (by rw [List.length_set]; exact h), sum_set' hp, getD_set _ _ _ _ hp, if_neg (by omega)]
    omega
  · rw [if_neg h, List.sum_append, sum_set' hp]
    simp
    omega
theorem sq_set : ∀ {ns : List Int} {p : Nat} {x : Int}, p < ns.length → sq (ns.set p x) + (ns.getD p 0).natAbs * (ns.getD p 0).natAbs = sq ns + x.natAbs * x.natAbs
  | [], _, _, h => by simp at h
  | n :: ns, 0, x, _ => by simp [List.set, sq]; omega
  | n :: ns, p + 1, x, h => by
    have := sq_set (ns := ns) (p := p) (x := x) (by simpa using h)
    simp only [List.set, sq, List.map_cons, List.sum_cons, List.getD_cons_succ] at this ⊢
    omega
theorem sq_app (ns ms : List Int) : sq (ns ++ ms) = sq ns + sq ms := by simp [sq]
theorem sq_mv {ns : List Int} {p : Nat} (hp : p < ns.length) (h0 : 0 ≤ ns.getD (p + 1) 0) (h : 2 ≤ ns.getD p 0 - ns.getD (p + 1) 0) : sq (mv ns p) < sq ns := by
  have a1 : ∀ a : Nat, (a + 1) * (a + 1) = a * a + 2 * a + 1 := fun a => by rw [Nat.add_mul, Nat.mul_add]; omega
  obtain ⟨a, ha⟩ : ∃ a : Nat, ns.getD p 0 = (a : Int) + 1 := ⟨(ns.getD p 0 - 1).toNat, by omega⟩
  unfold mv
  by_cases hl : p + 1 < ns.length
  · rw [if_pos hl]
    obtain ⟨b, hb⟩ : ∃ b : Nat, ns.getD (p + 1) 0 = (b : Int) := ⟨(ns.getD (p + 1) 0).toNat, by omega⟩
    have e1 := sq_set (ns := ns) (p := p) (x := ns.getD p 0 - 1) hp
    have e2 := sq_set (ns := ns.set p (ns.getD p 0 - 1)) (p := p + 1) (x := ns.getD (p + 1) 0 + 1) (by rw [List.length_set]; exact hl)
    rw [getD_set _ _ _ _ hp, if_neg (by omega)] at e2
    have n1 : (ns.getD p 0).natAbs = a + 1 := by omega
    have n2 : (ns.getD p 0 - 1).natAbs = a := by omega
    have n3 : (ns.getD (p + 1) 0).natAbs = b := by omega
    have n4 : (ns.getD (p + 1) 0 + 1).natAbs = b + 1 := by omega
    rw [n1, n2, a1] at e1
    rw [n3, n4, a1] at e2
    omega
  · rw [if_neg hl, sq_app]
    have e1 := sq_set (ns := ns) (p := p) (x := ns.getD p 0 - 1) hp
    have n1 : (ns.getD p 0).natAbs = a + 1 := by omega
    have n2 : (ns.getD p 0 - 1).natAbs = a := by omega
    rw [n1, n2, a1] at e1
    have e3 : sq [1] = 1 := by decide
    rw [getD_out (show ns.length ≤ p + 1 by omega)] at h
    omega
/-- rows stay rows -/
theorem Row.nn {ns : List Int} (h : Row ns) (i : Nat) : 0 ≤ ns.getD i 0 := by
  by_cases hi : i < ns.length
  · have := h.pos _ (getD_mem hi); omega
  · rw [getD_out (by omega)]; omega
theorem Row.mv {s : Int} {ns : List Int} {p : Nat} (h : Row ns) (hs : 2 ≤ s) (hp : p ∈ freeN s ns) : Row (mv ns p) := by
  obtain ⟨hl, hd⟩ := mem_freeN.mp hp
  refine ⟨fun n hn => ?_, fun i => ?_, by rw [sum_mv hl]; exact h.sum⟩
  · obtain ⟨i, hi, rfl⟩ := List.getElem_of_mem hn
    have e : (Sr.mv ns p)[i] = (Sr.mv ns p).getD i 0 := by rw [List.getD_eq_getElem?_getD, List.getElem?_eq_getElem hi]; rfl
    rw [e, ht_mv hl]
    have h1 := h.nn (p + 1)
    have h2 := h.nn i
    by_cases e1 : i = p
    · subst e1
      rw [if_pos rfl, if_neg (by omega)]; omega
    · rw [if_neg e1]
      by_cases e2 : i = p + 1
      · rw [if_pos e2]; omega
      · rw [if_neg e2]
        have : i < ns.length := by rw [len_mv hl] at hi; omega
        have := h.pos _ (getD_mem this)
        omega
  · rw [ht_mv hl, ht_mv hl]
    have h1 := h.falls i
    by_cases e1 : i = p
    · subst e1
      rw [if_neg (show ¬ i + 1 = i by omega), if_pos rfl, if_pos rfl, if_neg (show ¬ i = i + 1 by omega)]; omega
    · by_cases e2 : i = p + 1
      · subst e2
        rw [if_neg (show ¬ p + 1 + 1 = p by omega), if_neg (show ¬ p + 1 + 1 = p + 1 by omega), if_neg e1, if_pos rfl]; omega
      · rw [if_neg e1, if_neg e2, if_neg (show ¬ i + 1 = p + 1 by omega)]
        by_cases e3 : i + 1 = p
        · rw [if_pos e3]; omega
        · rw [if_neg e3]; omega
/-! ### the course: always the first place -/
def crs (s : Int) : Nat → List Int → List Int × List Int
  | 0, ns => ([], ns)
  | f + 1, ns => match freeN s ns with
    | [] => ([], ns)
    | p :: _ => let r := crs s f (mv ns p); (((p : Nat) : Int) :: r.1, r.2)
theorem sq_free {s : Int} {ns : List Int} {p : Nat} (h : Row ns) (hs : 2 ≤ s) (hp : p ∈ freeN s ns) : sq (mv ns p) < sq ns := by
  obtain ⟨hl, hd⟩ := mem_freeN.mp hp
  exact sq_mv hl (h.nn _) (by omega)
theorem crs_more {s : Int} (hs : 2 ≤ s) : ∀ (f g : Nat) (ns : List Int), Row ns → sq ns ≤ f → sq ns ≤ g → crs s f ns = crs s g ns
  | 0, 0, ns, _, _, _ => rfl
  | 0, g + 1, ns, h, h1, _ => by
    unfold crs
    cases hf : freeN s ns with
    | nil => rfl
    | cons p r =>
      have := sq_free h hs (p := p) (by rw [hf]; exact List.mem_cons_self)
      omega
  | f + 1, 0, ns, h, _, h1 => by
    unfold crs
    cases hf : freeN s ns with
    | nil => rfl
    | cons p r =>
      have := sq_free h hs (p := p) (by rw [hf]; exact List.mem_cons_self)
      omega
  | f + 1, g + 1, ns, h, h1, h2 => by
    unfold crs
    cases hf : freeN s ns with
    | nil => rfl
    | cons p r =>
      have hp : p ∈ freeN s ns := by rw [hf]; exact List.mem_cons_self
      have := sq_free h hs hp
      have e := crs_more hs f g (mv ns p) (h.mv hs hp) (by omega) (by omega)
      simp only [e]
def courseL (s : Int) (ns : List Int) : List Int × List Int := crs s (sq ns) ns
def endL (s : Int) (ns : List Int) : List Int := (courseL s ns).2
theorem course_nil {s : Int} {ns : List Int} (h : freeN s ns = []) : courseL s ns = ([], ns) := by
  unfold courseL
  cases sq ns with
  | zero => rfl
  | succ f => unfold crs; rw [h]
theorem course_cons {s : Int} {ns : List Int} {p : Nat} {r : List Nat} (hr : Row ns) (hs : 2 ≤ s) (h : freeN s ns = p :: r) : courseL s ns = (((p : Nat) : Int) :: (courseL s (mv ns p)).1, (courseL s (mv ns p)).2) := by
  have hp : p ∈ freeN s ns := by rw [h]; exact List.mem_cons_self
  have hlt := sq_free hr hs hp
  unfold courseL
  obtain ⟨f, hf⟩ : ∃ f, sq ns = f + 1 := ⟨sq ns - 1, by omega⟩
  rw [hf]
  conv => lhs; unfold crs
  rw [h]
  have e := crs_more hs f (sq (mv ns p)) (mv ns p) (hr.mv hs hp) (by omega) (by omega)
  simp only [e]
end Sr
set_option Elab.async false
set_option linter.all false
set_option maxRecDepth 100000
set_option maxHeartbeats 1000000
/-! A grain more. -/
namespace Sr
open PySem Pd
def heapL (g : Int) : List Int := if 0 < g then [g] else []
/-- rows are told by their heights -/
theorem row_ext {ns ms : List Int} (h1 : ∀ n ∈ ns, 1 ≤ n) (h2 : ∀ n ∈ ms, 1 ≤ n) (h : ∀ i, ns.getD i 0 = ms.getD i 0) : ns = ms := by
  have key : ∀ {as bs : List Int}, (∀ n ∈ as, 1 ≤ n) → (∀ i, as.getD i 0 = bs.getD i 0) → as.length ≤ bs.length := fun {as bs} ha hh => by
    refine Nat.le_of_not_lt fun hl => ?_
    have e := hh bs.length
    rw [getD_out (ns := bs) (Nat.le_refl _)] at e
    have := ha _ (getD_mem hl)
    omega
  have hl : ns.length = ms.length := Nat.le_antisymm (key h1 h) (key h2 fun i => (h i).symm)
  apply List.ext_getElem hl
  intro i hi hi'
  have e := h i
  rw [List.getD_eq_getElem?_getD, List.getD_eq_getElem?_getD, List.getElem?_eq_getElem hi, List.getElem?_eq_getElem hi'] at e
  exact e
/-- a grain on a place -/
def rsL (ns : List Int) (p : Nat) : List Int := if p < ns.length then ns.set p (ns.getD p 0 + 1) else ns ++ [1]
theorem ht_rs {ns : List Int} {p : Nat} (hp : p ≤ ns.length) (j : Nat) : (rsL ns p).getD j 0 = ns.getD j 0 + (if j = p then 1 else 0) := by
  unfold rsL
  by_cases h : p < ns.length
  · rw [if_pos h, getD_set _ _ _ _ h]
    by_cases h1 : j = p
    · subst h1; rw [if_pos rfl, if_pos rfl]
    · rw [if_neg h1, if_neg h1]; omega
  · rw [if_neg h]
    have hl : p = ns.length := by omega
    subst hl
    by_cases h1 : j < ns.length
    · rw [if_neg (by omega), List.getD_eq_getElem?_getD (l := ns ++ [1]), List.getElem?_append_left h1, ← List.getD_eq_getElem?_getD]; omega
    · rw [getD_out (ns := ns) (by omega), List.getD_eq_getElem?_getD (l := ns ++ [1]), List.getElem?_append_right (by omega)]
      by_cases h2 : j = ns.length
      · subst h2; rw [if_pos rfl, Nat.sub_self]; rfl
      · rw [if_neg h2, List.getElem?_eq_none (by simp; omega)]; rfl
theorem len_rs {ns : List Int} {p : Nat} (hp : p ≤ ns.length) : (rsL ns p).length = max ns.length (p + 1) := by
  unfold rsL
  by_cases h : p < ns.length
  · rw [if_pos h, List.length_set]; omega
  · rw [if_neg h, List.length_append]; show ns.length + 1 = _; omega
theorem sum_rs {ns : List Int} {p : Nat} (hp : p ≤ ns.length) : (rsL ns p).sum = ns.sum + 1 := by
  unfold rsL
  by_cases h : p < ns.length
  · rw [if_pos h, sum_set' h]; omega
  · rw [if_neg h, List.sum_append]; rfl
/-- a place on which a grain may be put -/
def CanPut (ns : List Int) (p : Nat) : Prop := p ≤ ns.length ∧ (p = 0 ∨ ns.getD p 0 < ns.getD (p - 1) 0)
theorem Row.rs {ns : List Int} {p : Nat} (h : Row ns) (hp : CanPut ns p) (hs : ns.sum < 18) : Row (rsL ns p) := by
  refine ⟨fun n hn => ?_, fun i => ?_, by rw [sum_rs hp.1]; omega⟩
  · obtain ⟨i, hi, rfl⟩ := List.getElem_of_mem hn
    have e : (rsL ns p)[i] = (rsL ns p).getD i 0 := by rw [List.getD_eq_getElem?_getD, List.getElem?_eq_getElem hi]; rfl
    rw [e, ht_rs hp.1]
    have h2 := h.nn i
    by_cases e1 : i = p
    · rw [if_pos e1]; omega
    · rw [if_neg e1]
      have : i < ns.length := by
        have := hp.1
        rw [len_rs hp.1] at hi; omega
      have := h.pos _ (getD_mem this)
      omega
  · rw [ht_rs hp.1, ht_rs hp.1]
    have h1 := h.falls i
    by_cases e1 : i + 1 = p
    · rw [if_pos e1, if_neg (by omega)]
      rcases hp.2 with z | z
      · omega
      · rw [← e1, Nat.add_sub_cancel] at z; omega
    · rw [if_neg e1]
      by_cases e2 : i = p
      · rw [if_pos e2]; omega
      · rw [if_neg e2]; omega
/-- how far a grain rolls on -/
def rollN (s : Int) (ns : List Int) : Nat → Nat → Nat
  | 0, p => p
  | f + 1, p => if s ≤ ns.getD p 0 + 1 - ns.getD (p + 1) 0 then rollN s ns f (p + 1) else p
theorem free_nil {s : Int} {ns : List Int} (h : freeN s ns = []) (i : Nat) (hi : i < ns.length) : ns.getD i 0 - ns.getD (i + 1) 0 < s := by
  have : ¬ i ∈ freeN s ns := by rw [h]; exact List.not_mem_nil
  rw [mem_freeN] at this
  refine Int.lt_of_not_ge fun z => this ⟨hi, z⟩
theorem free_nil' {s : Int} (hs : 2 ≤ s) {ns : List Int} (h : freeN s ns = []) (i : Nat) : ns.getD i 0 - ns.getD (i + 1) 0 < s := by
  by_cases hi : i < ns.length
  · exact free_nil h i hi
  · rw [getD_out (by omega), getD_out (by omega)]; omega
theorem free_rs_stop {s : Int} {ns : List Int} {p : Nat} (hs : 2 ≤ s) (h : freeN s ns = []) (hp : p ≤ ns.length) (hr : ¬ s ≤ ns.getD p 0 + 1 - ns.getD (p + 1) 0) : freeN s (rsL ns p) = [] := by
  apply List.eq_nil_iff_forall_not_mem.mpr
  intro i hi
  obtain ⟨hl, hd⟩ := mem_freeN.mp hi
  rw [ht_rs hp, ht_rs hp] at hd
  have h1 := free_nil' hs h i
  by_cases e1 : i = p
  · subst e1
    rw [if_pos rfl, if_neg (by omega)] at hd; omega
  · rw [if_neg e1] at hd
    by_cases e2 : i + 1 = p
    · rw [if_pos e2] at hd; omega
    · rw [if_neg e2] at hd; omega
theorem nodup_range_filter (n : Nat) (c : Nat → Bool) : ((List.range n).filter c).Nodup := List.Nodup.sublist List.filter_sublist List.nodup_range
theorem eq_single {l : List Nat} {p : Nat} (hn : l.Nodup) (h : ∀ i, i ∈ l ↔ i = p) : l = [p] := by
  cases l with
  | nil => exact absurd ((h p).mpr rfl) List.not_mem_nil
  | cons a r =>
    have ha := (h a).mp List.mem_cons_self
    subst ha
    cases r with
    | nil => rfl
    | cons b r =>
      have hb := (h b).mp (List.mem_cons_of_mem _ List.mem_cons_self)
      subst hb
      simp at hn
theorem free_rs_go {s : Int} {ns : List Int} {p : Nat} (hs : 2 ≤ s) (h : freeN s ns = []) (hp : p ≤ ns.length) (hr : s ≤ ns.getD p 0 + 1 - ns.getD (p + 1) 0) : freeN s (rsL ns p) = [p] := by
  refine eq_single (nodup_range_filter _ _) fun i => ?_
  rw [mem_freeN, ht_rs hp, ht_rs hp, len_rs hp]
  have h1 := free_nil' hs h i
  constructor
  · rintro ⟨hl, hd⟩
    refine Classical.byContradiction fun e1 => ?_
    rw [if_neg e1] at hd
    by_cases e2 : i + 1 = p
    · rw [if_pos e2] at hd; omega
    · rw [if_neg e2] at hd; omega
  · intro e
    subst e
    rw [if_pos rfl, if_neg (by omega)]
    omega
theorem mv_rs {s : Int} {ns : List Int} {p : Nat} (h0 : Row ns) (hs : 2 ≤ s) (h : freeN s ns = []) (hp : CanPut ns p) (hsum : ns.sum < 18) (hr : s ≤ ns.getD p 0 + 1 - ns.getD (p + 1) 0) : CanPut ns (p + 1) ∧ mv (rsL ns p) p = rsL ns (p + 1) := by
  have hfr := free_rs_go hs h hp.1 hr
  have hpl : p < ns.length := by
    refine Nat.lt_of_not_le fun z => ?_
    rw [getD_out z, getD_out (by omega)] at hr; omega
  have hc : CanPut ns (p + 1) := ⟨hpl, .inr (by rw [Nat.add_sub_cancel]; omega)⟩
  refine ⟨hc, row_ext ?_ (h0.rs hc hsum).pos fun j => ?_⟩
  · exact ((h0.rs hp hsum).mv hs (by rw [hfr]; exact List.mem_cons_self)).pos
  · rw [ht_mv (by rw [len_rs hp.1]; omega), ht_rs hp.1, ht_rs hc.1]
    by_cases e1 : j = p
    · rw [if_pos e1, if_neg (by omega)]; omega
    · rw [if_neg e1]
      by_cases e2 : j = p + 1
      · rw [if_pos e2]; omega
      · rw [if_neg e2]; omega
/-- a dropped grain rolls on -/
theorem end_rs {s : Int} {ns : List Int} (h0 : Row ns) (hs : 2 ≤ s) (h : freeN s ns = []) (hsum : ns.sum < 18) : ∀ (f p : Nat), CanPut ns p → ns.length ≤ p + f → CanPut ns (rollN s ns f p) ∧ endL s (rsL ns p) = rsL ns (rollN s ns f p) ∧ freeN s (rsL ns (rollN s ns f p)) = []
  | 0, p, hp, hf => by
    have hl : p = ns.length := by have := hp.1; omega
    have hr : ¬ s ≤ ns.getD p 0 + 1 - ns.getD (p + 1) 0 := by rw [getD_out (by omega), getD_out (by omega)]; omega
    have hstop := free_rs_stop hs h hp.1 hr
    refine ⟨hp, ?_, hstop⟩
    show endL s (rsL ns p) = rsL ns p
    unfold endL
    rw [course_nil hstop]
  | f + 1, p, hp, hf => by
    unfold rollN
    by_cases hr : s ≤ ns.getD p 0 + 1 - ns.getD (p + 1) 0
    · rw [if_pos hr]
      obtain ⟨hc, hm⟩ := mv_rs h0 hs h hp hsum hr
      obtain ⟨i1, i2, i3⟩ := end_rs h0 hs h hsum f (p + 1) hc (by omega)
      refine ⟨i1, ?_, i3⟩
      unfold endL
      rw [course_cons (h0.rs hp hsum) hs (free_rs_go hs h hp.1 hr), hm]
      exact i2
    · rw [if_neg hr]
      have hstop := free_rs_stop hs h hp.1 hr
      refine ⟨hp, ?_, hstop⟩
      unfold endL
      rw [course_nil hstop]
def dropN (s : Int) (ns : List Int) (p : Nat) : Nat := rollN s ns ns.length p
/-- what raised does -/
theorem rs_filter {ns : List Int} {p : Nat} (hp : p ≤ ns.length) (h1 : ∀ n ∈ ns, 1 ≤ n) : (((ns ++ [0]).set p (ns.getD p 0 + 1)).filter fun n => decide (0 < n)) = rsL ns p := by
  unfold rsL
  have pos1 : ∀ l : List Int, (∀ n ∈ l, 1 ≤ n) → l.filter (fun n => decide (0 < n)) = l := fun l hl => by
    rw [List.filter_eq_self]
    intro n hn
    exact decide_eq_true (by have := hl n hn; omega)
  by_cases h : p < ns.length
  · rw [if_pos h, List.set_append_left _ _ h, List.filter_append]
    have e2 : List.filter (fun n => decide ((0 : Int) < n)) [0] = [] := by decide
    rw [e2, List.append_nil, pos1]
    intro n hn
    rcases List.mem_or_eq_of_mem_set hn with z | z
    · exact h1 n z
    · have := h1 _ (getD_mem h); omega
  · rw [if_neg h, List.set_append_right _ _ (by omega), show p - ns.length = 0 by omega, getD_out (by omega)]
    show List.filter _ (ns ++ [1]) = _
    rw [List.filter_append, pos1 ns h1]
    rfl
/-- the one place that has changed -/
theorem diff_rs {ns : List Int} {q : Nat} (hq : q ≤ ns.length) : ((rsL ns q).zipIdx.filter fun p => !decide (p.1 = (ns ++ [0]).getD p.2 0)).map (fun p => ((p.2 : Nat) : Int)) = [((q : Nat) : Int)] := by
  have key : ((rsL ns q).zipIdx.filter fun p => !decide (p.1 = (ns ++ [0]).getD p.2 0)).map (fun p => p.2) = [q] := by
    refine eq_single ?_ fun i => ?_
    · refine List.Nodup.sublist ?_ (List.nodup_range (n := (rsL ns q).length))
      have hm : (rsL ns q).zipIdx.map Prod.snd = List.range (rsL ns q).length := by rw [List.zipIdx_map_snd, List.range_eq_range']
      rw [← hm]
      exact List.Sublist.map _ List.filter_sublist
    · rw [List.mem_map]
      constructor
      · rintro ⟨⟨x, j⟩, hm, rfl⟩
        rw [List.mem_filter] at hm
        obtain ⟨h1, h2⟩ := hm
        have h3 : (rsL ns q)[j]? = some x := by
          have := List.mem_zipIdx_iff_getElem?.mp h1
          exact this
        have h4 : (rsL ns q).getD j 0 = x := by rw [List.getD_eq_getElem?_getD, h3]; rfl
        rw [ht_rs hq] at h4
        have h5 : x ≠ (ns ++ [0]).getD j 0 := by simpa using h2
        rw [getD_app0] at h5
        refine Classical.byContradiction fun e => h5 ?_
        rw [if_neg e] at h4; omega
      · intro e
        subst e
        refine ⟨((rsL ns i).getD i 0, i), ?_, rfl⟩
        rw [List.mem_filter]
        constructor
        · rw [List.mem_zipIdx_iff_getElem?]
          have hl : i < (rsL ns i).length := by rw [len_rs hq]; omega
          rw [List.getD_eq_getElem?_getD]
          show (rsL ns i)[i]? = some ((rsL ns i)[i]?.getD 0)
          rw [List.getElem?_eq_getElem hl]
          rfl
        · rw [ht_rs hq, if_pos rfl, getD_app0]
          simp
          omega
  have := congrArg (List.map fun i : Nat => (i : Int)) key
  rw [List.map_map] at this
  exact this
end Sr
set_option Elab.async false
set_option linter.all false
set_option maxRecDepth 100000
set_option maxHeartbeats 1000000
/-! What raises. -/
namespace Pd
open PySem PySem.Spec PyProof.Rows L2
/-- the package's exceptions -/
inductive Ec where
  | st | row | pl | gr | tx | firm | ne | ris | tm | un
  deriving DecidableEq
def Ec.nm : Ec → Str
  | .st => "InvalidSteepness" | .row => "InvalidRow" | .pl => "InvalidPlace" | .gr => "InvalidGrains" | .tx => "InvalidText" | .firm => "Firm" | .ne => "NotEnd" | .ris => "Rises" | .tm => "TooMany" | .un => "NothingToUndo"
abbrev vTail : List Value := [.type "ValueError", .type "Exception", .type "BaseException", .type "object"]
/-- what is known of a class of exceptions -/
structure Xk (K : PySem.W.Frag) (mg : Str → Option Value) (x : Str) (C : Addr) : Prop where
  gl : mg x = some (.ref C)
  ex : PySem.W.excIn K C vTail "ValueError.__new__" = true
  kp : PySem.W.keepIn K (.ref C) = true
  sb : PySem.W.subIn K (.ref C) (.type "BaseException") = some true
  ty : PySem.W.typeIn K (.ref C) = some (.type "type")
/-- called so it raises C -/
def spR {α : Type} (args : α → List PyData) (pre : α → Prop) (C : α → Addr) : Sp := fun vs H _ E => ∃ (a : α) (O : Addr → Prop), Al O H ∧ IsAll O H vs (args a) ∧ pre a ∧ ∀ H', Ext H H' → E (.ref (C a)) none H'
def DfX (P : Program) (w : World) (K : PySem.W.Frag) (mg : Str → Option Value) (base : Heap) (k : Nat) (x : Str) (ps : List Str) (sp : Sp) : Prop := ∃ f fd, Has K mg x f fd ps ∧ FnOk P w K mg base (L2N.CX P w) k f fd ps sp
def tXR (ρ : List Sl) (W : WX) (C : Addr) : TE := fun σ H _ => ∃ Wf O, Gd Wf O σ H ρ ∧ ∀ H', Gd Wf O σ H' ρ → ExD σ ρ H H' → W (.ref C) none σ H'
def tXAR (ρ : List Sl) (W : WX) (C : Addr) : TA := fun σ H _ => ∃ Wf O, Gd Wf O σ H ρ ∧ ∀ H', Gd Wf O σ H' ρ → ExD σ ρ H H' → W (.ref C) none σ H'
def tR (ρ : List Sl) (W : WX) (C : Addr) : TS := fun _ σ H => ∃ Wf O, Gd Wf O σ H ρ ∧ ∀ σ' H', (∀ a o, Wf.H0 a = some o → ¬ Wf.M a → H' a = some o) → W (.ref C) none σ' H'
abbrev XR (X : Cx) (W : WX) (e : Expr) (ρ : List Sl) (C : Addr) : Prop := PE X e (tXR ρ W C)
abbrev AR (X : Cx) (W : WX) (es : List Expr) (ρ : List Sl) (C : Addr) : Prop := PA X es (tXAR ρ W C)
abbrev RXs (X : Cx) (W : WX) (ts : List Stmt) (ρ : List Sl) (C : Addr) : Prop := PSs X ts (tR ρ W C)
section
variable {X : Cx} {W : WX} {ρ : List Sl} {φ : PyData → Prop} {e a b c : Expr} {es : List Expr} {pos : Pos} {C : Addr} {st : Stmt} {rest : List Stmt} {mid : List Sl → Prop}
/-- a call that raises -/
theorem r_call {α : Type} {args : α → List PyData} {pre : α → Prop} {cl : α → Addr} {k j : Nat} {ps : List Str} {x : Str} {p : Pos} (a : α) (tk : L2N.Takes X W)
    (F : DfX X.prog X.w X.K X.mg X.base k x ps (spR args pre cl)) (hr : Room j X.A) (ha : AV X (e :: es) ρ (args a)) (hp : pre a) (hC : cl a = C) (hj : k ≤ j := by decide) (hg : Gl X x := by rfl) (hdb : (x == ("__debug__" : Str)) = false := by decide)
    (he : starEach (e :: es) X.env = (false, eval e X.env) :: starEach es X.env := by rfl) (hpl : (backTo pos (starEach es X.env)).any (·.1) = false := by rfl) : XR X W (.Call (.Name x p) (e :: es) [] pos) ρ C := by
  obtain ⟨f, fd, T, G⟩ := F
  refine PE.imp (pe_callS (E := fun σ => WE W σ) G (hr.mono hj) hg T.gl T.kp T.bd (fun σ => L2N.passAt tk σ) ha hdb he hpl) fun σ H Q ⟨Wf, O, g, q⟩ => ⟨Wf, O, g, fun ds vs H1 hd g1 e1 i1 => ?_⟩
  subst hd
  exact ⟨a, O, g1.al, i1, hp, fun H' e' => by rw [hC]; exact q H' (g1.ext' e') (e1.trans e'.exd)⟩
/-- raise X("..") -/
theorem r_raise {x m : Str} {j : Nat} {p p2 p3 : Pos} (tk : L2N.Takes X W) (B : Xk X.K X.mg x C) (hc : X.calm = true := by rfl) (hg : Gl X x := by rfl) (hdb : (x == ("__debug__" : Str)) = false := by decide) :
    RXs X W (.Raise (some (.Call (.Name x p) [.Constant (.str m) j p2] [] p3)) none pos :: rest) ρ C :=
  PSs.imp (pss_cons (u := tNever) (L2N.ps_raise hc tk (L2N.pmk_own PySem.F.excBase_ValueError B.ex B.gl B.kp (raises_own B.sb B.ty) hg hdb)) pss_never) fun D σ H ⟨Wf, O, g, q⟩ => q σ H g.ext
theorem r_seq (h : SX X st ρ mid (fun _ => False)) (k : ∀ ρ', mid ρ' → RXs X W rest ρ' C) : RXs X W (st :: rest) ρ C :=
  PSs.imp (pss_cons (u := fun D σ H => ∃ ρ', mid ρ' ∧ tR ρ' W C D σ H) h (PSs.exi k)) fun D σ H ⟨Wf, O, g, q⟩ => ⟨Wf, O, g, fun ρ' O' σ' H' hm g' => ⟨ρ', hm, Wf, O', g', q⟩, fun _ _ _ _ h => h.elim⟩
theorem r_never {D : Ends} : True := trivial
/-- a call alone: it raises -/
theorem r_expr (h : XR X W e ρ C) (hs : swapsWith e none pos.line X.env = pure false := by rfl) : RXs X W (.Expr e pos :: rest) ρ C :=
  PSs.imp (pss_cons (u := tNever) (ps_expr h hs) pss_never) fun D σ H ⟨Wf, O, g, q⟩ => ⟨Wf, O, g, fun H' g' _ => q σ H' g'.ext⟩
theorem r_asg {x : Str} {pos' : Pos} (i : Nat) (h : XR X W e ρ C) (hN : X.N.Nodup) (hi : X.N[i]? = some x := by rfl) (hx : Loc X.env.scope x := by first | exact Or.inl rfl | exact Or.inr rfl)
    (hs : swapsWith e (some (.Name x pos')) pos.line X.env = pure false := by rfl) (hf : X.fn x = true ∨ X.env.scope.names.lookup x = some .local := by first | exact .inl rfl | exact .inr rfl | assumption) : RXs X W (.Assign [.Name x pos'] e pos :: rest) ρ C :=
  PSs.imp (pss_cons (u := tNever) (ps_set (i := i) hN hi hx h hs hf) pss_never) fun D σ H ⟨Wf, O, g, q⟩ => ⟨Wf, O, g, fun H' g' _ => q σ H' g'.ext⟩
theorem r_ret (h : XR X W e ρ C) : RXs X W (.Return (some e) pos :: rest) ρ C :=
  PSs.imp (pss_cons (u := tNever) (ps_ret h) pss_never) fun D σ H ⟨Wf, O, g, q⟩ => ⟨Wf, O, g, fun H' g' _ => q σ H' g'.ext⟩
/-- an argument raises -/
theorem a_here (h : XR X W e ρ C) (hr : PA X es (fun _ _ _ => False)) (hs : starEach (e :: es) X.env = (false, eval e X.env) :: starEach es X.env := by rfl) : AR X W (e :: es) ρ C :=
  PA.imp (pa_cons h hr hs) fun σ H Q ⟨Wf, O, g, q⟩ => ⟨Wf, O, g, q⟩
theorem a_never : PA X es (fun _ _ _ => False) := ⟨fun _ _ _ _ _ _ _ h => h.elim⟩
theorem a_then (ha : XE X e ρ φ) (hr : AR X W es ρ C) (hs : starEach (e :: es) X.env = (false, eval e X.env) :: starEach es X.env := by rfl) : AR X W (e :: es) ρ C :=
  PA.imp (pa_cons ha hr hs) fun σ H Q ⟨Wf, O, g, q⟩ => ⟨Wf, O, g, fun d x H1 hd g1 e1 i1 => ⟨Wf, O, g1, fun H' g' e' => q H' g' (e1.trans e')⟩⟩
theorem r_callA {k j : Nat} {ps : List Str} {sp : Sp} {x : Str} {p : Pos} (F : Df X.prog X.w X.K X.mg X.base k x ps sp) (hr : Room j X.A) (ha : AR X W (e :: es) ρ C) (hj : k ≤ j := by decide) (hg : Gl X x := by rfl) (hdb : (x == ("__debug__" : Str)) = false := by decide)
    (he : starEach (e :: es) X.env = (false, eval e X.env) :: starEach es X.env := by rfl) (hpl : (backTo pos (starEach es X.env)).any (·.1) = false := by rfl) : XR X W (.Call (.Name x p) (e :: es) [] pos) ρ C := by
  obtain ⟨f, fd, T, G⟩ := F
  exact PE.imp (pe_call G (hr.mono hj) hg T.gl T.kp T.bd .nil pass0 ha hdb he hpl) fun σ H Q h => h
/-- if c: .. -/
theorem r_ifT {ta : List Stmt} (hc : TV X c ρ true) (h : RXs X W ta ρ C) : RXs X W (.If c ta [] pos :: rest) ρ C :=
  PSs.imp (pss_cons (u := tNever) (ps_if (t := tR ρ W C) (u := fun _ _ _ => False) hc h ⟨fun _ _ _ _ _ _ z => z.elim⟩) pss_never) fun D σ H ⟨Wf, O, g, q⟩ => ⟨Wf, O, g, fun b H' hb g' e' => by subst hb; exact ⟨Wf, O, g', q⟩⟩
theorem r_ifN {ta : List Stmt} (hc : TV X c ρ false) (h : RXs X W rest ρ C) : RXs X W (.If c ta [] pos :: rest) ρ C :=
  PSs.imp (pss_cons (u := tR ρ W C) (ps_if (t := fun _ _ _ => False) (u := tS ρ (fun ρ' => ρ' = ρ) (fun _ => False)) hc ⟨fun _ _ _ _ _ _ z => z.elim⟩ (s_nil rfl)) h) fun D σ H ⟨Wf, O, g, q⟩ => ⟨Wf, O, g, fun b H' hb g' e' => by subst hb; exact ⟨Wf, O, g', fun ρ' O' σ' H'' hρ g'' => by rw [hρ] at g''; exact ⟨Wf, O', g'', q⟩, fun _ _ _ _ h => h.elim⟩⟩
/-- an expression alone, that raises nothing -/
theorem r_exprN (h : XE X e ρ φ) (k : RXs X W rest ρ C) (hs : swapsWith e none pos.line X.env = pure false := by rfl) : RXs X W (.Expr e pos :: rest) ρ C :=
  r_seq (mid := fun ρ' => ρ' = ρ) (PS.imp (ps_expr h hs) fun D σ H ⟨Wf, O, g, k1, k2⟩ => ⟨Wf, O, g, fun d v H' hd g' e' i' => k1 ρ O σ H' rfl g'⟩) fun ρ' h => by rw [h]; exact k
theorem r_asgN {s : Sl} {x : Str} {pos' : Pos} (i : Nat) (he : SV X e ρ s) (k : RXs X W rest (ρ.set i s) C) (hN : X.N.Nodup) (hn : nd ρ i = true := by rfl) (hi : X.N[i]? = some x := by rfl) (hx : Loc X.env.scope x := by first | exact Or.inl rfl | exact Or.inr rfl)
    (hs : swapsWith e (some (.Name x pos')) pos.line X.env = pure false := by rfl) (hf : X.fn x = true ∨ X.env.scope.names.lookup x = some .local := by first | exact .inl rfl | exact .inr rfl | assumption) : RXs X W (.Assign [.Name x pos'] e pos :: rest) ρ C :=
  r_seq (mid := fun ρ' => ρ' = ρ.set i s) (S_set i he (fun s' h => by rw [h]) hN hn hi hx hs hf) fun ρ' h => by rw [h]; exact k
end
section
variable {P : Program} {w : World} {K : PySem.W.Frag} {mg : Str → Option Value} {base : Heap}
/-- a def that raises -/
theorem DfX.mk {α : Type} {args : α → List PyData} {pre : α → Prop} {cl : α → Addr} {x : Str} {st : Stmt} {N ps : List Str} {k : Nat} (T : Tx K mg x st ps) (S : FnScope N ps (defScope st)) (len : ∀ a, (args a).length = ps.length)
    (body : ∀ (a : α), pre a → ∀ (f : Addr) (cdv : Value) (A : Around) (outer : List Env) (s : Shared) (H : Hp) (E : XK), Room k (A.deeper (envOfC x (defScope st) s.heap.objs.size f cdv)) → ∀ W : WX, L2N.Takes (cxOf (L2N.CX P w) P w K mg base N x (defScope st) f cdv A outer s H E) W →
      RXs (cxOf (L2N.CX P w) P w K mg base N x (defScope st) f cdv A outer s H E) W (defBody st) ((args a).map .val ++ List.replicate (N.length - ps.length) .no) (cl a)) : DfX P w K mg base (k + 1) x ps (spR args pre cl) := by
  obtain ⟨f, fd, F, h⟩ := T
  obtain ⟨oc, od, kV, doc, pm, an, cdv, ct, osl, rfl, lk, hcd⟩ := F.ex
  refine ⟨f, _, h, fn_of lk hcd S (fun vs H Q E h => ?_) fun A outer s H vs Q E hr hsp => ?_⟩
  · obtain ⟨a, O, _, i, _⟩ := h
    rw [i.length, len]
  · obtain ⟨a, O, al, is, hp, q⟩ := hsp
    have hl : vs.length = ps.length := by rw [is.length, len]
    refine ⟨_, body a hp f cdv A outer s H E hr (fun cls d _ H' => E cls d H') (L2N.takes_of rfl rfl rfl rfl), ⟨H, O, fun _ => False, fun _ => False, O, []⟩, O, ?_, fun σ' H' hx => q H' fun a o h => hx a o h (fun z => z)⟩
    unfold L2.start
    rw [hl]
    exact gd_start al is
end
end Pd
set_option Elab.async false
set_option linter.all false
set_option maxRecDepth 100000
set_option maxHeartbeats 1000000
/-! Where an exception is handled: the end of a list's iterator, sum, [int(x) for x in xs]. -/
namespace PdH
open PySem PySem.Spec PyProof.Rows HotX
section
variable {prog : Program} {w : World} {A : Around} {E : Value → Shared → Prop} {s : Shared}
theorem list_end_hot {it l x1 : Addr} {i : Nat} {items : Array Value} {Q : Option Value → Shared → Prop} (hot : HotAt A x1 s.heap) (hne : x1 ≠ it) (hit : s.heap.IsListIter it l i) (hl : s.heap.IsList l items) (hx : items[i]? = none)
    (hQ : ∀ h', Heap.ExtBut it s.heap h' → Q none { s with heap := h' }) : wpAny (model prog w) A (pyNext (.ref it)) Q E s := by
  obtain ⟨o, ho, hc, hd⟩ := id hit
  obtain ⟨ol, hol, _, nl, hdl⟩ := hl
  obtain ⟨hh, o1, vs1, h1, d1, c1⟩ := hot
  unfold pyNext
  refine wpAny_bind (wpAny_attempt (wpAny_callSpecial?_slot (name := Str.ofString "__next__") hit.typeIs slot_listiter_next
    (wpAny_call_entry slot_listiter_next hit.typeIs entry_listiter_next ?_ (args_listiter_next _))))
  show wpAny _ _ (field (.ref it) 0 >>= _) _ _ s
  refine wpAny_bind (wpAny_field ho hd (x := .ref l) rfl ?_)
  show wpAny _ _ (if (Value.ref l == Value.none) = true then _ else _) _ _ s
  rw [if_neg (show ¬ ((Value.ref l == Value.none) = true) from Bool.false_ne_true)]
  show wpAny _ _ (field (.ref it) 1 >>= _) _ _ s
  refine wpAny_bind (wpAny_field ho hd (x := .int i 0) rfl ?_)
  show wpAny _ _ (seqItems? (.ref l) >>= _) _ _ s
  refine wpAny_bind (wpAny_seqItems hol hdl ?_)
  simp only [Int.toNat_natCast, hx]
  refine wpAny_bind (wpAny_rule (wpAny_bind (wpAny_setField ho hd (by simp) ?_)))
  show wpAny _ _ (newExc (.type "StopIteration") [] >>= _) _ _ _
  refine wpAny_bind ?_
  simp only [newExc, newTuple]
  refine wpAny_bind (wpAny_newObj_type ?_ (by size_fits))
  refine wpAny_bind (m := firstArgMember _ _) (wpAny_of_eq (a := Value.none) (by first | rfl | (simp only [firstArgMember]; rfl)) ?_)
  refine wpAny_newObj_type ?_ (by size_fits)
  have h1' : ∀ f : Obj → Obj, (s.heap.update it f).get? x1 = some o1 := fun f => by rw [Heap.get?_update_other _ _ (Ne.symm hne)]; exact h1
  refine raiseNew_hot ⟨hh, o1, vs1, Heap.get?_push_of_some _ (Heap.get?_push_of_some _ (h1' _)), d1, c1⟩ (Nat.ne_of_lt (Heap.lt_size (Heap.get?_push_of_some _ (h1' _)))) (Heap.get?_push_size _ rfl) rfl (by first | (simp; done) | (simp; omega) | (simp only [Array.size_append]; simp; omega)) ?_
  refine wpAny_bind (wpAny_isInstance (T := "StopIteration") (b := true) ⟨_, Heap.get?_update_self _ (Heap.get?_push_size _ rfl) rfl, rfl⟩ isSubtype_stop ?_)
  refine wpAny_pure (hQ _ fun b o hb e => ?_)
  have e' : ∀ f : Obj → Obj, (s.heap.update it f).get? b = some o := fun f => by rw [Heap.get?_update_other _ _ (Ne.symm hb)]; exact e
  rw [Heap.get?_update_other _ _ (Nat.ne_of_gt (Heap.lt_size (Heap.get?_push_of_some _ (e' _))))]
  exact Heap.get?_push_of_some _ (Heap.get?_push_of_some _ (e' _))
theorem walks_hot {x1 : Addr} (hh : A.handled = some (.ref x1)) (I ax : Addr) (hne : ax ≠ I) (hx : x1 ≠ I) (items : Array Value) :
    Walks prog w A I [I, ax, x1] [I] items.size (fun i v => items[i]? = some v) (fun i h => h.IsListIter I ax i ∧ h.IsList ax items ∧ HotAt A x1 h) where
  sub := fun b hb => by simp at hb; simp [hb]
  frame := fun _ _ _ st hk => ⟨st.1.at fun o e => hk I (by simp) o e, st.2.1.at fun o e => hk ax (by simp) o e, by
    obtain ⟨h1, o, vs, h2, h3⟩ := st.2.2
    exact ⟨h1, o, vs, hk x1 (by simp) _ h2, h3⟩⟩
  item := fun i s Q E hi st hQ => by
    refine wpAny_pyNext_list_item st.1 st.2.1 (x := items[i]) (by simp [hi]) fun h' hit' hs' => ?_
    obtain ⟨h1, o, vs, h2, h3⟩ := st.2.2
    exact hQ _ h' s.toks (by simp [hi]) ⟨hit', st.2.1.extBut hs'.extBut hne, h1, o, vs, hs'.extBut _ _ hx h2, h3⟩ fun b o hb e => hs'.extBut b o (fun h => hb (by simp [h])) e
  done := fun s Q E st hQ => list_end_hot st.2.2 hx st.1 st.2.1 (by simp) fun h' he' => hQ h' s.toks fun b o hb e => he' b o (fun h => hb (by simp [h])) e
  self := fun _ _ _ _ st hQ => wpAny_pyIter_listiter st.1 hQ
/-- sum of a list of ints -/
theorem sum_hot {l x1 : Addr} {xs : Array (Int × Tok)} {Q : Value → Shared → Prop} (hot : HotAt A x1 s.heap) (hl : s.heap.IsList l (intItems xs))
    (h : ∀ h' tk t', (∀ b o, s.heap.get? b = some o → h'.get? b = some o) → Q (.int (preSum (numAt xs) xs.size) t') { s with heap := h', toks := tk }) :
    wpAny (model prog w) A (call (.builtin "sum") [.ref l]) Q E s := by
  have hlt : l < s.heap.objs.size := by obtain ⟨_, e, _⟩ := hl; exact Heap.lt_size e
  obtain ⟨hh, o1, vs1, h1, d1, c1⟩ := hot
  have hxl : x1 < s.heap.objs.size := Heap.lt_size h1
  refine call_sum_walkG (wpAny_pyIter_list hl ?_)
  refine ⟨_, _, _, _, _, _, numAt xs, rfl, walks_hot (A := A.in1) hh s.heap.objs.size l (Nat.ne_of_lt hlt) (Nat.ne_of_lt hxl) (intItems xs), ⟨⟨_, Heap.get?_push_size _ rfl, rfl, rfl⟩, hl.push _, hh, o1, vs1, Heap.get?_push_of_some _ h1, d1, c1⟩, fun b hb => ?_, (fun _ _ => intItems_at), fun h' tk t' hk => ?_⟩
  · show b < (s.heap.push _).objs.size
    rw [Heap.size_push]
    rcases List.mem_cons.mp hb with rfl | hb
    · exact Nat.lt_succ_self _
    · rcases List.mem_cons.mp hb with rfl | hb
      · exact Nat.lt_succ_of_lt hlt
      · rcases List.mem_cons.mp hb with rfl | hb
        · exact Nat.lt_succ_of_lt hxl
        · cases hb
  · have := h h' tk t' fun b o e => hk b o (fun hm => ?_) (Heap.get?_push_of_some _ e)
    · simpa [intItems] using this
    · rcases List.mem_cons.mp hm with e1 | hm
      · exact absurd (e1 ▸ Heap.lt_size e) (Nat.lt_irrefl _)
      · cases hm
end
theorem off1 {b N C D : Nat} (hb : b < N ∨ b = C) (hC : N + 1 ≤ C) (hD : N + 1 ≤ D) (h : D ≠ C) : ¬ (b = D ∨ b = N) := by omega
theorem ne1 {b N C : Nat} (hb : b < N + 1) (hC : N + 1 ≤ C) : b ≠ C := by omega
theorem lt1 {b N l x : Nat} (h : l < N) (hx : x < N) (hb : b = N ∨ b = l ∨ b = x) : b < N + 1 := by omega
def b2i (b : Bool) : Int := if b then 1 else 0
section
variable {X : L2.Cx}
open L2
/-- [int(x) for x in xs], xs a list of truth values -/
theorem pe_intsH {scope : Scope} {x y : Str} {i : Nat} {p1 p2 p3 pa pi pos : Pos} (hc : L2H.HotC X) (hN : X.N[i]? = some y) (hv : Vis X.env.scope y) (hm : X.mg "int" = none) (hk : scope.kind = .function) (hcl : ∀ z ∈ scope.names, z.2 ≠ .cell) (hnf : ∀ z ∈ scope.names, z.2 ≠ .free)
    (hnm : ∀ z ∈ scope.names, z.2 = .local → scope.names.lookup z.1 = some .local) (hx : scope.names.lookup x = some .local) (hgi : ∀ cl C, (compEnvC scope cl C X.env).kindOf "int" = some .globalImplicit) (hdx : (x == ("__debug__" : Str)) = false := by decide)
    (hs : ∀ z, foldedSetIterable (.Name y pi) X.env z = pure z := by intro _; rfl) (hd : (y == ("__debug__" : Str)) = false := by decide) (hcd : (y == ("__classdict__" : Str)) = false := by decide) :
    PE X (.ListComp (.Call (.Name "int" p1) [.Name x p2] [] p3) [⟨.Name x pa, .Name y pi, [], 0⟩] scope pos)
      (fun σ H Q => ∃ (p : Addr) (bs : List Bool), σ[i]? = some (some (.ref p)) ∧ H p = some (.lst (bs.map V.bl)) ∧ bs.length ≤ 1000 ∧ ∀ D, H D = none → Q (.ref D) (upd H D (.lst (bs.map fun b => V.int (b2i b))))) := by
  refine ⟨fun pins s0 σ H Q I0 h => ?_⟩
  obtain ⟨p, bs, hσ, hp, hbl, q⟩ := h
  refine ListComp_goes (cl := cloFrom X.env.cells scope.names []) (closure_ok fun z hz e => absurd e (hnf z hz)) hcl hk hnm ?_ hs
  refine thn ((pe_var (pos := pi) (i := i) hN hv hd hcd).run pins s0 σ H (fun v H1 => v = .ref p ∧ H1 = H) I0 ⟨.ref p, hσ, rfl, rfl⟩) fun u s ⟨v, H1, I, r1, q1⟩ => ?_
  obtain ⟨rfl, rfl⟩ := q1
  obtain rfl : u = Value.ref p := r1
  obtain ⟨x1, hot⟩ := hc.at I
  obtain ⟨us, rv, hl, _⟩ := I.list (SqL.of hp)
  have eu := rv.bls
  subst eu
  have hl' : s.heap.IsList p (bs.map Value.bool).toArray := hl.isList
  have hlt : (p : Nat) < s.heap.objs.size := by obtain ⟨o, ho, _⟩ := hl'; exact Heap.lt_size ho
  have hot0 := hot
  obtain ⟨hh, o1, vs1, h1, d1, c1⟩ := hot
  have hxl : (x1 : Nat) < s.heap.objs.size := Heap.lt_size h1
  refine wpAny_pyIter_list hl' ?_
  refine ⟨_, _, _, _, _, _, rfl, Goes.ofWalks (walks_hot (prog := X.prog) (w := X.w) hh s.heap.objs.size p (Nat.ne_of_lt hlt) (Nat.ne_of_lt hxl) (bs.map Value.bool).toArray) (fun _ _ _ _ _ _ z => wpAny_pure z), by simp; rw [sizeLine_eq]; omega, ⟨⟨_, Heap.get?_push_size _ rfl, rfl, rfl⟩, hl'.push _, hh, o1, vs1, Heap.get?_push_of_some _ h1, d1, c1⟩, ?_, fun D C s₃ hB => ?_⟩
  · intro b hb
    show b < (s.heap.push _).objs.size
    rw [Heap.size_push]
    exact lt1 hlt hxl (by simpa using hb)
  · obtain ⟨⟨h₃, tk₃, rfl⟩, old, nD, nC, hDC, hnm3⟩ := hB
    have nC' : (s.heap.objs.size + 1 : Nat) ≤ C := by
      have q : (s.heap.push { cls := .type "list_iterator", data := .fields #[.ref p, .int 0 0] }).objs.size ≤ C := nC
      rw [Heap.size_push] at q
      exact q
    have nD' : (s.heap.objs.size + 1 : Nat) ≤ D := by
      have q : (s.heap.push { cls := .type "list_iterator", data := .fields #[.ref p, .int 0 0] }).objs.size ≤ D := nD
      rw [Heap.size_push] at q
      exact q
    have hDC' : (D : Nat) ≠ C := hDC
    have kx : (compEnvC scope (cloFrom X.env.cells scope.names []) C X.env).kindOf x = some .local := lookup_relabel_local hx
    have hpp : ((compEnvC scope (cloFrom X.env.cells scope.names []) C X.env).scope.kind == .class || ((compEnvC scope (cloFrom X.env.cells scope.names []) C X.env).scope.kind == .module && (compEnvC scope (cloFrom X.env.cells scope.names []) C X.env).locals != (compEnvC scope (cloFrom X.env.cells scope.names []) C X.env).globals)) = false := by
      show (scope.kind == .class || (scope.kind == .module && _)) = false
      rw [hk]; rfl
    refine ⟨fun i vs s₁ => ∃ h' tk m, s₁ = { s with heap := h', toks := tk } ∧ h'.Ns C m ∧ (∃ ts : List Tok, ts.length = i ∧ vs = ((bs.take i).zip ts).map fun z => Value.int (b2i z.1) z.2) ∧ ∀ b o, s.heap.get? b = some o → h'.get? b = some o, ⟨h₃, tk₃, _, rfl, hnm3, ⟨[], rfl, by simp⟩, fun b o e => old b o (Heap.get?_push_of_some _ e)⟩, ?_, ?_, ?_⟩
    · rintro i vs s₁ h' tk ⟨h₄, tk₄, m, rfl, n₄, e₄, k₄⟩ hk' _
      have off : ∀ b : Addr, (b < s.heap.objs.size ∨ b = C) → b ∉ D :: [s.heap.objs.size] := fun b hb hm => off1 hb nC' nD' hDC' (by simpa using hm)
      exact ⟨h', tk, m, rfl, n₄.at' fun o e => hk' _ o (off _ (.inr rfl)) e, e₄, fun b o e => hk' b o (off _ (.inl (Heap.lt_size e))) (k₄ b o e)⟩
    · rintro i v vs s₁ hi hv st ⟨h₄, tk₄, m, rfl, n₄, ⟨ts, ht, e₄⟩, k₄⟩ hpl
      have hv' : (bs.map Value.bool)[i]? = some v := by simpa using hv
      rw [List.getElem?_map] at hv'
      cases hb : bs[i]? with
      | none => rw [hb] at hv'; cases hv'
      | some b =>
      rw [hb] at hv'
      have hv' : Value.bool b = v := by simpa using hv'
      subst hv'
      refine wpAny_assign_Name (wpAny_storeName_local kx n₄ (fun h₅ n₅ s₅ => ?_) hpp)
      refine wpAny_tests_nil ?_
      have offC : ∀ b : Addr, b < s.heap.objs.size + 1 → b ≠ C := fun b hb => ne1 hb nC'
      have k5 : ∀ b o, s.heap.get? b = some o → h₅.get? b = some o := fun b o e => s₅.extBut b o (offC b (Nat.lt_succ_of_lt (Heap.lt_size e))) (k₄ b o e)
      obtain ⟨mb, b1, b2⟩ := I.mod.blt
      have g1 : h₅.Ns X.env.globals X.mg := by rw [I.ok.glob]; exact (I.mod.glob.keeps I.bk).keeps k5
      have g2 : h₅.Ns X.env.builtins mb := by rw [I.ok.blt]; exact (b1.keeps I.bk).keeps k5
      refine Call_ ?_
      refine Calls.Name_function_global (env := compEnvC scope (cloFrom X.env.cells scope.names []) C X.env) hk (hgi _ _) ?_ (by decide)
      refine Calls.loadGlobal_builtin (env := compEnvC scope (cloFrom X.env.cells scope.names []) C X.env) g1 hm g2 ((b2 "int" (by decide)).trans boot_int) ?_
      refine PyProof.Rows.callWith_type1 ?_ rfl rfl
      refine Calls.spliced_cons ?_
      rw [eval_Name _ _ _ hdx]
      refine wpAny_bind (wpAny_standAt (wpAny_loadName_local hk kx n₅ (v := .bool b) (if_pos rfl) ?_))
      refine Calls.spliced_nil (call_int_bool ?_)
      refine ⟨⟨h₅, _, _, rfl, n₅, ⟨ts ++ [tk₄ + 1], by simp [ht], ?_⟩, k5⟩, ⟨st.1.at fun o e => s₅.extBut _ o (offC _ (Nat.lt_succ_self _)) e, st.2.1.at fun o e => s₅.extBut _ o (offC _ (Nat.lt_succ_of_lt hlt)) e, hh, o1, vs1, k5 _ _ h1, d1, c1⟩, hpl.at fun o e => s₅.extBut _ o hDC e⟩
      rw [e₄, List.take_add_one, hb, List.zip_append (by rw [List.length_take, ht]; exact Nat.min_eq_left (Nat.le_of_lt (List.getElem?_eq_some_iff.mp hb).1)), List.map_append]
      rfl
    · rintro vs s₁ ⟨h₄, tk₄, m, rfl, n₄, ⟨ts, ht, e₄⟩, k₄⟩ hpl
      refine ⟨m, n₄, fun h' hs' => ?_⟩
      have k6 : ∀ b o, s.heap.get? b = some o → h'.get? b = some o := fun b o e => hs'.extBut b o (ne1 (Nat.lt_succ_of_lt (Heap.lt_size e)) nC') (k₄ b o e)
      obtain ⟨nn, hD⟩ := hpl.extBut hs'.extBut hDC
      have hDle : s.heap.objs.size ≤ D := Nat.le_trans (Nat.le_succ _) nD'
      have ht' : ts.length = bs.length := by rw [ht]; simp
      have vals : ∀ (bs : List Bool) (ts : List Tok), ts.length = bs.length → Vals (bs.map fun b => V.int (b2i b)) ((bs.zip ts).map fun z => Value.int (b2i z.1) z.2) := by
        intro bs
        induction bs with
        | nil => intro ts _; exact .nil
        | cons b bs ih =>
          intro ts ht
          cases ts with
          | nil => cases ht
          | cons t ts => exact .cons ⟨t, rfl⟩ (ih ts (by simpa using ht))
      have e5 : vs = (bs.zip ts).map fun z => Value.int (b2i z.1) z.2 := by
        rw [e₄, List.take_of_length_le (by simp)]
      subst e5
      have new : ObjOk X.prog X.w (upd H1 D (.lst (bs.map fun b => V.int (b2i b)))) h' D (.lst (bs.map fun b => V.int (b2i b))) := ⟨by rw [List.length_map, sizeLine_eq]; omega, _, nn, vals bs ts ht', hD⟩
      exact ⟨.ref D, _, I.laid (t' := tk₄) k6 hDle new, rfl, q D (I.hok.fresh hDle)⟩
/-- sum(list of ints) -/
theorem cr_sumH (hc : L2H.HotC X) : CallR X (.builtin "sum") (rSum X.K) := by
  intro pins s σ H vs us Q I r h
  obtain ⟨a, ns, rfl, hs, q⟩ := h
  obtain ⟨its, rv, hl, _⟩ := I.list hs
  obtain ⟨x1, hot⟩ := hc.at I
  rw [Vals.ref1 r]
  have hi := rv.ints
  obtain ⟨xs, e⟩ := hi.allInts.items
  have hn : numsOf (intItems xs).toList = ns := by rw [← e]; exact hi.numsOf
  rw [nums_intItems] at hn
  have hl' : s.heap.IsList a its.toArray := hl.isList
  rw [e] at hl'
  refine sum_hot hot hl' fun h' tk t' hk => ?_
  rw [preSum_eq, List.take_of_length_le (by simp), hn]
  exact ⟨.int _, H, I.kept hk, ⟨_, rfl⟩, q⟩
end
end PdH
set_option Elab.async false
set_option linter.all false
set_option maxRecDepth 100000
set_option maxHeartbeats 1000000
/-! A lambda that is told: what it gives, or the name of what it raises. -/
namespace Pd
open PySem PySem.Spec PyProof.Rows L2
/-- what a def does with the exception that is handled, of the class D -/
def FnT (P : Program) (w : World) (K : PySem.W.Frag) (mg : Str → Option Value) (base : Heap) (k : Nat) (f : Addr) (fd : FuncData) (x : Str) (D : Addr) (res : PyData) : Prop :=
  ∀ (A : Around) (outer : List Env) (s : Shared) (H : Hp) (Q : VK) (p : Addr × Obj), L2H.RoomH k A → L2H.Hot1 A p → L2N.Zn (.ref D) none p.2 → L2H.PinOk outer H s p → Env0 P w K mg base A outer s H → BindsTo s fd ⟨[.ref p.1], []⟩ [(x, .ref p.1)] →
    (∀ v H', Ext H H' → Is (fun a => ∃ o, H a = some o ∧ nw o) H' v res → Q v H') → codeAny (model P w) A (.call (.ref f) ⟨[.ref p.1], []⟩) (CR CX0 outer P w H s Q E0) s
section
variable {P : Program} {w : World} {K : PySem.W.Frag} {mg : Str → Option Value} {base : Heap}
theorem al_all (H : Hp) : Al (fun a => ∃ o, H a = some o ∧ nw o) H := fun a h => h
theorem fnT {k : Nat} {f : Addr} {fd : FuncData} {x y : Str} {st : Stmt} {N : List Str} {D : Addr} {res : PyData} (F : Fun K x x st f fd) (S : FnScope N [y] (defScope st)) (hN : 1 ≤ N.length)
    (hbody : ∀ (cdv : Value) (A : Around) (outer : List Env) (s : Shared) (H : Hp) (p : Addr × Obj), L2H.Hot1 A p → L2N.Zn (.ref D) none p.2 → L2H.RoomH k (A.deeper (envOfC x (defScope st) s.heap.objs.size f cdv)) →
      SXs (L2H.cxH CX0 P w K mg base N x (defScope st) f cdv A outer s H E0 p).nox (defBody st) (.raw (.ref p.1) :: List.replicate (N.length - 1) .no) (fun _ => False) (fun d => d = res)) : FnT P w K mg base (k + 1) f fd y D res := by
  intro A outer s H Q p hr hot hz hpin e0 hb hq
  obtain ⟨oc, od, kV, doc, pm, an, cdv, ct, osl, rfl, lk, hcd⟩ := F.ex
  have KX : K.In s.heap := e0.mod.kin.keeps fun b o e => (e0.bs b o e).1
  have lim : s.heap.NoLimit := e0.mod.nolimit.keeps fun b o e => (e0.bs b o e).1
  have hkind : ∀ z ∈ [y].zip [Value.ref p.1], (defScope st).names.lookup z.1 = some .local ∨ ((defScope st).names.lookup z.1 = some .cell ∧ ((cellsFrom (s.heap.objs.size + 1) (defScope st).names []).lookup z.1).isSome = true) := fun ⟨n, v⟩ hz => by
    rcases S.par n (List.of_mem_zip hz).1 with q | q
    · exact .inl q
    · exact .inr ⟨q, PySem.W.cellsFrom_some _ _ _ (.inl q)⟩
  refine codeAny_call_function hr.depth (KX _ _ lk) rfl S.co S.gen rfl (PySem.W.codeRec_of KX hcd) (hb _ _ _ _ ?_)
  refine wpAny_newFunctionEnv_cells S.kind hkind fun env he s1 xx => ?_
  subst he
  refine ⟨lim.keeps xx.toInCall.keep, codeAny_func ?_⟩
  have I : Inv (L2H.cxH CX0 P w K mg base N x (defScope st) f cdv A outer s H E0 p) [] (L2.start N [.ref p.1]) H s1 := L2H.inv_startH (us := [.ref p.1]) S hpin e0 rfl (.cons rfl .nil) xx
  have gg : Gd ⟨H, fun a => ∃ o, H a = some o ∧ nw o, fun _ => False, fun _ => False, fun a => ∃ o, H a = some o ∧ nw o, []⟩ (fun a => ∃ o, H a = some o ∧ nw o) (L2.start N [.ref p.1]) H (.raw (.ref p.1) :: List.replicate (N.length - 1) .no) := by
    have other : ∀ (i : Nat) (s : Sl), (List.replicate (N.length - 1) Sl.no)[i]? = some s → s = .no := fun i s h => by
      have := List.mem_of_getElem? h
      simp at this
      exact this.2
    refine ⟨by unfold L2.start; simp, fun i x s e1 e2 => ?_, fun i j q s t hij e1 e2 e3 e4 m1 m2 => ?_, al_all H, fun a h => h, fun a o h _ => h, fun a h => h.elim, fun a o h1 h2 => ⟨o, h1, h2⟩, fun a h => .inl h, fun q hq => nomatch hq⟩
    · cases i with
      | zero => cases e1; cases e2; rfl
      | succ i => rw [other i s (by simpa using e2)]; trivial
    · cases i with
      | zero => cases e3; cases m1
      | succ i => rw [other i s (by simpa using e3)] at m1; cases m1
  refine wpAny_mono ((PSs.nox (hbody cdv A outer s H p hot hz (hr.deeper _))).run [] s1 (L2.start N [.ref p.1]) H { nx := fun _ H' => Q .non H', rt := Q } I ⟨_, _, gg, fun _ _ _ _ h => h.elim, fun d v O' H' hd is rt => ?_⟩) (fun fl s' hs => ?_) fun e s' hs => hs
  · have hd : d = res := hd
    subst hd
    exact hq v H' (fun a o h => rt.2.1 a o h (fun z => z)) (Is.imp (fun a o n _ h => ⟨fun z => n (rt.1 a z), h⟩) d v is)
  have fin : ∀ {σ' : L2.St} {H' : Hp} {v : V} {u : Value}, Inv (L2H.cxH CX0 P w K mg base N x (defScope st) f cdv A outer s H E0 p) [] σ' H' s' → RelV v u → Q v H' → CE outer P w H s Q u s' :=
    fun {σ' H' v u} J rv q => ⟨v, H', J.os, J.bare, J.base, J.hok, rv, q⟩
  cases fl with
  | ret u =>
    obtain ⟨v, σ', H', J, rv, q⟩ := hs
    exact fin J rv q
  | next =>
    obtain ⟨σ', H', J, q⟩ := hs
    exact fin (v := V.non) (u := Value.none) J rfl q
  | brk =>
    obtain ⟨_, _, _, q⟩ := hs
    exact False.elim q
  | cont =>
    obtain ⟨_, _, _, q⟩ := hs
    exact False.elim q
end
section
variable {X : Cx}
/-- x(e), e the exception of the suite, in slot i -/
theorem pe_term {a f : Addr} {oe : Obj} {pn : List (Addr × Obj)} {k i : Nat} {fd : FuncData} {x y e : Str} {D : Addr} {res : PyData} {p1 p2 pos : Pos} (G : FnT X.prog X.w X.K X.mg X.base k f fd y D res) (T : Has X.K X.mg x f fd [y]) (hz : L2N.Zn (.ref D) none oe) (hf : ∃ vs, oe.data = .fields vs) (hr : L2H.RoomH k (X.A.mark (some (.ref a))))
    (hg : Gl X x) (hN : X.N[i]? = some e) (hv : Vis X.env.scope e) (hdb : (x == ("__debug__" : Str)) = false := by decide) (hd : (e == ("__debug__" : Str)) = false := by decide) (hcd : (e == ("__classdict__" : Str)) = false := by decide) :
    PE (X.suite a ((a, oe) :: pn)) (.Call (.Name x p1) [.Name e p2] [] pos) (fun σ H Q => σ[i]? = some (some (.ref a)) ∧ ∀ v H', Ext H H' → Is (fun b => ∃ o, H b = some o ∧ nw o) H' v res → Q v H') := by
  refine ⟨fun pins s σ H Q I h => ?_⟩
  obtain ⟨hσ, q⟩ := h
  refine wpAny_Call_Name_kw (ld_glob I hg T.gl ?_ hdb)
  have ha : PA (X.suite a ((a, oe) :: pn)) [.Name e p2] (tCons (tVar i) tNil) := pa_cons (pe_var hN hv hd hcd) pa_nil
  refine PySem.W.callWith_K (h₀ := X.base) I.ok.mod.kin T.kp (thn (ha.run pos pins s σ H (fun vs H1 => vs = [V.ref a] ∧ H1 = H) I ⟨.ref a, hσ, rfl, rfl⟩) fun us s1 ⟨vs, H1, I1, r, q1⟩ => ⟨I1.kIn, ?_⟩)
  obtain ⟨rfl, rfl⟩ := q1
  rw [Vals.ref1 r]
  have P1 := I1.pin (a, oe) (List.mem_append_left _ List.mem_cons_self)
  have hpin : L2H.PinOk X.stack H1 s1 (a, oe) := ⟨P1.1, P1.2.1, fun hm => (List.mem_cons.mp (I1.stkSub a hm)).elim P1.2.2.1 P1.2.2.2.1, P1.2.2.2.2⟩
  have hot : L2H.Hot1 (X.A.mark (some (.ref a))) (a, oe) := by
    obtain ⟨vs, hv⟩ := hf
    exact ⟨rfl, vs, hv, hz.2.2 vs hv⟩
  have b := T.bd s1 [.ref a] I1.kIn rfl
  rw [List.append_nil] at b
  refine wpAny_call (codeAny_mono (G (X.A.mark (some (.ref a))) X.stack s1 H1 Q (a, oe) hr hot hz hpin I1.env0 b q) fun r s' hq => ?_)
  cases r with
  | error e => exact (show False from hq).elim
  | ok fl =>
    cases fl with
    | ret u => exact I1.after hq
    | next => exact False.elim hq
    | brk => exact False.elim hq
    | cont => exact False.elim hq
/-- the context of a lambda's body -/
def lamX (X : Cx) (A : Around) (outer : List Env) (s : Shared) (H : Hp) (E : XK) (scope : Scope) (f c' : Addr) : Cx :=
  (LamX.lamCx X A outer s H E scope f c').tr [] fun e s' => wpAny (model X.prog X.w) (A.deeper (LamX.lamEnv X scope s.heap.objs.size f c')) (leaving (LamX.lamEnv X scope s.heap.objs.size f c') e) (fun _ s'' => L2N.CX X.prog X.w outer H s E e s'') (fun e' s'' => L2N.CX X.prog X.w outer H s E e' s'') s'
theorem lam_takes {A : Around} {outer : List Env} {s : Shared} {H : Hp} {E : XK} {scope : Scope} {f c' : Addr} : L2N.Takes (lamX X A outer s H E scope f c') (fun cls d _ H' => E cls d H') := L2N.takes_of rfl rfl rfl rfl
/-- a(), in the def that got the lambda -/
theorem pe_deed {pins : List (Addr × Obj)} {σ : L2.St} {H : Hp} {s : Shared} {CXg : CXT} {Eg : XK} {Ng : List Str} {qg : Str} {sg : Scope} {g f c' : Addr} {cdg pm ctv : Value} {params : Arguments} {body : Expr} {scope : Scope} {k i : Nat} {a : Str} {pn : List (Addr × Obj)} {xe : Value → Shared → Prop} {W : WX} {E : XK} {tb : TE} {p1 p2 : Pos}
    (I : Inv X pins σ H s) (L : LamX.LamS X.env.scope scope) (hf : s.heap.get? f = some (PySem.W.kla_obj "<lambda>" (X.env.qual ++ "<lambda>") params body scope (cloFrom X.env.cells scope.names []) pm c' ctv)) (hfn : H f = none) (hfr : f ∉ frs X.stack)
    (hbind : bindArgs (PySem.W.kla_fn "<lambda>" (X.env.qual ++ "<lambda>") params body scope (cloFrom X.env.cells scope.names []) pm (.ref c') ctv) ⟨[], []⟩ = pure [])
    (tk : L2N.Takes ((cxOf CXg X.prog X.w X.K X.mg X.base Ng qg sg g cdg X.A X.stack s H Eg).tr pn xe) W) (hW : ∀ cls d σ' H', E cls d H' → W cls d σ' H') (hr : Room (k + 1) (X.A.deeper (envOfC qg sg s.heap.objs.size g cdg)))
    (hbody : ∀ (A : Around) (outer : List Env) (s : Shared) (H : Hp), Room k (A.deeper (LamX.lamEnv X scope s.heap.objs.size f c')) → PE (lamX X A outer s H E scope f c') body tb)
    (hN : Ng[i]? = some a) (hv : Vis sg a) (hd : (a == ("__debug__" : Str)) = false := by decide) (hcd : (a == ("__classdict__" : Str)) = false := by decide) :
    PE ((cxOf CXg X.prog X.w X.K X.mg X.base Ng qg sg g cdg X.A X.stack s H Eg).tr pn xe) (.Call (.Name a p1) [] [] p2)
      (fun σZ HZ Q => σZ[i]? = some (some (.ref f)) ∧ HZ c' = some (LamX.CodeO c' (X.env.qual ++ "<lambda>")) ∧ tb σ HZ Q) := by
  refine ⟨fun pinsZ sZ σZ HZ Q IZ h => ?_⟩
  obtain ⟨hs, hc, ht⟩ := h
  refine wpAny_Call_Name_kw (thn ((pe_var (pos := p1) (i := i) hN hv hd hcd).run pinsZ sZ σZ HZ (fun v H1 => v = .ref f ∧ H1 = HZ) IZ ⟨.ref f, hs, rfl, rfl⟩) fun u s1 ⟨v, H1, I1, r1, q1⟩ => ?_)
  obtain ⟨ev, eH⟩ := q1
  subst ev
  rw [eH] at I1
  obtain rfl : u = Value.ref f := r1
  have of1 := I1.base.keep f _ hf hfn hfr (fun z => nomatch (show f ∈ ([] : List Addr) from z))
  refine PySem.W.callWith_F0 ⟨_, _, _, _, of1⟩ ?_
  have un : Un (frs X.stack) [] H HZ s.heap s1.heap := I1.base
  obtain ⟨⟨oc, vs, t, hoc, hdc, hvc⟩, _, _⟩ := I1.hok c' _ hc
  have rc : codeAny (model X.prog X.w) (X.A.deeper (envOfC qg sg s.heap.objs.size g cdg)) (.call (.ref f) ⟨[], []⟩) (CR (L2N.CX X.prog X.w) (envOfC qg sg s.heap.objs.size g cdg :: X.stack) X.prog X.w HZ s1 Q E) s1 := by
    refine PySem.W.kla_callFunE hr.depth of1 rfl L.co L.gen rfl ⟨c', oc, vs, t, rfl, hoc, hdc, hvc⟩ ?_
    rw [hbind]
    refine wpAny_pure (wpAny_newFunctionEnv (fun y hy => (L.own y hy).2) (fun y hy => absurd hy (by simp)) (fun h₁ hns hsb => ⟨I1.nolimit.fresh _ hsb, ?_⟩) L.kind)
    show codeAny _ _ (.expr body (LamX.lamEnv X scope s1.heap.objs.size f c')) _ _
    have kp : ∀ b o, s1.heap.get? b = some o → h₁.get? b = some o := fun b o e => hsb.extBut b o (Nat.ne_of_lt (Heap.lt_size e)) (Heap.get?_push_of_some _ e)
    have J := LamX.lam_start2 (A := X.A.deeper (envOfC qg sg s.heap.objs.size g cdg)) (outer := envOfC qg sg s.heap.objs.size g cdg :: X.stack) (E := E) (f := f) (c' := c') (tk := s1.toks + ([] : List (Str × Value)).length) I L I1.env0 hr.hd un hns kp
    have J' : Inv (lamX X (X.A.deeper (envOfC qg sg s.heap.objs.size g cdg)) (envOfC qg sg s.heap.objs.size g cdg :: X.stack) s1 HZ E scope f c') [] σ HZ { s1 with heap := h₁, toks := s1.toks + ([] : List (Str × Value)).length } := J.toTry _
    refine PySem.W.kla_codeExpr (wpAny_mono ((hbody _ _ s1 HZ (hr.deeper _)).run [] _ _ HZ Q J' ht) (fun v s' hq => ?_) fun e s' hq => hq)
    obtain ⟨w', H', J2, rv, q⟩ := hq
    exact ⟨w', H', J2.os, J2.bare, J2.base, J2.hok, rv, q⟩
  have hx : Passes (L2N.CX X.prog X.w) ((cxOf CXg X.prog X.w X.K X.mg X.base Ng qg sg g cdg X.A X.stack s H Eg).tr pn xe) E := L2N.passes_call tk hW
  refine wpAny_call (codeAny_mono rc fun r s' hq => ?_)
  cases r with
  | error e => exact hx pinsZ σZ HZ s1 e s' I1 hq
  | ok fl =>
    cases fl with
    | ret u => exact I1.after hq
    | next => exact False.elim hq
    | brk => exact False.elim hq
    | cont => exact False.elim hq
theorem takesN {X : Cx} : L2N.Takes X (fun _ _ _ _ => False) := fun _ _ x => by
  obtain ⟨_, _, _, _, _, _, _, _, _, _, _, _, _, _, _, _, z⟩ := x
  exact z.elim
end
end Pd
namespace Pd
open PySem PySem.Spec PyProof.Rows L2
def res (c : Ec) : PyData := .tuple [.str "error", .str c.nm]
section
variable {W : Fm} {O : Addr → Prop} {σ : L2.St} {H H1 : Hp} {ρ : List Sl}
/-- the tables have grown -/
theorem Gd.tabbed (g : Gd W O σ H ρ) (e : LamX.ExtN H H1) (ht : LamX.Tabs W.T H1) (hM : ∀ a ps, W.H0 a = some (.tbl ps) → W.M a) : Gd W O σ H1 ρ :=
  g.via (fun a o _ m h => e a o h m) (fun a o h1 h2 => e a o (g.ext a o h1 h2) fun ps z => h2 (hM a ps (by rw [h1, z]))) ht fun j p h1 h2 => by
    obtain ⟨c, k, h⟩ := g.dices j p h1 h2
    exact ⟨c, k, e _ _ h nt_lst⟩
end
section
variable {X : Cx} {ρ : List Sl} {χ : PyData → Prop}
/-- what a lambda's body does: it gives, or raises -/
def LamDoes (X : Cx) (k : Nat) (scope : Scope) (body : Expr) (ρ : List Sl) (cl : Ec → Addr) (χ : PyData → Prop) : Prop :=
  (∀ (A : Around) (outer : List Env) (s : Shared) (H : Hp) (E : XK) (f c' : Addr), Room k (A.deeper (LamX.lamEnv X scope s.heap.objs.size f c')) → XE (lamX X A outer s H E scope f c') body ρ χ) ∨
  ∃ c : Ec, χ (res c) ∧ ∀ (A : Around) (outer : List Env) (s : Shared) (H : Hp) (E : XK) (f c' : Addr) (W : WX), Room k (A.deeper (LamX.lamEnv X scope s.heap.objs.size f c')) → L2N.Takes (lamX X A outer s H E scope f c') W → XR (lamX X A outer s H E scope f c') W body ρ (cl c)
/-- what is known of told and term -/
structure Td (P : Program) (w : World) (K : PySem.W.Frag) (mg : Str → Option Value) (base : Heap) (kt : Nat) (cl : Ec → Addr) (CS : Addr) (st : Stmt) : Prop where
  told : ∃ g fd, Fun K "_law_told" "_law_told" st g fd ∧ Has K mg "_law_told" g fd ["deed"]
  term : ∃ f fd, Has K mg "_law_term" f fd ["e"] ∧ ∀ c : Ec, FnT P w K mg base kt f fd "e" (cl c) (res c)
  gS : mg "SlideError" = some (.ref CS)
  exm : ∀ c, PySem.W.exmOne K (.ref (cl c)) (.ref CS) = some true
  sc : FnScope ["deed", "e"] ["deed"] (defScope st)
  hv : Vis (defScope st) "deed"
  he : (defScope st).names.lookup ("e" : Str) = some NameKind.local
  hgS : (defScope st).names.lookup ("SlideError" : Str) = some NameKind.globalImplicit
  hgT : (defScope st).names.lookup ("_law_term" : Str) = some NameKind.globalImplicit
  body : ∃ p1 p2 p3 p4 p5 p6 p7 p8 p9 p10, defBody st = [.Try [.Return (some (.Call (.Name "deed" p1) [] [] p2)) p3] [.ExceptHandler (some (.Name "SlideError" p4)) (some "e") [.Return (some (.Call (.Name "_law_term" p5) [.Name "e" p6] [] p7)) p8] p9] [] [] p10]
theorem x_told {st : Stmt} {cl : Ec → Addr} {CS c P : Addr} {kt k i0 : Nat} {T : List (Addr × Str)} {params : Arguments} {body : Expr} {scope : Scope} {p lpos pos : Pos} (D : Td X.prog X.w X.K X.mg X.base kt cl CS st) (TB : LamX.TabB X.base X.mg c P) (hcode : X.env.code = .ref c)
    (hmT : (P, X.env.qual ++ "<lambda>") ∈ T) (hu : ∀ p ∈ T, p.1 = P → p.2 = X.env.qual ++ "<lambda>") (hr : Room (k + 2) X.A) (L : LamX.LamS X.env.scope scope) (hb : LamDoes X k scope body ρ cl χ) (hkt : kt ≤ k + 1) (hT : ρ[i0]? = some (.tab T))
    (hdef : defaultsOf params X.env = ([], []) := by rfl) (hbind : ∀ (q : Str) (cl : List (Str × Addr)) (pm cv ctv : Value), bindArgs (PySem.W.kla_fn "<lambda>" q params body scope cl pm cv ctv) ⟨[], []⟩ = pure [] := by intro _ _ _ _ _; rfl) (hg : Gl X "_law_told" := by rfl) :
    XE X (.Call (.Name "_law_told" p) [.Lambda params body scope lpos] [] pos) ρ χ := by
  refine ⟨fun pins s σ H Q I h => ?_⟩
  obtain ⟨Wf, O, g, kq⟩ := h
  obtain ⟨x0, hx0, hWT, hMT⟩ := g.at hT
  obtain ⟨ga, fd, F, Hs⟩ := D.told
  obtain ⟨ft, fdt, Ht, Gt⟩ := D.term
  obtain ⟨p1, p2, p3, p4, p5, p6, p7, p8, p9, p10, hbt⟩ := D.body
  have hTabs : LamX.Tabs T H := by rw [← hWT]; exact g.tb
  refine wpAny_Call_Name_kw (ld_glob I hg Hs.gl ?_ (by decide))
  refine PySem.W.callWith_K (h₀ := X.base) I.ok.mod.kin Hs.kp ?_ (by rfl) (by rfl)
  show wpAny _ _ (spliced ((false, eval (.Lambda params body scope lpos) X.env) :: backTo pos (starEach [] X.env))) _ _ s
  refine Calls.spliced_cons (LamX.lam_make2 I TB hcode hmT hu hTabs hdef (L.has I.ok) fun f c' pm' ctv H1 s' I1 eN T1 hf hfn hfr hco => ?_)
  refine Calls.spliced_nil ⟨I1.kIn, ?_⟩
  have g1 : Gd Wf O σ H1 ρ := g.tabbed eN (by rw [hWT]; exact T1) hMT
  have ed1 : ExD σ ρ H H1 := fun a o n m h => eN a o h m
  obtain ⟨oc, od, kV, doc, pm, an, cdv, ct, osl, rfl, lk, hcd⟩ := F.ex
  have bb := Hs.bd s' [.ref f] I1.kIn rfl
  rw [List.append_nil] at bb
  have rc : codeAny (model X.prog X.w) X.A (.call (.ref ga) ⟨[.ref f], []⟩) (CR CX0 X.stack X.prog X.w H1 s' Q E0) s' := by
    refine LamX.run_ofS (N := ["deed", "e"]) (ps := ["deed"]) (us := [.ref f]) (vs := [.ref f]) lk hcd D.sc hr I1.env0 bb (.cons rfl .nil) rfl fun hr' => ?_
    rw [hbt]
    have hcl : Names (cxOf CX0 X.prog X.w X.K X.mg X.base ["deed", "e"] "_law_told" (defScope st) ga cdv X.A X.stack s' H1 E0).nox "SlideError" (.ref CS) := ⟨D.hgS, by decide, .inl D.gS⟩
    have hrt : ∀ a : Addr, L2H.RoomH kt ((X.A.deeper (envOfC "_law_told" (defScope st) s'.heap.objs.size ga cdv)).mark (some (.ref a))) := fun a => ⟨(hr'.mono hkt).dp, (hr'.mono hkt).un⟩
    rcases hb with hb | ⟨c0, hχ, hb⟩
    · refine ⟨_, PSs.nox (pss_one (L2N.ps_try_as (X := (cxOf CX0 X.prog X.w X.K X.mg X.base ["deed", "e"] "_law_told" (defScope st) ga cdv X.A X.stack s' H1 E0).nox) (i := 1) (c := .ref CS) (Wout := fun _ _ _ _ => False)
        (tb := fun W D σZ HZ => σZ[0]? = some (some (.ref f)) ∧ HZ c' = some (LamX.CodeO c' (X.env.qual ++ "<lambda>")) ∧ tX ρ χ σ HZ D.rt) (ts := fun _ _ _ _ _ _ => False)
        rfl rfl D.sc.nd rfl D.he hcl takesN (fun W pn xe tk _ => ?_) (fun a oe cls d pn _ _ => ⟨fun _ _ _ _ _ _ z => z.elim⟩))), ?_⟩
      · exact pss_one (ps_ret (pe_deed (CXg := CX0) (Eg := E0) (E := fun _ _ _ => False) I1 L hf hfn hfr (hbind _ _ _ _ _) tk (fun _ _ _ _ z => z.elim) hr' (fun A outer s H hr2 => hb A outer s H _ f c' hr2) rfl D.hv))
      · exact ⟨rfl, hco, Wf, O, g1, fun d v H' hd g' e' is => kq d v H' hd g' (ed1.trans e') is⟩
    · refine ⟨_, PSs.nox (pss_one (L2N.ps_try_as (X := (cxOf CX0 X.prog X.w X.K X.mg X.base ["deed", "e"] "_law_told" (defScope st) ga cdv X.A X.stack s' H1 E0).nox) (i := 1) (c := .ref CS) (Wout := fun _ _ _ _ => False)
        (tb := fun W D σZ HZ => ∃ Ech : XK, (∀ cls d σ' H', Ech cls d H' → W cls d σ' H') ∧ σZ[0]? = some (some (.ref f)) ∧ HZ c' = some (LamX.CodeO c' (X.env.qual ++ "<lambda>")) ∧ tXR ρ (fun cls d _ H' => Ech cls d H') (cl c0) σ HZ D.rt)
        (ts := fun a cls d D σ H => cls = .ref (cl c0) ∧ d = none ∧ (1 < σ.length → σ[1]? = some (some (.ref a))) ∧ ∀ v H', Ext H H' → Is (fun b => ∃ o, H b = some o ∧ nw o) H' v (res c0) → D.rt v H')
        rfl rfl D.sc.nd rfl D.he hcl takesN (fun W pn xe tk _ => ?_) (fun a oe cls d pn hz hfl => ?_))), ?_⟩
      · refine ⟨fun pinsZ sZ σZ HZ DZ IZ ⟨Ech, hW, h1, h2, h3⟩ => ?_⟩
        exact (pss_one (ps_ret (pe_deed (CXg := CX0) (Eg := E0) (E := Ech) I1 L hf hfn hfr (hbind _ _ _ _ _) tk hW hr' (fun A outer s H hr2 => hb A outer s H _ f c' _ hr2 lam_takes) rfl D.hv))).run pinsZ sZ σZ HZ DZ IZ ⟨h1, h2, h3⟩
      · refine ⟨fun pinsZ sZ σZ HZ DZ IZ ⟨h1, h2, h3, h4⟩ => ?_⟩
        subst h1 h2
        exact (pss_one (ps_ret (pe_term (X := (cxOf CX0 X.prog X.w X.K X.mg X.base ["deed", "e"] "_law_told" (defScope st) ga cdv X.A X.stack s' H1 E0).nox) (i := 1) (Gt c0) Ht hz hfl (hrt a) D.hgT rfl (.inl D.he)))).run pinsZ sZ σZ HZ DZ IZ ⟨h3 (by rw [IZ.len]; exact Nat.lt_succ_self 1), h4⟩
      · refine ⟨fun cls d H' => cls = .ref (cl c0) ∧ d = none ∧ Gd Wf O σ H' ρ ∧ ExD σ ρ H1 H', fun cls d σ' H' h => ?_, rfl, hco, Wf, O, g1, fun H' g' e' => ⟨rfl, rfl, g', e'⟩⟩
        obtain ⟨h1, h2, g2, e2⟩ := h
        subst h1 h2
        refine ⟨true, D.exm c0, fun _ a ha => ⟨rfl, rfl, ?_, fun v H'' ex is => ?_⟩, fun z => nomatch z⟩
        · intro hl; rw [List.length_set] at hl; exact List.getElem?_set_self hl
        · exact kq _ v H'' hχ (g2.ext' ex) ((ed1.trans e2).trans ex.exd) (Is.imp (fun b o n _ h => ⟨fun z => n (g2.al b z), h⟩) _ _ is)
  refine wpAny_call (codeAny_mono rc fun r s2 hq => ?_)
  cases r with
  | error e => exact (show False from hq).elim
  | ok fl =>
    cases fl with
    | ret u => exact I1.after hq
    | next => exact False.elim hq
    | brk => exact False.elim hq
    | cont => exact False.elim hq
end
end Pd
set_option Elab.async false
set_option linter.all false
set_option maxRecDepth 100000
set_option maxHeartbeats 1000000
/-! The name of the one class that an exception has. -/
namespace Pd
open PySem PySem.Spec PyProof.Rows L2
def ecs : List Ec := [.st, .row, .pl, .gr, .tx, .firm, .ne, .ris, .tm, .un]
theorem mem_ecs (c : Ec) : c ∈ ecs := by cases c <;> decide
def adr (K : PySem.W.Frag) (x : Str) : Addr := match PySem.W.nsIn K mainGlobals x with
  | some (some (.ref a)) => a
  | _ => 0
def isG (K : PySem.W.Frag) (x : Str) : Bool := decide (PySem.W.nsIn K mainGlobals x = some (some (.ref (adr K x))))
def clB (K : PySem.W.Frag) (C : Addr) : Bool :=
  PySem.W.excIn K C vTail "ValueError.__new__" && PySem.W.keepIn K (.ref C) && decide (PySem.W.subIn K (.ref C) (.type "BaseException") = some true) && decide (PySem.W.typeIn K (.ref C) = some (.type "type"))
def exB (K : PySem.W.Frag) (D : Addr) : Bool :=
  decide (PySem.W.findIn K (.ref D) "__getattribute__" = some (some (.builtin "BaseException.__getattribute__"))) && decide (PySem.W.findIn K (.ref D) "__getattr__" = some none) && decide (PySem.W.subIn K (.ref D) (.type "BaseException") = some true) && PySem.W.hasDictIn K D
    && decide (PySem.W.findIn K (.ref D) "__class__" = some (some (.builtin "object.__class__"))) && decide (PySem.W.specialIn K (.builtin "object.__class__") "__get__" = some (some (.builtin "getset_descriptor.__get__"))) && decide (PySem.W.takesIn K (.builtin "object.__class__") = some true) && decide (PySem.W.mroIn K D (.type "object") = some true)
def cl (K : PySem.W.Frag) (c : Ec) : Addr := adr K c.nm
def oneB (K : PySem.W.Frag) (c : Ec) : Bool :=
  isG K c.nm && clB K (cl K c) && exB K (cl K c) && decide (PySem.W.exmOne K (.ref (cl K c)) (.ref (adr K "SlideError")) = some true) && decide (PySem.W.kitOne K (.ref (cl K c)) (.type "ValueError") = some true) && ecs.all fun d => decide (PySem.W.kitOne K (.ref (cl K c)) (.ref (cl K d)) = some (decide (c = d)))
def xsB (K : PySem.W.Frag) : Bool := isG K "SlideError" && ecs.all (oneB K)
structure Xf (K : PySem.W.Frag) (mg : Str → Option Value) : Prop where
  k : ∀ c, Xk K mg c.nm (cl K c)
  e : ∀ c, ExcC K (cl K c)
  gS : mg "SlideError" = some (.ref (adr K "SlideError"))
  exm : ∀ c, PySem.W.exmOne K (.ref (cl K c)) (.ref (adr K "SlideError")) = some true
  kv : ∀ c, PySem.W.kitOne K (.ref (cl K c)) (.type "ValueError") = some true
  kit : ∀ c d, PySem.W.kitOne K (.ref (cl K c)) (.ref (cl K d)) = some (decide (c = d))
theorem xf_of {K : PySem.W.Frag} {h : Heap} {mg : Str → Option Value} (X : K.In h) (G : h.Ns mainGlobals mg) (b : xsB K = true) : Xf K mg := by
  unfold xsB at b
  rw [Bool.and_eq_true, List.all_eq_true] at b
  obtain ⟨b0, b1⟩ := b
  have one : ∀ c, oneB K c = true := fun c => b1 c (mem_ecs c)
  have mgo : ∀ x, isG K x = true → mg x = some (.ref (adr K x)) := fun x h => PySem.W.mg_of X G (of_decide_eq_true h)
  have parts : ∀ c, isG K c.nm = true ∧ clB K (cl K c) = true ∧ exB K (cl K c) = true ∧ PySem.W.exmOne K (.ref (cl K c)) (.ref (adr K "SlideError")) = some true ∧ PySem.W.kitOne K (.ref (cl K c)) (.type "ValueError") = some true ∧ ∀ d, PySem.W.kitOne K (.ref (cl K c)) (.ref (cl K d)) = some (decide (c = d)) := fun c => by
    have := one c
    unfold oneB at this
    simp only [Bool.and_eq_true, decide_eq_true_eq, List.all_eq_true] at this
    obtain ⟨⟨⟨⟨⟨h1, h2⟩, h3⟩, h4⟩, h5⟩, h6⟩ := this
    exact ⟨h1, h2, h3, h4, h5, fun d => h6 d (mem_ecs d)⟩
  refine ⟨fun c => ?_, fun c => ?_, mgo _ b0, fun c => (parts c).2.2.2.1, fun c => (parts c).2.2.2.2.1, fun c d => (parts c).2.2.2.2.2 d⟩
  · obtain ⟨h1, h2, _⟩ := parts c
    unfold clB at h2
    simp only [Bool.and_eq_true, decide_eq_true_eq] at h2
    obtain ⟨⟨⟨e1, e2⟩, e3⟩, e4⟩ := h2
    exact ⟨mgo _ h1, e1, e2, e3, e4⟩
  · obtain ⟨_, _, h3, _⟩ := parts c
    unfold exB at h3
    simp only [Bool.and_eq_true, decide_eq_true_eq] at h3
    obtain ⟨⟨⟨⟨⟨⟨⟨e1, e2⟩, e3⟩, e4⟩, e5⟩, e6⟩, e7⟩, e8⟩ := h3
    exact ⟨e1, e2, e3, e4, e5, e6, e7, e8⟩
section
variable {X : Cx} {ρ : List Sl} {χ : PyData → Prop}
/-- isinstance of the exception that is handled -/
theorem call_isP {a D : Addr} {oe : Obj} (C : ExcC X.K D) (hz : L2N.Zn (.ref D) none oe) (hf : ∃ vs, oe.data = .fields vs) (hp : (a, oe) ∈ X.pn) : CallR X (.builtin "isinstance") (rIsE X.K D a) := by
  intro pins s σ H xs us Q I r h
  obtain ⟨c, cv, b, rfl, hcv, e, q⟩ := h
  cases r with
  | cons rx rr =>
    cases rr with
    | cons rt rr =>
      cases rr
      cases rx
      have ec := hcv _ rt
      subst ec
      obtain ⟨hget, _⟩ := I.pin (a, oe) (List.mem_append.mpr (.inl hp))
      obtain ⟨vs, hv⟩ := hf
      have J : PySem.W.InstAt s.heap a oe D none := by
        obtain ⟨oc, od, oda, osl⟩ := oe
        obtain ⟨h1, h2, _⟩ := hz
        dsimp only at h1 h2 hv
        subst h1 h2 hv
        exact ⟨hget, rfl, rfl, trivial⟩
      exact PySem.W.kia_one (PySem.W.handS_kitx_exc C.hg C.hk C.hs C.hd C.ha C.hn C.ht C.hm) I.kIn J e (fun z => nomatch z) fun tk => ⟨.bl b, H, I.kept (t' := tk) fun _ _ z => z, rfl, q⟩
theorem x_isE {a D C : Addr} {b : Bool} {i : Nat} {e y : Str} {p p1 p2 pos : Pos} (hc : CallR X (.builtin "isinstance") (rIsE X.K D a)) (hm : X.mg "isinstance" = none) (hC : X.mg y = some (.ref C)) (hk : PySem.W.kitOne X.K (.ref D) (.ref C) = some b) (hi : ρ[i]? = some (.raw (.ref a)))
    (hN : X.N[i]? = some e := by rfl) (hv : Vis X.env.scope e := by exact Or.inl rfl) (hg : Gl X "isinstance" := by rfl) (hg2 : Gl X y := by rfl) (hd : (e == ("__debug__" : Str)) = false := by decide) (hcd : (e == ("__classdict__" : Str)) = false := by decide) (hdy : (y == ("__debug__" : Str)) = false := by decide) :
    XV X (.Call (.Name "isinstance" p) [.Name e p1, .Name y p2] [] pos) ρ (.bool b) :=
  PE.imp (pe_callB hc hg hm PyProof.Rows.boot_isinstance (pa_cons (pe_var hN hv hd hcd) (pa_cons (pe_glob (v := .ref C) hg2 hC rfl hdy) pa_nil)) (by decide) (by decide)) fun σ H Q ⟨W, O, g, k⟩ => by
    obtain ⟨x, hx, e1⟩ := g.at hi
    subst e1
    exact ⟨.ref a, hx, .ref C, .ref C, b, rfl, fun u hu => hu, hk, k _ _ H rfl g (ExD.refl σ ρ H) (.bl b)⟩
theorem x_isV {a D : Addr} {b : Bool} {i : Nat} {e y : Str} {T : String} {p p1 p2 pos : Pos} (hc : CallR X (.builtin "isinstance") (rIsE X.K D a)) (hm : X.mg "isinstance" = none) (hC : X.mg y = none) (hk : PySem.W.kitOne X.K (.ref D) (.type T) = some b) (hi : ρ[i]? = some (.raw (.ref a))) (hvT : bootBuiltins y = some (.type T) := by decide +kernel)
    (hN : X.N[i]? = some e := by rfl) (hv : Vis X.env.scope e := by exact Or.inl rfl) (hg : Gl X "isinstance" := by rfl) (hg2 : Gl X y := by rfl) (hd : (e == ("__debug__" : Str)) = false := by decide) (hcd : (e == ("__classdict__" : Str)) = false := by decide) (hdy : (y == ("__debug__" : Str)) = false := by decide) (hny : y ≠ "__name__" := by decide) :
    XV X (.Call (.Name "isinstance" p) [.Name e p1, .Name y p2] [] pos) ρ (.bool b) :=
  PE.imp (pe_callB hc hg hm PyProof.Rows.boot_isinstance (pa_cons (pe_var hN hv hd hcd) (pa_cons (pe_bltn (v := .ty T) hg2 hC hvT rfl hny hdy) pa_nil)) (by decide) (by decide)) fun σ H Q ⟨W, O, g, k⟩ => by
    obtain ⟨x, hx, e1⟩ := g.at hi
    subst e1
    exact ⟨.ref a, hx, .ty T, .type T, b, rfl, fun u hu => hu, hk, k _ _ H rfl g (ExD.refl σ ρ H) (.bl b)⟩
/-- a method of a list -/
def RM (r : V → List V → Hp → VK → Prop) (d : PyData) (ds : List PyData) (χ : PyData → Prop) : Prop := ∀ O H x vs, Al O H → Is O H x d → IsAll O H vs ds → ∀ Q : VK, (∀ z v H', χ z → Ext H H' → Is O H' v z → Q v H') → r x vs H Q
theorem x_mtL {o e : Expr} {es : List Expr} {name : Str} {id : String} {apos cpos : Pos} {r : V → List V → Hp → VK → Prop} {ds as : List PyData} (slot : Slot "list" name id) (hty : typeOf (.builtin id) = pure (.type "method_descriptor")) (hm : MtR X id r) (ho : XV X o ρ (.list ds)) (ha : AV X (e :: es) ρ as) (hr : RM r (.list ds) as χ)
    (hbase : attributeBase o name X.env (eval o X.env) = eval o X.env := by rfl)
    (hfew : ((backTo cpos (starEach (e :: es) X.env)).all (fun x => !x.1) && (backToKw cpos (keywordEach [] X.env)).all (fun x => x.1.isSome)
      && decide ((e :: es).length + ([] : List Keyword).length + (if ([] : List Keyword).isEmpty then 0 else 1) < 30)) = true := by rfl)
    (hline : (apos.endLine == cpos.line) = true := by rfl) (hs : starEach (e :: es) X.env = (false, eval e X.env) :: starEach es X.env := by rfl) (hplain : (backTo cpos (starEach es X.env)).any (·.1) = false := by rfl) :
    XE X (.Call (.Attribute o name apos) (e :: es) [] cpos) ρ χ :=
  PE.imp (pe_bm PySem.F.plainAttrs_list slot hty hm ho ha hbase hfew hline hs hplain) fun σ H Q ⟨W, O, g, k⟩ => ⟨W, O, g, fun d x H1 hd g1 e1 i1 => by
    subst hd
    have i0 := i1
    obtain ⟨p, xs, rfl, _, e, _⟩ := i1.list
    refine ⟨.inl ⟨rfl, _, SqL.of e⟩, W, O, g1, fun as' vs H2 has g2 e2 i2 => ?_⟩
    subst has
    exact hr O H2 _ vs g2.al (i0.exd g1 e2) i2 Q fun z v H3 hz e3 i3 => k z v H3 hz (g2.ext' e3) ((e1.trans e2).trans e3.exd) i3⟩
/-- flags.index(True) -/
theorem rm_indexB {bs : List Bool} {j : Nat} (hj : bs[j]? = some true) (hb : ∀ m, m < j → bs[m]? = some false) : RM (rIndex X.K) (lB bs) [.bool true] (fun z => z = .int (j : Nat)) := fun O H x vs al h1 h2 Q k => by
  obtain ⟨p, xs, rfl, _, e, r⟩ := h1.list
  have ex := r.bls
  subst ex
  obtain ⟨v, rfl, hv⟩ := h2.one
  cases hv
  refine ⟨p, bs.map V.bl, .bl true, j, .bl true, rfl, rfl, SqL.of e, rfl, by rw [List.all_map]; exact List.all_eq_true.mpr fun _ _ => rfl, by rw [List.getElem?_map, hj]; rfl, rfl, fun m z' hm hz => ?_, k _ _ H rfl (Ext.refl H) (.int _)⟩
  rw [List.getElem?_map, hb m hm] at hz
  cases hz
  rfl
/-- sum([int(x) for x in xs]), where an exception is handled -/
theorem x_sumH {scope : Scope} {x y : Str} {i : Nat} {bs : List Bool} {p0 p1 p2 p3 pa pi pos pos2 : Pos} (hc : L2H.HotC X) (hi : ρ[i]? = some (.val (lB bs))) (hbl : bs.length ≤ 1000) (hm : X.mg "int" = none) (hm2 : X.mg "sum" = none) (hk : scope.kind = .function) (hcl : ∀ z ∈ scope.names, z.2 ≠ .cell) (hnf : ∀ z ∈ scope.names, z.2 ≠ .free)
    (hnm : ∀ z ∈ scope.names, z.2 = .local → scope.names.lookup z.1 = some .local) (hx : scope.names.lookup x = some .local) (hgi : ∀ cl C, (compEnvC scope cl C X.env).kindOf "int" = some .globalImplicit) (hN : X.N[i]? = some y := by rfl) (hv : Vis X.env.scope y := by exact Or.inl rfl) (hg : Gl X "sum" := by rfl) (hdx : (x == ("__debug__" : Str)) = false := by decide)
    (hs : ∀ z, foldedSetIterable (.Name y pi) X.env z = pure z := by intro _; rfl) (hd : (y == ("__debug__" : Str)) = false := by decide) (hcd : (y == ("__classdict__" : Str)) = false := by decide) :
    XV X (.Call (.Name "sum" p0) [.ListComp (.Call (.Name "int" p1) [.Name x p2] [] p3) [⟨.Name x pa, .Name y pi, [], 0⟩] scope pos] [] pos2) ρ (.int (bs.map PdH.b2i).sum) :=
  PE.imp (pe_callB (PdH.cr_sumH hc) hg hm2 (by decide +kernel) (pa_cons (PdH.pe_intsH (i := i) hc hN hv hm hk hcl hnf hnm hx hgi hdx hs hd hcd) pa_nil) (by decide) (by decide)) fun σ H Q ⟨W, O, g, k⟩ => by
    obtain ⟨v, hx, is⟩ := g.val hi
    obtain ⟨p, xs, rfl, _, e, r⟩ := is.list
    have ex := r.bls
    subst ex
    refine ⟨p, bs, hx, e, hbl, fun D hD => ⟨D, bs.map PdH.b2i, rfl, ?_, k _ _ _ rfl (g.ext' (Ext.new hD)) (Ext.new hD).exd (.int _)⟩⟩
    refine SqL.of ?_
    rw [upd_same, List.map_map]
    rfl
end
end Pd
set_option Elab.async false
set_option linter.all false
set_option maxRecDepth 100000
set_option maxHeartbeats 1000000
/-! Slices, counts, negative numbers. -/
namespace Pd
open PySem PySem.Spec PyProof.Rows L2
def tXO (ρ : List Sl) (l : Option Int) : TO := fun σ H Q => ∃ W O, Gd W O σ H ρ ∧ ∀ H', Gd W O σ H' ρ → ExD σ ρ H H' → Q l H'
theorem ru_neg {i : Int} : RU (rU fun i => .int (-i)) (.int i) (fun z => z = .int (-i)) := fun O H x _ h Q k => by
  cases h
  exact ⟨i, rfl, k _ _ H rfl (Ext.refl H) (.int _)⟩
section
variable {X : Cx} {ρ : List Sl} {e : Expr} {lo hi : Option Expr} {l u : Option Int} {p2 pos : Pos}
theorem xo_none : PO X none (tXO ρ none) := ⟨fun pins s σ H Q I ⟨W, O, g, k⟩ => po_none.run pins s σ H Q I (k H g (ExD.refl σ ρ H))⟩
theorem xo_some {i : Int} (h : XV X e ρ (.int i)) : PO X (some e) (tXO ρ (some i)) := ⟨fun pins s σ H Q I ⟨W, O, g, k⟩ => (po_some h).run pins s σ H Q I ⟨W, O, g, fun d v H' hd g' e' is => by subst hd; cases is; exact ⟨i, rfl, k H' g' e'⟩⟩⟩
def cutD {α : Type} (xs : List α) (lo hi : Option Int) : List α := (xs.drop (HT.sIx xs.length 0 lo)).take (HT.sIx xs.length xs.length hi - HT.sIx xs.length 0 lo)
theorem IsAll.cut {O : Addr → Prop} {H : Hp} {xs : List V} {ds : List PyData} (h : IsAll O H xs ds) (lo hi : Option Int) : IsAll O H (cutV xs lo hi) (cutD ds lo hi) := by
  unfold cutV cutD
  rw [h.length]
  exact (h.drop _).take _
theorem x_slL {ds : List PyData} (h : XV X e ρ (.list ds)) (hl : PO X lo (tXO ρ l)) (hu : PO X hi (tXO ρ u)) : XV X (.Subscript e (.Slice lo hi none p2) pos) ρ (.list (cutD ds l u)) :=
  PE.imp (pe_slice sl_list h hl hu) fun σ H Q ⟨W, O, g, k⟩ => ⟨W, O, g, fun d v H1 hd g1 e1 i1 => ⟨W, O, g1, fun H2 g2 e2 => ⟨W, O, g2, fun H3 g3 e3 => by
    subst hd
    obtain ⟨p, xs, rfl, n, e, r⟩ := ((i1.exd g1 e2).exd g2 e3).list
    exact ⟨p, xs, rfl, SqL.of e, fun q hq => k _ _ _ rfl (g3.ext' (Ext.new hq)) (((e1.trans e2).trans e3).trans (Ext.new hq).exd) (Is.newL g3.al hq (r.cut l u))⟩⟩⟩⟩
theorem x_slT {ds : List PyData} (h : XV X e ρ (.tuple ds)) (hl : PO X lo (tXO ρ l)) (hu : PO X hi (tXO ρ u)) : XV X (.Subscript e (.Slice lo hi none p2) pos) ρ (.tuple (cutD ds l u)) :=
  PE.imp (pe_slice sl_tupA h hl hu) fun σ H Q ⟨W, O, g, k⟩ => ⟨W, O, g, fun d v H1 hd g1 e1 i1 => ⟨W, O, g1, fun H2 g2 e2 => ⟨W, O, g2, fun H3 g3 e3 => by
    subst hd
    obtain ⟨p, xs, rfl, n, e, r⟩ := ((i1.exd g1 e2).exd g2 e3).tuple
    refine ⟨p, xs, rfl, SqT.of e, fun hw => ?_, fun _ q hq => k _ _ _ rfl (g3.ext' (Ext.new hq)) (((e1.trans e2).trans e3).trans (Ext.new hq).exd) (Is.newT g3.al hq (r.cut l u))⟩
    have e5 : cutD ds l u = ds := by
      unfold cutD
      rw [← r.length, hw.1, hw.2, List.drop_zero, Nat.sub_zero, r.length, List.take_length]
    rw [e5] at k
    exact k _ _ H3 rfl g3 ((e1.trans e2).trans e3) (.tup n e r)⟩⟩⟩
theorem cut_last {α : Type} (xs : List α) : cutD xs (some (-1)) none = xs.drop (xs.length - 1) := by
  unfold cutD
  have h1 : HT.sIx xs.length 0 (some (-1)) = xs.length - 1 := by
    unfold HT.sIx
    show (if (-1 : Int) < 0 then ((-1 : Int) + (xs.length : Int)).toNat else min (-1 : Int).toNat xs.length) = _
    rw [if_pos (by decide)]
    omega
  rw [h1, HT.sIx_none, List.take_of_length_le (by rw [List.length_drop]; exact Nat.le_refl _)]
theorem cutD_map {α β : Type} (f : α → β) (xs : List α) (lo hi : Option Int) : cutD (xs.map f) lo hi = (cutD xs lo hi).map f := by
  unfold cutD
  rw [List.length_map, ← List.map_drop, ← List.map_take]
/-- xs.count(k) -/
theorem rm_count {ns : List Int} {k : Int} : RM (rCntI X.K) (lI ns) [.int k] (fun z => z = .int (ns.count k : Nat)) := fun O H x vs al h1 h2 Q q => by
  obtain ⟨p, xs, rfl, _, e, r⟩ := h1.list
  have ex := r.ints
  subst ex
  obtain ⟨v, rfl, hv⟩ := h2.one
  cases hv
  exact ⟨p, ns, k, rfl, rfl, SqL.of e, q _ _ H rfl (Ext.refl H) (.int _)⟩
end
section
variable {X : Cx} {ρ : List Sl} {tg iter : Expr} {body rest : List Stmt} {pos : Pos} {nx : List Sl → Prop} {rt : PyData → Prop}
/-- for target in iter: body -/
theorem s_for {g : TG} {asg : PyData → List Sl → Option (List Sl)} {ys : List PyData} (hI : IX X tg iter ρ ys) (hg : PG X tg g) (hT : TgR g asg) (Inv : Nat → List Sl → Prop) (h0 : Inv 0 ρ)
    (hs : ∀ i d ρ1, ys[i]? = some d → Inv i ρ1 → ∃ ρ2, asg d ρ1 = some ρ2 ∧ SXs X body ρ2 (Inv (i + 1)) rt) (k : ∀ ρ1, Inv ys.length ρ1 → SXs X rest ρ1 nx rt) (hp : PassesOwn (model X.prog X.w) X.A X.env X.xe) (hc : X.calm = true)
    (hf : ∀ x, foldedSetIterable iter X.env x = pure x := by intro _; rfl) : SXs X (.For tg iter body [] pos :: rest) ρ nx rt :=
  s_seq (mid := Inv ys.length) (S_for hI hg hT Inv h0 hs (fun _ h => h) hp hc (hps := fun h1 h2 => ps_for hp hc h1 hg h2 hf)) k
end
theorem rd_inLI {K : PySem.W.Frag} {x : Int} {ns : List Int} : RV (rInD K) (.int x) (lI ns) (.bool (decide (x ∈ ns))) := by
  rw [← any_eqv (f := PyData.int) eqv_int ns x]
  exact rd_inL (sh_int (n := 0) x).shp (sh_lI (n := 0) ns).shp
theorem rd_notInLI {K : PySem.W.Frag} {x : Int} {ns : List Int} : RV (rNotInD K) (.int x) (lI ns) (.bool (!decide (x ∈ ns))) := by
  rw [← any_eqv (f := PyData.int) eqv_int ns x]
  exact rd_notInL (sh_int (n := 0) x).shp (sh_lI (n := 0) ns).shp
theorem sh_str {n : Nat} (x : Str) (h : (PyData.str x).canLay0 = true) : Sh n (.str x) := ⟨h, by unfold PyData.depth; exact Nat.zero_le _⟩
theorem sh_non {n : Nat} : Sh n .none := ⟨rfl, by unfold PyData.depth; exact Nat.zero_le _⟩
theorem sh_res (c : Ec) : Sh 1 (res c) := sh_tup (shA_cons (sh_str (n := 0) _ (by decide +kernel)) (shA_cons (sh_str (n := 0) _ (by cases c <;> decide +kernel)) shA_nil))
theorem eqv_res (c d : Ec) : PyData.eqv (res c) (res d) = decide (c = d) := by cases c <;> cases d <;> decide +kernel
section
variable {X : Cx} {ρ : List Sl} {a b : Expr} {rest : List Stmt} {nx : List Sl → Prop} {rt : PyData → Prop} {φ ψ : PyData → Prop}
theorem X_pair {x1} {pos : Pos} (ha : XE X a ρ φ) (hb : XE X b ρ ψ) (h1 : starEach [a, b] X.env = (false, eval a X.env) :: starEach [b] X.env := by rfl) (h2 : starEach [b] X.env = (false, eval b X.env) :: starEach [] X.env := by rfl) : XE X (.Tuple [a, b] x1 pos) ρ (fun z => ∃ x y, (φ x ∧ ψ y) ∧ z = .tuple [x, y]) :=
  XE.mono (X_tup (X_cons ha (X_cons hb a_nil (χ' := fun ds => ∃ y, ψ y ∧ ds = [y]) (fun d ds hd hds => ⟨d, hd, by rw [show ds = [] from hds]⟩) h2) (χ' := fun ds => ∃ x y, (φ x ∧ ψ y) ∧ ds = [x, y]) (fun d ds hd hds => by
    obtain ⟨y, hy, rfl⟩ := hds
    exact ⟨d, y, ⟨hd, hy⟩, rfl⟩) h1) (fun ds h => by
    obtain ⟨x, y, _, rfl⟩ := h
    exact Nat.le_of_ble_eq_true rfl)) fun z h => by
    obtain ⟨ds, ⟨x, y, h, rfl⟩, rfl⟩ := h
    exact ⟨x, y, h, rfl⟩
/-- x, y = a, b, by a tuple -/
theorem S_unp2 {x y : Str} {px py pt pt2 pos : Pos} {tk tk2 : Nat} (i j : Nat) (ha : XE X a ρ φ) (hb : XE X b ρ ψ) (k : ∀ u v, φ u → ψ v → SXs X rest ((ρ.set i (.val u)).set j (.val v)) nx rt) (hg : PG X (.Tuple [.Name x px, .Name y py] tk pt) (gTup X.K 2 (gCons (gName i) (gCons (gName j) gNil))))
    (hni : nd ρ i = true := by rfl) (hnj : nd ρ j = true := by rfl) (hs : swapsWithSole [.Tuple [.Name x px, .Name y py] tk pt] (.Tuple [a, b] tk2 pt2) pos.line X.env = pure false := by rfl) (hw : swappedStores [.Tuple [.Name x px, .Name y py] tk pt] (.Tuple [a, b] tk2 pt2) X.env = pure none := by rfl)
    (h1 : starEach [a, b] X.env = (false, eval a X.env) :: starEach [b] X.env := by rfl) (h2 : starEach [b] X.env = (false, eval b X.env) :: starEach [] X.env := by rfl) :
    SXs X (.Assign [.Tuple [.Name x px, .Name y py] tk pt] (.Tuple [a, b] tk2 pt2) pos :: rest) ρ nx rt :=
  S_unp (φ := fun u v => φ u ∧ ψ v) i j (X_pair ha hb h1 h2) (fun u v h => k u v h.1 h.2) hg hni hnj hs hw
end
theorem sh_bb {n : Nat} (b : Bool) : Sh n (.bool b) := ⟨rfl, by unfold PyData.depth; exact Nat.zero_le _⟩
theorem eqv_bb (a b : Bool) : PyData.eqv (.bool a) (.bool b) = decide (a = b) := by cases a <;> cases b <;> decide
theorem rd_neBB {K : PySem.W.Frag} {a b : Bool} : RV (rNeD K) (.bool a) (.bool b) (.bool (!decide (a = b))) := by rw [← eqv_bb]; exact rd_neD (sh_bb (n := 0) a).shp (sh_bb (n := 0) b).shp
theorem rd_eqBB {K : PySem.W.Frag} {a b : Bool} : RV (rEqD K) (.bool a) (.bool b) (.bool (decide (a = b))) := by rw [← eqv_bb]; exact rd_eqD (sh_bb (n := 0) a).shp (sh_bb (n := 0) b).shp
theorem rd_neRes {K : PySem.W.Frag} {c d : Ec} : RV (rNeD K) (res c) (res d) (.bool (!decide (c = d))) := by rw [← eqv_res]; exact rd_neD (sh_res c).shp (sh_res d).shp
theorem ndec {α : Type} [DecidableEq α] {a b : α} (h : a = b) : (!decide (a = b)) = false := by rw [decide_eq_true h]; rfl
theorem rd_neSame {K : PySem.W.Frag} {n : Nat} {d : PyData} (h : Sh n d) (hn : Shp d) : RV (rNeD K) d d (.bool false) := by
  have e : PyData.eqv d d = true := SeqAt.eqv_refl d h.1
  have := rd_neD (K := K) hn hn
  rw [e] at this
  exact this
section
variable {X : Cx} {ρ : List Sl} {a b : Expr} {pos : Pos}
/-- a + b of lists, to be owned -/
theorem s_cat {ds es : List PyData} (ha : XV X a ρ (.list ds)) (hb : XV X b ρ (.list es)) (hl : ds.length + es.length ≤ 100000) : SV X (.BinOp a .Add b pos) ρ (.own (ds ++ es)) :=
  PE.imp (pe_op op_cat ha hb) fun σ H Q ⟨W, O, g, k⟩ => ⟨W, O, g, fun d x H1 hd g1 e1 i1 => ⟨W, O, g1, fun e y H2 he g2 e2 i2 => by
    subst hd he
    obtain ⟨p1, xs, rfl, n1, h1, r1⟩ := (i1.exd g1 e2).list
    obtain ⟨p2, ys, rfl, n2, h2, r2⟩ := i2.list
    have l1 := r1.length
    have l2 := r2.length
    refine ⟨p1, p2, xs, ys, rfl, rfl, h1, h2, by rw [sizeLine_eq]; omega, fun p hp => ?_⟩
    obtain ⟨g3, mu, hoc⟩ := g2.own (o := .lst (xs ++ ys)) hp nw_lst
    have e12 := e1.trans e2
    have hpH : bl H p := fun o q m => by
      by_cases hd : Dx σ ρ p
      · exact g2.al.fresh hp (g2.dxO hd)
      · rw [e12 p o hd m q] at hp; cases hp
    exact k _ (.ref p) _ _ rfl g3 (fun _ h => .inl h) (fun a h => h.imp id fun z => by rw [z]; exact hpH) (e12.trans (Ext.new hp).exd) ⟨p, xs ++ ys, rfl, .inr rfl, hoc, mu, upd_same, (r1.append r2).more (fun a h => h.imp id fun z => by rw [z]; exact bl_none hp) (Ext.new hp).ex⟩ (fun _ => ⟨p, rfl, hpH⟩)⟩⟩
end
end Pd
set_option Elab.async false
set_option linter.all false
set_option maxRecDepth 100000
set_option maxHeartbeats 1000000
namespace Pd
open PySem PySem.Spec PyProof.Rows L2
/-- (d,) * k -/
theorem rd_repT {K : PySem.W.Frag} {d : PyData} {k : Int} (h1 : 2 ≤ k) (h2 : k ≤ 1000) : RV (rRepT K) (.tuple [d]) (.int k) (.tuple (List.replicate k.toNat d)) := fun O H x y al i1 i2 Q q => by
  obtain ⟨p, xs, rfl, n1, e, r⟩ := i1.tuple
  cases i2
  obtain ⟨v, rfl, hv⟩ := r.one
  refine ⟨p, k, [v], rfl, rfl, SqT.of e, by simp, h1, h2, by simp, fun l hl => ?_⟩
  rw [rep_one]
  have key : ∀ n : Nat, IsAll O H (List.replicate n v) (List.replicate n d) := fun n => by
    induction n with
    | zero => exact .nil
    | succ n ih => exact .cons hv ih
  exact q _ _ _ rfl (Ext.new hl) (Is.newT al hl (key _))
end Pd
set_option Elab.async false
set_option linter.all false
set_option maxRecDepth 100000
set_option maxHeartbeats 1000000
namespace Sr
open PySem PySem.Spec PyProof.Rows L2 Pd
section
variable {K : PySem.W.Frag}
/-- the built-in names are the built-ins -/
structure Bl (mg : Str → Option Value) : Prop where
  isinstance : mg "isinstance" = none
  int : mg "int" = none
  bool : mg "bool" = none
  tuple : mg "tuple" = none
  list : mg "list" = none
  len : mg "len" = none
  all : mg "all" = none
  any : mg "any" = none
  sum : mg "sum" = none
  range : mg "range" = none
  enumerate : mg "enumerate" = none
  min : mg "min" = none
  max : mg "max" = none
  sorted : mg "sorted" = none
  str : mg "str" = none
  ValueError : mg "ValueError" = none
  set : mg "set" = none
  dict : mg "dict" = none
theorem i_id {X : Cx} {tg e : Expr} {ρ : List Sl} {ds : List PyData} (h : IX X tg e ρ ds) : IX X tg e ρ (ds.map fun d => d) := by rw [List.map_id']; exact h
theorem all_rng (n : Nat) (f : Int → Bool) : ((rng 0 n).map f).all id = (List.range n).all fun i => f (i : Nat) := by
  unfold rng
  rw [List.map_map, List.all_map]
  congr 1
  funext i
  show f (0 + (i : Int)) = f (i : Int)
  rw [Int.zero_add]
theorem mem_rng {lo : Int} {n : Nat} {a : Int} (h : a ∈ rng lo n) : ∃ k : Nat, k < n ∧ a = lo + (k : Nat) := by
  unfold rng at h
  obtain ⟨k, hk, rfl⟩ := List.mem_map.mp h
  exact ⟨k, List.mem_range.mp hk, rfl⟩
theorem getD_int {ns : List Int} {k : Nat} (h : k < ns.length) : (ns.map PyData.int)[k]? = some (.int (ns.getD k 0)) := by
  rw [List.getElem?_map, List.getElem?_eq_getElem h, List.getD_eq_getElem?_getD, List.getElem?_eq_getElem h]
  rfl

theorem Row.len1000 {ns : List Int} (h : Row ns) : ns.length ≤ 1000 := by have := h.len; omega
theorem head_int {ns : List Int} {x : Int} {r : List Int} (h : ns = x :: r) : (ns.map PyData.int)[0]? = some (.int x) := by rw [h]; rfl

theorem set_int (ns : List Int) (j : Nat) (x : Int) : (ns.map PyData.int).set j (.int x) = (ns.set j x).map .int := by rw [List.map_set]
theorem rd_mulW {i j : Int} (hc : CMulW i j) : RV (rI CMulW fun i j => .int (i * j)) (.int i) (.int j) (.int (i * j)) := rd_c hc
theorem rd_fdivW {i j : Int} (hc : CDivW i j) : RV (rI CDivW fun i j => .int (i / j)) (.int i) (.int j) (.int (i / j)) := rd_c hc
theorem natAbs_lt {i m : Int} {n : Nat} (h0 : 0 ≤ i) (h1 : i < m) (hm : m ≤ 2 ^ n) : i.natAbs < 2 ^ n := by
  have h2 : i < 2 ^ n := by omega
  have h3 : ((i.natAbs : Nat) : Int) = i := by omega
  have h4 : ((i.natAbs : Nat) : Int) < ((2 ^ n : Nat) : Int) := by rw [h3]; push_cast; exact h2
  omega
theorem crs_len {s : Int} : ∀ (f : Nat) (ns : List Int), (crs s f ns).1.length ≤ f
  | 0, ns => Nat.le_refl _
  | f + 1, ns => by
    unfold crs
    cases freeN s ns with
    | nil => exact Nat.zero_le _
    | cons p r => exact Nat.succ_le_succ (crs_len f _)
theorem sq_row {ns : List Int} (h : Row ns) : sq ns ≤ 324 := by
  have key : ∀ ns : List Int, (∀ n ∈ ns, 1 ≤ n) → ns.sum ≤ 18 → (sq ns : Int) ≤ ns.sum * 18 := by
    intro ns
    induction ns with
    | nil => intro _ _; decide
    | cons n ns ih =>
      intro h1 h2
      have a1 := h1 n List.mem_cons_self
      have a2 := len_le_sum (ns := ns) fun m hm => h1 m (List.mem_cons_of_mem _ hm)
      rw [List.sum_cons] at h2
      have a3 := ih (fun m hm => h1 m (List.mem_cons_of_mem _ hm)) (by omega)
      obtain ⟨m, rfl⟩ : ∃ m : Nat, n = (m : Int) := ⟨n.toNat, by omega⟩
      have e : sq ((m : Int) :: ns) = m * m + sq ns := by simp [sq]
      rw [e, List.sum_cons]
      have : m * m ≤ m * 18 := Nat.mul_le_mul_left _ (by omega)
      have : ((m * m : Nat) : Int) ≤ (m : Int) * 18 := by exact_mod_cast this
      rw [Int.add_mul]
      omega
  have := key ns h.pos h.sum
  have := h.sum
  have : ns.sum * 18 ≤ 18 * 18 := by omega
  omega
theorem course_row {s : Int} (hs : 2 ≤ s) : ∀ (f : Nat) (ns : List Int), Row ns → sq ns ≤ f → Row (crs s f ns).2 ∧ freeN s (crs s f ns).2 = []
  | 0, ns, h, hf => by
    refine ⟨h, ?_⟩
    cases hc : freeN s ns with
    | nil => exact hc
    | cons p r =>
      have := sq_free h hs (p := p) (by rw [hc]; exact List.mem_cons_self)
      omega
  | f + 1, ns, h, hf => by
    unfold crs
    cases hc : freeN s ns with
    | nil => exact ⟨h, hc⟩
    | cons p r =>
      have hp : p ∈ freeN s ns := by rw [hc]; exact List.mem_cons_self
      have := sq_free h hs hp
      exact course_row hs f (mv ns p) (h.mv hs hp) (by omega)
theorem Row.end {s : Int} {ns : List Int} (h : Row ns) (hs : 2 ≤ s) : Row (endL s ns) := (course_row hs (sq ns) ns h (Nat.le_refl _)).1
theorem end_free {s : Int} {ns : List Int} (h : Row ns) (hs : 2 ≤ s) : freeN s (endL s ns) = [] := (course_row hs (sq ns) ns h (Nat.le_refl _)).2
theorem is_steep {s : Int} (h : 2 ≤ s ∧ s ≤ 4) : isWhole (.int s) 2 4 = true := by unfold isWhole; simp [h]
theorem is_grains {s : Int} (h : 0 ≤ s ∧ s ≤ 18) : isWhole (.int s) 0 18 = true := by unfold isWhole; simp [h]

theorem row_heap {g : Int} (h : 0 ≤ g ∧ g ≤ 18) : Row (heapL g) := by
  unfold heapL
  by_cases hg : 0 < g
  · rw [if_pos hg]
    refine ⟨fun n hn => ?_, fun i => ?_, ?_⟩
    · have : n = g := by simpa using hn
      omega
    · cases i with
      | zero => show (0 : Int) ≤ g; omega
      | succ i => show (0 : Int) ≤ 0; omega
    · show g + 0 ≤ 18; omega
  · rw [if_neg hg]; exact row_nil

theorem Ext.seq {H H' : Hp} (e : Ext H H') {a : Addr} {xs : List V} (h : SqL K H a xs) : SqL K H' a xs := by
  rcases h with (h | ⟨o, h⟩) | h
  · exact .inl (.inl (e _ _ h))
  · exact .inl (.inr ⟨o, e _ _ h⟩)
  · exact .inr h
theorem dp_ints {H : Hp} : ∀ ns : List Int, DpAll K H (ns.map V.int) (ns.map PyData.int)
  | [] => .nil
  | n :: ns => .cons (.int n) (dp_ints ns)
theorem xs_nd {φ : PyData → Prop} : ∀ s : Sl, (∃ d, φ d ∧ s = .val d) → s ≠ .dice := by
  rintro s ⟨d, _, rfl⟩
  exact fun z => nomatch z
theorem getD_snoc (ns : List Int) (h : Int) (i : Nat) : (ns ++ [h]).getD i 0 = if i < ns.length then ns.getD i 0 else if i = ns.length then h else 0 := by
  rw [List.getD_eq_getElem?_getD, List.getD_eq_getElem?_getD]
  by_cases h1 : i < ns.length
  · rw [if_pos h1, List.getElem?_append_left h1]
  · rw [if_neg h1, List.getElem?_append_right (by omega)]
    by_cases h2 : i = ns.length
    · rw [if_pos h2, h2, Nat.sub_self]; rfl
    · rw [if_neg h2, List.getElem?_eq_none (by simp; omega)]; rfl
theorem row_snoc {ns : List Int} {h : Int} (hr : Row ns) (h1 : 1 ≤ h) (hl : ∀ y ∈ ns.drop (ns.length - 1), h ≤ y) (hs : ns.sum + h ≤ 18) : Row (ns ++ [h]) := by
  refine ⟨fun n hn => ?_, fun i => ?_, by rw [List.sum_append]; simpa using hs⟩
  · rcases List.mem_append.mp hn with hn | hn
    · exact hr.pos n hn
    · have : n = h := by simpa using hn
      omega
  · rw [getD_snoc, getD_snoc]
    by_cases a1 : i + 1 < ns.length
    · rw [if_pos a1, if_pos (by omega)]; exact hr.falls i
    · rw [if_neg a1]
      by_cases a2 : i + 1 = ns.length
      · rw [if_pos a2, if_pos (by omega)]
        refine hl _ ?_
        have e : ns.length - 1 = i := by omega
        rw [e]
        have hi : i < ns.length := by omega
        rw [List.getD_eq_getElem?_getD, List.getElem?_eq_getElem hi]
        rw [List.drop_eq_getElem_cons hi]
        exact List.mem_cons_self
      · rw [if_neg a2]
        by_cases a3 : i < ns.length
        · omega
        · rw [if_neg a3]
          by_cases a4 : i = ns.length
          · rw [if_pos a4]; omega
          · rw [if_neg a4]; exact Int.le_refl 0
/-- what need_both raises -/
def bothX (s r : PyData) : Option Ec := if isWhole s 2 4 = true then (if isRowD r = true then none else some .row) else some .st
abbrev spE {α : Type} (K : PySem.W.Frag) (args : α → List PyData) (x : α → Option Ec) : Sp := spR args (fun a => (x a).isSome = true) (fun a => cl K ((x a).getD .st))
theorem both_row {s r : PyData} (h : isWhole s 2 4 = true) (h2 : isRowD r = false) : bothX s r = some .row := by unfold bothX; rw [if_pos h, if_neg (by rw [h2]; exact Bool.false_ne_true)]
theorem both_st {s r : PyData} (h : isWhole s 2 4 = false) : bothX s r = some .st := by unfold bothX; rw [if_neg (by rw [h]; exact Bool.false_ne_true)]
theorem filter_range_succ (i : Nat) (c : Nat → Bool) : (List.range (i + 1)).filter c = (List.range i).filter c ++ (if c i = true then [i] else []) := by
  rw [List.range_succ, List.filter_append]
  congr 1
  by_cases h : c i = true
  · rw [if_pos h, List.filter_cons, if_pos h]; rfl
  · rw [if_neg h, List.filter_cons, if_neg h]; rfl
/-- a written row -/
theorem row_of {ns : List Int} (h : (ns.all (fun n => decide (1 ≤ n)) && (List.range ns.length).all (fun i => decide (ns.getD (i + 1) 0 ≤ ns.getD i 0)) && decide (ns.sum ≤ 18)) = true) : Row ns := by
  simp only [Bool.and_eq_true, List.all_eq_true, decide_eq_true_eq, List.mem_range] at h
  obtain ⟨⟨h1, h2⟩, h3⟩ := h
  refine ⟨h1, fun i => ?_, h3⟩
  by_cases hi : i < ns.length
  · exact h2 i hi
  · rw [List.getD_eq_getElem?_getD, List.getD_eq_getElem?_getD, List.getElem?_eq_none (by omega), List.getElem?_eq_none (by omega)]
    exact Int.le_refl 0
end
end Sr
set_option Elab.async false
set_option linter.all false
set_option maxRecDepth 100000
set_option maxHeartbeats 1000000
/-! Weights; slides in any order come to the same end. -/
namespace Sr
open PySem Pd
def wt (k : Nat) (ns : List Int) : Int := ((ns.zipIdx k).map fun p => ((p.2 : Nat) : Int) * p.1).sum
theorem wt_cons (k : Nat) (n : Int) (ns : List Int) : wt k (n :: ns) = (k : Int) * n + wt (k + 1) ns := by unfold wt; rw [List.zipIdx_cons, List.map_cons, List.sum_cons]
theorem wt_set : ∀ {ns : List Int} {p k : Nat} {x d : Int}, p < ns.length → x - ns.getD p 0 = d → wt k (ns.set p x) = wt k ns + ((k + p : Nat) : Int) * d
  | [], _, _, _, _, h, _ => by simp at h
  | n :: ns, 0, k, x, d, _, hd => by
    have hd : x - n = d := by simpa using hd
    show wt k (x :: ns) = _
    rw [wt_cons, wt_cons, show k + 0 = k from rfl, ← hd, Int.mul_sub]
    omega
  | n :: ns, p + 1, k, x, d, h, hd => by
    have := wt_set (ns := ns) (p := p) (k := k + 1) (x := x) (d := d) (by simpa using h) (by simpa using hd)
    show wt k (n :: ns.set p x) = _
    rw [wt_cons, wt_cons, this, show k + 1 + p = k + (p + 1) by omega]
    omega
theorem wt_app1 : ∀ (ns : List Int) (k : Nat) (x : Int), wt k (ns ++ [x]) = wt k ns + ((k + ns.length : Nat) : Int) * x
  | [], k, x => by
    show wt k [x] = wt k [] + _
    rw [wt_cons]
    show _ + wt (k + 1) [] = _
    unfold wt
    simp
  | n :: ns, k, x => by
    rw [List.cons_append, wt_cons, wt_cons, wt_app1 ns (k + 1) x, List.length_cons, show k + 1 + ns.length = k + (ns.length + 1) by omega]
    omega
theorem weight_mv {ns : List Int} {p : Nat} (hp : p < ns.length) : weightL (mv ns p) = weightL ns + 1 := by
  show wt 0 (mv ns p) = wt 0 ns + 1
  unfold mv
  by_cases h : p + 1 < ns.length
  · rw [if_pos h, wt_set (d := 1) (by rw [List.length_set]; exact h) (by rw [getD_set _ _ _ _ hp, if_neg (by omega)]; omega), wt_set (d := -1) hp (by omega)]
    omega
  · rw [if_neg h, wt_app1, wt_set (d := -1) hp (by omega), List.length_set]
    omega
end Sr
set_option Elab.async false
set_option linter.all false
set_option maxRecDepth 100000
set_option maxHeartbeats 1000000
/-! Slides in any order come to the same end, each place as often. -/
namespace Sr
open PySem Pd
theorem free_stays {s : Int} {ns : List Int} {p q : Nat} (hp : p ∈ freeN s ns) (hq : q ∈ freeN s ns) (h : q ≠ p) : q ∈ freeN s (mv ns p) := by
  obtain ⟨hp1, _⟩ := mem_freeN.mp hp
  obtain ⟨hq1, hq2⟩ := mem_freeN.mp hq
  refine mem_freeN.mpr ⟨by rw [len_mv hp1]; omega, ?_⟩
  rw [ht_mv hp1, ht_mv hp1, if_neg h, if_neg (show ¬ q + 1 = p + 1 by omega)]
  split <;> split <;> omega
theorem mv_comm {s : Int} {ns : List Int} {p q : Nat} (hr : Row ns) (hs : 2 ≤ s) (hp : p ∈ freeN s ns) (hq : q ∈ freeN s ns) (h : q ≠ p) : mv (mv ns p) q = mv (mv ns q) p := by
  have hp1 := (mem_freeN.mp hp).1
  have hq1 := (mem_freeN.mp hq).1
  have f1 := free_stays hp hq h
  have f2 := free_stays hq hp (Ne.symm h)
  have a1 := (mem_freeN.mp f1).1
  have a2 := (mem_freeN.mp f2).1
  refine row_ext ((hr.mv hs hp).mv hs f1).pos ((hr.mv hs hq).mv hs f2).pos fun i => ?_
  rw [ht_mv a1, ht_mv hp1, ht_mv a2, ht_mv hq1]
  omega
/-- slides at the places l lead from a to e -/
inductive Pth (s : Int) : List Int → List Nat → List Int → Prop
  | nil (a : List Int) : Pth s a [] a
  | cons {a e : List Int} {p : Nat} {l : List Nat} : p ∈ freeN s a → Pth s (mv a p) l e → Pth s a (p :: l) e
theorem Pth.row {s : Int} (hs : 2 ≤ s) : ∀ {l : List Nat} {a e : List Int}, Row a → Pth s a l e → Row e
  | [], _, _, h, r => by cases r; exact h
  | p :: l, _, _, h, r => by
    cases r with
    | cons hp r => exact Pth.row hs (h.mv hs hp) r
theorem Pth.weight {s : Int} : ∀ {l : List Nat} {a e : List Int}, Pth s a l e → weightL e = weightL a + (l.length : Nat)
  | [], _, _, r => by cases r; simp
  | p :: l, _, _, r => by
    cases r with
    | cons hp r =>
      have := Pth.weight r
      rw [weight_mv (mem_freeN.mp hp).1] at this
      rw [List.length_cons]
      omega
theorem Pth.sum {s : Int} : ∀ {l : List Nat} {a e : List Int}, Pth s a l e → e.sum = a.sum
  | [], _, _, r => by cases r; rfl
  | p :: l, _, _, r => by
    cases r with
    | cons hp r => rw [Pth.sum r, sum_mv (mem_freeN.mp hp).1]
theorem Pth.app {s : Int} : ∀ {l m : List Nat} {a b e : List Int}, Pth s a l b → Pth s b m e → Pth s a (l ++ m) e
  | [], _, _, _, _, r, t => by cases r; exact t
  | p :: l, _, _, _, _, r, t => by
    cases r with
    | cons hp r => exact .cons hp (Pth.app r t)
theorem Pth.swap {s : Int} (hs : 2 ≤ s) : ∀ {l : List Nat} {a e : List Int} {p : Nat}, Row a → freeN s e = [] → Pth s a l e → p ∈ freeN s a → ∃ l', Pth s (mv a p) l' e ∧ l.Perm (p :: l')
  | [], _, _, p, _, he, r, hp => by cases r; rw [he] at hp; cases hp
  | q :: l, a, e, p, ha, he, r, hp => by
    cases r with
    | cons hq r =>
      by_cases h : q = p
      · subst h; exact ⟨l, r, .refl _⟩
      · obtain ⟨l', r', pe⟩ := Pth.swap hs (ha.mv hs hq) he r (free_stays hq hp (Ne.symm h))
        refine ⟨q :: l', .cons (free_stays hp hq h) (by rw [mv_comm ha hs hp hq h]; exact r'), ?_⟩
        exact (pe.cons q).trans (List.Perm.swap _ _ _)
theorem Pth.same {s : Int} (hs : 2 ≤ s) : ∀ {l' l : List Nat} {a e e' : List Int}, Row a → freeN s e = [] → freeN s e' = [] → Pth s a l e → Pth s a l' e' → e = e' ∧ l.Perm l'
  | [], l, a, e, e', _, he, he', r, r' => by
    cases r'
    cases r with
    | nil => exact ⟨rfl, .refl _⟩
    | cons hp _ => rw [he'] at hp; cases hp
  | p :: l', l, a, e, e', ha, he, he', r, r' => by
    cases r' with
    | cons hp r' =>
      obtain ⟨l1, r1, pe⟩ := Pth.swap hs ha he r hp
      obtain ⟨h1, h2⟩ := Pth.same hs (ha.mv hs hp) he he' r1 r'
      exact ⟨h1, pe.trans (h2.cons p)⟩
theorem crs_pth {s : Int} : ∀ (f : Nat) (ns : List Int), ∃ l : List Nat, (crs s f ns).1 = l.map (fun i => ((i : Nat) : Int)) ∧ Pth s ns l (crs s f ns).2
  | 0, ns => ⟨[], rfl, .nil _⟩
  | f + 1, ns => by
    unfold crs
    cases hc : freeN s ns with
    | nil => exact ⟨[], rfl, .nil _⟩
    | cons p r =>
      obtain ⟨l, h1, h2⟩ := crs_pth f (mv ns p)
      refine ⟨p :: l, ?_, .cons (by rw [hc]; exact List.mem_cons_self) h2⟩
      show ((p : Nat) : Int) :: _ = _
      rw [h1]
      rfl
theorem course_pth (s : Int) (ns : List Int) : ∃ l : List Nat, (courseL s ns).1 = l.map (fun i => ((i : Nat) : Int)) ∧ Pth s ns l (endL s ns) := crs_pth (sq ns) ns
/-- how often each place slides -/
def slidesL (s : Int) (ns : List Int) : List Int := (List.range (endL s ns).length).map fun i => (((courseL s ns).1.count ((i : Nat) : Int) : Nat) : Int)
end Sr
set_option Elab.async false
set_option linter.all false
set_option maxRecDepth 100000
set_option maxHeartbeats 1000000
namespace Sr
open PySem Pd
abbrev cI (l : List Nat) : List Int := l.map fun i => ((i : Nat) : Int)
/-- the end of what comes from a row -/
theorem end_of_pth {s : Int} {ns e : List Int} {l : List Nat} (hs : 2 ≤ s) (hr : Row ns) (h : Pth s ns l e) : endL s e = endL s ns := by
  have he := h.row hs hr
  obtain ⟨l2, _, r2⟩ := course_pth s e
  obtain ⟨l1, _, r1⟩ := course_pth s ns
  exact (Pth.same hs hr (end_free he hs) (end_free hr hs) (h.app r2) r1).1
theorem end_mv {s : Int} {ns : List Int} {p : Nat} (hs : 2 ≤ s) (hr : Row ns) (h : p ∈ freeN s ns) : endL s (mv ns p) = endL s ns := end_of_pth hs hr (.cons h (.nil _))
theorem end_self {s : Int} {ns : List Int} (h : freeN s ns = []) : endL s ns = ns := by unfold endL; rw [course_nil h]
theorem end_end {s : Int} {ns : List Int} (hs : 2 ≤ s) (hr : Row ns) : endL s (endL s ns) = endL s ns := end_self (end_free hr hs)
theorem course_perm {s : Int} {ns : List Int} {l : List Nat} (hs : 2 ≤ s) (hr : Row ns) (h : Pth s ns l (endL s ns)) : (cI l).Perm (courseL s ns).1 := by
  obtain ⟨l2, e2, r2⟩ := course_pth s ns
  rw [e2]
  exact (Pth.same hs hr (end_free hr hs) (end_free hr hs) h r2).2.map _
theorem slides_pth {s : Int} {ns : List Int} {l : List Nat} (hs : 2 ≤ s) (hr : Row ns) (h : Pth s ns l (endL s ns)) : slidesL s ns = (List.range (endL s ns).length).map fun i => (((cI l).count ((i : Nat) : Int) : Nat) : Int) := by
  unfold slidesL
  refine List.map_congr_left fun i _ => ?_
  rw [(course_perm hs hr h).count_eq]
theorem Pth.len {s : Int} : ∀ {l : List Nat} {a e : List Int}, Pth s a l e → a.length ≤ e.length ∧ ∀ p ∈ l, p + 1 < e.length
  | [], _, _, h => by cases h; exact ⟨Nat.le_refl _, fun p hp => by cases hp⟩
  | q :: l, a, e, h => by
    cases h with
    | cons hq r =>
      obtain ⟨h1, h2⟩ := Pth.len r
      rw [len_mv (mem_freeN.mp hq).1] at h1
      refine ⟨by omega, fun p hp => ?_⟩
      rcases List.mem_cons.mp hp with rfl | hp
      · omega
      · exact h2 p hp
theorem count_cI : ∀ (l : List Nat) (j : Nat), (cI l).count ((j : Nat) : Int) = l.count j
  | [], j => rfl
  | x :: l, j => by
    show (((x : Nat) : Int) :: cI l).count _ = _
    rw [List.count_cons, List.count_cons, count_cI l j]
    congr 1
    by_cases h : x = j
    · subst h; simp
    · have : ¬ ((x : Nat) : Int) = ((j : Nat) : Int) := fun z => h (by omega)
      simp [h, this]
theorem sum_ones : ∀ (n x : Nat), ((List.range n).map fun i => if i = x then (1 : Int) else 0).sum = if x < n then 1 else 0
  | 0, x => by simp
  | n + 1, x => by
    rw [List.range_succ, List.map_append, List.sum_append, sum_ones n x]
    simp only [List.map_cons, List.map_nil, List.sum_cons, List.sum_nil]
    by_cases h : x < n
    · rw [if_pos h, if_neg (by omega), if_pos (by omega)]; omega
    · by_cases h2 : n = x
      · rw [if_neg h, if_pos h2, if_pos (by omega)]; omega
      · rw [if_neg h, if_neg h2, if_neg (by omega)]; omega
theorem sum_map_add {α : Type} (f g : α → Int) : ∀ l : List α, (l.map fun a => f a + g a).sum = (l.map f).sum + (l.map g).sum
  | [] => rfl
  | a :: l => by
    simp only [List.map_cons, List.sum_cons]
    rw [sum_map_add f g l]; omega
theorem sum_counts (n : Nat) : ∀ (l : List Nat), (∀ p ∈ l, p < n) → ((List.range n).map fun i => (((cI l).count ((i : Nat) : Int) : Nat) : Int)).sum = (l.length : Nat)
  | [], _ => by
    show ((List.range n).map fun i => (((0 : Nat)) : Int)).sum = 0
    induction n with
    | zero => rfl
    | succ n ih => rw [List.range_succ, List.map_append, List.sum_append, ih (by simp)]; rfl
  | x :: l, h => by
    have ih := sum_counts n l fun p hp => h p (List.mem_cons_of_mem _ hp)
    have e : ((List.range n).map fun i => (((cI (x :: l)).count ((i : Nat) : Int) : Nat) : Int)) = (List.range n).map fun i => (((cI l).count ((i : Nat) : Int) : Nat) : Int) + (if i = x then (1 : Int) else 0) := by
      refine List.map_congr_left fun i _ => ?_
      rw [count_cI, count_cI, List.count_cons]
      by_cases hx : x = i
      · subst hx; simp
      · simp [hx, Ne.symm hx]
    rw [e, sum_map_add, ih, sum_ones, if_pos (h x List.mem_cons_self), List.length_cons]
    omega
theorem sum_slides {s : Int} {ns : List Int} {l : List Nat} (hs : 2 ≤ s) (hr : Row ns) (h : Pth s ns l (endL s ns)) : (slidesL s ns).sum = (l.length : Nat) := by
  rw [slides_pth hs hr h]
  exact sum_counts _ l fun p hp => by have := h.len.2 p hp; omega
end Sr
namespace Sr
open PySem Pd
def grX (s g : PyData) : Option Ec := if isWhole s 2 4 = true then (if isWhole g 0 18 = true then none else some .gr) else some .st
theorem gr_st {s g : PyData} (h : isWhole s 2 4 = false) : grX s g = some .st := by unfold grX; rw [if_neg (by rw [h]; exact Bool.false_ne_true)]
theorem gr_gr {s g : PyData} (h : isWhole s 2 4 = true) (h2 : isWhole g 0 18 = false) : grX s g = some .gr := by unfold grX; rw [if_pos h, if_neg (by rw [h2]; exact Bool.false_ne_true)]
theorem gr_cases {s g : PyData} (h : (grX s g).isSome = true) : (isWhole s 2 4 = false ∧ grX s g = some .st) ∨ (isWhole s 2 4 = true ∧ isWhole g 0 18 = false ∧ grX s g = some .gr) := by
  cases h1 : isWhole s 2 4 with
  | false => exact .inl ⟨rfl, gr_st h1⟩
  | true =>
    cases h2 : isWhole g 0 18 with
    | false => exact .inr ⟨rfl, rfl, gr_gr h1 h2⟩
    | true => unfold grX at h; rw [if_pos h1, if_pos h2] at h; cases h
end Sr
namespace Sr
open PySem Pd
/-- heights by the slides -/
theorem Pth.ht {s : Int} : ∀ {l : List Nat} {a e : List Int}, Pth s a l e → ∀ j, e.getD j 0 = a.getD j 0 + (if 0 < j then ((l.count (j - 1) : Nat) : Int) else 0) - ((l.count j : Nat) : Int)
  | [], _, _, h, j => by
    cases h
    simp
  | p :: l, a, e, h, j => by
    cases h with
    | cons hp r =>
      have ih := Pth.ht r j
      rw [ht_mv (mem_freeN.mp hp).1] at ih
      rw [ih, List.count_cons, List.count_cons]
      by_cases h1 : j = p
      · subst h1
        rw [if_pos rfl, if_neg (show ¬ j = j + 1 by omega)]
        by_cases h2 : 0 < j
        · rw [if_pos h2, if_pos h2]
          have : (j == j - 1) = false := by simp; omega
          rw [this]
          simp
          omega
        · rw [if_neg h2, if_neg h2]
          simp
          omega
      · rw [if_neg h1]
        have e1 : (p == j) = false := by simp; omega
        rw [e1]
        by_cases h2 : j = p + 1
        · subst h2
          rw [if_pos rfl, if_pos (by omega), if_pos (by omega)]
          simp
          omega
        · rw [if_neg h2]
          by_cases h3 : 0 < j
          · rw [if_pos h3, if_pos h3]
            have e2 : (p == j - 1) = false := by simp; omega
            rw [e2]
            simp
          · rw [if_neg h3, if_neg h3]
            simp
theorem slides_len (s : Int) (ns : List Int) : (slidesL s ns).length = (endL s ns).length := by unfold slidesL; rw [List.length_map, List.length_range]
theorem slides_get {s : Int} {ns : List Int} {l : List Nat} (hs : 2 ≤ s) (hr : Row ns) (h : Pth s ns l (endL s ns)) {j : Nat} (hj : j < (endL s ns).length) : (slidesL s ns).getD j 0 = ((l.count j : Nat) : Int) := by
  rw [slides_pth hs hr h, List.getD_eq_getElem?_getD, List.getElem?_map, List.getElem?_range hj, ← count_cI]
  rfl
end Sr
set_option Elab.async false
set_option linter.all false
set_option maxRecDepth 100000
set_option maxHeartbeats 1000000
/-! Dicts whose keys are tuples of ints: owned while they grow, values (frozen) afterwards. -/
namespace L2
open PySem PySem.Spec PyProof.Rows
/-- {k: v}, k a tuple -/
def tDisp1 (tk tv : TE) : TE := fun σ H Q => ∀ p, H p = none → tk σ (upd H p (.dT [])) fun x H1 => tv σ H1 fun y H2 => ∃ (b : Addr) (ks : List Key), x = .ref b ∧ H2 p = some (.dT []) ∧ H2 b = some (.tup (ks.map kV)) ∧ Q (.ref p) (upd H2 p (.dT [(ks, y)]))
theorem pe_disp1 {X : Cx} {pos : Pos} {k v : Expr} {tk tv : TE} (hu : X.A.units < cLine) (hk : PE X k tk) (hv : PE X v tv) : PE X (.Dict [some k] [v] pos) (tDisp1 tk tv) := by
  refine ⟨fun pins s σ H Q I q => ?_⟩
  have hn := I.hok.fresh (Nat.le_refl s.heap.objs.size)
  have I1 := I.laid (a := s.heap.objs.size) (o := .dT []) (h' := s.heap.push { cls := .type "dict", data := .dict #[] }) (t' := s.toks) (fun _ _ q => Heap.get?_push_of_some _ q) (Nat.le_refl _) (dt_empty s.heap I.big)
  rw [arm_eval_Dict, zip_pairTrees [some k] [v] X.env pos rfl rfl, dictDisplay_pairs (pairTrees [some k] [v] X.env pos) (by intro z; cases z) (by rw [pairTrees_length _ _ _ _ rfl rfl]; exact Nat.lt_of_sub_ne_zero (by show 17 - 1 ≠ 0; decide))]
  refine wpAny_bind (wpAny_standAt (wpAny_bind (wpAny_subDictH (knd := tupleKind (mixKind X.prog X.w)) (Q := fun d s' => wpAny (model X.prog X.w) X.A (pure (Value.ref d)) _ X.xe s') hu (by rw [pairTrees_length _ _ _ _ rfl rfl]; exact Nat.le_of_sub_eq_zero (by show 1 - 15 = 0; decide)) ?_)))
  refine thn ((pps_cons (pos := pos) hk hv pps_nil).run pins _ σ _ (fun ps H2 => ∃ (x y : V) (b : Addr) (ks : List Key), ps = [(x, y)] ∧ x = .ref b ∧ H2 s.heap.objs.size = some (.dT []) ∧ H2 b = some (.tup (ks.map kV)) ∧ Q (.ref s.heap.objs.size) (upd H2 s.heap.objs.size (.dT [(ks, y)]))) I1 ?_) fun ws s2 ⟨ps, H2, I2, rel, x, y, b, ks, ep, ex, e, eb, q2⟩ => ?_
  rotate_left
  · subst ep ex
    cases rel with
    | @cons _ q0 _ qs h t =>
      cases t
      obtain ⟨u, w2⟩ := q0
      obtain ⟨h1, h2⟩ := h
      have h1 : u = Value.ref b := h1
      subst h1
      obtain ⟨z, hd, xs, r0, dd⟩ := dt_of I2.hok e
      cases r0
      refine ⟨[(ks, b, w2)], ⟨rfl, rfl, key_of I2.hok eb, trivial⟩, dd, fun h' tk' dd' hs => wpAny_pure ⟨.ref s.heap.objs.size, _, ?_, rfl, q2⟩⟩
      obtain ⟨q, es, ep, hq, h2', h3, h4, _, h5⟩ := dd'
      have kt : KT H2 [(ks, y)] [(ks, b, w2)] := .cons ⟨rfl, eb, h2⟩ .nil
      refine d_write I2 (by rw [e]; exact True.intro) hs ⟨q, hq⟩ ⟨by show 1 ≤ sizeLine; decide, hd, [(ks, b, w2)], kt.keeps fun c ys ec => ?_, q, es, ep, hq, h2', h3, h4, h5⟩
      rw [upd_ne (ne_of ec e (fun z => nomatch z))]
      exact ec
  · have key : ∀ (tk tv : TE) (σ : St) (H0 : Hp) (p : Addr) (Q : VK), (tk σ H0 fun x H1 => tv σ H1 fun y H2 => ∃ (b : Addr) (ks : List Key), x = .ref b ∧ H2 p = some (.dT []) ∧ H2 b = some (.tup (ks.map kV)) ∧ Q (.ref p) (upd H2 p (.dT [(ks, y)]))) →
        tk σ H0 fun x H1 => tv σ H1 fun y H2 => ∃ (x' y' : V) (b : Addr) (ks : List Key), [(x, y)] = [(x', y')] ∧ x' = .ref b ∧ H2 p = some (.dT []) ∧ H2 b = some (.tup (ks.map kV)) ∧ Q (.ref p) (upd H2 p (.dT [(ks, y')])) := by
      intro tk tv σ H0 p Q h
      have e : (fun x H1 => tv σ H1 fun y H2 => ∃ (b : Addr) (ks : List Key), x = .ref b ∧ H2 p = some (.dT []) ∧ H2 b = some (.tup (ks.map kV)) ∧ Q (.ref p) (upd H2 p (.dT [(ks, y)]))) = (fun x H1 => tv σ H1 fun y H2 => ∃ (x' y' : V) (b : Addr) (ks : List Key), [(x, y)] = [(x', y')] ∧ x' = .ref b ∧ H2 p = some (.dT []) ∧ H2 b = some (.tup (ks.map kV)) ∧ Q (.ref p) (upd H2 p (.dT [(ks, y')]))) := by
        funext x H1
        congr 1
        funext y H2
        refine propext ⟨fun ⟨b, ks, h1, h2, h3, h4⟩ => ⟨x, y, b, ks, rfl, h1, h2, h3, h4⟩, fun ⟨x', y', b, ks, h0, h1, h2, h3, h4⟩ => ?_⟩
        cases h0
        exact ⟨b, ks, h1, h2, h3, h4⟩
      rw [← e]
      exact h
    exact key tk tv σ _ _ Q (q _ hn)
end L2
namespace Pd
open PySem PySem.Spec PyProof.Rows L2
abbrev dD (kvs : List (List Int × PyData)) : PyData := .dict (encD kvs)
theorem int_inj : ∀ {a b : List Int}, a.map PyData.int = b.map PyData.int → a = b
  | [], [], _ => rfl
  | x :: a, y :: b, h => by
    simp only [List.map_cons, List.cons.injEq, PyData.int.injEq] at h
    rw [h.1, int_inj h.2]
  | [], _ :: _, h => by simp at h
  | _ :: _, [], h => by simp at h
theorem encD_inj : ∀ {a b : List (List Int × PyData)}, encD a = encD b → a = b
  | [], [], _ => rfl
  | (k, d) :: a, (l, e) :: b, h => by
    unfold encD at h
    simp only [List.map_cons, List.cons.injEq, Prod.mk.injEq, PyData.tuple.injEq] at h
    rw [int_inj h.1.1, h.1.2, encD_inj h.2]
  | [], _ :: _, h => by simp [encD] at h
  | _ :: _, [], h => by simp [encD] at h
theorem Is.dict {O : Addr → Prop} {H : Hp} {v : V} {kvs : List (List Int × PyData)} (h : Is O H v (dD kvs)) : ∃ p od ws, v = .ref p ∧ ¬ O p ∧ H p = some (.frz od (.dT ws)) ∧ IsKvs O H ws kvs := by
  cases h with
  | dct kvs' n e h1 h2 r =>
    have := encD_inj h1
    subst this
    exact ⟨_, _, _, rfl, n, e, h2, r⟩
def getK (kvs : List (List Int × PyData)) (k : List Int) : Option PyData := (kvs.find? fun p => decide (p.1 = k)).map (·.2)
def putD (kvs : List (List Int × PyData)) (k : List Int) (d : PyData) : List (List Int × PyData) :=
  if (kvs.any fun p => decide (p.1 = k)) = true then kvs.map (fun p => if p.1 = k then (p.1, d) else p) else kvs ++ [(k, d)]
abbrev kI (k : List Int) : List Key := k.map Sum.inl
theorem kI_inj : ∀ {a b : List Int}, kI a = kI b → a = b
  | [], [], _ => rfl
  | x :: a, y :: b, h => by
    simp only [kI, List.map_cons, List.cons.injEq, Sum.inl.injEq] at h
    rw [h.1, kI_inj h.2]
  | [], _ :: _, h => by simp [kI] at h
  | _ :: _, [], h => by simp [kI] at h
theorem kI_kV (k : List Int) : (kI k).map kV = k.map V.int := by unfold kI; rw [List.map_map]; rfl
theorem IsKvs.nil {O : Addr → Prop} {H : Hp} : IsKvs O H [] [] := ⟨rfl, .nil⟩
theorem IsKvs.cons {O : Addr → Prop} {H : Hp} {ws : List (List Key × V)} {kvs : List (List Int × PyData)} {k : List Int} {v : V} {d : PyData} (hv : Is O H v d) (h : IsKvs O H ws kvs) : IsKvs O H ((kI k, v) :: ws) ((k, d) :: kvs) :=
  ⟨by simp only [List.map_cons]; rw [h.1], .cons hv h.2⟩
theorem IsKvs.un {O : Addr → Prop} {H : Hp} {w : List Key × V} {ws : List (List Key × V)} {p : List Int × PyData} {kvs : List (List Int × PyData)} (h : IsKvs O H (w :: ws) (p :: kvs)) : w.1 = kI p.1 ∧ Is O H w.2 p.2 ∧ IsKvs O H ws kvs := by
  obtain ⟨h1, h2⟩ := h
  simp only [List.map_cons, List.cons.injEq] at h1
  cases h2 with
  | cons a b => exact ⟨h1.1, a, h1.2, b⟩
theorem IsKvs.len {O : Addr → Prop} {H : Hp} {ws : List (List Key × V)} {kvs : List (List Int × PyData)} (h : IsKvs O H ws kvs) : ws.length = kvs.length := by
  have := congrArg List.length h.1
  simpa using this
theorem IsKvs.ex {O : Addr → Prop} {H H' : Hp} {ws : List (List Key × V)} {kvs : List (List Int × PyData)} (h : IsKvs O H ws kvs) (e : Ex O H H') : IsKvs O H' ws kvs := ⟨h.1, h.2.ex e⟩
theorem IsKvs.get {O : Addr → Prop} {H : Hp} (k : List Int) : ∀ {ws : List (List Key × V)} {kvs : List (List Int × PyData)}, IsKvs O H ws kvs → (valV ws (kI k) = none ∧ getK kvs k = none) ∨ ∃ v d, valV ws (kI k) = some v ∧ getK kvs k = some d ∧ Is O H v d
  | [], [], _ => .inl ⟨rfl, rfl⟩
  | [], _ :: _, h => by have := h.len; simp at this
  | _ :: _, [], h => by have := h.len; simp at this
  | w :: ws, p :: kvs, h => by
    obtain ⟨h1, h2, h3⟩ := h.un
    by_cases e : p.1 = k
    · refine .inr ⟨w.2, p.2, valV_pos (by rw [h1, e]), ?_, h2⟩
      unfold getK
      rw [List.find?_cons_of_pos (by simpa using e)]
      rfl
    · have e2 : ¬ w.1 = kI k := fun z => e (kI_inj (h1.symm.trans z))
      have e3 : getK (p :: kvs) k = getK kvs k := by
        unfold getK
        rw [List.find?_cons_of_neg (by simpa using e)]
      rw [valV_neg e2, e3]
      exact IsKvs.get k h3
theorem IsKvs.any {O : Addr → Prop} {H : Hp} (k : List Int) : ∀ {ws : List (List Key × V)} {kvs : List (List Int × PyData)}, IsKvs O H ws kvs → (ws.any fun w => decide (w.1 = kI k)) = kvs.any fun p => decide (p.1 = k)
  | [], [], _ => rfl
  | [], _ :: _, h => by have := h.len; simp at this
  | _ :: _, [], h => by have := h.len; simp at this
  | w :: ws, p :: kvs, h => by
    obtain ⟨h1, h2, h3⟩ := h.un
    rw [List.any_cons, List.any_cons, IsKvs.any k h3]
    congr 1
    by_cases e : p.1 = k
    · rw [decide_eq_true e, decide_eq_true (by rw [h1, e])]
    · rw [decide_eq_false e, decide_eq_false (fun z => e (kI_inj (h1.symm.trans z)))]
theorem IsKvs.repl {O : Addr → Prop} {H : Hp} (k : List Int) {v : V} {d : PyData} (hv : Is O H v d) : ∀ {ws : List (List Key × V)} {kvs : List (List Int × PyData)}, IsKvs O H ws kvs → IsKvs O H (ws.map fun w => if w.1 = kI k then (w.1, v) else w) (kvs.map fun p => if p.1 = k then (p.1, d) else p)
  | [], [], _ => .nil
  | [], _ :: _, h => by have := h.len; simp at this
  | _ :: _, [], h => by have := h.len; simp at this
  | w :: ws, p :: kvs, h => by
    obtain ⟨h1, h2, h3⟩ := h.un
    have ih := IsKvs.repl k hv h3
    rw [List.map_cons, List.map_cons]
    obtain ⟨w1, w2⟩ := w
    obtain ⟨p1, p2⟩ := p
    have h1 : w1 = kI p1 := h1
    subst h1
    by_cases e : p1 = k
    · rw [if_pos (show (p1, p2).1 = k from e), if_pos (show ((kI p1, w2) : List Key × V).1 = kI k by show kI p1 = kI k; rw [e])]
      exact .cons hv ih
    · rw [if_neg (show ¬ (p1, p2).1 = k from e), if_neg (show ¬ ((kI p1, w2) : List Key × V).1 = kI k from fun z => e (kI_inj z))]
      exact .cons h2 ih
theorem IsKvs.app {O : Addr → Prop} {H : Hp} : ∀ {ws us : List (List Key × V)} {kvs lvs : List (List Int × PyData)}, IsKvs O H ws kvs → IsKvs O H us lvs → IsKvs O H (ws ++ us) (kvs ++ lvs) := fun h1 h2 =>
  ⟨by rw [List.map_append, List.map_append, h1.1, h2.1], by rw [List.map_append, List.map_append]; exact h1.2.append h2.2⟩
theorem IsKvs.put {O : Addr → Prop} {H : Hp} {ws : List (List Key × V)} {kvs : List (List Int × PyData)} (h : IsKvs O H ws kvs) (k : List Int) {v : V} {d : PyData} (hv : Is O H v d) : IsKvs O H (putK ws (kI k) v) (putD kvs k d) := by
  unfold putK putD
  rw [h.any k]
  split
  · exact h.repl k hv
  · exact h.app (.cons hv .nil)
theorem Is.key {O : Addr → Prop} {H : Hp} {v : V} {k : List Int} (h : Is O H v (tI k)) : ∃ b, v = .ref b ∧ H b = some (.tup ((kI k).map kV)) := by
  obtain ⟨p, xs, rfl, _, e, r⟩ := h.tuple
  exact ⟨p, rfl, by rw [kI_kV, ← r.ints]; exact e⟩
/-! ### reading a dict -/
def tXD (ρ : List Sl) (kvs : List (List Int × PyData)) : TE := fun σ H Q => ∃ W O, Gd W O σ H ρ ∧ ∀ p H', Gd W O σ H' ρ → ExD σ ρ H H' → (∀ H2, Gd W O σ H2 ρ → ExD σ ρ H' H2 → ∃ ws, Rd H2 p (.dT ws) ∧ IsKvs O H2 ws kvs) → Q (.ref p) H'
abbrev XD (X : Cx) (e : Expr) (ρ : List Sl) (kvs : List (List Int × PyData)) : Prop := PE X e (tXD ρ kvs)
section
variable {X : Cx} {ρ : List Sl} {φ ψ χ : PyData → Prop} {a b c e : Expr} {es : List Expr} {pos : Pos} {d : PyData} {kvs : List (List Int × PyData)} {k : List Int} {st : Stmt} {rest : List Stmt} {nx nx' mid : List Sl → Prop} {rt : PyData → Prop}
theorem xd_val (h : XV X e ρ (dD kvs)) : XD X e ρ kvs := PE.imp h fun σ H Q ⟨W, O, g, q⟩ => ⟨W, O, g, fun d v H' hd g' e' i' => by
  subst hd
  have i0 := i'
  obtain ⟨p, od, ws, rfl, n, ep, iv⟩ := i'.dict
  refine q p H' g' e' fun H2 g2 e2 => ?_
  obtain ⟨p2, od2, ws2, ep2, n2, e3, iv2⟩ := (i0.exd g' e2).dict
  cases ep2
  exact ⟨ws2, .inr ⟨od2, e3⟩, iv2⟩⟩
theorem xd_own (i : Nat) {y : Str} (h : ρ[i]? = some (.dct kvs) := by rfl) (hN : X.N[i]? = some y := by rfl) (hv : Vis X.env.scope y := by first | exact Or.inl rfl | exact Or.inr (Or.inl rfl) | exact Or.inr (Or.inr rfl)) (hyb : (y == ("__debug__" : Str)) = false := by decide) (hyc : (y == ("__classdict__" : Str)) = false := by decide) : XD X (.Name y pos) ρ kvs :=
  PE.imp (pe_var hN hv hyb hyc) fun σ H Q ⟨W, O, g, q⟩ => by
    obtain ⟨x, hx, p, ws, e1, e2, e3, e4, e5, e6⟩ := g.at h
    subst e1
    refine ⟨.ref p, hx, q p H g (ExD.refl σ ρ H) fun H2 g2 _ => ?_⟩
    obtain ⟨p', ws', e1', _, _, _, e5', e6'⟩ := g2.sl i _ _ hx h
    cases e1'
    exact ⟨ws', .inl e5', e6'⟩
theorem dget {O : Addr → Prop} {H : Hp} {p : Addr} {y : V} {ws : List (List Key × V)} (hr : Rd H p (.dT ws)) (hk : Is O H y (tI k)) : DGet H p y (valV ws (kI k)) := by
  obtain ⟨b, rfl, hb⟩ := hk.key
  exact .inr ⟨ws, kI k, b, hr, rfl, hb, rfl⟩
/-- k in d -/
theorem tx_inD (hu : X.A.units + 1 < cLine) (ha : XV X a ρ (tI k)) (hb : XD X b ρ kvs) (hm : behindInMarks .In b = false := by rfl) : TV X (.Compare a [.In] [b] pos) ρ (getK kvs k).isSome :=
  PT.imp (pt_cmp (pc_din hu ha hb) hm) fun σ H Q ⟨W, O, g, q⟩ => ⟨W, O, g, fun d v H1 hd g1 e1 i1 => by
    subst hd
    refine ⟨W, O, g1, fun p H2 g2 e2 hp => ?_⟩
    obtain ⟨ws, hr, iv⟩ := hp H2 g2 (ExD.refl σ ρ H2)
    refine ⟨p, _, rfl, dget hr (i1.exd g1 e2), ?_⟩
    rcases iv.get k with ⟨h1, h2⟩ | ⟨v', d', h1, h2, _⟩
    · rw [h1]; exact ⟨false, rfl, q _ H2 (by rw [h2]; rfl) g2 (e1.trans e2)⟩
    · rw [h1]; exact ⟨true, rfl, q _ H2 (by rw [h2]; rfl) g2 (e1.trans e2)⟩⟩
theorem x_inD (hu : X.A.units + 1 < cLine) (ha : XV X a ρ (tI k)) (hb : XD X b ρ kvs) (hm : behindInMarks .In b = false := by rfl) : XV X (.Compare a [.In] [b] pos) ρ (.bool (getK kvs k).isSome) :=
  PE.imp (pe_cmp (pc_din hu ha hb) hm) fun σ H Q ⟨W, O, g, q⟩ => ⟨W, O, g, fun d v H1 hd g1 e1 i1 => by
    subst hd
    refine ⟨W, O, g1, fun p H2 g2 e2 hp => ?_⟩
    obtain ⟨ws, hr, iv⟩ := hp H2 g2 (ExD.refl σ ρ H2)
    refine ⟨p, _, rfl, dget hr (i1.exd g1 e2), ?_⟩
    rcases iv.get k with ⟨h1, h2⟩ | ⟨v', d', h1, h2, _⟩
    · rw [h1]; exact q _ _ H2 (by rw [h2]; rfl) g2 (e1.trans e2) (.bl _)
    · rw [h1]; exact q _ _ H2 (by rw [h2]; rfl) g2 (e1.trans e2) (.bl _)⟩
theorem tx_notInD (hu : X.A.units + 1 < cLine) (ha : XV X a ρ (tI k)) (hb : XD X b ρ kvs) (hm : behindInMarks .NotIn b = false := by rfl) : TV X (.Compare a [.NotIn] [b] pos) ρ (!(getK kvs k).isSome) :=
  PT.imp (pt_cmp (pc_dnotin hu ha hb) hm) fun σ H Q ⟨W, O, g, q⟩ => ⟨W, O, g, fun d v H1 hd g1 e1 i1 => by
    subst hd
    refine ⟨W, O, g1, fun p H2 g2 e2 hp => ?_⟩
    obtain ⟨ws, hr, iv⟩ := hp H2 g2 (ExD.refl σ ρ H2)
    refine ⟨p, _, rfl, dget hr (i1.exd g1 e2), ?_⟩
    rcases iv.get k with ⟨h1, h2⟩ | ⟨v', d', h1, h2, _⟩
    · rw [h1]; exact ⟨true, rfl, q _ H2 (by rw [h2]; rfl) g2 (e1.trans e2)⟩
    · rw [h1]; exact ⟨false, rfl, q _ H2 (by rw [h2]; rfl) g2 (e1.trans e2)⟩⟩
/-- d[k] -/
theorem x_getD {z : PyData} (hu : X.A.units + 1 < cLine) (ha : XD X a ρ kvs) (hb : XV X b ρ (tI k)) (hz : getK kvs k = some z) (hs : NoSl b := by exact fun _ _ => rfl) : XV X (.Subscript a b pos) ρ z :=
  PE.imp (pe_dget hu ha hb hs) fun σ H Q ⟨W, O, g, q⟩ => ⟨W, O, g, fun p H1 g1 e1 hp => ⟨W, O, g1, fun d v H2 hd g2 e2 i2 => by
    subst hd
    obtain ⟨ws, hr, iv⟩ := hp H2 g2 e2
    rcases iv.get k with ⟨h1, h2⟩ | ⟨v', d', h1, h2, i3⟩
    · rw [h2] at hz; cases hz
    · rw [h2] at hz
      cases hz
      exact ⟨p, v', rfl, by rw [← h1]; exact dget hr i2, q _ v' H2 rfl g2 (e1.trans e2) i3⟩⟩⟩
/-- d.get(k, x) -/
theorem x_get2D {o f : Expr} {apos cpos : Pos} (hu : X.A.units + 1 < cLine) (ha : XD X o ρ kvs) (hb : XV X e ρ (tI k)) (hf : XV X f ρ d) (m : M2 X o "get" apos e f cpos := by exact ⟨rfl, rfl, rfl, rfl⟩) : XV X (.Call (.Attribute o "get" apos) [e, f] [] cpos) ρ ((getK kvs k).getD d) :=
  PE.imp (pe_dget2 hu ha hb hf m) fun σ H Q ⟨W, O, g, q⟩ => ⟨W, O, g, fun p H1 g1 e1 hp => by
    obtain ⟨ws, hr, iv⟩ := hp H1 g1 (ExD.refl σ ρ H1)
    refine ⟨p, rfl, .inr ⟨ws, hr⟩, W, O, g1, fun d1 v H2 hd g2 e2 i2 => ⟨W, O, g2, fun d2 v2 H3 hd2 g3 e3 i3 => ?_⟩⟩
    subst hd hd2
    obtain ⟨ws, hr, iv⟩ := hp H3 g3 (e2.trans e3)
    refine ⟨_, dget hr (i2.exd g2 e3), ?_⟩
    rcases iv.get k with ⟨h1, h2⟩ | ⟨v', d', h1, h2, i4⟩
    · rw [h1]; exact q _ v2 H3 (by rw [h2]; rfl) g3 ((e1.trans e2).trans e3) i3
    · rw [h1]; exact q _ v' H3 (by rw [h2]; rfl) g3 ((e1.trans e2).trans e3) i4⟩
/-- {} -/
theorem bl_new {W : Fm} {O : Addr → Prop} {σ : L2.St} {H H1 : Hp} (g1 : Gd W O σ H1 ρ) (e1 : ExD σ ρ H H1) {p : Addr} (hp : H1 p = none) : bl H p := fun o q m => by
  by_cases hd : Dx σ ρ p
  · exact g1.al.fresh hp (g1.dxO hd)
  · rw [e1 p o hd m q] at hp; cases hp
theorem s_dnew : SV X (.Dict [] [] pos) ρ (.dct []) := PE.imp pe_dnewT fun σ H Q ⟨W, O, g, k⟩ => fun p hp => by
  obtain ⟨g2, mu, hoc⟩ := g.own (o := .dT []) hp nw_dT
  exact k _ (.ref p) _ _ rfl g2 (fun _ h => .inl h) (fun a h => h.imp id fun z => by rw [z]; exact bl_none hp) (Ext.new hp).exd ⟨p, [], rfl, .inr rfl, hoc, mu, upd_same, .nil⟩ (fun _ => ⟨p, rfl, bl_none hp⟩)
/-- {k: v} -/
theorem s_disp1 (hu : X.A.units < cLine) (ha : XV X a ρ (tI k)) (hb : XV X b ρ d) : SV X (.Dict [some a] [b] pos) ρ (.dct [(k, d)]) := PE.imp (pe_disp1 hu ha hb) fun σ H Q ⟨W, O, g, q⟩ => fun p hp => by
  obtain ⟨g1, mu, hoc⟩ := g.own (o := .dT []) hp nw_dT
  refine ⟨W, _, g1, fun d1 x H1 hd1 g2 e1 i1 => ⟨W, _, g2, fun d2 y H2 hd2 g3 e2 i2 => ?_⟩⟩
  subst hd1 hd2
  have ndx : ¬ Dx σ ρ p := fun z => g.al.fresh hp (g.dxO z)
  have hp2 : H2 p = some (.dT []) := e2 p _ ndx nt_dT (e1 p _ ndx nt_dT upd_same)
  obtain ⟨kb, rfl, hkb⟩ := (i1.exd g2 e2).key
  refine ⟨kb, kI k, rfl, hp2, hkb, ?_⟩
  have ne : ∀ a o, H a = some o → a ≠ p := fun a o h => ne_of_none h hp
  have ed : ExD σ ρ H (upd H2 p (.dT [(kI k, y)])) := fun a o n m h => by
    rw [upd_ne (ne a o h)]
    exact e2 a o n m (e1 a o n m (by rw [upd_ne (ne a o h)]; exact h))
  have g4 := g.own2 hp ed (fun a o h1 h2 => by rw [upd_ne (ne a o (g.ext a o h1 h2))]; exact g3.ext a o h1 h2) (tabs_upd g3.tb ⟨_, hp2, .inr (.inl ⟨_, rfl⟩)⟩) (fun j q' h1 h2 => by
    obtain ⟨c, k', h⟩ := g3.dices j q' h1 h2
    exact ⟨c, k', by rw [upd_ne (fun z => by rw [z, hp2] at h; cases h)]; exact h⟩) ⟨_, upd_same, nw_dT⟩
  have ex : Ex (fun a => O a ∨ a = p) H2 (upd H2 p (.dT [(kI k, y)])) := fun a u n _ h => by rw [upd_ne (fun z => n (.inr z))]; exact h
  exact q _ (.ref p) _ _ rfl g4 (fun _ h => .inl h) (fun a h => h.imp id fun z => by rw [z]; exact bl_none hp) ed ⟨p, _, rfl, .inr rfl, hoc, mu, upd_same, .cons (i2.ex ex) .nil⟩ (fun _ => ⟨p, rfl, bl_none hp⟩)
/-- y[k] = e, y an owned dict -/
theorem s_put {y : Str} {p1 p2 : Pos} (i : Nat) (hu : X.A.units + 1 < cLine) (he : XV X e ρ d) (hk : XV X b ρ (tI k)) (kk : SXs X rest (ρ.set i (.dct (putD kvs k d))) nx rt) (hl : kvs.length < 100000) (hi : ρ[i]? = some (.dct kvs) := by rfl)
    (hN : X.N[i]? = some y := by rfl) (hv : Vis X.env.scope y := by first | exact Or.inl rfl | exact Or.inr (Or.inl rfl) | exact Or.inr (Or.inr rfl)) (hyb : (y == ("__debug__" : Str)) = false := by decide) (hyc : (y == ("__classdict__" : Str)) = false := by decide)
    (hs : swapsWith e (some (.Subscript (.Name y p1) b p2)) pos.line X.env = pure false := by rfl) :
    SXs X (.Assign [.Subscript (.Name y p1) b p2] e pos :: rest) ρ nx rt :=
  s_seq (mid := fun ρ' => ρ' = ρ.set i (.dct (putD kvs k d))) (PS.imp (ps_dput hu (pe_var hN hv hyb hyc) hk he hs) fun D σ H ⟨W, O, g, k1, k2⟩ => by
    refine ⟨W, O, g, fun d' v H' hd g' ed i' => ?_⟩
    subst hd
    obtain ⟨x, hx, p, ws, e1, e2, e3, e4, e5, e6⟩ := g'.at hi
    subst e1
    refine ⟨.ref p, hx, W, O, g', fun z w H2 hz g2 ed2 i2 => ?_⟩
    subst hz
    obtain ⟨p', ws', e1', _, _, e4', e5', e6'⟩ := g2.sl i _ _ hx hi
    cases e1'
    obtain ⟨kb, rfl, hkb⟩ := i2.key
    refine ⟨p, _, rfl, DPut.t e5' hkb (by have := e6'.len; rw [sizeLine_eq]; omega), ?_⟩
    refine k1 _ O σ _ rfl (g2.wrOwn hi rfl (fun z => nomatch z) hx ?_ (fun z => nomatch z) e4' nw_dT)
    have ex : Ex O H2 (upd H2 p (.dT (putK ws' (kI k) v))) := fun a u n _ h => by rw [upd_ne (fun z => n (by rw [z]; exact e2))]; exact h
    exact ⟨p, _, rfl, e2, e3, e4', upd_same, ((e6'.put k (i'.exd g' ed2)).ex ex)⟩) fun ρ' e => by rw [e]; exact kk
/-- an owned thing that no slot holds any more is a value -/
theorem Gd.disown {W : Fm} {O : Addr → Prop} {σ : L2.St} {H : Hp} {i : Nat} {p : Addr} {d : PyData} (g : Gd W O σ H ρ) (hi : ρ[i]? = some (.raw (.ref p))) (hno : ∀ (j : Nat) (t : Sl), σ[j]? = some (some (.ref p)) → ρ[j]? = some t → t.mut = true → False) (hoc : ¬ W.Oc p) (hd : Is (fun a => O a ∧ a ≠ p) H (.ref p) d) : Gd W (fun a => O a ∧ a ≠ p) σ H (ρ.set i (.val d)) := by
  obtain ⟨x, hx, e1⟩ := g.at hi
  subst e1
  have im : ∀ a o, ¬ O a → nt o → H a = some o → ¬ (O a ∧ a ≠ p) ∧ H a = some o := fun a o h1 _ h2 => ⟨fun z => h1 z.1, h2⟩
  refine ⟨by rw [List.length_set]; exact g.len, fun j x s h1 h2 => ?_, fun j l q s t hjl h1 h2 h3 h4 h5 h6 => ?_, fun a ha => g.al a ha.1, fun a h => ⟨g.sup a h, fun z => hoc (z ▸ h)⟩, g.ext, fun a ha => ?_, g.kp, fun a h => g.nw a h.1, g.tb⟩
  · by_cases hij : i = j
    · subst hij
      rw [hx] at h1; cases h1
      rw [List.getElem?_set_self (by rw [← g.len]; exact (List.getElem?_eq_some_iff.mp hx).1)] at h2
      cases h2
      exact ⟨_, rfl, hd⟩
    · rw [List.getElem?_set_ne hij] at h2
      have old := g.sl j x s h1 h2
      cases s with
      | no => trivial
      | raw v => exact old
      | tab T => exact old
      | val d => obtain ⟨v, f1, f2⟩ := old; exact ⟨v, f1, Is.imp im _ _ f2⟩
      | fz u => obtain ⟨q, e1, e2, e3, e4⟩ := old; exact ⟨q, e1, (im q (u q) e2 e4 e3).1, (im q (u q) e2 e4 e3).2, e4⟩
      | own es =>
        obtain ⟨q, ys, f1, f2, f3, f4, f5, f6⟩ := old
        subst f1
        exact ⟨q, ys, rfl, ⟨f2, fun z => hno j _ (z ▸ h1) h2 rfl⟩, f3, f4, f5, IsAll.imp im _ _ f6⟩
      | xl es =>
        obtain ⟨q, ys, f1, f2, f3, f4, f5, f6⟩ := old
        subst f1
        exact ⟨q, ys, rfl, ⟨f2, fun z => hno j _ (z ▸ h1) h2 rfl⟩, f3, f4, f5, XAll.imp im f6⟩
      | gn G gm gc =>
        obtain ⟨q, ys, f1, f2, f3, f4, f5, f6⟩ := old
        subst f1
        exact ⟨q, ys, rfl, ⟨f2, fun z => hno j _ (z ▸ h1) h2 rfl⟩, f3, f4, f5, G.st im f6⟩
      | dice =>
        obtain ⟨q, c1, k1, f1, f2, f3, f4⟩ := old
        subst f1
        exact ⟨q, c1, k1, rfl, ⟨f2, fun z => hno j _ (z ▸ h1) h2 rfl⟩, f3, f4⟩
      | dct kvs =>
        obtain ⟨q, ws, f1, f2, f3, f4, f5, f6, f7⟩ := old
        subst f1
        exact ⟨q, ws, rfl, ⟨f2, fun z => hno j _ (z ▸ h1) h2 rfl⟩, f3, f4, f5, f6, IsAll.imp im _ _ f7⟩
  · have other : ∀ (l : Nat) (t : Sl), (ρ.set i (.val d))[l]? = some t → t.mut = true → ρ[l]? = some t := fun l t h h' => by
      by_cases hil : i = l
      · subst hil
        rw [List.getElem?_set_self (by rw [← g.len]; exact (List.getElem?_eq_some_iff.mp hx).1)] at h
        cases h; cases h'
      · rwa [List.getElem?_set_ne hil] at h
    exact g.uq j l q s t hjl h1 h2 (other j s h3 h5) (other l t h4 h6) h5 h6
  · obtain ⟨j, h1, h2⟩ := g.dc a ha
    have hij : i ≠ j := fun z => by subst z; rw [hi] at h2; cases h2
    exact ⟨j, h1, by rw [List.getElem?_set_ne hij]; exact h2⟩
/-- an owned dict is from now on a value -/
theorem Gd.frzD {W : Fm} {O : Addr → Prop} {σ : L2.St} {H : Hp} {i : Nat} (g : Gd W O σ H ρ) (hi : ρ[i]? = some (.dct kvs)) : ∃ p ws, H p = some (.dT ws) ∧ ∀ od, ∃ O' : Addr → Prop, Gd W O' σ (upd H p (.frz od (.dT ws))) (ρ.set i (.val (dD kvs))) := by
  obtain ⟨x, hx, p, ws, e1, e2, e3, e4, e5, e6, e7⟩ := g.at hi
  subst e1
  refine ⟨p, ws, e5, fun od => ⟨fun a => O a ∧ a ≠ p, ?_⟩⟩
  have len : i < ρ.length := (List.getElem?_eq_some_iff.mp hi).1
  have g1 := g.wrOwn (s1 := .raw (.ref p)) (o := .frz od (.dT ws)) hi rfl (fun z => nomatch z) hx rfl (fun z => nomatch z) e4 nw_frz
  have g2 := g1.disown (i := i) (p := p) (d := dD kvs) (List.getElem?_set_self len) (fun j t h1 h2 h3 => ?_) e3 ?_
  · rw [List.set_set] at g2
    exact g2
  · by_cases hij : i = j
    · subst hij
      rw [List.getElem?_set_self len] at h2
      cases h2; cases h3
    · rw [List.getElem?_set_ne hij] at h2
      exact g.uq i j p _ _ hij hx h1 hi h2 rfl h3
  · refine .dct kvs (fun z => z.2 rfl) upd_same rfl e6 ?_
    refine IsAll.imp (fun a o h1 _ h2 => ⟨fun z => h1 z.1, ?_⟩) _ _ e7
    rw [upd_ne (fun z => h1 (by rw [z]; exact e2))]
    exact h2
theorem s_frzD {ts : List Stmt} (i : Nat) (h : SXs X ts (ρ.set i (.val (dD kvs))) nx rt) (hi : ρ[i]? = some (.dct kvs) := by rfl) : SXs X ts ρ nx rt := ⟨fun pins s σ H D I ⟨W, O, g, k1, k2⟩ => by
  obtain ⟨p, ws, hp, hg⟩ := g.frzD hi
  obtain ⟨od, I1⟩ := I.lock hp trivial
  obtain ⟨O', g'⟩ := hg od
  exact h.run pins s σ _ D I1 ⟨W, O', g', k1, k2⟩⟩
/-- list(d) -/
theorem rc_listD : RCV (fun xs H Q => ∃ d kvs, xs = [V.ref d] ∧ Rd H d (.dT kvs) ∧ ∀ p bs, H p = none → IsKeys H kvs bs → Q (.ref p) (upd H p (.lst (bs.map V.ref)))) [dD kvs] (.list (kvs.map fun p => tI p.1)) := fun O H vs al h Q q => by
  obtain ⟨v, rfl, hv⟩ := h.one
  obtain ⟨p, od, ws, rfl, n, e, iv⟩ := hv.dict
  refine ⟨p, ws, rfl, .inr ⟨od, e⟩, fun l bs hl hb => q _ _ _ rfl (Ext.new hl) (Is.newL al hl ?_)⟩
  have key : ∀ {ws : List (List Key × V)} {kvs : List (List Int × PyData)} {bs : List Addr}, ws.map (·.1) = kvs.map (fun k => k.1.map Sum.inl) → IsKeys H ws bs → IsAll O H (bs.map V.ref) (kvs.map fun p => tI p.1) := by
    intro ws kvs bs hk hb
    unfold IsKeys at hb
    induction hb generalizing kvs with
    | nil =>
      cases kvs with
      | nil => exact .nil
      | cons => simp at hk
    | @cons w b ws bs h t ih =>
      cases kvs with
      | nil => simp at hk
      | cons p kvs =>
        simp only [List.map_cons, List.cons.injEq] at hk
        refine .cons (.tup (al.notup h) h ?_) (ih hk.2)
        rw [hk.1, kI_kV]
        exact isAll_ints
  exact key iv.1 hb
/-- for x in d -/
theorem i_keysD {tg : Expr} (h : XV X e ρ (dD kvs)) : IX X tg e ρ (kvs.map fun p => tI p.1) := PI.imp (pi_keys h) fun σ H R ⟨W, O, g, k⟩ => ⟨W, O, g, fun d v H' hd g' e' i' => by
  subst hd
  obtain ⟨p, od, ws, rfl, n, ep, iv⟩ := i'.dict
  refine ⟨p, od, rfl, .inr ⟨ws, ep, k _ H' g' e' ?_⟩⟩
  have w := walk_keysT (d := p) (o := od) (kvs := ws)
  have hl : (kvs.map fun p => tI p.1).length = ws.length := by rw [List.length_map, iv.len]
  rw [hl]
  refine w.mono (fun H1 ex => ex p _ n nt_frz ep) fun i H1 x H2 hi ex ⟨eH, k', v', q, h1, h2, h3⟩ => ?_
  subst eH h2
  have hk : (ws.map (·.1))[i]? = some k' := by rw [List.getElem?_map, h1]; rfl
  rw [iv.1, List.getElem?_map] at hk
  cases hq : kvs[i]? with
  | none => rw [hq] at hk; cases hk
  | some pr =>
    rw [hq] at hk
    have hk : kI pr.1 = k' := Option.some.inj hk
    subst hk
    rw [kI_kV] at h3
    exact ⟨Ext.refl _, tI pr.1, by rw [List.getElem?_map, hq]; rfl, fun O' al' _ => .tup (al'.notup h3) h3 isAll_ints⟩⟩
end
end Pd
namespace Pd
open PySem PySem.Spec PyProof.Rows L2
section
variable {X : Cx} {ρ : List Sl} {pos p0 : Pos} {kvs : List (List Int × PyData)}
/-- len(d), d an owned dict -/
theorem x_lenO {y : Str} {p1 : Pos} (i : Nat) (hm : X.mg "len" = none) (h : ρ[i]? = some (.dct kvs) := by rfl) (hN : X.N[i]? = some y := by rfl) (hv : Vis X.env.scope y := by first | exact Or.inl rfl | exact Or.inr (Or.inl rfl) | exact Or.inr (Or.inr rfl)) (hg : Gl X "len" := by rfl) (hyb : (y == ("__debug__" : Str)) = false := by decide) (hyc : (y == ("__classdict__" : Str)) = false := by decide)
    (hs : starEach [.Name y p1] X.env = (false, eval (.Name y p1) X.env) :: starEach [] X.env := by rfl) (hpl : (backTo pos (starEach [] X.env)).any (·.1) = false := by rfl) : XV X (.Call (.Name "len" p0) [.Name y p1] [] pos) ρ (.int (kvs.length : Nat)) :=
  PE.imp (pe_callB call_len_dT hg hm (by decide +kernel) (pa_cons (pe_var hN hv hyb hyc) pa_nil hs) (by decide) (by decide) hs hpl) fun σ H Q ⟨W, O, g, q⟩ => by
    obtain ⟨x, hx, p, ws, e1, e2, e3, e4, e5, e6⟩ := g.at h
    subst e1
    refine ⟨.ref p, hx, p, ws, rfl, e5, q _ _ H ?_ g (ExD.refl σ ρ H) (.int _)⟩
    rw [e6.len]
/-- x is None, of data -/
theorem x_isN {a : Expr} {j : Nat} {p1 : Pos} {d : PyData} (ha : XV X a ρ d) : XV X (.Compare a [.Is] [.Constant .none j p1] pos) ρ (.bool (match d with | .none => true | _ => false)) := x_cmp op_isN ha x_non (RD.now fun O H x y h1 h2 => by
  cases h2
  refine ⟨_, .bl _, fun Q q => ⟨rfl, ?_⟩⟩
  cases h1 <;> exact q)
theorem tx_isN {a : Expr} {j : Nat} {p1 : Pos} {d : PyData} (ha : XV X a ρ d) : TV X (.Compare a [.Is] [.Constant .none j p1] pos) ρ (match d with | .none => true | _ => false) := tx_cmp op_isN ha x_non (RD.now fun O H x y h1 h2 => by
  cases h2
  refine ⟨_, .bl _, fun Q q => ⟨rfl, ?_⟩⟩
  cases h1 <;> exact q)
theorem tx_notN {a : Expr} {j : Nat} {p1 : Pos} {d : PyData} (ha : XV X a ρ d) : TV X (.Compare a [.IsNot] [.Constant .none j p1] pos) ρ (!(match d with | .none => true | _ => false)) := tx_cmp op_notN ha x_non (RD.now fun O H x y h1 h2 => by
  cases h2
  refine ⟨_, .bl _, fun Q q => ⟨rfl, ?_⟩⟩
  cases h1 <;> exact q)
/-- the test, what is asked by a property -/
theorem tx_isNE {a : Expr} {j : Nat} {p1 : Pos} {φ : PyData → Prop} {b : Bool} (ha : XE X a ρ φ) (hb : ∀ d, φ d → (match d with | .none => true | _ => false) = b) : TV X (.Compare a [.Is] [.Constant .none j p1] pos) ρ b := TX_cmp op_isN ha x_non (fun d e hd he => by
  subst he
  have := hb d hd
  refine fun O H x y al h1 h2 Q q => ?_
  cases h2
  refine ⟨rfl, ?_⟩
  cases h1 <;> exact q _ _ H ⟨_, this, rfl⟩ (Ext.refl H) (.bl _)) (nomark _)
end
end Pd
set_option Elab.async false
set_option linter.all false
set_option maxRecDepth 100000
set_option maxHeartbeats 1000000
/-! sorted of tuples of ints, of any lengths, any number of them. -/
namespace SrtT
open PySem PySem.W PySem.Calls PyProof.Rows Builtin SrtO
/-- v is a tuple of these ints -/
def IsTI (h : Heap) (v : Value) (ns : List Int) : Prop := ∃ (a : Addr) (o : Obj) (items : Array Value) (n : Nat), v = .ref a ∧ h.get? a = some o ∧ o.cls = .type "tuple" ∧ o.data = .seq items n ∧ IntsAre items.toList ns
theorem IsTI.keeps {h h' : Heap} {v : Value} {ns : List Int} (x : IsTI h v ns) (k : ∀ b o, h.get? b = some o → o.cls = .type "tuple" → h'.get? b = some o) : IsTI h' v ns := by
  obtain ⟨a, o, items, n, e, g, c, d, i⟩ := x
  exact ⟨a, o, items, n, e, k _ _ g c, c, d, i⟩
section
variable {prog : Program} {w : World} {A : Around} {s : Shared}
theorem katlex (b fin : Bool) (Q : Bool → Shared → Prop) : ∀ (vs ws : List Value) (ns ms : List Int) (i : Nat), IntsAre vs ns → IntsAre ws ms → fin = decide (ns.length < ms.length) → Q (HT.lexLt ns ms) s → KatLex prog w A b fin Q (vs.zip ws) i s
  | _, _, _, _, i, .nil, .nil, hf, hq => by
    rw [List.zip_nil_left]
    exact kat_nil (by rw [hf]; exact hq)
  | _, _, _, _, i, .nil, .cons m u r, hf, hq => by
    rw [List.zip_nil_left]
    refine kat_nil ?_
    rw [hf, decide_eq_true (by simp)]
    exact hq
  | _, _, _, _, i, .cons n t r, .nil, hf, hq => by
    rw [List.zip_nil_right]
    refine kat_nil ?_
    rw [hf, decide_eq_false (by simp)]
    exact hq
  | _, _, _, _, i, .cons (ns := ns) n t r, .cons (ns := ms) m u r2, hf, hq => by
    rw [List.zip_cons_cons]
    refine kat_cons (SeqAt.EqAt.int_int n t m u prog w _ _ ?_)
    rw [HT.lexLt_cons] at hq
    refine kat_go (fun e1 => ?_) (fun e1 => ?_)
    · have ex : n = m := by simpa using e1
      rw [if_pos ex] at hq
      exact kat_yes (katlex b fin Q _ _ _ _ (i + 1) r r2 (by rw [hf]; simp) hq)
    · have ex : ¬ n = m := by simpa using e1
      rw [if_neg ex] at hq
      exact kat_no (TS.oneLt_ints _ hq)
theorem ti_cmp {vs : List Value} {k : Value → List Int} (hp : ∀ v ∈ vs, IsTI s.heap v (k v)) (b : Bool) : Cmp prog w A s (tuples' b) (fun p => p.1 ∈ vs) (lt2 fun v u => HT.lexLt (k v) (k u)) := by
  intro p q hm hm'
  obtain ⟨a, o, its, n, e, ho, hc, hd, hi⟩ := hp _ hm
  obtain ⟨a', o', its', n', e', ho', hc', hd', hi'⟩ := hp _ hm'
  show wpAny (model prog w) A (keyLt' (tuples' b) p.1 q.1) (fun r s' => s' = s ∧ r = HT.lexLt (k p.1) (k q.1)) (fun _ _ => False) s
  have l1 : its.size = (k p.1).length := by rw [← hi.length]; simp
  have l2 : its'.size = (k q.1).length := by rw [← hi'.length]; simp
  generalize k p.1 = x at hi l1 ⊢
  generalize k q.1 = y at hi' l2 ⊢
  rw [e, e']
  exact kat_lt ho hd ho' hd' (katlex b _ _ _ _ x y 0 hi hi' (by rw [l1, l2]) ⟨rfl, rfl⟩)
theorem ti_firsts {h : Heap} {k : Value → List Int} : ∀ {vs : List Value}, (∀ v ∈ vs, IsTI h v (k v) ∧ k v ≠ []) → ∃ fs : List Value, KatTups h vs fs ∧ fs.length = vs.length ∧ ∀ f ∈ fs, ∃ x t, f = Value.int x t
  | [], _ => ⟨[], KatTups.nil, rfl, fun _ hm => by simp at hm⟩
  | v :: vs, hp => by
    obtain ⟨fs, h1, h2, h3⟩ := ti_firsts (vs := vs) fun v' hm => hp v' (List.mem_cons_of_mem _ hm)
    obtain ⟨⟨a, o, its, n, e, ho, hc, hd, hi⟩, hne⟩ := hp v List.mem_cons_self
    subst e
    obtain ⟨y, ys, e⟩ : ∃ y ys, its.toList = y :: ys := by
      cases q : its.toList with
      | nil => rw [q] at hi; have l := hi.length; exact absurd (List.eq_nil_of_length_eq_zero l.symm) hne
      | cons y ys => exact ⟨y, ys, rfl⟩
    rw [e] at hi
    have hy : ∃ m t, y = Value.int m t := by
      cases hk : k (Value.ref a) with
      | nil => exact absurd hk hne
      | cons m ms =>
        rw [hk] at hi
        cases hi with
        | cons m t r => exact ⟨m, t, rfl⟩
    obtain ⟨m, t, rfl⟩ := hy
    refine ⟨.int m t :: fs, KatTups.cons ho hc hd ?_ h1, by rw [List.length_cons, List.length_cons, h2], fun f hm => ?_⟩
    · rw [← Array.getElem?_toList, e]; rfl
    · rcases List.mem_cons.mp hm with rfl | hm
      · exact ⟨m, t, rfl⟩
      · exact h3 f hm
theorem ti_sortable {a : Addr} {vs : List Value} {k : Value → List Int} (h0 : 0 < vs.length) (hp : ∀ v ∈ vs, IsTI s.heap v (k v) ∧ k v ≠ []) (ha : ∀ o, s.heap.get? a = some o → o.cls ≠ .type "tuple") : SortableO prog w A s a vs fun v u => HT.lexLt (k v) (k u) := by
  intro h' keep
  have hp' : ∀ v ∈ vs, IsTI h' v (k v) ∧ k v ≠ [] := fun v hm => ⟨(hp v hm).1.keeps fun b o e c => keep b o (fun z => by subst z; exact ha o e c) e, (hp v hm).2⟩
  obtain ⟨fs, h1, h2, h3⟩ := ti_firsts hp'
  refine ⟨tuples' true, fun Q E hq => ?_, ti_cmp (fun v hm => (hp' v hm).1) true⟩
  refine kat_kind (T := .type "int") h1 (by omega) (fun f hm => ?_) (by rfl) ?_
  · obtain ⟨x, t, rfl⟩ := h3 f hm
    exact Looks.now
  · have e : (Value.type "int" != Value.type "tuple") = true := by first | decide +kernel | rfl | decide
    rw [e]
    exact hq
variable {E : Value → Shared → Prop}
theorem sorted_ti {l : Addr} {vs : List Value} {k : Value → List Int} {Q : Value → Shared → Prop} (hl : s.heap.IsList l vs.toArray) (hz : vs.length ≤ sizeLine) (hp : 2 ≤ vs.length → ∀ v ∈ vs, IsTI s.heap v (k v) ∧ k v ≠ [])
    (h : ∀ (h' : Heap) (d : Addr) (out : List Value), Srtd (fun v u => HT.lexLt (k v) (k u)) out → Stb (fun v u => HT.lexLt (k v) (k u)) out vs → (∀ b o, s.heap.get? b = some o → h'.get? b = some o) → s.heap.objs.size ≤ d → (∃ n, h'.get? d = some (seqObj "list" out.toArray n)) → Q (.ref d) { s with heap := h' }) :
    wpAny (model prog w) A (call (.builtin "sorted") [.ref l]) Q E s := by
  refine sorted_ord (NtL.swo_lexL k) hl hz (fun h2 h₁ a ha kk => ?_) fun out hs hb => ?_
  · refine ti_sortable (s := { s with heap := h₁ }) (by omega) (fun v hm => ⟨(hp h2 v hm).1.keeps fun b o e _ => (kk b o e).2, (hp h2 v hm).2⟩) fun o e => ?_
    have e' : some o = some (seqObj "list" vs.toArray 0) := e.symm.trans ha
    cases e'
    intro c
    exact absurd (Value.type.inj c) (by decide)
  · exact h _ _ out hs hb (fun b o e => sortedAll_old e) (Nat.le_succ _) (sortedAll_at s.heap vs out.toArray)
end
end SrtT
namespace L2
open PySem PySem.Spec PyProof.Rows
/-- sorted(xs), xs a list of tuples of ints (k says which) -/
def rSortedL (K : PySem.W.Frag) : List V → Hp → VK → Prop := fun vs H Q => ∃ (a : Addr) (xs : List V) (k : V → List Int), vs = [V.ref a] ∧ SqL K H a xs ∧ (∀ x ∈ xs, ∃ t, x = V.ref t ∧ H t = some (.tup ((k x).map V.int))) ∧ (2 ≤ xs.length → ∀ x ∈ xs, k x ≠ []) ∧
  ∀ ys p, SrtO.Srtd (fun x y => HT.lexLt (k x) (k y)) ys → ys.Perm xs → H p = none → Q (.ref p) (upd H p (.lst ys))
theorem intsOfV : ∀ {ns : List Int} {us : List Value}, Vals (ns.map V.int) us → IntsAre us ns
  | [], us, r => by
    rw [List.map_nil] at r
    cases r
    exact .nil
  | n :: ns, us, r => by
    rw [List.map_cons] at r
    cases r with
    | cons h t =>
      obtain ⟨tk, rfl⟩ := h
      exact .cons n tk (intsOfV t)
theorem cr_sortedL {X : Cx} : CallR X (.builtin "sorted") (rSortedL X.K) := by
  intro pins s σ H vs us Q I r h
  obtain ⟨a, xs, k, rfl, hs, hx, hne, q⟩ := h
  obtain ⟨its, rv, hl, hz⟩ := I.list hs
  obtain ⟨u, rfl, ru⟩ := vals1 r
  obtain rfl : u = Value.ref a := ru
  obtain ⟨e1, e2⟩ := refs_back rv fun x m => by
    obtain ⟨t, e, _⟩ := hx x m
    exact ⟨t, e⟩
  refine SrtT.sorted_ti (k := fun u => k (backV u)) hl.isList (by rw [← rv.length]; exact hz) (fun h2 v hv => ?_) fun h' d out h1 h2 kp hd hn => ?_
  · obtain ⟨t, rfl⟩ := e2 v hv
    have hm : V.ref t ∈ xs := by rw [e1]; exact List.mem_map.mpr ⟨_, hv, rfl⟩
    obtain ⟨t', e, ht⟩ := hx _ hm
    cases e
    obtain ⟨_, its2, r2, o, ho, hc, n, hd⟩ := I.hok _ _ ht
    exact ⟨⟨t, o, its2.toArray, n, rfl, ho, hc, hd, intsOfV r2⟩, hne (by rw [rv.length]; exact h2) _ hm⟩
  · have h3 : ∀ u ∈ out, ∃ a, u = Value.ref a := fun u hu => e2 u (h2.perm.mem_iff.mp hu)
    obtain ⟨n, hn⟩ := hn
    have hb : (out.map backV).Perm xs := by rw [e1]; exact h2.perm.map backV
    refine ⟨.ref d, upd H d (.lst (out.map backV)), I.laid (t' := s.toks) kp hd ⟨?_, out, n, vals_back h3, hn⟩, rfl, q _ d (SrtO.srtd_map h1) hb (I.hok.fresh hd)⟩
    rw [hb.length_eq]
    exact hz
end L2
namespace Pd
open PySem PySem.Spec PyProof.Rows L2
/-! ### the order of rows -/
theorem lex_total : ∀ {a b : List Int}, HT.lexLt a b = false → HT.lexLt b a = false → a = b
  | [], [], _, _ => rfl
  | [], _ :: _, h, _ => by rw [HT.lexLt_nil_cons] at h; cases h
  | _ :: _, [], _, h => by rw [HT.lexLt_nil_cons] at h; cases h
  | x :: a, y :: b, h1, h2 => by
    rw [HT.lexLt_cons] at h1 h2
    by_cases e : x = y
    · subst e
      rw [if_pos rfl] at h1 h2
      rw [lex_total h1 h2]
    · rw [if_neg e] at h1
      rw [if_neg (Ne.symm e)] at h2
      have a1 := of_decide_eq_false h1
      have a2 := of_decide_eq_false h2
      omega
abbrev SrtL (L : List (List Int)) : Prop := L.Pairwise fun a b => HT.lexLt b a = false
def insT (x : List Int) : List (List Int) → List (List Int)
  | [] => [x]
  | y :: l => if HT.lexLt y x = true then y :: insT x l else x :: y :: l
def sortT : List (List Int) → List (List Int)
  | [] => []
  | x :: l => insT x (sortT l)
theorem insT_perm (x : List Int) : ∀ l, (insT x l).Perm (x :: l)
  | [] => .refl _
  | y :: l => by
    unfold insT
    split
    · exact ((insT_perm x l).cons y).trans (List.Perm.swap _ _ _)
    · exact .refl _
theorem sortT_perm : ∀ l, (sortT l).Perm l
  | [] => .refl _
  | x :: l => (insT_perm x (sortT l)).trans ((sortT_perm l).cons x)
theorem insT_srt (x : List Int) : ∀ l : List (List Int), SrtL l → SrtL (insT x l)
  | [], _ => List.pairwise_singleton _ _
  | y :: l, h => by
    obtain ⟨h1, h2⟩ := List.pairwise_cons.mp h
    unfold insT
    split
    · rename_i hy
      refine List.pairwise_cons.mpr ⟨fun z hz => ?_, insT_srt x l h2⟩
      rcases List.mem_cons.mp ((insT_perm x l).mem_iff.mp hz) with rfl | hz
      · exact NtL.lex_asym _ _ hy
      · exact h1 z hz
    · rename_i hy
      have hy : HT.lexLt y x = false := by simpa using hy
      refine List.pairwise_cons.mpr ⟨fun z hz => ?_, h⟩
      rcases List.mem_cons.mp hz with rfl | hz
      · exact hy
      · exact NtL.lex_tr _ _ _ hy (h1 z hz)
theorem sortT_srt : ∀ l, SrtL (sortT l)
  | [] => List.Pairwise.nil
  | x :: l => insT_srt x _ (sortT_srt l)
theorem srt_one : ∀ {a b : List (List Int)}, a.Perm b → SrtL a → SrtL b → a = b
  | [], b, h, _, _ => (List.Perm.eq_nil h.symm).symm
  | x :: a, [], h, _, _ => absurd h.length_eq (by simp)
  | x :: a, y :: b, h, ha, hb => by
    obtain ⟨ha1, ha2⟩ := List.pairwise_cons.mp ha
    obtain ⟨hb1, hb2⟩ := List.pairwise_cons.mp hb
    have e : x = y := by
      have m1 : x ∈ y :: b := h.mem_iff.mp List.mem_cons_self
      have m2 : y ∈ x :: a := h.mem_iff.mpr List.mem_cons_self
      rcases List.mem_cons.mp m1 with e | m1
      · exact e
      · rcases List.mem_cons.mp m2 with e | m2
        · exact e.symm
        · exact lex_total (hb1 x m1) (ha1 y m2)
    subst e
    rw [srt_one h.cons_inv ha2 hb2]
theorem sortT_eq {a b : List (List Int)} (h : a.Perm b) (hs : SrtL a) : sortT b = a := srt_one ((sortT_perm b).trans h.symm) (sortT_srt b) hs
def vI : V → Int
  | .int i => i
  | _ => 0
def kOf (H : Hp) (x : V) : List Int := match x with
  | .ref t => match H t with
    | some (.tup us) => us.map vI
    | _ => []
  | _ => []
theorem map_vI (ns : List Int) : (ns.map V.int).map vI = ns := by
  rw [List.map_map]
  exact (List.map_congr_left fun _ _ => rfl).trans (List.map_id ns)
theorem kOf_of {O : Addr → Prop} {H : Hp} {v : V} {ns : List Int} (h : Is O H v (tI ns)) : kOf H v = ns ∧ ∃ t, v = .ref t ∧ H t = some (.tup ((kOf H v).map V.int)) := by
  obtain ⟨p, xs, rfl, _, e, r⟩ := h.tuple
  have ex := r.ints
  subst ex
  have ek : kOf H (.ref p) = ns := by
    show (match H p with | some (.tup us) => us.map vI | _ => []) = ns
    rw [e]
    exact map_vI ns
  exact ⟨ek, p, rfl, by rw [ek]; exact e⟩
theorem IsAll.mem {O : Addr → Prop} {H : Hp} : ∀ {L : List (List Int)} {xs : List V}, IsAll O H xs (L.map tI) → ∀ x ∈ xs, Is O H x (tI (kOf H x)) ∧ kOf H x ∈ L
  | [], _, h, x, hx => by cases h; cases hx
  | a :: L, _, h, x, hx => by
    cases h with
    | cons h1 h2 =>
      rcases List.mem_cons.mp hx with rfl | hx
      · rw [(kOf_of h1).1]; exact ⟨h1, List.mem_cons_self⟩
      · obtain ⟨q1, q2⟩ := IsAll.mem h2 x hx
        exact ⟨q1, List.mem_cons_of_mem _ q2⟩
theorem IsAll.kmap {O : Addr → Prop} {H : Hp} : ∀ {L : List (List Int)} {xs : List V}, IsAll O H xs (L.map tI) → xs.map (kOf H) = L
  | [], _, h => by cases h; rfl
  | a :: L, _, h => by
    cases h with
    | cons h1 h2 => rw [List.map_cons, (kOf_of h1).1, IsAll.kmap h2]
theorem isAll_of {O : Addr → Prop} {H : Hp} : ∀ {ys : List V}, (∀ y ∈ ys, Is O H y (tI (kOf H y))) → IsAll O H ys ((ys.map (kOf H)).map tI)
  | [], _ => .nil
  | y :: ys, h => .cons (h y List.mem_cons_self) (isAll_of fun z hz => h z (List.mem_cons_of_mem _ hz))
/-- sorted(xs), rows -/
theorem rc_sortedT {K : PySem.W.Frag} {L : List (List Int)} (hne : 2 ≤ L.length → ∀ a ∈ L, a ≠ []) : RCV (rSortedL K) [.list (L.map tI)] (.list ((sortT L).map tI)) := fun O H vs al h Q q => by
  obtain ⟨v, rfl, hv⟩ := h.one
  obtain ⟨p, xs, rfl, _, e, r⟩ := hv.list
  refine ⟨p, xs, kOf H, rfl, SqL.of e, fun x hx => (kOf_of (r.mem x hx).1).2, fun h2 x hx => hne (by have := r.length; rw [List.length_map] at this; omega) _ (r.mem x hx).2, fun ys l hs hp hl => ?_⟩
  have hL : (ys.map (kOf H)).Perm L := by
    have := hp.map (kOf H)
    rw [r.kmap] at this
    exact this
  have e2 : sortT L = ys.map (kOf H) := sortT_eq hL (List.pairwise_map.mpr hs)
  refine q _ _ _ rfl (Ext.new hl) (Is.newL al hl ?_)
  rw [e2]
  exact isAll_of fun y hy => (r.mem y (hp.mem_iff.mp hy)).1
end Pd
set_option Elab.async false
set_option linter.all false
set_option maxRecDepth 100000
set_option maxHeartbeats 1000000
/-! Lists and tuples of rows compared; dicts given by a property. -/
namespace Pd
open PySem PySem.Spec PyProof.Rows L2
theorem Room.u1 {k : Nat} {A : Around} (r : Room k A) : A.units + 1 < cLine := by have := Room.units65 r; omega
theorem Room.u0 {k : Nat} {A : Around} (r : Room k A) : A.units < cLine := by have := Room.units65 r; omega
theorem sh_lT {n : Nat} (L : List (List Int)) : Sh (n + 2) (.list (L.map tI)) := sh_lst (shA_map (fun b => sh_tI (n := n) b) L)
theorem sh_tT {n : Nat} (L : List (List Int)) : Sh (n + 2) (.tuple (L.map tI)) := sh_tup (shA_map (fun b => sh_tI (n := n) b) L)
theorem eqv_lT (a b : List (List Int)) : PyData.eqv (.list (a.map tI)) (.list (b.map tI)) = decide (a = b) := by unfold PyData.eqv; exact eqvAll_map eqv_tI a b
theorem eqv_tT (a b : List (List Int)) : PyData.eqv (.tuple (a.map tI)) (.tuple (b.map tI)) = decide (a = b) := by unfold PyData.eqv; exact eqvAll_map eqv_tI a b
theorem any_tI (a : List (List Int)) (x : List Int) : ((a.map tI).any fun z => PyData.eqv z (tI x)) = decide (x ∈ a) := Bool.eq_iff_iff.mpr ((any_eqv_iff eqv_tI a x).trans decide_eq_true_iff.symm)
section
variable {K : PySem.W.Frag} {a b : List (List Int)} {x : List Int}
theorem rd_eqLT : RV (rEqD K) (.list (a.map tI)) (.list (b.map tI)) (.bool (decide (a = b))) := by rw [← eqv_lT]; exact rd_eqD (sh_lT (n := 0) a).shp (sh_lT (n := 0) b).shp
theorem rd_neLT : RV (rNeD K) (.list (a.map tI)) (.list (b.map tI)) (.bool (!decide (a = b))) := by rw [← eqv_lT]; exact rd_neD (sh_lT (n := 0) a).shp (sh_lT (n := 0) b).shp
theorem rd_eqTT : RV (rEqD K) (.tuple (a.map tI)) (.tuple (b.map tI)) (.bool (decide (a = b))) := by rw [← eqv_tT]; exact rd_eqD (sh_tT (n := 0) a).shp (sh_tT (n := 0) b).shp
theorem rd_neTT : RV (rNeD K) (.tuple (a.map tI)) (.tuple (b.map tI)) (.bool (!decide (a = b))) := by rw [← eqv_tT]; exact rd_neD (sh_tT (n := 0) a).shp (sh_tT (n := 0) b).shp
theorem rd_inLT : RV (rInD K) (tI x) (.list (a.map tI)) (.bool (decide (x ∈ a))) := by
  have := rd_inL (K := K) (sh_tI (n := 0) x).shp (sh_lT (n := 0) a).shp
  rwa [any_tI] at this
theorem rd_notInLT : RV (rNotInD K) (tI x) (.list (a.map tI)) (.bool (!decide (x ∈ a))) := by
  have := rd_notInL (K := K) (sh_tI (n := 0) x).shp (sh_lT (n := 0) a).shp
  rwa [any_tI] at this
theorem rd_inTT : RV (rInT K) (tI x) (.tuple (a.map tI)) (.bool (decide (x ∈ a))) := by
  have := rd_inT (K := K) (sh_tI (n := 0) x).shp (sh_tT (n := 0) a).shp
  rwa [any_tI] at this
theorem rd_notInTT : RV (rNotInT K) (tI x) (.tuple (a.map tI)) (.bool (!decide (x ∈ a))) := by
  have := rd_notInT (K := K) (sh_tI (n := 0) x).shp (sh_tT (n := 0) a).shp
  rwa [any_tI] at this
end
section
variable {X : Cx} {ρ : List Sl} {φ ψ χ : PyData → Prop} {a b c e : Expr} {es : List Expr} {pos : Pos} {d : PyData} {k : List Int} {v : Bool}
/-- k in d, d by a property that tells the answer -/
theorem x_inDE {θ : List (List Int × PyData) → Prop} (hu : X.A.units + 1 < cLine) (ha : XV X a ρ (tI k)) (hb : XE X b ρ fun z => ∃ kvs, θ kvs ∧ z = dD kvs) (hk : ∀ kvs, θ kvs → (getK kvs k).isSome = v) (hm : behindInMarks .In b = false := by rfl) : XV X (.Compare a [.In] [b] pos) ρ (.bool v) :=
  PE.imp (pe_cmp (pc_din hu ha hb) hm) fun σ H Q ⟨W, O, g, q⟩ => ⟨W, O, g, fun d v' H1 hd g1 e1 i1 => by
    subst hd
    refine ⟨W, O, g1, fun d2 v2 H2 hd2 g2 e2 i2 => ?_⟩
    obtain ⟨kvs, hθ, rfl⟩ := hd2
    obtain ⟨p, od, ws, rfl, n, ep, iv⟩ := i2.dict
    refine ⟨p, _, rfl, dget (.inr ⟨od, ep⟩) (i1.exd g1 e2), ?_⟩
    have hv := hk kvs hθ
    rcases iv.get k with ⟨h1, h2⟩ | ⟨v', d', h1, h2, _⟩
    · rw [h1]; exact q _ _ H2 (by rw [← hv, h2]; rfl) g2 (e1.trans e2) (.bl _)
    · rw [h1]; exact q _ _ H2 (by rw [← hv, h2]; rfl) g2 (e1.trans e2) (.bl _)⟩
theorem tx_inDE {θ : List (List Int × PyData) → Prop} (hu : X.A.units + 1 < cLine) (ha : XV X a ρ (tI k)) (hb : XE X b ρ fun z => ∃ kvs, θ kvs ∧ z = dD kvs) (hk : ∀ kvs, θ kvs → (getK kvs k).isSome = v) (hm : behindInMarks .In b = false := by rfl) : TV X (.Compare a [.In] [b] pos) ρ v :=
  PT.imp (pt_cmp (pc_din hu ha hb) hm) fun σ H Q ⟨W, O, g, q⟩ => ⟨W, O, g, fun d v' H1 hd g1 e1 i1 => by
    subst hd
    refine ⟨W, O, g1, fun d2 v2 H2 hd2 g2 e2 i2 => ?_⟩
    obtain ⟨kvs, hθ, rfl⟩ := hd2
    obtain ⟨p, od, ws, rfl, n, ep, iv⟩ := i2.dict
    refine ⟨p, _, rfl, dget (.inr ⟨od, ep⟩) (i1.exd g1 e2), ?_⟩
    have hv := hk kvs hθ
    rcases iv.get k with ⟨h1, h2⟩ | ⟨v', d', h1, h2, _⟩
    · rw [h1]; exact ⟨false, rfl, q _ H2 (by rw [← hv, h2]; rfl) g2 (e1.trans e2)⟩
    · rw [h1]; exact ⟨true, rfl, q _ H2 (by rw [← hv, h2]; rfl) g2 (e1.trans e2)⟩⟩
theorem tx_notInDE {θ : List (List Int × PyData) → Prop} (hu : X.A.units + 1 < cLine) (ha : XV X a ρ (tI k)) (hb : XE X b ρ fun z => ∃ kvs, θ kvs ∧ z = dD kvs) (hk : ∀ kvs, θ kvs → (getK kvs k).isSome = v) (hm : behindInMarks .NotIn b = false := by rfl) : TV X (.Compare a [.NotIn] [b] pos) ρ (!v) :=
  PT.imp (pt_cmp (pc_dnotin hu ha hb) hm) fun σ H Q ⟨W, O, g, q⟩ => ⟨W, O, g, fun d v' H1 hd g1 e1 i1 => by
    subst hd
    refine ⟨W, O, g1, fun d2 v2 H2 hd2 g2 e2 i2 => ?_⟩
    obtain ⟨kvs, hθ, rfl⟩ := hd2
    obtain ⟨p, od, ws, rfl, n, ep, iv⟩ := i2.dict
    refine ⟨p, _, rfl, dget (.inr ⟨od, ep⟩) (i1.exd g1 e2), ?_⟩
    have hv := hk kvs hθ
    rcases iv.get k with ⟨h1, h2⟩ | ⟨v', d', h1, h2, _⟩
    · rw [h1]; exact ⟨true, rfl, q _ H2 (by rw [← hv, h2]; rfl) g2 (e1.trans e2)⟩
    · rw [h1]; exact ⟨false, rfl, q _ H2 (by rw [← hv, h2]; rfl) g2 (e1.trans e2)⟩⟩
/-- f(e) of a built-in or a type, the argument by a property -/
theorem X_B1 {id : String} {x : Str} {p : Pos} {r : List V → Hp → VK → Prop} (hc : CallR X (.builtin id) r) (hm : X.mg x = none) (ha : XE X e ρ φ) (hr : ∀ d, φ d → RC r [d] χ) (hg : Gl X x := by rfl) (hv : bootBuiltins x = some (.builtin id) := by decide +kernel) (hn : x ≠ "__name__" := by decide) (hdb : (x == ("__debug__" : Str)) = false := by decide)
    (he : starEach [e] X.env = (false, eval e X.env) :: starEach [] X.env := by rfl) (hpl : (backTo pos (starEach [] X.env)).any (·.1) = false := by rfl) :
    XE X (.Call (.Name x p) [e] [] pos) ρ χ := X_callB hc hg hm hv (X_cons (φ' := fun z => z = []) (χ' := fun z => ∃ d, φ d ∧ z = [d]) ha a_nil (fun d ds h1 h2 => ⟨d, h1, by rw [h2]⟩) he) (fun ds ⟨d, h, e⟩ => by rw [e]; exact hr d h) hn hdb he hpl
theorem X_T1 {T : String} {x : Str} {p : Pos} {r : List V → Hp → VK → Prop} (hc : CallR X (.type T) r) (hm : X.mg x = none) (ha : XE X e ρ φ) (hr : ∀ d, φ d → RC r [d] χ) (hg : Gl X x := by rfl) (hv : bootBuiltins x = some (.type T) := by decide +kernel) (hn : x ≠ "__name__" := by decide) (hdb : (x == ("__debug__" : Str)) = false := by decide)
    (he : starEach [e] X.env = (false, eval e X.env) :: starEach [] X.env := by rfl) (hpl : (backTo pos (starEach [] X.env)).any (·.1) = false := by rfl) :
    XE X (.Call (.Name x p) [e] [] pos) ρ χ := X_callT hc hg hm hv (X_cons (φ' := fun z => z = []) (χ' := fun z => ∃ d, φ d ∧ z = [d]) ha a_nil (fun d ds h1 h2 => ⟨d, h1, by rw [h2]⟩) he) (fun ds ⟨d, h, e⟩ => by rw [e]; exact hr d h) hn hdb he hpl
end
end Pd
namespace Pd
open PySem PySem.Spec PyProof.Rows L2
section
variable {X : Cx} {ρ : List Sl} {a b : Expr} {rest : List Stmt} {nx : List Sl → Prop} {rt : PyData → Prop}
theorem set_two {W : Fm} {O O1 O2 : Addr → Prop} {σ : L2.St} {H H1 H2 : Hp} {i j : Nat} {s t : Sl} {v w : V} (g : Gd W O σ H ρ) (hsd : s ≠ .dice) (g1 : Gd W O1 σ H1 ρ) (ok1 : SlOk W O1 H1 (some v) s) (fr1 : s.mut = true → ∃ p, v = .ref p ∧ bl H p)
    (g2 : Gd W O2 σ H2 ρ) (sub2 : ∀ a, O1 a → O2 a) (new2 : ∀ a, O2 a → O1 a ∨ bl H1 a) (ed2 : ExD σ ρ H1 H2) (ok2 : SlOk W O2 H2 (some w) t) (fr2 : t.mut = true → ∃ p, w = .ref p ∧ bl H1 p) (hni : nd ρ i = true) (hnj : nd ρ j = true) (hij : i ≠ j) : Gd W O2 ((σ.set i (some v)).set j (some w)) H2 ((ρ.set i s).set j t) := by
  have ex : Ex O1 H1 H2 := g1.exO ed2
  have ok1' : SlOk W O2 H2 (some v) s := by
    cases s with
    | no => trivial
    | raw v => exact ok1
    | tab T => exact ok1
    | val d => obtain ⟨u, f1, f2⟩ := ok1; exact ⟨u, f1, f2.more new2 ex⟩
    | fz u => obtain ⟨q, e1, e2, e3, e4⟩ := ok1; exact ⟨q, e1, fun z => (new2 q z).elim e2 (fun y => y (u q) e3 e4), ex q (u q) e2 e4 e3, e4⟩
    | own es =>
      obtain ⟨q, ys, f1, f2, f3, f4, f5, f6⟩ := ok1
      obtain ⟨p, ep, hp⟩ := fr1 rfl
      cases f1; cases ep
      have nx : ¬ Dx σ ρ q := fun ⟨l, l1, l2⟩ => by
        obtain ⟨_, o, q1, q2⟩ := g.there l1 l2 rfl
        exact hp o q1 q2
      exact ⟨q, ys, rfl, sub2 q f2, f3, f4, ed2 q _ nx nt_lst f5, f6.more new2 ex⟩
    | xl es =>
      obtain ⟨q, ys, f1, f2, f3, f4, f5, f6⟩ := ok1
      obtain ⟨p, ep, hp⟩ := fr1 rfl
      cases f1; cases ep
      have nx : ¬ Dx σ ρ q := fun ⟨l, l1, l2⟩ => by
        obtain ⟨_, o, q1, q2⟩ := g.there l1 l2 rfl
        exact hp o q1 q2
      exact ⟨q, ys, rfl, sub2 q f2, f3, f4, ed2 q _ nx nt_lst f5, f6.more new2 ex⟩
    | gn G gm gc =>
      obtain ⟨q, ys, f1, f2, f3, f4, f5, f6⟩ := ok1
      obtain ⟨p, ep, hp⟩ := fr1 rfl
      cases f1; cases ep
      have nx : ¬ Dx σ ρ q := fun ⟨l, l1, l2⟩ => by
        obtain ⟨_, o, q1, q2⟩ := g.there l1 l2 rfl
        exact hp o q1 q2
      exact ⟨q, ys, rfl, sub2 q f2, f3, f4, ed2 q _ nx (G.kd f6).nt f5, G.more new2 ex f6⟩
    | dice => exact absurd rfl hsd
    | dct kvs =>
      obtain ⟨q, ys, f1, f2, f3, f4, f5, f6, f7⟩ := ok1
      obtain ⟨p, ep, hp⟩ := fr1 rfl
      cases f1; cases ep
      have nx : ¬ Dx σ ρ q := fun ⟨l, l1, l2⟩ => by
        obtain ⟨_, o, q1, q2⟩ := g.there l1 l2 rfl
        exact hp o q1 q2
      exact ⟨q, ys, rfl, sub2 q f2, f3, f4, ed2 q _ nx nt_dT f5, f6, f7.more new2 ex⟩
  have g3 := g.setNew (i := i) g2 ok1' (fun hm => fr1 hm) (nd_of hni)
  refine g3.set ok2 (fun hm => ?_) ?_
  · obtain ⟨p, ep, hp⟩ := fr2 hm
    refine ⟨p, ep, fun l u h1 h2 h3 => ?_⟩
    by_cases hil : i = l
    · subst hil
      have hi : i < σ.length := by
        have := (List.getElem?_eq_some_iff.mp h1).1
        rwa [List.length_set] at this
      rw [List.getElem?_set_self hi] at h1
      cases h1
      rw [List.getElem?_set_self (by rw [← g.len]; exact hi)] at h2
      cases h2
      cases s with
      | no => cases h3
      | raw v => cases h3
      | tab T => cases h3
      | val d => cases h3
      | fz u => cases h3
      | own es => obtain ⟨q, ys, f1, f2, f3, f4, f5, f6⟩ := ok1; cases f1; exact hp _ f5 nt_lst
      | xl es => obtain ⟨q, ys, f1, f2, f3, f4, f5, f6⟩ := ok1; cases f1; exact hp _ f5 nt_lst
      | gn G gm gc => obtain ⟨q, ys, f1, f2, f3, f4, f5, f6⟩ := ok1; cases f1; exact hp _ f5 (G.kd f6).nt
      | dice => exact absurd rfl hsd
      | dct kvs => obtain ⟨q, ys, f1, f2, f3, f4, f5, f6⟩ := ok1; cases f1; exact hp _ f5 nt_dT
    · rw [List.getElem?_set_ne hil] at h1 h2
      obtain ⟨_, o, q1, q2⟩ := g1.there h1 h2 h3
      exact hp o q1 q2
  · rw [List.getElem?_set_ne hij]; exact nd_of hnj
/-- x, y = a, b, by a tuple, the things to be owned -/
theorem S_unpS {φ ψ : Sl → Prop} {x y : Str} {px py pt pt2 pos : Pos} {tk tk2 : Nat} (i j : Nat) (ha : XS X a ρ φ) (hb : XS X b ρ ψ) (k : ∀ s t, φ s → ψ t → SXs X rest ((ρ.set i s).set j t) nx rt) (hg : PG X (.Tuple [.Name x px, .Name y py] tk pt) (gTup X.K 2 (gCons (gName i) (gCons (gName j) gNil))))
    (hφ : ∀ s, φ s → s ≠ .dice := by intro s h; subst h; exact fun z => nomatch z) (hij : i ≠ j := by decide)
    (hni : nd ρ i = true := by rfl) (hnj : nd ρ j = true := by rfl) (hs : swapsWithSole [.Tuple [.Name x px, .Name y py] tk pt] (.Tuple [a, b] tk2 pt2) pos.line X.env = pure false := by rfl) (hw : swappedStores [.Tuple [.Name x px, .Name y py] tk pt] (.Tuple [a, b] tk2 pt2) X.env = pure none := by rfl)
    (h1 : starEach [a, b] X.env = (false, eval a X.env) :: starEach [b] X.env := by rfl) (h2 : starEach [b] X.env = (false, eval b X.env) :: starEach [] X.env := by rfl) :
    SXs X (.Assign [.Tuple [.Name x px, .Name y py] tk pt] (.Tuple [a, b] tk2 pt2) pos :: rest) ρ nx rt :=
  s_seq (mid := fun ρ' => ∃ s t, φ s ∧ ψ t ∧ ρ' = (ρ.set i s).set j t) (PS.imp (ps_asg (pe_tup (pa_cons ha (pa_cons hb pa_nil h2) h1)) hg hs hw) fun D σ H ⟨W, O, g, k1, k2⟩ => by
    refine ⟨W, O, g, fun s v H1 O1 hs g1 sub1 new1 ed1 ok1 fr1 => ⟨W, O1, g1, fun t w H2 O2 ht g2 sub2 new2 ed2 ok2 fr2 => ⟨by show 2 ≤ sizeLine; decide, fun p hp => ?_⟩⟩⟩
    refine ⟨p, [v, w], rfl, SqT.of upd_same, rfl, v, [w], rfl, w, [], rfl, rfl, ?_⟩
    have gg := set_two g (hφ s hs) g1 ok1 fr1 g2 sub2 new2 ed2 ok2 fr2 hni hnj hij
    exact k1 _ O2 _ _ ⟨s, t, hs, ht, rfl⟩ (gg.ext' (Ext.new hp))) fun ρ' ⟨s, t, h1, h2, e⟩ => by rw [e]; exact k s t h1 h2
end
end Pd
namespace Pd
open PySem PySem.Spec PyProof.Rows L2
theorem any_int (a : List Int) (x : Int) : ((a.map PyData.int).any fun z => PyData.eqv z (.int x)) = decide (x ∈ a) := Bool.eq_iff_iff.mpr ((any_eqv_iff eqv_int a x).trans decide_eq_true_iff.symm)
theorem rd_inTI {K : PySem.W.Frag} {x : Int} {a : List Int} : RV (rInT K) (.int x) (tI a) (.bool (decide (x ∈ a))) := by
  have := rd_inT (K := K) (sh_int (n := 0) x).shp (sh_tI (n := 0) a).shp
  rwa [any_int] at this
end Pd
set_option Elab.async false
set_option linter.all false
set_option maxRecDepth 100000
set_option maxHeartbeats 1000000
/-! All rows of so many grains; the rows that come from a row. -/
namespace Sr
open PySem Pd
/-- all rows of g grains with heights up to m, ascending -/
def rbF : Nat → Nat → Nat → List (List Int)
  | _, 0, _ => [[]]
  | 0, _ + 1, _ => []
  | f + 1, g + 1, m => (List.range (min (g + 1) m)).flatMap fun i => (rbF f (g - i) (i + 1)).map fun r => ((i + 1 : Nat) : Int) :: r
theorem rb_more : ∀ (f f' g m : Nat), g ≤ f → g ≤ f' → rbF f g m = rbF f' g m
  | 0, _, 0, m, _, _ => by unfold rbF; rfl
  | _ + 1, _, 0, m, _, _ => by unfold rbF; rfl
  | 0, _, _ + 1, _, h, _ => by omega
  | _ + 1, 0, _ + 1, _, _, h => by omega
  | f + 1, f' + 1, g + 1, m, h, h' => by
    unfold rbF
    congr 1
    funext i
    rw [rb_more f f' (g - i) (i + 1) (by omega) (by omega)]
def rowsB (g m : Nat) : List (List Int) := rbF g g m
theorem rowsB_zero (m : Nat) : rowsB 0 m = [[]] := by unfold rowsB rbF; rfl
theorem rowsB_succ (g m : Nat) : rowsB (g + 1) m = (List.range (min (g + 1) m)).flatMap fun i => (rowsB (g - i) (i + 1)).map fun r => ((i + 1 : Nat) : Int) :: r := by
  unfold rowsB
  rw [show rbF (g + 1) (g + 1) m = (List.range (min (g + 1) m)).flatMap fun i => (rbF g (g - i) (i + 1)).map fun r => ((i + 1 : Nat) : Int) :: r by rw [rbF]]
  congr 1
  funext i
  rw [rb_more g (g - i) (g - i) (i + 1) (by omega) (Nat.le_refl _)]
/-- heights from 1 on that do not rise, up to m -/
def Fal : List Int → Int → Prop
  | [], _ => True
  | a :: r, m => 1 ≤ a ∧ a ≤ m ∧ Fal r a
theorem Fal.pos : ∀ {r : List Int} {m : Int}, Fal r m → ∀ n ∈ r, 1 ≤ n
  | a :: r, m, h, n, hn => by
    rcases List.mem_cons.mp hn with rfl | hn
    · exact h.1
    · exact Fal.pos h.2.2 n hn
theorem Fal.mono : ∀ {r : List Int} {m m' : Int}, Fal r m → m ≤ m' → Fal r m'
  | [], _, _, _, _ => trivial
  | a :: r, m, m', h, hm => ⟨h.1, by have := h.2.1; omega, h.2.2⟩
theorem Fal.sum : ∀ {r : List Int} {m : Int}, Fal r m → 0 ≤ r.sum := fun h => sum_nonneg fun n hn => by have := h.pos n hn; omega
theorem mem_rowsB : ∀ (g m : Nat) (r : List Int), r ∈ rowsB g m ↔ Fal r m ∧ r.sum = (g : Int) := by
  intro g
  induction g using Nat.strongRecOn with
  | ind g ih =>
    intro m r
    match g with
    | 0 =>
      rw [rowsB_zero]
      constructor
      · intro h
        have : r = [] := by simpa using h
        subst this
        exact ⟨trivial, rfl⟩
      · rintro ⟨h1, h2⟩
        match r with
        | [] => simp
        | a :: r =>
          have := h1.1
          have := h1.2.2.sum
          rw [List.sum_cons] at h2
          omega
    | g + 1 =>
      rw [rowsB_succ, List.mem_flatMap]
      constructor
      · rintro ⟨i, hi, h⟩
        have hi := List.mem_range.mp hi
        obtain ⟨q, hq, rfl⟩ := List.mem_map.mp h
        obtain ⟨h1, h2⟩ := (ih (g - i) (by omega) (i + 1) q).mp hq
        refine ⟨⟨by omega, by omega, h1⟩, ?_⟩
        rw [List.sum_cons, h2]
        omega
      · rintro ⟨h1, h2⟩
        match r with
        | [] => simp at h2; omega
        | a :: r =>
          obtain ⟨a1, a2, a3⟩ := h1
          have s0 := a3.sum
          rw [List.sum_cons] at h2
          refine ⟨(a - 1).toNat, List.mem_range.mpr (by omega), List.mem_map.mpr ⟨r, ?_, ?_⟩⟩
          · refine (ih (g - (a - 1).toNat) (by omega) _ r).mpr ⟨?_, by omega⟩
            have : (((a - 1).toNat + 1 : Nat) : Int) = a := by omega
            rw [this]
            exact a3
          · have : (((a - 1).toNat + 1 : Nat) : Int) = a := by omega
            rw [this]
theorem Row.fal : ∀ {r : List Int}, (∀ n ∈ r, 1 ≤ n) → (∀ i, r.getD (i + 1) 0 ≤ r.getD i 0) → Fal r (r.getD 0 0)
  | [], _, _ => trivial
  | [a], h, _ => ⟨h a List.mem_cons_self, Int.le_refl _, trivial⟩
  | a :: b :: r, h, f => by
    refine ⟨h a List.mem_cons_self, Int.le_refl _, ?_⟩
    have ih := Row.fal (r := b :: r) (fun n hn => h n (List.mem_cons_of_mem _ hn)) (fun i => by simpa using f (i + 1))
    exact ih.mono (by simpa using f 0)
theorem Fal.falls : ∀ {r : List Int} {m : Int}, Fal r m → ∀ i, r.getD (i + 1) 0 ≤ r.getD i 0
  | [], _, _, i => by simp
  | [a], _, h, i => by
    match i with
    | 0 => have := h.1; simp; omega
    | i + 1 => simp
  | a :: b :: r, m, h, i => by
    match i with
    | 0 => have := h.2.2.2.1; simpa using this
    | i + 1 => have := Fal.falls h.2.2 i; simpa using this
theorem getD0_le_sum {r : List Int} (h : ∀ n ∈ r, 1 ≤ n) : r.getD 0 0 ≤ r.sum := by
  match r with
  | [] => simp
  | a :: r =>
    have := sum_nonneg (ns := r) fun n hn => by have := h n (List.mem_cons_of_mem _ hn); omega
    rw [List.sum_cons]
    simp
    omega
/-- all rows of g grains -/
abbrev rowsL (g : Nat) : List (List Int) := rowsB g g
theorem mem_rowsL {g : Nat} (hg : g ≤ 18) {r : List Int} : r ∈ rowsL g ↔ Row r ∧ r.sum = (g : Int) := by
  rw [mem_rowsB]
  constructor
  · rintro ⟨h1, h2⟩
    exact ⟨⟨h1.pos, h1.falls, by omega⟩, h2⟩
  · rintro ⟨h1, h2⟩
    exact ⟨(Row.fal h1.pos h1.falls).mono (by have := getD0_le_sum h1.pos; omega), h2⟩
theorem lex_cons_ne {a b : Int} {r q : List Int} (h : a < b) : HT.lexLt (b :: q) (a :: r) = false := by
  rw [HT.lexLt_cons, if_neg (by omega)]
  exact decide_eq_false (by omega)
/-- strictly ascending -/
abbrev Asc (L : List (List Int)) : Prop := L.Pairwise fun a b => HT.lexLt a b = true
theorem Asc.srt {L : List (List Int)} (h : Asc L) : SrtL L := h.imp fun {a b} z => NtL.lex_asym _ _ z
theorem lex_irr (a : List Int) : HT.lexLt a a = false := by
  induction a with
  | nil => rfl
  | cons x a ih => rw [HT.lexLt_cons, if_pos rfl]; exact ih
theorem Asc.nodup {L : List (List Int)} (h : Asc L) : L.Nodup := h.imp fun {a b} z e => by rw [e, lex_irr] at z; cases z
theorem asc_flat {α : Type} (f : α → List (List Int)) : ∀ (l : List α), (∀ a ∈ l, Asc (f a)) → (l.Pairwise fun a b => ∀ x ∈ f a, ∀ y ∈ f b, HT.lexLt x y = true) → Asc (l.flatMap f)
  | [], _, _ => List.Pairwise.nil
  | a :: l, h1, h2 => by
    rw [List.flatMap_cons]
    obtain ⟨q1, q2⟩ := List.pairwise_cons.mp h2
    refine List.pairwise_append.mpr ⟨h1 a List.mem_cons_self, asc_flat f l (fun b hb => h1 b (List.mem_cons_of_mem _ hb)) q2, fun x hx y hy => ?_⟩
    obtain ⟨b, hb, hy⟩ := List.mem_flatMap.mp hy
    exact q1 b hb x hx y hy
theorem asc_rowsB : ∀ (g m : Nat), Asc (rowsB g m) := by
  intro g
  induction g using Nat.strongRecOn with
  | ind g ih =>
    intro m
    match g with
    | 0 => rw [rowsB_zero]; exact List.pairwise_singleton _ _
    | g + 1 =>
      rw [rowsB_succ]
      refine asc_flat _ _ (fun i hi => ?_) ?_
      · refine List.pairwise_map.mpr ((ih (g - i) (by omega) (i + 1)).imp fun {a b} z => ?_)
        rw [HT.lexLt_cons, if_pos rfl]
        exact z
      · refine List.pairwise_lt_range.imp fun {i j} hij => ?_
        intro x hx y hy
        obtain ⟨q, _, rfl⟩ := List.mem_map.mp hx
        obtain ⟨q', _, rfl⟩ := List.mem_map.mp hy
        rw [HT.lexLt_cons, if_neg (by omega)]
        exact decide_eq_true (by omega)
theorem nodup_sub : ∀ {L M : List (List Int)}, L.Nodup → (∀ a ∈ L, a ∈ M) → L.length ≤ M.length
  | [], _, _, _ => Nat.zero_le _
  | a :: L, M, h, hs => by
    obtain ⟨h1, h2⟩ := List.nodup_cons.mp h
    have hm := hs a List.mem_cons_self
    have := nodup_sub (L := L) (M := M.erase a) h2 fun b hb => (List.mem_erase_of_ne (fun z => h1 (by rw [← z]; exact hb))).mpr (hs b (List.mem_cons_of_mem _ hb))
    rw [List.length_erase_of_mem hm] at this
    have := List.length_pos_of_mem hm
    rw [List.length_cons]
    omega
def knownL : List Nat := [1, 1, 2, 3, 5, 7, 11, 15, 22, 30, 42, 56, 77, 101, 135, 176, 231, 297, 385]
theorem known_len : ∀ g, g ≤ 18 → (rowsL g).length = knownL.getD g 0 := by
  have : ((List.range 19).all fun g => decide ((rowsL g).length = knownL.getD g 0)) = true := by decide +kernel
  intro g hg
  exact of_decide_eq_true (List.all_eq_true.mp this g (List.mem_range.mpr (by omega)))
theorem rows_few {g : Nat} (hg : g ≤ 18) : (rowsL g).length ≤ 385 := by
  rw [known_len g hg]
  have : ((List.range 19).all fun g => decide (knownL.getD g 0 ≤ 385)) = true := by decide +kernel
  exact of_decide_eq_true (List.all_eq_true.mp this g (List.mem_range.mpr (by omega)))
theorem row_sum_nat {r : List Int} (h : Row r) : r.sum = (r.sum.toNat : Int) ∧ r.sum.toNat ≤ 18 := by
  have := sum_nonneg (ns := r) fun n hn => by have := h.pos n hn; omega
  have := h.sum
  omega
theorem few_rows {L : List (List Int)} {g : Int} (hn : L.Nodup) (h : ∀ r ∈ L, Row r ∧ r.sum = g) : L.length ≤ 385 := by
  match L, h with
  | [], _ => simp
  | a :: L, h =>
    obtain ⟨ha, hs⟩ := h a List.mem_cons_self
    obtain ⟨e1, e2⟩ := row_sum_nat ha
    refine Nat.le_trans (nodup_sub (M := rowsL a.sum.toNat) hn fun r hr => (mem_rowsL e2).mpr ?_) (rows_few e2)
    obtain ⟨h1, h2⟩ := h r hr
    exact ⟨h1, by omega⟩
/-! ### what comes from a row -/
def Rch (s : Int) (a b : List Int) : Prop := ∃ l, Pth s a l b
theorem Rch.refl (s : Int) (a : List Int) : Rch s a a := ⟨[], .nil _⟩
theorem Rch.step {s : Int} {a b : List Int} {p : Nat} (h : Rch s a b) (hp : p ∈ freeN s b) : Rch s a (mv b p) := by
  obtain ⟨l, h⟩ := h
  exact ⟨l ++ [p], h.app (.cons hp (.nil _))⟩
theorem Rch.trans {s : Int} {a b c : List Int} (h : Rch s a b) (h2 : Rch s b c) : Rch s a c := by
  obtain ⟨l, h⟩ := h
  obtain ⟨l2, h2⟩ := h2
  exact ⟨l ++ l2, h.app h2⟩
theorem Rch.row {s : Int} (hs : 2 ≤ s) {a b : List Int} (h : Rch s a b) (ha : Row a) : Row b := by
  obtain ⟨l, h⟩ := h
  exact h.row hs ha
theorem Rch.sum {s : Int} {a b : List Int} (h : Rch s a b) : b.sum = a.sum := by
  obtain ⟨l, h⟩ := h
  exact h.sum
theorem Pth.sq {s : Int} (hs : 2 ≤ s) : ∀ {l : List Nat} {a e : List Int}, Row a → Pth s a l e → sq e + l.length ≤ sq a
  | [], _, _, _, h => by cases h; exact Nat.le_refl _
  | p :: l, a, e, ha, h => by
    cases h with
    | cons hp r =>
      have h1 := Pth.sq hs (ha.mv hs hp) r
      have h2 := sq_free ha hs hp
      rw [List.length_cons]
      omega
theorem closed_rch {s : Int} {F : List (List Int)} (hc : ∀ r ∈ F, ∀ p ∈ freeN s r, mv r p ∈ F) : ∀ {l : List Nat} {a b : List Int}, a ∈ F → Pth s a l b → b ∈ F
  | [], _, _, ha, h => by cases h; exact ha
  | p :: l, a, b, ha, h => by
    cases h with
    | cons hp r => exact closed_rch hc (hc a ha p hp) r
/-- the breadth-first search: t slides, met, at hand -/
structure BF (s : Int) (ns : List Int) (t : Nat) (F Lv : List (List Int)) : Prop where
  nd : F.Nodup
  root : ns ∈ F
  rch : ∀ r ∈ F, Rch s ns r
  lv : ∀ r ∈ Lv, r ∈ F ∧ ∃ l, l.length = t ∧ Pth s ns l r
  cl : ∀ r ∈ F, r ∉ Lv → ∀ p ∈ freeN s r, mv r p ∈ F
/-- within: later ones, those still to be looked at, one at hand with the places that are done -/
structure BI (s : Int) (ns : List Int) (t : Nat) (F La todo : List (List Int)) (one : List Int) (done : List Nat) : Prop where
  nd : F.Nodup
  lnd : La.Nodup
  root : ns ∈ F
  rch : ∀ r ∈ F, Rch s ns r
  la : ∀ r ∈ La, r ∈ F ∧ ∃ l, l.length = t + 1 ∧ Pth s ns l r
  td : ∀ r ∈ todo, r ∈ F ∧ ∃ l, l.length = t ∧ Pth s ns l r
  cl : ∀ r ∈ F, r ∉ La → r ∉ todo → ∀ p ∈ freeN s r, (r ≠ one ∨ p ∈ done) → mv r p ∈ F
theorem BF.start (s : Int) (ns : List Int) : BF s ns 0 [ns] [ns] :=
  ⟨List.pairwise_singleton _ _, List.mem_cons_self, fun r hr => by rw [List.mem_singleton.mp hr]; exact Rch.refl s ns, fun r hr => ⟨hr, [], rfl, by rw [List.mem_singleton.mp hr]; exact .nil _⟩, fun r hr h => absurd hr h⟩
theorem BF.enter {s : Int} {ns : List Int} {t : Nat} {F Lv : List (List Int)} (h : BF s ns t F Lv) : BI s ns t F [] Lv [] [] :=
  ⟨h.nd, List.Pairwise.nil, h.root, h.rch, fun r hr => (by cases hr), h.lv, fun r hr _ ht p hp _ => h.cl r hr ht p hp⟩
/-- BI without one at hand -/
abbrev BO (s : Int) (ns : List Int) (t : Nat) (F La todo : List (List Int)) : Prop := ∀ one, BI s ns t F La todo one (freeN s one)
theorem BF.enterO {s : Int} {ns : List Int} {t : Nat} {F Lv : List (List Int)} (h : BF s ns t F Lv) : BO s ns t F [] Lv := fun one =>
  ⟨h.nd, List.Pairwise.nil, h.root, h.rch, fun r hr => (by cases hr), h.lv, fun r hr _ ht p hp _ => h.cl r hr ht p hp⟩
theorem BO.take {s : Int} {ns : List Int} {t : Nat} {F La todo : List (List Int)} {one : List Int} (h : BO s ns t F La (one :: todo)) : BI s ns t F La todo one [] := by
  have b := h one
  refine ⟨b.nd, b.lnd, b.root, b.rch, b.la, fun r hr => b.td r (List.mem_cons_of_mem _ hr), fun r hr hl ht p hp hd => ?_⟩
  rcases hd with hd | hd
  · exact b.cl r hr hl (fun z => (List.mem_cons.mp z).elim hd ht) p hp (.inl hd)
  · cases hd
theorem BI.give {s : Int} {ns : List Int} {t : Nat} {F La todo : List (List Int)} {one : List Int} (h : BI s ns t F La todo one (freeN s one)) : BO s ns t F La todo := fun one' =>
  ⟨h.nd, h.lnd, h.root, h.rch, h.la, h.td, fun r hr hl ht p hp _ => h.cl r hr hl ht p hp (by
    by_cases e : r = one
    · right; rw [← e]; exact hp
    · exact .inl e)⟩
theorem BO.leave {s : Int} {ns : List Int} {t : Nat} {F La : List (List Int)} (h : BO s ns t F La []) : BF s ns (t + 1) F La := by
  refine ⟨(h []).nd, (h []).root, (h []).rch, (h []).la, fun r hr hl p hp => (h r).cl r hr hl (fun z => by cases z) p hp (.inr hp)⟩
theorem BI.old {s : Int} {ns : List Int} {t : Nat} {F La todo : List (List Int)} {one : List Int} {done : List Nat} {p : Nat} (h : BI s ns t F La todo one done) (hm : mv one p ∈ F) : BI s ns t F La todo one (done ++ [p]) :=
  ⟨h.nd, h.lnd, h.root, h.rch, h.la, h.td, fun r hr hl ht q hq hd => by
    by_cases e : r = one
    · rcases hd with hd | hd
      · exact absurd e hd
      · rcases List.mem_append.mp hd with hd | hd
        · exact h.cl r hr hl ht q hq (.inr hd)
        · have : q = p := by simpa using hd
          rw [this, e]; exact hm
    · exact h.cl r hr hl ht q hq (.inl e)⟩
theorem BI.new {s : Int} {ns : List Int} {t : Nat} {F La todo : List (List Int)} {one : List Int} {done : List Nat} {p : Nat} (h : BI s ns t F La todo one done) (ho : ∃ l, l.length = t ∧ Pth s ns l one) (hp : p ∈ freeN s one) (hm : mv one p ∉ F) : BI s ns t (F ++ [mv one p]) (La ++ [mv one p]) todo one (done ++ [p]) := by
  obtain ⟨l, hl, ho⟩ := ho
  have hq : Pth s ns (l ++ [p]) (mv one p) := ho.app (.cons hp (.nil _))
  have nl : mv one p ∉ La := fun z => hm (h.la _ z).1
  refine ⟨List.nodup_append.mpr ⟨h.nd, List.pairwise_singleton _ _, fun a ha b hb => ?_⟩, List.nodup_append.mpr ⟨h.lnd, List.pairwise_singleton _ _, fun a ha b hb => ?_⟩, List.mem_append_left _ h.root, fun r hr => ?_, fun r hr => ?_, fun r hr => ⟨List.mem_append_left _ (h.td r hr).1, (h.td r hr).2⟩, fun r hr hl' ht q hq' hd => ?_⟩
  · rw [List.mem_singleton.mp hb]; exact fun z => hm (z ▸ ha)
  · rw [List.mem_singleton.mp hb]; exact fun z => nl (z ▸ ha)
  · rcases List.mem_append.mp hr with hr | hr
    · exact h.rch r hr
    · rw [List.mem_singleton.mp hr]; exact ⟨_, hq⟩
  · rcases List.mem_append.mp hr with hr | hr
    · exact ⟨List.mem_append_left _ (h.la r hr).1, (h.la r hr).2⟩
    · rw [List.mem_singleton.mp hr]
      exact ⟨List.mem_append_right _ List.mem_cons_self, l ++ [p], by rw [List.length_append, hl]; rfl, hq⟩
  · have hr' : r ∈ F := by
      rcases List.mem_append.mp hr with hr | hr
      · exact hr
      · exact absurd (List.mem_append_right _ hr) hl'
    have hl2 : r ∉ La := fun z => hl' (List.mem_append_left _ z)
    by_cases e : r = one
    · rcases hd with hd | hd
      · exact absurd e hd
      · rcases List.mem_append.mp hd with hd | hd
        · exact List.mem_append_left _ (h.cl r hr' hl2 ht q hq' (.inr hd))
        · have : q = p := by simpa using hd
          rw [this, e]; exact List.mem_append_right _ List.mem_cons_self
    · exact List.mem_append_left _ (h.cl r hr' hl2 ht q hq' (.inl e))
theorem BF.done {s : Int} {ns : List Int} {t : Nat} {F : List (List Int)} (h : BF s ns t F []) (r : List Int) : r ∈ F ↔ Rch s ns r :=
  ⟨h.rch r, fun ⟨l, hl⟩ => closed_rch (fun r hr p hp => h.cl r hr (fun z => by cases z) p hp) h.root hl⟩
theorem rch_few {s : Int} (hs : 2 ≤ s) {ns : List Int} (hr : Row ns) {F : List (List Int)} (hn : F.Nodup) (h : ∀ r ∈ F, Rch s ns r) : F.length ≤ 385 :=
  few_rows (g := ns.sum) hn fun r hm => ⟨(h r hm).row hs hr, (h r hm).sum⟩
/-! ### a dict of rows, each True -/
abbrev dR (F : List (List Int)) : List (List Int × PyData) := F.map fun r => (r, .bool true)
theorem getK_dR (F : List (List Int)) (k : List Int) : (getK (dR F) k).isSome = decide (k ∈ F) := by
  induction F with
  | nil => rfl
  | cons a F ih =>
    unfold getK dR at *
    rw [List.map_cons, List.find?_cons]
    by_cases e : a = k
    · subst e; simp
    · have : ¬ k = a := fun z => e z.symm
      simp only [e, decide_false, List.mem_cons, this, false_or]
      exact ih
theorem putD_dR {F : List (List Int)} {k : List Int} (h : k ∉ F) : putD (dR F) k (.bool true) = dR (F ++ [k]) := by
  unfold putD
  rw [if_neg]
  · unfold dR; rw [List.map_append]; rfl
  · intro z
    obtain ⟨p, hp, e⟩ := List.any_eq_true.mp z
    obtain ⟨r, hr, rfl⟩ := List.mem_map.mp hp
    exact h ((of_decide_eq_true e) ▸ hr)
end Sr
namespace Sr
open PySem Pd
/-! ### ascending lists by their members -/
theorem asc_of {L : List (List Int)} (hn : L.Nodup) (hs : SrtL L) : Asc L := by
  induction L with
  | nil => exact List.Pairwise.nil
  | cons a L ih =>
    obtain ⟨h1, h2⟩ := List.pairwise_cons.mp hs
    obtain ⟨n1, n2⟩ := List.nodup_cons.mp hn
    refine List.pairwise_cons.mpr ⟨fun b hb => ?_, ih n2 h2⟩
    cases h : HT.lexLt a b with
    | true => rfl
    | false => exact absurd (lex_total h (h1 b hb)) (fun z => n1 (z ▸ hb))
theorem nodup_perm : ∀ {L M : List (List Int)}, L.Nodup → M.Nodup → (∀ r, r ∈ L ↔ r ∈ M) → L.Perm M
  | [], M, _, _, h => by
    cases M with
    | nil => exact .refl _
    | cons b M => exact absurd ((h b).mpr List.mem_cons_self) (by simp)
  | a :: L, M, hn, hm, h => by
    obtain ⟨n1, n2⟩ := List.nodup_cons.mp hn
    have ha : a ∈ M := (h a).mp List.mem_cons_self
    have p := nodup_perm (L := L) (M := M.erase a) n2 (hm.erase a) fun r => by
      rw [hm.mem_erase_iff]
      constructor
      · intro hr
        exact ⟨fun z => n1 (z ▸ hr), (h r).mp (List.mem_cons_of_mem _ hr)⟩
      · rintro ⟨h1, h2⟩
        rcases List.mem_cons.mp ((h r).mpr h2) with e | e
        · exact absurd e h1
        · exact e
    exact (p.cons a).trans (List.perm_cons_erase ha).symm
theorem asc_one {L M : List (List Int)} (h1 : Asc L) (h2 : Asc M) (h : ∀ r, r ∈ L ↔ r ∈ M) : L = M := srt_one (nodup_perm h1.nodup h2.nodup h) h1.srt h2.srt
theorem sortT_asc {F : List (List Int)} (h : F.Nodup) : Asc (sortT F) := asc_of ((sortT_perm F).nodup_iff.mpr h) (sortT_srt F)
theorem mem_sortT {F : List (List Int)} {r : List Int} : r ∈ sortT F ↔ r ∈ F := (sortT_perm F).mem_iff
theorem row_zero {r : List Int} (h : ∀ n ∈ r, 1 ≤ n) (hs : r.sum = 0) : r = [] := by
  match r with
  | [] => rfl
  | a :: r =>
    have := sum_nonneg (ns := r) fun n hn => by have := h n (List.mem_cons_of_mem _ hn); omega
    have := h a List.mem_cons_self
    rw [List.sum_cons] at hs
    omega
theorem one_empty {F : List (List Int)} {g : Int} (hn : F.Nodup) (h : ∀ r ∈ F, Row r ∧ r.sum = g) (h2 : 2 ≤ F.length) : ∀ a ∈ F, a ≠ [] := fun a ha e => by
  have hg : g = 0 := by rw [← (h a ha).2, e]; rfl
  have all : ∀ r ∈ F, r = [] := fun r hr => row_zero (h r hr).1.pos (by rw [(h r hr).2, hg])
  match F, h2, hn, all with
  | a :: b :: F, _, hn, all =>
    have := (List.nodup_cons.mp hn).1
    rw [all a List.mem_cons_self] at this
    exact this (by rw [← all b (List.mem_cons_of_mem _ List.mem_cons_self)]; exact List.mem_cons_self)
/-- R are all rows that come from ns, ascending -/
structure Rea (s : Int) (ns : List Int) (R : List (List Int)) : Prop where
  asc : Asc R
  mem : ∀ r, r ∈ R ↔ Rch s ns r
theorem Rea.one {s : Int} {ns : List Int} {R R' : List (List Int)} (h : Rea s ns R) (h' : Rea s ns R') : R = R' := asc_one h.asc h'.asc fun r => (h.mem r).trans (h'.mem r).symm
theorem rea_sort {s : Int} {ns : List Int} {F : List (List Int)} (hn : F.Nodup) (h : ∀ r, r ∈ F ↔ Rch s ns r) : Rea s ns (sortT F) := ⟨sortT_asc hn, fun r => mem_sortT.trans (h r)⟩
theorem rea_of {s : Int} {ns : List Int} {R : List (List Int)} (ha : Asc R) (h0 : ns ∈ R) (hc : ∀ r ∈ R, ∀ p ∈ freeN s r, mv r p ∈ R) (hr : ∀ r ∈ R, Rch s ns r) : Rea s ns R := ⟨ha, fun r => ⟨hr r, fun ⟨l, h⟩ => closed_rch hc h0 h⟩⟩
end Sr
namespace Sr
open PySem Pd
def twoX (s r o : PyData) : Option Ec := match bothX s r with
  | some c => some c
  | none => if isRowD o = true then none else some .row
theorem both_none {s r : PyData} (h : bothX s r = none) : isWhole s 2 4 = true ∧ isRowD r = true := by
  cases h1 : isWhole s 2 4 with
  | false => rw [both_st h1] at h; cases h
  | true =>
    cases h2 : isRowD r with
    | false => rw [both_row h1 h2] at h; cases h
    | true => exact ⟨rfl, rfl⟩
theorem both_ok {s r : PyData} (h1 : isWhole s 2 4 = true) (h2 : isRowD r = true) : bothX s r = none := by unfold bothX; rw [if_pos h1, if_pos h2]
theorem two_cases {s r o : PyData} (h : (twoX s r o).isSome = true) : ((bothX s r).isSome = true ∧ twoX s r o = bothX s r) ∨ (isWhole s 2 4 = true ∧ isRowD r = true ∧ isRowD o = false ∧ twoX s r o = some .row) := by
  unfold twoX at h ⊢
  cases hb : bothX s r with
  | some c => exact .inl ⟨rfl, rfl⟩
  | none =>
    rw [hb] at h
    obtain ⟨h1, h2⟩ := both_none hb
    cases h3 : isRowD o with
    | true => simp [h3] at h
    | false => exact .inr ⟨h1, h2, rfl, by simp⟩
theorem two_row {s r o : PyData} (h1 : isWhole s 2 4 = true) (h2 : isRowD r = true) (h3 : isRowD o = false) : twoX s r o = some .row := by
  unfold twoX; rw [both_ok h1 h2]; simp [h3]
theorem two_st {s r o : PyData} (h1 : isWhole s 2 4 = false) : twoX s r o = some .st := by
  unfold twoX; rw [both_st h1]
end Sr
namespace Sr
open PySem Pd
/-- all rows that come from a row, ascending -/
noncomputable def reaL (s : Int) (ns : List Int) : List (List Int) := (rowsL ns.sum.toNat).filter fun r => @decide (Rch s ns r) (Classical.propDecidable _)
theorem reaL_rea {s : Int} {ns : List Int} (hs : 2 ≤ s) (hr : Row ns) : Rea s ns (reaL s ns) := by
  obtain ⟨e1, e2⟩ := row_sum_nat hr
  refine ⟨List.Pairwise.filter _ (asc_rowsB _ _), fun r => ?_⟩
  unfold reaL
  rw [List.mem_filter]
  constructor
  · rintro ⟨_, h⟩
    exact @of_decide_eq_true _ (Classical.propDecidable _) h
  · intro h
    exact ⟨(mem_rowsL e2).mpr ⟨h.row hs hr, by rw [h.sum]; exact e1⟩, @decide_eq_true _ (Classical.propDecidable _) h⟩
theorem Rea.eq {s : Int} {ns : List Int} {R : List (List Int)} (hs : 2 ≤ s) (hr : Row ns) (h : Rea s ns R) : R = reaL s ns := h.one (reaL_rea hs hr)
theorem mem_reaL {s : Int} {ns r : List Int} (hs : 2 ≤ s) (hr : Row ns) : r ∈ reaL s ns ↔ Rch s ns r := (reaL_rea hs hr).mem r
theorem reaL_few {s : Int} {ns : List Int} (hs : 2 ≤ s) (hr : Row ns) : (reaL s ns).length ≤ 385 := rch_few hs hr (reaL_rea hs hr).asc.nodup fun r h => (mem_reaL hs hr).mp h
theorem reaL_pos {s : Int} {ns : List Int} (hs : 2 ≤ s) (hr : Row ns) : 0 < (reaL s ns).length := List.length_pos_of_mem ((mem_reaL hs hr).mpr (Rch.refl s ns))
theorem reaL_row {s : Int} {ns r : List Int} (hs : 2 ≤ s) (hr : Row ns) (h : r ∈ reaL s ns) : Row r := ((mem_reaL hs hr).mp h).row hs hr
theorem Rch.end {s : Int} {a b : List Int} (hs : 2 ≤ s) (ha : Row a) (h : Rch s a b) : endL s b = endL s a := by
  obtain ⟨l, h⟩ := h
  exact end_of_pth hs ha h
theorem rch_end (s : Int) (ns : List Int) : Rch s ns (endL s ns) := by
  obtain ⟨l, _, h⟩ := course_pth s ns
  exact ⟨l, h⟩
theorem places_nil {s : Int} {ns : List Int} : placesL s ns = [] ↔ freeN s ns = [] := by unfold placesL; exact List.map_eq_nil_iff
/-- just one end among them -/
theorem rea_ends {s : Int} {ns : List Int} (hs : 2 ≤ s) (hr : Row ns) : (reaL s ns).filter (fun r => decide (placesL s r = [])) = [endL s ns] := by
  refine asc_one (List.Pairwise.filter _ (reaL_rea hs hr).asc) (List.pairwise_singleton _ _) fun r => ?_
  rw [List.mem_filter, List.mem_singleton, mem_reaL hs hr]
  constructor
  · rintro ⟨h1, h2⟩
    have h2 := places_nil.mp (of_decide_eq_true h2)
    rw [← h1.end hs hr, end_self h2]
  · rintro rfl
    exact ⟨rch_end s ns, decide_eq_true (places_nil.mpr (end_free hr hs))⟩
theorem Rch.weight {s : Int} {a b : List Int} (h : Rch s a b) : weightL a ≤ weightL b ∧ (weightL a = weightL b → a = b) := by
  obtain ⟨l, h⟩ := h
  have hw := h.weight
  refine ⟨by omega, fun e => ?_⟩
  have : l = [] := List.eq_nil_of_length_eq_zero (by omega)
  subst this
  cases h
  rfl
theorem Rch.anti {s : Int} {a b : List Int} (h : Rch s a b) (h2 : Rch s b a) : a = b := h.weight.2 (by have := h.weight.1; have := h2.weight.1; omega)
end Sr
set_option Elab.async false
set_option linter.all false
set_option maxRecDepth 100000
set_option maxHeartbeats 1000000
/-! The law's own list of all rows, level by level. -/
namespace Sr
open PySem Pd
theorem rowsB_few {g m : Nat} (hg : g ≤ 18) : (rowsB g m).length ≤ 385 :=
  few_rows (g := g) (asc_rowsB g m).nodup fun r hr => by
    obtain ⟨h1, h2⟩ := (mem_rowsB g m r).mp hr
    exact ⟨⟨h1.pos, h1.falls, by omega⟩, h2⟩
theorem rowsB_step {g i : Nat} (h : i ≤ g) : rowsB (g + 1) (i + 1) = rowsB (g + 1) i ++ (rowsB (g - i) (i + 1)).map fun r => ((i + 1 : Nat) : Int) :: r := by
  rw [rowsB_succ, rowsB_succ, Nat.min_eq_right (by omega), Nat.min_eq_right (by omega), List.range_succ, List.flatMap_append]
  simp
theorem rowsB_none (g : Nat) : rowsB (g + 1) 0 = [] := by rw [rowsB_succ, Nat.min_zero]; rfl
theorem rowsB_min (g m : Nat) : rowsB (g + 1) (min (g + 1) m) = rowsB (g + 1) m := by
  rw [rowsB_succ, rowsB_succ]
  congr 2
  omega
def minL : List Int → Int
  | [] => 0
  | [x] => x
  | x :: y :: l => min x (minL (y :: l))
theorem minL_mem : ∀ {l : List Int}, l ≠ [] → minL l ∈ l
  | [], h => absurd rfl h
  | [x], _ => List.mem_cons_self
  | x :: y :: l, _ => by
    have := minL_mem (l := y :: l) (by simp)
    show min x (minL (y :: l)) ∈ _
    by_cases h : x ≤ minL (y :: l)
    · rw [Int.min_eq_left h]; exact List.mem_cons_self
    · rw [Int.min_eq_right (by omega)]; exact List.mem_cons_of_mem _ this
theorem minL_le : ∀ {l : List Int}, ∀ y ∈ l, minL l ≤ y
  | [x], y, h => by rw [List.mem_singleton.mp h]; exact Int.le_refl _
  | x :: z :: l, y, h => by
    have ih := minL_le (l := z :: l)
    show min x (minL (z :: l)) ≤ y
    rcases List.mem_cons.mp h with rfl | h
    · exact Int.min_le_left _ _
    · exact Int.le_trans (Int.min_le_right _ _) (ih y h)
theorem minL_one {l : List Int} {m : Int} (h : m ∈ l) (hl : ∀ y ∈ l, m ≤ y) : m = minL l := by
  have h1 := minL_le m h
  have h2 := hl _ (minL_mem (List.ne_nil_of_mem h))
  omega
/-- the greatest height that can follow -/
def topL (g : Int) (r : List Int) : Int := minL ((g - r.sum) :: r.drop (r.length - 1))
def chL (g : Int) (r : List Int) : List (List Int) := (rng 1 (topL g r).toNat).map fun h => r ++ [h]
theorem row_init {r : List Int} {h : Int} (hr : Row (r ++ [h])) : Row r ∧ 1 ≤ h ∧ ∀ y ∈ r.drop (r.length - 1), h ≤ y := by
  have h1 : 1 ≤ h := hr.pos h (by simp)
  have hf : ∀ i, r.getD (i + 1) 0 ≤ r.getD i 0 := fun i => by
    have := hr.falls i
    rw [getD_snoc, getD_snoc] at this
    by_cases q : i + 1 < r.length
    · rw [if_pos q, if_pos (by omega)] at this
      exact this
    · rw [getD_out (i := i + 1) (by omega)]
      by_cases q2 : i < r.length
      · have := hr.pos (r.getD i 0) (List.mem_append_left _ (getD_mem q2)); omega
      · rw [getD_out (by omega)]; omega
  refine ⟨⟨fun n hn => hr.pos n (List.mem_append_left _ hn), hf, ?_⟩, h1, fun y hy => ?_⟩
  · have := hr.sum
    rw [List.sum_append] at this
    simp at this
    omega
  · have hy' := hy
    obtain ⟨j, hj, e⟩ := List.mem_iff_getElem.mp hy
    rw [List.length_drop] at hj
    have hl : 0 < r.length := by omega
    have hj0 : j = 0 := by omega
    subst hj0
    have := hr.falls (r.length - 1)
    rw [getD_snoc, getD_snoc, if_neg (by omega), if_pos (by omega), if_pos (by omega), List.getD_eq_getElem?_getD, List.getElem?_eq_getElem (by omega)] at this
    rw [List.getElem_drop] at e
    simp only [Nat.add_zero] at e
    rw [← e]
    exact this
theorem mem_chL {g : Int} (hg : g ≤ 18) {r q : List Int} (hr : Row r) : q ∈ chL g r ↔ ∃ h, q = r ++ [h] ∧ Row q ∧ q.sum ≤ g := by
  unfold chL topL
  constructor
  · intro hq
    obtain ⟨h, hh, rfl⟩ := List.mem_map.mp hq
    unfold rng at hh
    obtain ⟨i, hi, rfl⟩ := List.mem_map.mp hh
    have hi := List.mem_range.mp hi
    have a1 := minL_le (l := (g - r.sum) :: r.drop (r.length - 1)) (g - r.sum) List.mem_cons_self
    have hs : (r ++ [1 + ((i : Nat) : Int)]).sum = r.sum + (1 + (i : Nat)) := by rw [List.sum_append]; simp
    refine ⟨_, rfl, row_snoc hr (by omega) (fun y hy => ?_) (by omega), by rw [hs]; omega⟩
    have := minL_le (l := (g - r.sum) :: r.drop (r.length - 1)) y (List.mem_cons_of_mem _ hy)
    omega
  · rintro ⟨h, rfl, hq, hs⟩
    obtain ⟨_, h1, h2⟩ := row_init hq
    have hs' : (r ++ [h]).sum = r.sum + h := by rw [List.sum_append]; simp
    have ht : h ≤ minL ((g - r.sum) :: r.drop (r.length - 1)) := by
      rcases List.mem_cons.mp (minL_mem (l := (g - r.sum) :: r.drop (r.length - 1)) (by simp)) with e | e
      · rw [e]; omega
      · exact h2 _ e
    refine List.mem_map.mpr ⟨h, ?_, rfl⟩
    unfold rng
    exact List.mem_map.mpr ⟨(h - 1).toNat, List.mem_range.mpr (by omega), by omega⟩
def lvN (g : Int) : Nat → List (List Int)
  | 0 => [[]]
  | t + 1 => (lvN g t).flatMap (chL g)
theorem mem_lvN {g : Int} (hg : 0 ≤ g ∧ g ≤ 18) : ∀ (t : Nat) (r : List Int), r ∈ lvN g t ↔ Row r ∧ r.sum ≤ g ∧ r.length = t
  | 0, r => by
    show r ∈ [[]] ↔ _
    constructor
    · intro h
      rw [List.mem_singleton.mp h]
      exact ⟨row_nil, by simpa using hg.1, rfl⟩
    · rintro ⟨_, _, h⟩
      rw [List.eq_nil_of_length_eq_zero h]
      exact List.mem_cons_self
  | t + 1, r => by
    show r ∈ (lvN g t).flatMap (chL g) ↔ _
    rw [List.mem_flatMap]
    constructor
    · rintro ⟨q, hq, hr⟩
      obtain ⟨h1, h2, h3⟩ := (mem_lvN hg t q).mp hq
      obtain ⟨h, rfl, h4, h5⟩ := (mem_chL hg.2 h1).mp hr
      exact ⟨h4, h5, by rw [List.length_append, h3]; rfl⟩
    · rintro ⟨h1, h2, h3⟩
      have hne : r ≠ [] := fun z => by rw [z] at h3; simp at h3
      obtain ⟨q, h, rfl⟩ : ∃ q h, r = q ++ [h] := ⟨r.dropLast, r.getLast hne, (List.dropLast_concat_getLast hne).symm⟩
      obtain ⟨i1, i2, i3⟩ := row_init h1
      have hs' : (q ++ [h]).sum = q.sum + h := by rw [List.sum_append]; simp
      exact ⟨q, (mem_lvN hg t _).mpr ⟨i1, by omega, by rw [List.length_append] at h3; simp at h3; omega⟩, (mem_chL hg.2 i1).mpr ⟨h, rfl, h1, h2⟩⟩
theorem nodup_flat {α : Type} (f : α → List (List Int)) : ∀ (l : List α), (∀ a ∈ l, (f a).Nodup) → (l.Pairwise fun a b => ∀ x ∈ f a, ∀ y ∈ f b, x ≠ y) → (l.flatMap f).Nodup
  | [], _, _ => List.Pairwise.nil
  | a :: l, h1, h2 => by
    rw [List.flatMap_cons]
    obtain ⟨q1, q2⟩ := List.pairwise_cons.mp h2
    refine List.nodup_append.mpr ⟨h1 a List.mem_cons_self, nodup_flat f l (fun b hb => h1 b (List.mem_cons_of_mem _ hb)) q2, fun x hx y hy => ?_⟩
    obtain ⟨b, hb, hy⟩ := List.mem_flatMap.mp hy
    exact q1 b hb x hx y hy
theorem nodup_chL (g : Int) (r : List Int) : (chL g r).Nodup := by
  unfold chL rng
  rw [List.map_map]
  refine List.pairwise_map.mpr (List.pairwise_lt_range.imp fun {i j} hij e => ?_)
  have := List.append_inj_right e rfl
  simp at this
  omega
theorem nodup_lvN (g : Int) : ∀ t, (lvN g t).Nodup
  | 0 => List.pairwise_singleton _ _
  | t + 1 => by
    refine nodup_flat _ _ (fun a _ => nodup_chL g a) ((nodup_lvN g t).imp fun {a b} hab x hx y hy e => hab ?_)
    unfold chL at hx hy
    obtain ⟨h, _, rfl⟩ := List.mem_map.mp hx
    obtain ⟨h', _, rfl⟩ := List.mem_map.mp hy
    exact (List.append_inj' e rfl).1
def allFew : List (List Int) := (List.range 19).flatMap rowsL
theorem allFew_len : allFew.length = 1597 := by decide +kernel
theorem mem_allFew {r : List Int} (h : Row r) : r ∈ allFew := by
  obtain ⟨e1, e2⟩ := row_sum_nat h
  exact List.mem_flatMap.mpr ⟨r.sum.toNat, List.mem_range.mpr (by omega), (mem_rowsL e2).mpr ⟨h, e1⟩⟩
theorem lvN_few {g : Int} (hg : 0 ≤ g ∧ g ≤ 18) (t : Nat) : (lvN g t).length ≤ 1597 := by
  rw [← allFew_len]
  exact nodup_sub (nodup_lvN g t) fun r hr => mem_allFew ((mem_lvN hg t r).mp hr).1
theorem flat_take {g : Int} (hg : 0 ≤ g ∧ g ≤ 18) (t i : Nat) : (((lvN g t).take i).flatMap (chL g)).length ≤ 1597 := by
  have h1 := lvN_few hg (t + 1)
  have h2 : (lvN g (t + 1)) = ((lvN g t).take i).flatMap (chL g) ++ ((lvN g t).drop i).flatMap (chL g) := by
    show (lvN g t).flatMap (chL g) = _
    rw [← List.flatMap_append, List.take_append_drop]
  rw [h2, List.length_append] at h1
  omega
theorem row_ones : ∀ {t : Nat}, t ≤ 18 → Row (List.replicate t 1) := fun {t} ht => by
  refine ⟨fun n hn => by rw [List.eq_of_mem_replicate hn]; exact Int.le_refl _, fun i => ?_, ?_⟩
  · rw [List.getD_eq_getElem?_getD, List.getD_eq_getElem?_getD, List.getElem?_replicate, List.getElem?_replicate]
    by_cases h : i + 1 < t
    · rw [if_pos h, if_pos (by omega)]; exact Int.le_refl _
    · rw [if_neg h]
      split <;> simp
  · have : ∀ t : Nat, (List.replicate t (1 : Int)).sum = t := fun t => by
      induction t with
      | zero => rfl
      | succ t ih => rw [List.replicate_succ, List.sum_cons, ih]; omega
    rw [this]
    omega
theorem sum_ones' (t : Nat) : (List.replicate t (1 : Int)).sum = t := by
  induction t with
  | zero => rfl
  | succ t ih => rw [List.replicate_succ, List.sum_cons, ih]; omega
theorem lvN_nil {g : Int} (hg : 0 ≤ g ∧ g ≤ 18) {t : Nat} (h : lvN g t = []) : g < t := by
  by_cases q : (t : Int) ≤ g
  · have : List.replicate t (1 : Int) ∈ lvN g t := (mem_lvN hg t _).mpr ⟨row_ones (by omega), by rw [sum_ones']; exact q, List.length_replicate⟩
    rw [h] at this
    cases this
  · omega
theorem lvN_cons {g : Int} (hg : 0 ≤ g ∧ g ≤ 18) {t : Nat} (h : lvN g t ≠ []) : (t : Int) ≤ g := by
  cases hL : lvN g t with
  | nil => exact absurd hL h
  | cons r l =>
    obtain ⟨h1, h2, h3⟩ := (mem_lvN hg t r).mp (by rw [hL]; exact List.mem_cons_self)
    have := len_le_sum h1.pos
    omega
def fdN (g : Int) : Nat → List (List Int)
  | 0 => []
  | t + 1 => fdN g t ++ (lvN g t).filter fun r => decide (g - r.sum = 0)
theorem mem_fdN {g : Int} (hg : 0 ≤ g ∧ g ≤ 18) : ∀ (t : Nat) (r : List Int), r ∈ fdN g t ↔ Row r ∧ r.sum = g ∧ r.length < t
  | 0, r => by
    show r ∈ [] ↔ _
    constructor
    · intro h; cases h
    · rintro ⟨_, _, h⟩; omega
  | t + 1, r => by
    show r ∈ fdN g t ++ _ ↔ _
    rw [List.mem_append, mem_fdN hg t r, List.mem_filter, mem_lvN hg t r]
    constructor
    · rintro (⟨h1, h2, h3⟩ | ⟨⟨h1, h2, h3⟩, h4⟩)
      · exact ⟨h1, h2, by omega⟩
      · have := of_decide_eq_true h4
        exact ⟨h1, by omega, by omega⟩
    · rintro ⟨h1, h2, h3⟩
      by_cases q : r.length < t
      · exact .inl ⟨h1, h2, q⟩
      · exact .inr ⟨⟨h1, by omega, by omega⟩, decide_eq_true (by omega)⟩
theorem nodup_fdN {g : Int} (hg : 0 ≤ g ∧ g ≤ 18) : ∀ t, (fdN g t).Nodup
  | 0 => List.Pairwise.nil
  | t + 1 => by
    show (fdN g t ++ _).Nodup
    refine List.nodup_append.mpr ⟨nodup_fdN hg t, List.Pairwise.filter _ (nodup_lvN g t), fun a ha b hb e => ?_⟩
    have h1 := ((mem_fdN hg t a).mp ha).2.2
    have h2 := ((mem_lvN hg t b).mp (List.mem_filter.mp hb).1).2.2
    rw [e] at h1
    omega
theorem fdN_few {g : Int} (hg : 0 ≤ g ∧ g ≤ 18) (t : Nat) : (fdN g t).length ≤ 385 := few_rows (g := g) (nodup_fdN hg t) fun r hr => ⟨((mem_fdN hg t r).mp hr).1, ((mem_fdN hg t r).mp hr).2.1⟩
theorem sort_fdN {g : Nat} (hg : g ≤ 18) {t : Nat} (h : lvN (g : Int) t = []) : sortT (fdN (g : Int) t) = rowsL g := by
  have hg' : 0 ≤ (g : Int) ∧ (g : Int) ≤ 18 := by omega
  refine asc_one (sortT_asc (nodup_fdN hg' t)) (asc_rowsB g g) fun r => ?_
  rw [mem_sortT, mem_fdN hg', mem_rowsL hg]
  have := lvN_nil hg' h
  constructor
  · rintro ⟨h1, h2, _⟩; exact ⟨h1, h2⟩
  · rintro ⟨h1, h2⟩
    have := len_le_sum h1.pos
    exact ⟨h1, h2, by omega⟩
/-- a pair of a row and what is left -/
abbrev prL (g : Int) (r : List Int) : PyData := .tuple [tI r, .int (g - r.sum)]
theorem sh_prL {n : Nat} (g : Int) (r : List Int) : Sh (n + 2) (prL g r) := sh_tup (shA_cons (sh_tI (n := n) r) (shA_cons (sh_int _) shA_nil))
theorem eqv_prL (g : Int) (a b : List Int) : PyData.eqv (prL g a) (prL g b) = decide (a = b) := by
  unfold PyData.eqv
  show PyData.eqvAll [tI a, .int (g - a.sum)] [tI b, .int (g - b.sum)] = _
  unfold PyData.eqvAll
  rw [eqv_tI]
  unfold PyData.eqvAll
  rw [eqv_int]
  unfold PyData.eqvAll
  by_cases h : a = b
  · subst h; simp
  · simp [h]
theorem rd_nePr {K : PySem.W.Frag} {g : Int} {a b : List (List Int)} : RV (L2.rNeD K) (.list (a.map (prL g))) (.list (b.map (prL g))) (.bool (!decide (a = b))) := by
  have e : PyData.eqv (.list (a.map (prL g))) (.list (b.map (prL g))) = decide (a = b) := by unfold PyData.eqv; exact eqvAll_map (eqv_prL g) a b
  rw [← e]
  exact rd_neD (sh_lst (shA_map (fun r => sh_prL (n := 0) g r) a)).shp (sh_lst (shA_map (fun r => sh_prL (n := 0) g r) b)).shp
end Sr
namespace Sr
open PySem Pd
/-- all ends of g grains -/
def endsL (s : Int) (g : Nat) : List (List Int) := (rowsL g).filter fun r => decide (placesL s r = [])
end Sr
namespace Sr
open PySem Pd
theorem mem_endsL {s : Int} {g : Nat} (hg : g ≤ 18) {r : List Int} : r ∈ endsL s g ↔ (Row r ∧ r.sum = (g : Int)) ∧ freeN s r = [] := by
  unfold endsL
  rw [List.mem_filter, mem_rowsL hg]
  exact and_congr Iff.rfl (decide_eq_true_iff.trans places_nil)
theorem endsL_few {s : Int} {g : Nat} (hg : g ≤ 18) : (endsL s g).length ≤ 385 := Nat.le_trans (List.length_filter_le _ _) (rows_few hg)
theorem rea_end {s : Int} {r : List Int} (hs : 2 ≤ s) (hr : Row r) (h : freeN s r = []) : reaL s r = [r] :=
  (Rea.eq hs hr (rea_of (List.pairwise_singleton _ _) List.mem_cons_self (fun q hq p hp => by rw [List.mem_singleton.mp hq, h] at hp; cases hp) (fun q hq => by rw [List.mem_singleton.mp hq]; exact Rch.refl _ _))).symm
theorem heap_sum {g : Nat} : (heapL (g : Int)).sum = (g : Int) := by
  unfold heapL
  split
  · simp
  · simp; omega
theorem end_in_ends {s : Int} {r : List Int} {g : Nat} (hs : 2 ≤ s) (hr : Row r) (hg : r.sum = (g : Int)) (hg18 : g ≤ 18) : endL s r ∈ endsL s g :=
  (mem_endsL hg18).mpr ⟨⟨hr.end hs, by rw [← hg]; exact (rch_end s r).sum⟩, end_free hr hs⟩
end Sr
set_option Elab.async false
set_option linter.all false
set_option maxRecDepth 100000
set_option maxHeartbeats 1000000
/-! Rows that lead to a row. -/
namespace Sr
open PySem Pd
/-- a slide of r leads to ns -/
def stepB (s : Int) (r ns : List Int) : Bool := (freeN s r).any fun p => decide (mv r p = ns)
theorem stepB_iff {s : Int} {r ns : List Int} : stepB s r ns = true ↔ ∃ p ∈ freeN s r, mv r p = ns := by
  unfold stepB
  rw [List.any_eq_true]
  constructor
  · rintro ⟨p, h1, h2⟩; exact ⟨p, h1, of_decide_eq_true h2⟩
  · rintro ⟨p, h1, h2⟩; exact ⟨p, h1, decide_eq_true h2⟩
def befL (s : Int) (ns : List Int) : List (List Int) := (rowsL ns.sum.toNat).filter fun r => stepB s r ns
theorem mem_befL {s : Int} {ns r : List Int} (hn : Row ns) : r ∈ befL s ns ↔ Row r ∧ ∃ p ∈ freeN s r, mv r p = ns := by
  obtain ⟨e1, e2⟩ := row_sum_nat hn
  unfold befL
  rw [List.mem_filter, mem_rowsL e2, stepB_iff]
  constructor
  · rintro ⟨⟨h1, _⟩, h2⟩; exact ⟨h1, h2⟩
  · rintro ⟨h1, p, hp, h2⟩
    refine ⟨⟨h1, ?_⟩, p, hp, h2⟩
    rw [← e1, ← h2, sum_mv (mem_freeN.mp hp).1]
theorem befL_asc (s : Int) (ns : List Int) : Asc (befL s ns) := List.Pairwise.filter _ (asc_rowsB _ _)
theorem befL_few {s : Int} {ns : List Int} (hn : Row ns) : (befL s ns).length ≤ 385 := Nat.le_trans (List.length_filter_le _ _) (rows_few (row_sum_nat hn).2)
/-- a slide taken back -/
def bwS (ns : List Int) (p : Nat) : List Int := (ns.set p (ns.getD p 0 + 1)).set (p + 1) (ns.getD (p + 1) 0 - 1)
def bwN (ns : List Int) (p : Nat) : List Int := (bwS ns p).filter fun n => decide (0 < n)
def bwB (s : Int) (ns : List Int) (p : Nat) : Bool := fallsB (bwN ns p) && (decide (((p : Nat) : Int) ∈ placesL s (bwN ns p)) && decide (mv (bwN ns p) p = ns))
def bwL (s : Int) (ns : List Int) (i : Nat) : List (List Int) := ((List.range i).filter (bwB s ns)).map (bwN ns)
theorem mem_places {s : Int} {ns : List Int} {p : Nat} : ((p : Nat) : Int) ∈ placesL s ns ↔ p ∈ freeN s ns := by
  unfold placesL
  rw [List.mem_map]
  constructor
  · rintro ⟨j, hj, e⟩
    have : j = p := by omega
    rw [← this]; exact hj
  · exact fun h => ⟨p, h, rfl⟩
theorem bwN_pos {ns : List Int} {p : Nat} : ∀ n ∈ bwN ns p, 1 ≤ n := fun n hn => by
  have := of_decide_eq_true (List.mem_filter.mp hn).2
  omega
theorem falls_of {r : List Int} (hp : ∀ n ∈ r, 1 ≤ n) (h : fallsB r = true) : ∀ i, r.getD (i + 1) 0 ≤ r.getD i 0 := fun i => by
  unfold fallsB at h
  rw [List.all_eq_true] at h
  by_cases q : i + 1 < r.length
  · exact of_decide_eq_true (h i (List.mem_range.mpr (by omega)))
  · rw [getD_out (i := i + 1) (by omega)]
    by_cases q2 : i < r.length
    · have := hp _ (getD_mem q2); omega
    · rw [getD_out (by omega)]; omega
theorem eq_of_getD {a b : List Int} (hl : a.length = b.length) (h : ∀ i, a.getD i 0 = b.getD i 0) : a = b := by
  apply List.ext_getElem hl
  intro i h1 h2
  have := h i
  rw [List.getD_eq_getElem?_getD, List.getD_eq_getElem?_getD, List.getElem?_eq_getElem h1, List.getElem?_eq_getElem h2] at this
  exact this
theorem bw_mv {s : Int} {r : List Int} {p : Nat} (hr : Row r) (hs : 2 ≤ s) (hp : p ∈ freeN s r) : bwN (mv r p) p = r ∧ p + 1 < (mv r p).length := by
  have hpl := (mem_freeN.mp hp).1
  have hl := len_mv hpl
  have hp1 : p + 1 < (mv r p).length := by rw [hl]; omega
  refine ⟨?_, hp1⟩
  have hL : ∀ i, (bwS (mv r p) p).getD i 0 = r.getD i 0 := fun i => by
    unfold bwS
    rw [getD_set _ _ _ _ (by rw [List.length_set]; exact hp1), getD_set _ _ _ _ (by omega), ht_mv hpl, ht_mv hpl, ht_mv hpl]
    by_cases h1 : i = p + 1
    · subst h1; simp
    · rw [if_neg h1]
      by_cases h2 : i = p
      · subst h2; simp
      · rw [if_neg h2]; simp [h1, h2]
  have hlen : (bwS (mv r p) p).length = (mv r p).length := by unfold bwS; rw [List.length_set, List.length_set]
  have fp : r.filter (fun n => decide (0 < n)) = r := List.filter_eq_self.mpr fun n hn => decide_eq_true (by have := hr.pos n hn; omega)
  unfold bwN
  by_cases q : p + 1 < r.length
  · rw [eq_of_getD (b := r) (by rw [hlen, hl]; omega) hL, fp]
  · have e : bwS (mv r p) p = r ++ [0] := eq_of_getD (by rw [hlen, hl, List.length_append]; simp; omega) fun i => by rw [hL, getD_app0]
    rw [e, List.filter_append, fp]
    simp
theorem mem_bwL {s : Int} {ns : List Int} (hs : 2 ≤ s) (hn : Row ns) (r : List Int) : r ∈ bwL s ns (ns.length - 1) ↔ Row r ∧ ∃ p ∈ freeN s r, mv r p = ns := by
  unfold bwL
  rw [List.mem_map]
  constructor
  · rintro ⟨p, hp, rfl⟩
    have hb := (List.mem_filter.mp hp).2
    unfold bwB at hb
    rw [Bool.and_eq_true, Bool.and_eq_true] at hb
    obtain ⟨h1, h2, h3⟩ := hb
    have h2 := mem_places.mp (of_decide_eq_true h2)
    have h3 := of_decide_eq_true h3
    refine ⟨⟨bwN_pos, falls_of bwN_pos h1, ?_⟩, p, h2, h3⟩
    have := sum_mv (mem_freeN.mp h2).1
    rw [h3] at this
    rw [← this]
    exact hn.sum
  · rintro ⟨h1, p, hp, rfl⟩
    obtain ⟨e, hl⟩ := bw_mv h1 hs hp
    refine ⟨p, List.mem_filter.mpr ⟨List.mem_range.mpr (by omega), ?_⟩, e⟩
    unfold bwB
    rw [e, decide_eq_true rfl, decide_eq_true (mem_places.mpr hp), Bool.and_true, Bool.and_true]
    unfold fallsB
    rw [List.all_eq_true]
    intro i _
    exact decide_eq_true (h1.falls i)
theorem nodup_bwL (s : Int) (ns : List Int) (i : Nat) : (bwL s ns i).Nodup := by
  unfold bwL
  refine List.pairwise_map.mpr ?_
  have hn : ((List.range i).filter (bwB s ns)).Nodup := nodup_range_filter i _
  refine List.Pairwise.imp_of_mem (fun {p q} hp hq hpq e => hpq ?_) hn
  have h1 := (List.mem_filter.mp hp).2
  have h2 := (List.mem_filter.mp hq).2
  unfold bwB at h1 h2
  rw [Bool.and_eq_true, Bool.and_eq_true] at h1 h2
  have a1 := mem_freeN.mp (mem_places.mp (of_decide_eq_true h1.2.1))
  have b1 := of_decide_eq_true h1.2.2
  have a2 := mem_freeN.mp (mem_places.mp (of_decide_eq_true h2.2.1))
  have b2 := of_decide_eq_true h2.2.2
  rw [← e] at a2 b2
  have hh : (mv (bwN ns p) p).getD p 0 = (mv (bwN ns p) q).getD p 0 := by rw [b1, b2]
  rw [ht_mv a1.1, ht_mv a2.1] at hh
  by_cases z : p = q
  · exact z
  · exfalso
    rw [if_pos rfl, if_neg (show ¬ p = p + 1 by omega), if_neg z] at hh
    by_cases z2 : p = q + 1
    · rw [if_pos z2] at hh; omega
    · rw [if_neg z2] at hh; omega
theorem bwL_few {s : Int} {ns : List Int} (i : Nat) : (bwL s ns i).length ≤ i := by
  unfold bwL
  rw [List.length_map]
  have := List.length_filter_le (bwB s ns) (List.range i)
  rw [List.length_range] at this
  exact this
theorem sort_bwL {s : Int} {ns : List Int} (hs : 2 ≤ s) (hn : Row ns) : sortT (bwL s ns (ns.length - 1)) = befL s ns :=
  asc_one (sortT_asc (nodup_bwL s ns _)) (befL_asc s ns) fun r => mem_sortT.trans ((mem_bwL hs hn r).trans (mem_befL hn).symm)
def orphL (s : Int) (g : Nat) : List (List Int) := (rowsL g).filter fun r => decide (befL s r = [])
def startsL (s : Int) (e : List Int) : List (List Int) := (rowsL e.sum.toNat).filter fun r => decide (endL s r = e)
end Sr
namespace Sr
open PySem Pd
def datL : PyData → List PyData
  | .tuple ds => ds
  | _ => []
theorem steep_of {d : PyData} (h : isWhole d 2 4 = true) : ∃ st : Int, d = .int st ∧ 2 ≤ st ∧ st ≤ 4 := by
  cases d with
  | int i => exact ⟨i, rfl, by unfold isWhole at h; simpa using h⟩
  | _ => cases h
theorem row_of_is {d : PyData} (h : isRowD d = true) : ∃ ns : List Int, d = tI ns ∧ Row ns := by
  cases d with
  | tuple ds =>
    have h' : (decide (ds.length ≤ 18) && ds.all (isWhole · 1 18) && (decide ((ds.map toI).sum ≤ 18) && fallsB (ds.map toI))) = true := h
    rw [Bool.and_eq_true, Bool.and_eq_true, Bool.and_eq_true] at h'
    obtain ⟨⟨h1, h2⟩, h3, h4⟩ := h'
    obtain ⟨ns, rfl⟩ := ints_of_whole h2
    rw [map_toI] at h3 h4
    have hp : ∀ n ∈ ns, 1 ≤ n := fun n hn => by
      have := List.all_eq_true.mp h2 (.int n) (List.mem_map.mpr ⟨n, hn, rfl⟩)
      unfold isWhole at this
      simp at this
      exact this.1
    exact ⟨ns, rfl, hp, falls_of hp h4, of_decide_eq_true h3⟩
  | _ => cases h
end Sr
namespace Sr
open PySem Pd
theorem mem_cut {α : Type} {xs : List α} {l u : Option Int} {x : α} (h : x ∈ cutD xs l u) : x ∈ xs := List.mem_of_mem_drop (List.mem_of_mem_take h)
theorem len_cut {α : Type} {xs : List α} {l u : Option Int} : (cutD xs l u).length ≤ xs.length := by
  unfold cutD
  rw [List.length_take, List.length_drop]
  omega
theorem mem_startsL {s : Int} {e r : List Int} (he : Row e) : r ∈ startsL s e ↔ (Row r ∧ r.sum = e.sum) ∧ endL s r = e := by
  obtain ⟨e1, e2⟩ := row_sum_nat he
  unfold startsL
  rw [List.mem_filter, mem_rowsL e2, ← e1]
  exact and_congr Iff.rfl decide_eq_true_iff
theorem sum_one_of {e : List Int} : ∀ {E : List (List Int)}, E.Nodup → e ∈ E → (E.map fun x => if e = x then (1 : Int) else 0).sum = 1
  | [], _, h => by cases h
  | a :: E, hn, h => by
    obtain ⟨n1, n2⟩ := List.nodup_cons.mp hn
    rw [List.map_cons, List.sum_cons]
    by_cases q : e = a
    · subst q
      rw [if_pos rfl]
      have : (E.map fun x => if e = x then (1 : Int) else 0).sum = 0 := by
        have z : (E.map fun x => if e = x then (1 : Int) else 0) = E.map fun _ => (0 : Int) := List.map_congr_left fun x hx => if_neg fun z => n1 (by rw [z]; exact hx)
        rw [z]
        clear h hn n1 n2 z
        induction E with
        | nil => rfl
        | cons b E ih => rw [List.map_cons, List.sum_cons, ih]; rfl
      omega
    · rw [if_neg q, sum_one_of n2 ((List.mem_cons.mp h).resolve_left q)]
      omega
/-- what lies under the ends, counted -/
theorem sum_fibers (f : List Int → List Int) {E : List (List Int)} (hn : E.Nodup) : ∀ {L : List (List Int)}, (∀ r ∈ L, f r ∈ E) → (E.map fun e => (((L.filter fun r => decide (f r = e)).length : Nat) : Int)).sum = (L.length : Nat)
  | [], _ => by
    show (E.map fun _ => (0 : Int)).sum = 0
    clear hn
    induction E with
    | nil => rfl
    | cons b E ih => rw [List.map_cons, List.sum_cons, ih (fun r hr => by cases hr)]; rfl
  | a :: L, h => by
    have ih := sum_fibers f hn (L := L) fun r hr => h r (List.mem_cons_of_mem _ hr)
    have e : (E.map fun e => ((((a :: L).filter fun r => decide (f r = e)).length : Nat) : Int)) = E.map fun e => (((L.filter fun r => decide (f r = e)).length : Nat) : Int) + (if f a = e then (1 : Int) else 0) := by
      refine List.map_congr_left fun e _ => ?_
      by_cases q : f a = e
      · rw [List.filter_cons_of_pos (by simpa using q), if_pos q, List.length_cons]; omega
      · rw [List.filter_cons_of_neg (by simpa using q), if_neg q]; omega
    rw [e, sum_map_add, ih, sum_one_of hn (h a List.mem_cons_self), List.length_cons]
    omega
theorem endsL_nodup (s : Int) (g : Nat) : (endsL s g).Nodup := Asc.nodup (List.Pairwise.filter _ (asc_rowsB _ _))
theorem sum_starts {s : Int} {g : Nat} (hs : 2 ≤ s) (hg : g ≤ 18) : ((endsL s g).map fun e => (((startsL s e).length : Nat) : Int)).sum = ((rowsL g).length : Nat) := by
  rw [← sum_fibers (endL s) (endsL_nodup s g) (L := rowsL g) fun r hr => by
    obtain ⟨h1, h2⟩ := (mem_rowsL hg).mp hr
    exact end_in_ends hs h1 h2 hg]
  congr 1
  refine List.map_congr_left fun e he => ?_
  have := ((mem_endsL hg).mp he).1.2
  unfold startsL
  rw [this]
  simp
end Sr
namespace Sr
open PySem Pd
theorem mem_mvs {s : Int} {r ns : List Int} : ns ∈ (freeN s r).map (mv r) ↔ stepB s r ns = true := by
  rw [stepB_iff, List.mem_map]
theorem bef_nil (s : Int) : befL s [] = [] := by
  show (rowsL 0).filter _ = []
  rw [show rowsL 0 = [[]] from rowsB_zero 0]
  rfl
theorem bef_heap {s x : Int} (h : Row [x]) : befL s [x] = [] := by
  rw [List.eq_nil_iff_forall_not_mem]
  intro r hr
  obtain ⟨_, p, hp, e⟩ := (mem_befL h).mp hr
  have := len_mv (mem_freeN.mp hp).1
  rw [e] at this
  simp at this
  omega
theorem mem_orphL {s : Int} {g : Nat} (hg : g ≤ 18) {r : List Int} : r ∈ orphL s g ↔ (Row r ∧ r.sum = (g : Int)) ∧ befL s r = [] := by
  unfold orphL
  rw [List.mem_filter, mem_rowsL hg]
  exact and_congr Iff.rfl decide_eq_true_iff
theorem orphL_few {s : Int} {g : Nat} (hg : g ≤ 18) : (orphL s g).length ≤ 385 := Nat.le_trans (List.length_filter_le _ _) (rows_few hg)
end Sr
namespace Sr
open PySem Pd
def insF (F : List (List Int)) (k : List Int) : List (List Int) := if k ∈ F then F else F ++ [k]
theorem putD_ins (F : List (List Int)) (k : List Int) : putD (dR F) k (.bool true) = dR (insF F k) := by
  unfold insF
  by_cases h : k ∈ F
  · rw [if_pos h]
    unfold putD
    rw [if_pos]
    · unfold dR
      rw [List.map_map]
      refine List.map_congr_left fun r _ => ?_
      show (if r = k then (r, PyData.bool true) else (r, PyData.bool true)) = _
      split <;> rfl
    · exact List.any_eq_true.mpr ⟨(k, .bool true), List.mem_map.mpr ⟨k, h, rfl⟩, decide_eq_true rfl⟩
  · rw [if_neg h, putD_dR h]
theorem mem_insF {F : List (List Int)} {k x : List Int} : x ∈ insF F k ↔ x ∈ F ∨ x = k := by
  unfold insF
  split
  · rename_i h
    exact ⟨.inl, fun z => z.elim id fun e => e ▸ h⟩
  · rw [List.mem_append, List.mem_singleton]
theorem nodup_insF {F : List (List Int)} {k : List Int} (h : F.Nodup) : (insF F k).Nodup := by
  unfold insF
  split
  · exact h
  · rename_i hk
    exact List.nodup_append.mpr ⟨h, List.pairwise_singleton _ _, fun a ha b hb e => hk (by rw [← List.mem_singleton.mp hb, ← e]; exact ha)⟩
theorem free_mono {s t : Int} {r : List Int} {p : Nat} (h : s ≤ t) (hp : p ∈ freeN t r) : p ∈ freeN s r := by
  obtain ⟨h1, h2⟩ := mem_freeN.mp hp
  exact mem_freeN.mpr ⟨h1, by omega⟩
theorem orph_mono {s t : Int} {g : Nat} (hg : g ≤ 18) (h : s ≤ t) {r : List Int} (hr : r ∈ orphL s g) : r ∈ orphL t g := by
  obtain ⟨h1, h2⟩ := (mem_orphL hg).mp hr
  refine (mem_orphL hg).mpr ⟨h1, List.eq_nil_iff_forall_not_mem.mpr fun q hq => ?_⟩
  obtain ⟨q1, p, hp, e⟩ := (mem_befL h1.1).mp hq
  have : q ∈ befL s r := (mem_befL h1.1).mpr ⟨q1, p, free_mono h hp, e⟩
  rw [h2] at this
  cases this
theorem bef_none {s : Int} {g : Nat} (hg : g ≤ 18) {r : List Int} (hr : Row r) (hs : r.sum = (g : Int)) : befL s r = [] ↔ ¬ ∃ q ∈ rowsL g, stepB s q r = true := by
  rw [List.eq_nil_iff_forall_not_mem]
  constructor
  · rintro h ⟨q, hq, hb⟩
    exact h q ((mem_befL hr).mpr ⟨((mem_rowsL hg).mp hq).1, stepB_iff.mp hb⟩)
  · rintro h q hq
    obtain ⟨q1, p, hp, e⟩ := (mem_befL hr).mp hq
    exact h ⟨q, (mem_rowsL hg).mpr ⟨q1, by rw [← hs, ← e, sum_mv (mem_freeN.mp hp).1]⟩, stepB_iff.mpr ⟨p, hp, e⟩⟩
end Sr
namespace Sr
open PySem Pd
theorem Pth.mono {s t : Int} (h : s ≤ t) : ∀ {l : List Nat} {a e : List Int}, Pth t a l e → Pth s a l e
  | [], _, _, r => by cases r; exact .nil _
  | p :: l, _, _, r => by
    cases r with
    | cons hp r => exact .cons (free_mono h hp) (Pth.mono h r)
theorem Rch.mono {s t : Int} (h : s ≤ t) {a e : List Int} (r : Rch t a e) : Rch s a e := by
  obtain ⟨l, r⟩ := r
  exact ⟨l, r.mono h⟩
end Sr
namespace Sr
open PySem PySem.Spec PyProof.Rows L2 Pd
section
variable {X : Cx} {ρ : List Sl} {pos : Pos} {tg e : Expr} {st : Int} {ns : List Int}
theorem places_map (st : Int) (ns : List Int) : (placesL st ns).map PyData.int = (freeN st ns).map fun p => PyData.int ((p : Nat) : Int) := by unfold placesL; rw [List.map_map]; rfl
theorem i_freeL (h : XV X e ρ (lI (placesL st ns))) : IX X tg e ρ ((freeN st ns).map fun p => PyData.int ((p : Nat) : Int)) := by
  have := i_list (tg := tg) h
  rwa [places_map] at this
theorem i_freeT (h : XV X e ρ (tI (placesL st ns))) : IX X tg e ρ ((freeN st ns).map fun p => PyData.int ((p : Nat) : Int)) := by
  have := i_tup (tg := tg) h
  rwa [places_map] at this
theorem free_few {r : List Int} (h : Row r) : (freeN st r).length ≤ 18 := by
  have h1 := List.length_filter_le (fun i => decide (st ≤ r.getD i 0 - r.getD (i + 1) 0)) (List.range r.length)
  rw [List.length_range] at h1
  have := h.len
  unfold freeN
  omega
end
end Sr
namespace Sr
open PySem Pd
/-- the first way, step by step -/
noncomputable def fwF (s : Int) (o a : List Int) (p : Nat) : Bool := @decide (o ∈ reaL s (mv a p)) inferInstance
inductive FWs (s : Int) (o : List Int) : List Int → List Nat → List Int → Prop
  | nil (a : List Int) : FWs s o a [] a
  | cons {a b : List Int} {p : Nat} {l rest : List Nat} : a ≠ o → (freeN s a).filter (fwF s o a) = p :: rest → FWs s o (mv a p) l b → FWs s o a (p :: l) b
theorem FWs.app {s : Int} {o : List Int} : ∀ {l m : List Nat} {a b c : List Int}, FWs s o a l b → FWs s o b m c → FWs s o a (l ++ m) c
  | [], _, _, _, _, h, h2 => by cases h; exact h2
  | p :: l, _, _, _, _, h, h2 => by
    cases h with
    | cons h0 h1 h => exact .cons h0 h1 (FWs.app h h2)
theorem fw_mem {s : Int} {o a : List Int} {p : Nat} {rest : List Nat} (h : (freeN s a).filter (fwF s o a) = p :: rest) : p ∈ freeN s a ∧ o ∈ reaL s (mv a p) := by
  have : p ∈ (freeN s a).filter (fwF s o a) := by rw [h]; exact List.mem_cons_self
  obtain ⟨h1, h2⟩ := List.mem_filter.mp this
  exact ⟨h1, of_decide_eq_true h2⟩
theorem FWs.pth {s : Int} {o : List Int} : ∀ {l : List Nat} {a b : List Int}, FWs s o a l b → Pth s a l b
  | [], _, _, h => by cases h; exact .nil _
  | p :: l, _, _, h => by
    cases h with
    | cons h0 h1 h => exact .cons (fw_mem h1).1 (FWs.pth h)
theorem FWs.one {s : Int} {o : List Int} : ∀ {l l' : List Nat} {a : List Int}, FWs s o a l o → FWs s o a l' o → l = l'
  | [], [], _, _, _ => rfl
  | [], _ :: _, _, h, h' => by
    cases h
    cases h' with
    | cons h0 _ _ => exact absurd rfl h0
  | _ :: _, [], _, h, h' => by
    cases h'
    cases h with
    | cons h0 _ _ => exact absurd rfl h0
  | p :: l, q :: l', _, h, h' => by
    cases h with
    | cons h0 h1 h =>
      cases h' with
      | cons g0 g1 g =>
        rw [h1] at g1
        cases g1
        rw [FWs.one h g]
theorem fw_some {s : Int} (hs : 2 ≤ s) {o a : List Int} (ha : Row a) (h : o ∈ reaL s a) (hne : a ≠ o) : ∃ p rest, (freeN s a).filter (fwF s o a) = p :: rest := by
  obtain ⟨l, r⟩ := (mem_reaL hs ha).mp h
  cases r with
  | nil => exact absurd rfl hne
  | @cons _ _ p l hp r =>
    have hm : p ∈ (freeN s a).filter (fwF s o a) := List.mem_filter.mpr ⟨hp, decide_eq_true ((mem_reaL hs (ha.mv hs hp)).mpr ⟨l, r⟩)⟩
    cases hf : (freeN s a).filter (fwF s o a) with
    | nil => rw [hf] at hm; cases hm
    | cons q rest => exact ⟨q, rest, rfl⟩
end Sr
namespace Sr
open PySem Pd
/-! ### a dict of rows with their ends -/
abbrev dM (F : List (List Int × List Int)) : List (List Int × PyData) := F.map fun p => (p.1, tI p.2)
theorem getK_dM (F : List (List Int × List Int)) (k : List Int) : getK (dM F) k = ((F.find? fun p => decide (p.1 = k)).map fun p => tI p.2) := by
  unfold getK dM
  rw [List.find?_map]
  show ((F.find? _).map _).map _ = _
  rw [Option.map_map]
  rfl
theorem getK_dM_none {F : List (List Int × List Int)} {k : List Int} (h : k ∉ F.map (·.1)) : (getK (dM F) k).isSome = false := by
  rw [getK_dM]
  have : (F.find? fun p => decide (p.1 = k)) = none := List.find?_eq_none.mpr fun p hp e => h (List.mem_map.mpr ⟨p, hp, of_decide_eq_true e⟩)
  rw [this]
  rfl
theorem getK_dM_some {f : List Int → List Int} {L : List (List Int)} {k : List Int} (h : k ∈ L) : getK (dM (L.map fun r => (r, f r))) k = some (tI (f k)) := by
  rw [getK_dM]
  have : ∃ p, ((L.map fun r => (r, f r)).find? fun p => decide (p.1 = k)) = some p := by
    cases q : ((L.map fun r => (r, f r)).find? fun p => decide (p.1 = k)) with
    | some p => exact ⟨p, rfl⟩
    | none =>
      have := List.find?_eq_none.mp q (k, f k) (List.mem_map.mpr ⟨k, h, rfl⟩)
      simp at this
  obtain ⟨p, hp⟩ := this
  rw [hp]
  have h1 := List.find?_some hp
  have h2 := List.mem_of_find?_eq_some hp
  obtain ⟨r, _, rfl⟩ := List.mem_map.mp h2
  have : r = k := of_decide_eq_true h1
  subst this
  rfl
theorem putD_dM {F : List (List Int × List Int)} {k v : List Int} (h : k ∉ F.map (·.1)) : putD (dM F) k (tI v) = dM (F ++ [(k, v)]) := by
  unfold putD
  rw [if_neg]
  · unfold dM; rw [List.map_append]; rfl
  · intro z
    obtain ⟨p, hp, e⟩ := List.any_eq_true.mp z
    obtain ⟨r, hr, rfl⟩ := List.mem_map.mp hp
    exact h (List.mem_map.mpr ⟨r, hr, of_decide_eq_true e⟩)
/-- each end has an orphan among its starts -/
theorem start_orphan {s : Int} (hs : 2 ≤ s) {e : List Int} (he : Row e) (hf : freeN s e = []) : ∃ r ∈ startsL s e, befL s r = [] := by
  have key : ∀ (n : Nat) (r : List Int), r ∈ startsL s e → 400 - sq r ≤ n → ∃ q ∈ startsL s e, befL s q = [] := by
    intro n
    induction n with
    | zero =>
      intro r hr hn
      have := sq_row ((mem_startsL he).mp hr).1.1
      omega
    | succ n ih =>
      intro r hr hn
      by_cases hb : befL s r = []
      · exact ⟨r, hr, hb⟩
      · obtain ⟨q, hq⟩ := List.exists_mem_of_ne_nil _ hb
        obtain ⟨⟨r1, r2⟩, r3⟩ := (mem_startsL he).mp hr
        obtain ⟨q1, p, hp, e1⟩ := (mem_befL r1).mp hq
        have hlt := sq_free q1 hs hp
        rw [e1] at hlt
        have h1 := sq_row q1
        refine ih q ((mem_startsL he).mpr ⟨⟨q1, ?_⟩, ?_⟩) (by omega)
        · rw [← r2, ← e1, sum_mv (mem_freeN.mp hp).1]
        · rw [← end_mv hs q1 hp, e1, r3]
  exact key 400 e ((mem_startsL he).mpr ⟨⟨he, rfl⟩, end_self hf⟩) (by omega)
/-- of the rows from one heap, the heap alone is an orphan -/
theorem rea_single {s x : Int} (hs : 2 ≤ s) (hx : Row [x]) : (reaL s [x]).filter (fun r => decide (befL s r = [])) = [[x]] := by
  refine asc_one (List.Pairwise.filter _ (reaL_rea hs hx).asc) (List.pairwise_singleton _ _) fun r => ?_
  rw [List.mem_filter, List.mem_singleton, mem_reaL hs hx]
  constructor
  · rintro ⟨⟨l, h1⟩, h2⟩
    have h2 := of_decide_eq_true h2
    rcases List.eq_nil_or_concat l with hl | ⟨m, p, hl⟩
    · subst hl; cases h1; rfl
    · exfalso
      have : ∀ {m : List Nat} {a e : List Int}, Pth s a (m ++ [p]) e → Row a → ∃ b, Row b ∧ p ∈ freeN s b ∧ mv b p = e := by
        intro m
        induction m with
        | nil =>
          intro a e h ha
          cases h with
          | cons hp r => cases r; exact ⟨a, ha, hp, rfl⟩
        | cons q m ih =>
          intro a e h ha
          cases h with
          | cons hp r => exact ih r (ha.mv hs hp)
      rw [hl, List.concat_eq_append] at h1
      obtain ⟨b, b1, b2, b3⟩ := this h1 hx
      have hr : Row r := by rw [← b3]; exact b1.mv hs b2
      have := (mem_befL hr).mpr ⟨b1, p, b2, b3⟩
      rw [h2] at this
      cases this
  · rintro rfl
    exact ⟨Rch.refl _ _, decide_eq_true (bef_heap hx)⟩
end Sr
set_option Elab.async false
set_option linter.all false
set_option maxRecDepth 100000
set_option maxHeartbeats 1000000
/-! d != {}, d a dict of rows. -/
namespace PySem.W
open PySem PySem.Calls PyProof.Rows PyProof.V PySem.Spec
section
variable {prog : Program} {w : World} {A : Around} {E : Value → Shared → Prop} {s : Shared}
theorem same_nil {nm : String} {a b : Addr} {oa ob : Obj} {es es' : Array DictEntry} {ep ep' : Nat} {Q : Bool → Shared → Prop} (ha : (a == sysModules) = false) (hb : (b == sysModules) = false) (hoa : s.heap.get? a = some oa) (hda : oa.data = .dict es ep) (hob : s.heap.get? b = some ob) (hdb : ob.data = .dict es' ep') (h0 : es'.size = 0) (h : Q (decide (es.size = 0)) s) :
    wpAny (model prog w) A (Builtin.Dict.samePairs nm a b) Q E s := by
  unfold Builtin.Dict.samePairs Builtin.Dict.showsAll
  rw [if_neg (show ¬ (a == sysModules) = true by rw [ha]; exact Bool.false_ne_true), if_neg (show ¬ (b == sysModules) = true by rw [hb]; exact Bool.false_ne_true)]
  refine wpAny_bind (wpAny_pure (wpAny_bind (wpAny_pure ?_)))
  refine wpAny_bind (wpAny_dictEntries hoa hda ?_)
  dsimp only
  refine wpAny_bind (wpAny_dictEntries hob hdb ?_)
  by_cases hsz : es.size = es'.size
  case neg =>
    rw [if_pos (by simpa using hsz)]
    rw [decide_eq_false (by omega)] at h
    exact wpAny_bind (wpAny_rule (wpAny_pure h))
  case pos =>
    rw [decide_eq_true (by omega)] at h
    rw [if_neg (by rw [hsz]; simp)]
    refine wpAny_bind (wpAny_dictEpoch hoa hda ?_)
    refine wpAny_bind ?_
    rw [Std.Legacy.Range.forIn_eq_forIn_range']
    simp only [Std.Legacy.Range.size, Nat.sub_zero, Nat.add_sub_cancel, Nat.div_one]
    have e0 : es.size = 0 := by omega
    rw [e0]
    show wpAny _ _ (forIn (List.range' 0 0) _ _) _ _ _
    rw [List.range'_zero, List.forIn_nil]
    exact wpAny_pure (wpAny_pure h)
theorem ne_nil {a b : Addr} {oa ob : Obj} {es es' : Array DictEntry} {ep ep' : Nat} {Q : Value → Shared → Prop} (ha : (a == sysModules) = false) (hb : (b == sysModules) = false) (hoa : s.heap.get? a = some oa) (hxa : oa.cls = .type "dict") (hda : oa.data = .dict es ep) (hob : s.heap.get? b = some ob) (hxb : ob.cls = .type "dict") (hdb : ob.data = .dict es' ep') (h0 : es'.size = 0) (hu : A.units < cLine) (h : Q (.bool (!decide (es.size = 0))) s) :
    wpAny (model prog w) A (compareOp .NotEq (.ref a) (.ref b)) Q E s := by
  have ta : s.TypeIs (.ref a) "dict" := ⟨_, hoa, hxa⟩
  have tb : s.TypeIs (.ref b) "dict" := ⟨_, hob, hxb⟩
  refine wpAny_richCompare_same_room (op := .NotEq) ta tb PySem.F.slot_dict_ne (wpAny_call_entry PySem.F.slot_dict_ne ta PySem.F.entry_dict_ne ?_ (PySem.F.args_dict_ne_2 _ _)) hu
  show wpAny _ _ (Builtin.Dict.dictSlotArgs "__ne__" ⟨[.ref a, .ref b], []⟩ >>= _) _ _ s
  refine wpAny_bind ?_
  unfold Builtin.Dict.dictSlotArgs
  refine wpAny_bind (wpAny_notOrdered_dict ta ?_)
  show wpAny _ _ (pure (Value.ref a, Value.ref b)) _ _ s
  refine wpAny_pure ?_
  refine wpAny_bind (wpAny_isInstance (T := "dict") tb PySem.F.sub_dict_dict ?_)
  simp only [Bool.not_true, Bool.false_eq_true, if_false]
  refine wpAny_bind (wpAny_pure (wpAny_bind (wpAny_pure ?_)))
  refine wpAny_bind (same_nil ha hb hoa hda hob hdb h0 ?_)
  refine wpAny_pure ⟨_, rfl, ?_, ?_⟩
  · exact fun x => nomatch x
  · simpa using h
end
end PySem.W
namespace L2
open PySem PySem.Spec PyProof.Rows
def rNeNil : R2 := fun x y H Q => ∃ a b ws, x = .ref a ∧ y = .ref b ∧ Rd H a (.dT ws) ∧ H b = some (.dT []) ∧ Q (.bl (!decide (ws = []))) H
theorem op_neNil {X : Cx} (hu : X.A.units < cLine) : OpR X (compareOp .NotEq) rNeNil := by
  intro pins s σ H x y v u Q I rx ry h
  obtain ⟨a, b, ws, rfl, rfl, ea, eb, q⟩ := h
  obtain rfl : v = Value.ref a := rx
  obtain rfl : u = Value.ref b := ry
  obtain ⟨za, ya, xs, ra, oa, es, ep, h1, h2, h3, h4, _⟩ := dt_rd I.hok ea
  obtain ⟨zb, yb, xs', rb, ob, es', ep', g1, g2, g3, g4, _⟩ := dt_of I.hok eb
  have l1 : es.size = xs.length := size_of_entries h4
  have l2 : ws.length = xs.length := Paired.length ra
  have l3 : es'.size = xs'.length := size_of_entries g4
  have l4 : ([] : List (List Key × V)).length = xs'.length := Paired.length rb
  have e : decide (es.size = 0) = decide (ws = []) := by
    rw [l1, ← l2]
    cases ws with
    | nil => rfl
    | cons => simp
  refine PySem.W.ne_nil ya yb h1 h2.1 h3 g1 g2.1 g3 (by rw [l3, ← l4]; rfl) hu ?_
  rw [e]
  exact ⟨.bl (!decide (ws = [])), H, I, rfl, q⟩
end L2
namespace Pd
open PySem PySem.Spec PyProof.Rows L2
section
variable {X : Cx} {ρ : List Sl} {a : Expr} {pos p1 : Pos} {kvs : List (List Int × PyData)}
/-- d != {} -/
theorem tx_neNil (hu : X.A.units < cLine) (ha : XD X a ρ kvs) : TV X (.Compare a [.NotEq] [.Dict [] [] p1] pos) ρ (!decide (kvs = [])) := PT.imp (pt_cmpR (op_neNil hu) ha pe_dnewT (nomark _)) fun σ H Q ⟨W, O, g, q⟩ =>
  ⟨W, O, g, fun p H1 g1 e1 hp => fun l hl => by
    have e2 : Ext H1 (upd H1 l (.dT [])) := Ext.new hl
    obtain ⟨ws, hr, iv⟩ := hp _ (g1.ext' e2) e2.exd
    refine ⟨p, l, ws, rfl, rfl, hr, upd_same, _, rfl, q _ _ ?_ (g1.ext' e2) (e1.trans e2.exd)⟩
    have := iv.len
    cases ws with
    | nil => cases kvs with
      | nil => rfl
      | cons => simp at this
    | cons => cases kvs with
      | nil => simp at this
      | cons => rfl⟩
end
end Pd
set_option Elab.async false
set_option linter.all false
set_option maxRecDepth 100000
set_option maxHeartbeats 1000000
/-! Numbers of ways. -/
namespace Sr
open PySem Pd
/-- ways from a to b, with fuel -/
def nWF (s : Int) (b : List Int) : Nat → List Int → Int
  | 0, a => if a = b then 1 else 0
  | f + 1, a => (if a = b then 1 else 0) + ((freeN s a).map fun p => nWF s b f (mv a p)).sum
theorem nWF_more {s : Int} (hs : 2 ≤ s) (b : List Int) : ∀ (f f' : Nat) (a : List Int), Row a → sq a ≤ f → sq a ≤ f' → nWF s b f a = nWF s b f' a
  | 0, 0, a, _, _, _ => rfl
  | 0, f' + 1, a, ha, h, _ => by
    have : freeN s a = [] := List.eq_nil_iff_forall_not_mem.mpr fun p hp => by have := sq_free ha hs hp; omega
    show _ = (if a = b then (1 : Int) else 0) + ((freeN s a).map fun p => nWF s b f' (mv a p)).sum
    rw [this]
    simp [nWF]
  | f + 1, 0, a, ha, _, h => by
    have : freeN s a = [] := List.eq_nil_iff_forall_not_mem.mpr fun p hp => by have := sq_free ha hs hp; omega
    show (if a = b then (1 : Int) else 0) + ((freeN s a).map fun p => nWF s b f (mv a p)).sum = _
    rw [this]
    simp [nWF]
  | f + 1, f' + 1, a, ha, h, h' => by
    show (if a = b then (1 : Int) else 0) + ((freeN s a).map fun p => nWF s b f (mv a p)).sum = (if a = b then (1 : Int) else 0) + ((freeN s a).map fun p => nWF s b f' (mv a p)).sum
    congr 2
    refine List.map_congr_left fun p hp => ?_
    have := sq_free ha hs hp
    exact nWF_more hs b f f' (mv a p) (ha.mv hs hp) (by omega) (by omega)
/-- the number of ways from a to b -/
def nW (s : Int) (a b : List Int) : Int := nWF s b (sq a) a
theorem nW_eq {s : Int} (hs : 2 ≤ s) {a : List Int} (ha : Row a) (b : List Int) : nW s a b = (if a = b then 1 else 0) + ((freeN s a).map fun p => nW s (mv a p) b).sum := by
  unfold nW
  rw [nWF_more hs b (sq a) (sq a + 1) a ha (Nat.le_refl _) (by omega)]
  show (if a = b then (1 : Int) else 0) + ((freeN s a).map fun p => nWF s b (sq a) (mv a p)).sum = _
  congr 2
  refine List.map_congr_left fun p hp => ?_
  have := sq_free ha hs hp
  exact nWF_more hs b _ _ (mv a p) (ha.mv hs hp) (by omega) (Nat.le_refl _)
theorem sum_nn {α : Type} {f : α → Int} : ∀ {l : List α}, (∀ a ∈ l, 0 ≤ f a) → 0 ≤ (l.map f).sum
  | [], _ => by simp
  | a :: l, h => by
    have := sum_nn (l := l) fun b hb => h b (List.mem_cons_of_mem _ hb)
    have := h a List.mem_cons_self
    rw [List.map_cons, List.sum_cons]
    omega
theorem sum_ge {α : Type} {f : α → Int} : ∀ {l : List α}, (∀ a ∈ l, 0 ≤ f a) → ∀ a ∈ l, f a ≤ (l.map f).sum
  | [], _, a, ha => by cases ha
  | b :: l, h, a, ha => by
    have h0 := sum_nn (l := l) fun b hb => h b (List.mem_cons_of_mem _ hb)
    have h1 := h b List.mem_cons_self
    rw [List.map_cons, List.sum_cons]
    rcases List.mem_cons.mp ha with rfl | ha
    · omega
    · have := sum_ge (l := l) (fun b hb => h b (List.mem_cons_of_mem _ hb)) a ha
      omega
theorem sum_zero {α : Type} {f : α → Int} : ∀ {l : List α}, (∀ a ∈ l, f a = 0) → (l.map f).sum = 0
  | [], _ => by simp
  | a :: l, h => by
    rw [List.map_cons, List.sum_cons, h a List.mem_cons_self, sum_zero fun b hb => h b (List.mem_cons_of_mem _ hb)]
    rfl
theorem nW_pos {s : Int} (hs : 2 ≤ s) (b : List Int) : ∀ (n : Nat) (a : List Int), Row a → sq a ≤ n → 0 ≤ nW s a b ∧ (0 < nW s a b ↔ Rch s a b)
  | n, a, ha, hn => by
    have ih : ∀ p ∈ freeN s a, 0 ≤ nW s (mv a p) b ∧ (0 < nW s (mv a p) b ↔ Rch s (mv a p) b) := fun p hp => by
      have := sq_free ha hs hp
      match n, hn with
      | 0, hn => omega
      | n + 1, hn => exact nW_pos hs b n (mv a p) (ha.mv hs hp) (by omega)
    have hnn := sum_nn (f := fun p => nW s (mv a p) b) fun p hp => (ih p hp).1
    rw [nW_eq hs ha b]
    refine ⟨by split <;> omega, ?_, ?_⟩
    · intro h
      by_cases e : a = b
      · rw [e]; exact Rch.refl _ _
      · rw [if_neg e] at h
        have : ∃ p ∈ freeN s a, 0 < nW s (mv a p) b := by
          apply Classical.byContradiction
          intro hc
          have hz := sum_zero (f := fun p => nW s (mv a p) b) (l := freeN s a) fun p hp => by
            have h1 := (ih p hp).1
            have h2 : ¬ 0 < nW s (mv a p) b := fun z => hc ⟨p, hp, z⟩
            omega
          omega
        obtain ⟨p, hp, h2⟩ := this
        obtain ⟨l, hl⟩ := (ih p hp).2.mp h2
        exact ⟨p :: l, .cons hp hl⟩
    · rintro ⟨l, h⟩
      cases h with
      | nil => rw [if_pos rfl]; omega
      | @cons _ _ p l hp h =>
        have h1 := (ih p hp).2.mpr ⟨l, h⟩
        have h2 := sum_ge (f := fun p => nW s (mv a p) b) (fun p hp => (ih p hp).1) p hp
        have h2 : nW s (mv a p) b ≤ ((freeN s a).map fun p => nW s (mv a p) b).sum := h2
        split <;> omega
theorem nW_nn {s : Int} (hs : 2 ≤ s) {a : List Int} (ha : Row a) (b : List Int) : 0 ≤ nW s a b := (nW_pos hs b (sq a) a ha (Nat.le_refl _)).1
theorem nW_iff {s : Int} (hs : 2 ≤ s) {a : List Int} (ha : Row a) (b : List Int) : 0 < nW s a b ↔ Rch s a b := (nW_pos hs b (sq a) a ha (Nat.le_refl _)).2
theorem nW_self {s : Int} (hs : 2 ≤ s) {a : List Int} (ha : Row a) : nW s a a = 1 := by
  rw [nW_eq hs ha a, if_pos rfl, sum_zero fun p hp => ?_]
  · rfl
  · have h0 := nW_nn hs (ha.mv hs hp) a
    have h1 : ¬ 0 < nW s (mv a p) a := fun z => by
      have h2 := (nW_iff hs (ha.mv hs hp) a).mp z
      have h3 := h2.weight.1
      rw [weight_mv (mem_freeN.mp hp).1] at h3
      omega
    omega
/-! ### dicts of counts -/
abbrev dC (F : List (List Int × Int)) : List (List Int × PyData) := F.map fun p => (p.1, .int p.2)
def valC (F : List (List Int × Int)) (k : List Int) : Int := ((F.find? fun p => decide (p.1 = k)).map (·.2)).getD 0
theorem getK_dC (F : List (List Int × Int)) (k : List Int) : getK (dC F) k = ((F.find? fun p => decide (p.1 = k)).map fun p => PyData.int p.2) := by
  unfold getK dC
  rw [List.find?_map]
  show ((F.find? _).map _).map _ = _
  rw [Option.map_map]
  rfl
theorem get_valC (F : List (List Int × Int)) (k : List Int) : (getK (dC F) k).getD (.int 0) = .int (valC F k) := by
  rw [getK_dC]
  unfold valC
  cases F.find? fun p => decide (p.1 = k) <;> rfl
theorem find_key {F : List (List Int × Int)} {k : List Int} (h : k ∈ F.map (·.1)) : ∃ v, (F.find? fun p => decide (p.1 = k)) = some (k, v) := by
  cases q : (F.find? fun p => decide (p.1 = k)) with
  | some p =>
    have h1 := List.find?_some q
    have : p.1 = k := of_decide_eq_true h1
    exact ⟨p.2, by rw [← this]⟩
  | none =>
    obtain ⟨p, hp, e⟩ := List.mem_map.mp h
    have := List.find?_eq_none.mp q p hp
    rw [e] at this
    simp at this
theorem getK_key {F : List (List Int × Int)} {k : List Int} (h : k ∈ F.map (·.1)) : getK (dC F) k = some (.int (valC F k)) := by
  obtain ⟨v, hv⟩ := find_key h
  rw [getK_dC]
  unfold valC
  rw [hv]
  rfl
theorem valC_out {F : List (List Int × Int)} {k : List Int} (h : k ∉ F.map (·.1)) : valC F k = 0 := by
  unfold valC
  have : (F.find? fun p => decide (p.1 = k)) = none := List.find?_eq_none.mpr fun p hp e => h (List.mem_map.mpr ⟨p, hp, of_decide_eq_true e⟩)
  rw [this]
  rfl
def addC (F : List (List Int × Int)) (k : List Int) (v : Int) : List (List Int × Int) := if k ∈ F.map (·.1) then F.map (fun p => if p.1 = k then (p.1, valC F k + v) else p) else F ++ [(k, v)]
theorem putD_dC (F : List (List Int × Int)) (k : List Int) (v : Int) : putD (dC F) k (.int (valC F k + v)) = dC (addC F k v) := by
  unfold addC
  by_cases h : k ∈ F.map (·.1)
  · rw [if_pos h]
    unfold putD
    rw [if_pos]
    · unfold dC
      rw [List.map_map, List.map_map]
      refine List.map_congr_left fun p _ => ?_
      show (if p.1 = k then _ else _) = _
      simp only [Function.comp]
      split <;> rfl
    · obtain ⟨p, hp, e⟩ := List.mem_map.mp h
      exact List.any_eq_true.mpr ⟨(p.1, .int p.2), List.mem_map.mpr ⟨p, hp, rfl⟩, decide_eq_true e⟩
  · rw [if_neg h, valC_out h]
    unfold putD
    rw [if_neg]
    · unfold dC; rw [List.map_append, Int.zero_add]; rfl
    · intro z
      obtain ⟨p, hp, e⟩ := List.any_eq_true.mp z
      obtain ⟨r, hr, rfl⟩ := List.mem_map.mp hp
      exact h (List.mem_map.mpr ⟨r, hr, of_decide_eq_true e⟩)
theorem keys_addC (F : List (List Int × Int)) (k : List Int) (v : Int) : (addC F k v).map (·.1) = insF (F.map (·.1)) k := by
  unfold addC insF
  split
  · rw [List.map_map]
    refine List.map_congr_left fun p _ => ?_
    show (if p.1 = k then (p.1, valC F k + v) else p).1 = p.1
    split <;> rfl
  · rw [List.map_append]; rfl
/-- summed with weights -/
def sumC (g : List Int → Int) (F : List (List Int × Int)) : Int := (F.map fun p => p.2 * g p.1).sum
theorem sumC_map {g : List Int → Int} {k : List Int} {v : Int} : ∀ {F : List (List Int × Int)}, (F.map (·.1)).Nodup → k ∈ F.map (·.1) → sumC g (F.map fun p => if p.1 = k then (p.1, valC F k + v) else p) = sumC g F + v * g k := by
  have key : ∀ (c : Int) (F : List (List Int × Int)), (F.map (·.1)).Nodup → (k ∉ F.map (·.1) → sumC g (F.map fun p => if p.1 = k then (p.1, c + v) else p) = sumC g F) ∧ (∀ d, (F.find? fun p => decide (p.1 = k)) = some (k, d) → d = c → sumC g (F.map fun p => if p.1 = k then (p.1, c + v) else p) = sumC g F + v * g k) := by
    intro c F
    induction F with
    | nil => exact fun _ => ⟨fun _ => rfl, fun d h => by cases h⟩
    | cons p F ih =>
      intro hn
      obtain ⟨n1, n2⟩ := List.nodup_cons.mp hn
      obtain ⟨i1, i2⟩ := ih n2
      have hc : ∀ L, sumC g (p :: L) = p.2 * g p.1 + sumC g L := fun L => by unfold sumC; rw [List.map_cons, List.sum_cons]
      refine ⟨fun hk => ?_, fun d hf e => ?_⟩
      · have h1 : ¬ p.1 = k := fun z => hk (by rw [← z]; exact List.mem_cons_self)
        have h2 : k ∉ F.map (·.1) := fun z => hk (List.mem_cons_of_mem _ z)
        rw [List.map_cons, if_neg h1, hc, hc, i1 h2]
      · by_cases h1 : p.1 = k
        · rw [List.find?_cons_of_pos (by simpa using h1)] at hf
          have h2 : k ∉ F.map (·.1) := fun z => n1 (by show p.1 ∈ F.map (·.1); rw [h1]; exact z)
          have hp : p = (k, d) := Option.some.inj hf
          rw [List.map_cons, if_pos h1]
          have hc' : sumC g ((p.1, c + v) :: (F.map fun p => if p.1 = k then (p.1, c + v) else p)) = (c + v) * g p.1 + sumC g (F.map fun p => if p.1 = k then (p.1, c + v) else p) := by unfold sumC; rw [List.map_cons, List.sum_cons]
          rw [hc', hc, i1 h2, hp, ← e, Int.add_mul]
          show d * g k + v * g k + sumC g F = d * g k + sumC g F + v * g k
          omega
        · rw [List.find?_cons_of_neg (by simpa using h1)] at hf
          rw [List.map_cons, if_neg h1, hc, hc, i2 d hf e]
          omega
  intro F hn hk
  obtain ⟨d, hd⟩ := find_key hk
  have hv : d = valC F k := by unfold valC; rw [hd]; rfl
  exact (key (valC F k) F hn).2 d hd hv
theorem sumC_add {g : List Int → Int} {F : List (List Int × Int)} (hn : (F.map (·.1)).Nodup) (k : List Int) (v : Int) : sumC g (addC F k v) = sumC g F + v * g k := by
  unfold addC
  split
  · rename_i h
    exact sumC_map hn h
  · unfold sumC
    rw [List.map_append, List.sum_append]
    simp
theorem sumC_ind {F : List (List Int × Int)} (hn : (F.map (·.1)).Nodup) (o : List Int) : (F.map fun p => p.2 * (if p.1 = o then (1 : Int) else 0)).sum = valC F o := by
  induction F with
  | nil => rfl
  | cons p F ih =>
    obtain ⟨n1, n2⟩ := List.nodup_cons.mp hn
    rw [List.map_cons, List.sum_cons, ih n2]
    by_cases h : p.1 = o
    · rw [if_pos h, valC_out (fun z => n1 (by show p.1 ∈ F.map (·.1); rw [h]; exact z))]
      unfold valC
      rw [List.find?_cons_of_pos (by simpa using h)]
      simp
    · rw [if_neg h]
      unfold valC
      rw [List.find?_cons_of_neg (by simpa using h)]
      simp
theorem valC_add {F : List (List Int × Int)} (hn : (F.map (·.1)).Nodup) (k : List Int) (v : Int) (o : List Int) : valC (addC F k v) o = valC F o + (if k = o then v else 0) := by
  have hn' : ((addC F k v).map (·.1)).Nodup := by rw [keys_addC]; exact nodup_insF hn
  rw [← sumC_ind hn' o, ← sumC_ind hn o]
  have := sumC_add (g := fun r => if r = o then (1 : Int) else 0) hn k v
  unfold sumC at this
  rw [this]
  congr 1
  split <;> simp
/-- the counts of a level, its ways still to go -/
structure CT (s : Int) (ns : List Int) (t : Nat) (F : List (List Int × Int)) : Prop where
  nd : (F.map (·.1)).Nodup
  pt : ∀ r ∈ F.map (·.1), ∃ l, l.length = t ∧ Pth s ns l r
theorem CT.start (s : Int) (ns : List Int) : CT s ns 0 [(ns, 1)] := ⟨List.pairwise_singleton _ _, fun r hr => ⟨[], rfl, by rw [List.mem_singleton.mp hr]; exact .nil _⟩⟩
theorem CT.few {s : Int} {ns : List Int} {t : Nat} {F : List (List Int × Int)} (h : CT s ns t F) (hs : 2 ≤ s) (hr : Row ns) : F.length ≤ 385 := by
  have := rch_few hs hr h.nd fun r hm => by
    obtain ⟨l, _, hl⟩ := h.pt r hm
    exact ⟨l, hl⟩
  rwa [List.length_map] at this
theorem CT.nil {s : Int} (ns : List Int) (t : Nat) : CT s ns t [] := ⟨List.Pairwise.nil, fun r hr => by cases hr⟩
theorem CT.add {s : Int} {ns : List Int} {t : Nat} {F : List (List Int × Int)} (h : CT s ns t F) {k : List Int} (hk : ∃ l, l.length = t ∧ Pth s ns l k) (v : Int) : CT s ns t (addC F k v) :=
  ⟨by rw [keys_addC]; exact nodup_insF h.nd, fun r hr => by
    rw [keys_addC, mem_insF] at hr
    rcases hr with hr | rfl
    · exact h.pt r hr
    · exact hk⟩
/-- the sum over a level's slides -/
def stepC (s : Int) (o : List Int) (r : List Int) : Int := ((freeN s r).map fun p => nW s (mv r p) o).sum
theorem sumC_step {s : Int} (hs : 2 ≤ s) {ns : List Int} (hr : Row ns) {t : Nat} {F : List (List Int × Int)} (h : CT s ns t F) (o : List Int) : sumC (fun r => nW s r o) F = valC F o + sumC (stepC s o) F := by
  rw [← sumC_ind h.nd o]
  unfold sumC
  rw [← sum_map_add]
  congr 1
  refine List.map_congr_left fun p hp => ?_
  obtain ⟨l, _, hl⟩ := h.pt p.1 (List.mem_map.mpr ⟨p, hp, rfl⟩)
  show p.2 * nW s p.1 o = _
  rw [nW_eq hs (hl.row hs hr) o, Int.mul_add]
  rfl
end Sr
namespace Sr
open PySem Pd
theorem valC_take {L : List (List Int × Int)} (hn : (L.map (·.1)).Nodup) {i : Nat} {k : List Int} {v : Int} (hx : L[i]? = some (k, v)) (x : List Int) : valC (L.take (i + 1)) x = valC (L.take i) x + (if k = x then v else 0) := by
  have n1 : ((L.take (i + 1)).map (·.1)).Nodup := List.Nodup.sublist ((List.take_sublist _ _).map _) hn
  have n2 : ((L.take i).map (·.1)).Nodup := List.Nodup.sublist ((List.take_sublist _ _).map _) hn
  rw [← sumC_ind n1 x, ← sumC_ind n2 x, take_step hx, List.map_append, List.sum_append]
  congr 1
  show ([(k, v)].map _).sum = _
  simp only [List.map_cons, List.map_nil, List.sum_cons, List.sum_nil]
  split <;> omega
theorem valC_at {L : List (List Int × Int)} (hn : (L.map (·.1)).Nodup) {i : Nat} {k : List Int} {v : Int} (hx : L[i]? = some (k, v)) : valC L k = v := by
  rw [← sumC_ind hn k]
  induction L generalizing i with
  | nil => simp at hx
  | cons q F ih =>
    obtain ⟨q1, q2⟩ := List.nodup_cons.mp hn
    rw [List.map_cons, List.sum_cons]
    match i, hx with
    | 0, hx =>
      have : q = (k, v) := by simpa using hx
      subst this
      have hz := sum_zero (f := fun p : List Int × Int => p.2 * (if p.1 = k then (1 : Int) else 0)) (l := F) fun p hp => by
        rw [if_neg (fun z => q1 (by show k ∈ F.map (·.1); rw [← z]; exact List.mem_map.mpr ⟨p, hp, rfl⟩))]
        simp
      rw [hz]
      simp
    | i + 1, hx =>
      have hx' : F[i]? = some (k, v) := by simpa using hx
      have hm' : k ∈ F.map (·.1) := List.mem_map.mpr ⟨_, List.mem_of_getElem? hx', rfl⟩
      have hne : ¬ q.1 = k := fun z => q1 (by show q.1 ∈ F.map (·.1); rw [z]; exact hm')
      rw [if_neg hne, ih q2 hx']
      simp
end Sr
set_option Elab.async false
set_option linter.all false
set_option maxRecDepth 100000
set_option maxHeartbeats 1000000
/-! min of a list of pairs: an int, a tuple of ints. -/
namespace L2
open PySem PySem.Spec PyProof.Rows
abbrev pT (p : Int × List Int) : PyData := .tuple [.int p.1, .tuple (p.2.map .int)]
abbrev pA (p : Int × List Int) : Int × PySem.W.Tup Int := (p.1, ⟨p.2⟩)
theorem pT_toD (p : Int × List Int) : PySem.W.Datum.toD (pA p) = pT p := rfl
theorem readsInts {h : Heap} : ∀ {vs : List Value} {ns ms : List Int} {as bs : List Addr}, ReadsAll h vs (ns.map .int) as → ReadsAll h vs (ms.map .int) bs → ns = ms
  | _, [], [], _, _, _, _ => rfl
  | vs, [], m :: ms, as, bs, r1, r2 => by
    have r1' : ReadsAll h vs [] as := r1
    have r2' : ReadsAll h vs (.int m :: ms.map .int) bs := r2
    cases r1'
    cases r2'
  | vs, n :: ns, [], as, bs, r1, r2 => by
    have r1' : ReadsAll h vs (.int n :: ns.map .int) as := r1
    have r2' : ReadsAll h vs [] bs := r2
    cases r2'
    cases r1'
  | vs, n :: ns, m :: ms, as, bs, r1, r2 => by
    have r1' : ReadsAll h vs (.int n :: ns.map .int) as := r1
    have r2' : ReadsAll h vs (.int m :: ms.map .int) bs := r2
    cases r1' with
    | cons a1 t1 =>
      cases r2' with
      | cons a2 t2 =>
        cases a1
        cases a2
        rw [readsInts t1 t2]
theorem readsTup {h : Heap} {u : Value} {ns ms : List Int} {as bs : List Addr} (r1 : Reads h u (.tuple (ns.map .int)) as) (r2 : Reads h u (.tuple (ms.map .int)) bs) : ns = ms := by
  cases r1 with
  | tuple h1 h2 h3 h4 =>
    cases r2 with
    | tuple g1 g2 g3 g4 =>
      rw [h1] at g1
      cases g1
      rw [h3] at g3
      cases g3
      exact readsInts h4 g4
theorem readsTwo {h : Heap} : ∀ {vs : List Value} {n m : Int} {ns ms : List Int} {as bs : List Addr}, ReadsAll h vs [.int n, .tuple (ns.map .int)] as → ReadsAll h vs [.int m, .tuple (ms.map .int)] bs → n = m ∧ ns = ms := by
  intro vs n m ns ms as bs r1 r2
  cases r1 with
  | cons a1 t1 =>
    cases t1 with
    | cons b1 n1 =>
      cases r2 with
      | cons a2 t2 =>
        cases t2 with
        | cons b2 n2 =>
          cases a1
          cases a2
          exact ⟨rfl, readsTup b1 b2⟩
theorem readsPair {h : Heap} {u : Value} {p q : Int × List Int} {as bs : List Addr} (r1 : Reads h u (pT p) as) (r2 : Reads h u (pT q) bs) : p = q := by
  obtain ⟨p1, p2⟩ := p
  obtain ⟨q1, q2⟩ := q
  cases r1 with
  | tuple h1 h2 h3 h4 =>
    cases r2 with
    | tuple g1 g2 g3 g4 =>
      rw [h1] at g1
      cases g1
      rw [h3] at g3
      cases g3
      obtain ⟨e1, e2⟩ := readsTwo h4 g4
      cases e1
      cases e2
      rfl
/-- the order of such pairs -/
def ltJ (p q : Int × List Int) : Bool := PySem.W.DatumOrd.lt (pA p) (pA q)
def minP (p : Int × List Int) (ps : List (Int × List Int)) : Int × List Int := ps.foldl (fun a y => if ltJ y a = true then y else a) p
theorem minP_eq (p : Int × List Int) (ps : List (Int × List Int)) : PySem.W.minOf (pA p) (ps.map pA) = pA (minP p ps) := by
  unfold PySem.W.minOf minP
  induction ps generalizing p with
  | nil => rfl
  | cons y ys ih =>
    rw [List.map_cons, List.foldl_cons, List.foldl_cons]
    show List.foldl _ (if ltJ y p = true then pA y else pA p) _ = _
    by_cases e : ltJ y p = true
    · rw [if_pos e, if_pos e]; exact ih y
    · rw [if_neg e, if_neg e]; exact ih p
def rMinP (K : PySem.W.Frag) : List V → Hp → VK → Prop := fun vs H Q => ∃ (a : Addr) (xs : List V) (p : Int × List Int) (ps : List (Int × List Int)), vs = [V.ref a] ∧ SqL K H a xs ∧ DpAll K H xs ((p :: ps).map pT) ∧ ∀ (i : Nat) x, xs[i]? = some x → (p :: ps)[i]? = some (minP p ps) → Q x H
theorem getP (L : List (Int × List Int)) (i : Nat) (h : i < L.length) : (L.map pT).getD i .none = pT (L[i]) := by
  rw [List.getD_eq_getElem?_getD, List.getElem?_map, List.getElem?_eq_getElem h]; rfl
theorem cr_minP {X : Cx} (hu : X.A.units + 64 < cLine) (hc : X.calm = true) : CallR X (.builtin "min") (rMinP X.K) := by
  intro pins s σ H vs us Q I r h
  obtain ⟨a, xs, p, ps, rfl, hs, hd, q⟩ := h
  obtain ⟨its, rv, hl, hz⟩ := I.list hs
  rw [Vals.ref1 r]
  obtain ⟨as, ra⟩ := Dp.readsAll I _ _ _ hd rv
  have ra' : ReadsAll s.heap its.toArray.toList (((pA p) :: ps.map pA).map PySem.W.Datum.toD) as := by
    have e : ((pA p) :: ps.map pA).map PySem.W.Datum.toD = (p :: ps).map pT := by
      rw [List.map_cons, List.map_map, List.map_cons]; rfl
    rw [e]
    exact ra
  refine PySem.W.min_list_datum (x := pA p) (xs := ps.map pA) (I.ok.hd hc) hl.isList ⟨as, ra'⟩ (by show X.A.units + 1 + 2 < cLine; omega) fun i v h' tk hi hh hk => ?_
  obtain ⟨bs, rr⟩ := hh
  rw [minP_eq] at rr
  have rr : Reads h' v (pT (minP p ps)) bs := rr
  have hi' : its[i]? = some v := by simpa using hi
  obtain ⟨bs', r2, hlt, _, _⟩ := PySem.W.readsAll_at ra i v hi'
  rw [List.length_map] at hlt
  rw [getP _ i hlt] at r2
  have e := readsPair (PyProof.Rows.Reads.keeps hk r2) rr
  have hx : ∃ x, xs[i]? = some x := by
    have : i < xs.length := by rw [rv.length]; exact (List.getElem?_eq_some_iff.mp hi').1
    exact ⟨_, List.getElem?_eq_getElem this⟩
  obtain ⟨x, hx⟩ := hx
  obtain ⟨u, hu1, hu2⟩ := rv.get hx
  rw [hi'] at hu1
  cases hu1
  exact ⟨x, H, I.kept hk, hu2, q i x hx (by rw [List.getElem?_eq_getElem hlt, e])⟩
end L2
namespace Pd
open PySem PySem.Spec PyProof.Rows L2
theorem minP_mem (p : Int × List Int) : ∀ ps : List (Int × List Int), minP p ps ∈ p :: ps := by
  intro ps
  unfold minP
  induction ps generalizing p with
  | nil => exact List.mem_cons_self
  | cons y ys ih =>
    rw [List.foldl_cons]
    by_cases e : ltJ y p = true
    · rw [if_pos e]; exact List.mem_cons_of_mem _ (ih y)
    · rw [if_neg e]
      rcases List.mem_cons.mp (ih p) with h | h
      · rw [h]; exact List.mem_cons_self
      · exact List.mem_cons_of_mem _ (List.mem_cons_of_mem _ h)
theorem ltJ_fst {p q : Int × List Int} (h : p.1 ≠ q.1) : ltJ p q = decide (p.1 < q.1) := by
  show (if p.1 = q.1 then _ else _) = _
  rw [if_neg h]
  rfl
/-- a pair whose first is less than all others' is the least -/
theorem minP_is {b : Int × List Int} : ∀ (ps : List (Int × List Int)) (p : Int × List Int), b ∈ p :: ps → (∀ q ∈ p :: ps, q = b ∨ b.1 < q.1) → minP p ps = b := by
  intro ps
  unfold minP
  induction ps with
  | nil => intro p hb _; exact (List.mem_singleton.mp hb).symm
  | cons y ys ih =>
    intro p hb hq
    rw [List.foldl_cons]
    have h1 := hq p List.mem_cons_self
    have h2 := hq y (List.mem_cons_of_mem _ List.mem_cons_self)
    have h3 : ∀ q ∈ ys, q = b ∨ b.1 < q.1 := fun q h => hq q (List.mem_cons_of_mem _ (List.mem_cons_of_mem _ h))
    by_cases e : ltJ y p = true
    · rw [if_pos e]
      refine ih y ?_ fun q h => ?_
      · rcases List.mem_cons.mp hb with h | h
        · subst h
          rcases h2 with h2 | h2
          · rw [h2]; exact List.mem_cons_self
          · rw [ltJ_fst (by omega)] at e
            have := of_decide_eq_true e
            omega
        · exact h
      · rcases List.mem_cons.mp h with rfl | h
        · exact h2
        · exact h3 q h
    · rw [if_neg e]
      refine ih p ?_ fun q h => ?_
      · rcases List.mem_cons.mp hb with h | h
        · rw [h]; exact List.mem_cons_self
        · rcases List.mem_cons.mp h with h | h
          · subst h
            rcases h1 with h1 | h1
            · rw [h1]; exact List.mem_cons_self
            · rw [ltJ_fst (by omega)] at e
              exact absurd (decide_eq_true h1) e
          · exact List.mem_cons_of_mem _ h
      · rcases List.mem_cons.mp h with rfl | h
        · exact h1
        · exact h3 q h
theorem sh_pT {n : Nat} (p : Int × List Int) : Sh (n + 2) (pT p) := sh_tup (shA_cons (sh_int _) (shA_cons (sh_tI (n := n) p.2) shA_nil))
theorem IsAll.dp {O : Addr → Prop} {H : Hp} (K : PySem.W.Frag) : ∀ {vs : List V} {ds : List PyData}, IsAll O H vs ds → PyData.canLayAll0 ds = true → DpAll K H vs ds
  | [], _, h, _ => by cases h; exact .nil
  | v :: vs, _, h, c => by
    cases h with
    | cons h1 h2 => exact .cons (h1.dp K _ _ (can_cons c).1) (IsAll.dp K h2 (can_cons c).2)
theorem rc_minP {K : PySem.W.Frag} {p : Int × List Int} {ps : List (Int × List Int)} : RCV (rMinP K) [.list ((p :: ps).map pT)] (pT (minP p ps)) := fun O H vs al h Q q => by
  obtain ⟨v, rfl, hv⟩ := h.one
  obtain ⟨a, xs, rfl, _, e, r⟩ := hv.list
  refine ⟨a, xs, p, ps, rfl, SqL.of e, IsAll.dp K r (shA_map (fun b => sh_pT (n := 0) b) _).1, fun i x hx hi => ?_⟩
  obtain ⟨d, hd, iv⟩ := r.getV hx
  rw [List.getElem?_map, hi] at hd
  cases hd
  exact q _ _ H rfl (Ext.refl H) iv
end Pd
--@@
namespace Pd
open PySem PySem.Spec PyProof.Rows L2
/-- an iteration over what is known by a property -/
def tXIE (ρ : List Sl) (θ : List PyData → Prop) : TI := fun σ H R => ∃ W O, Gd W O σ H ρ ∧ ∀ ys J H', θ ys → Gd W O σ H' ρ → ExD σ ρ H H' → Walk J ys.length (fun H1 => Ex O H' H1) (Yd O H' ys) → R J H'
abbrev IXE (X : Cx) (tg iter : Expr) (ρ : List Sl) (θ : List PyData → Prop) : Prop := PI X tg iter (tXIE ρ θ)
section
variable {X : Cx} {ρ : List Sl} {pos px : Pos} {elt iter cnd e : Expr} {scope : Scope} {x : Str}
theorem lc_readE {β : Type} {own : List (Str × Nat)} {g : TG} {asg : PyData → List Sl → Option (List Sl)} {enc : β → PyData} {Θ : List β → Prop} {Bp : β → Prop} (hB : ∀ L, Θ L → ∀ b ∈ L, Bp b) (c : β → Bool) (r : β → PyData) (ρ2 : β → List Sl)
    (hT : TgW g (own.map (·.2)) asg) (hnd : ∀ v ∈ own.map (·.2), nd ρ v = true) (ha : ∀ b, Bp b → asg (enc b) (wipeS ρ (own.map (·.2))) = some (ρ2 b)) (hl : ∀ L, Θ L → L.length ≤ 40000) :
    ∀ σ H Q, tX ρ (fun z => ∃ L, Θ L ∧ z = .list ((L.filter c).map r)) σ H Q → tLc (tXIE ρ (fun ys => ∃ L, Θ L ∧ ys = L.map enc)) g (fun σ H Q => ∃ b, Bp b ∧ tXT (ρ2 b) (fun z => z = c b) σ H Q) (fun σ H Q => ∃ b, (Bp b ∧ c b = true) ∧ tX (ρ2 b) (fun z => z = r b) σ H Q) (own.map (·.2)) σ H Q :=
    fun σ H Q ⟨W, O, gd, k⟩ => ⟨W, O, gd, fun ys J H1 hys gd1 ed1 w D hD => by
      obtain ⟨L, hL, rfl⟩ := hys
      have hl := hl L hL
      have hO1 : ∀ a, (O a ∨ a = D) → O a ∨ bl H1 a := fun a h => h.imp id fun e => by rw [e]; exact bl_none hD
      have nOD : ¬ O D := gd1.al.fresh hD
      have nDx : ¬ Dx σ ρ D := fun z => nOD (gd1.dxO z)
      refine lc_it (g := g) (tt := fun σ H Q => ∃ b, Bp b ∧ tXT (ρ2 b) (fun z => z = c b) σ H Q) (te := fun σ H Q => ∃ b, (Bp b ∧ c b = true) ∧ tX (ρ2 b) (fun z => z = r b) σ H Q) w
        (fun i H' => ∃ acc, H' D = some (.lst acc) ∧ IsAll (fun a => O a ∨ a = D) H' acc (((L.take i).filter c).map r) ∧ ExD σ ρ H1 H' ∧ (∀ a o, W.H0 a = some o → ¬ W.M a → H' a = some o) ∧ LamX.Tabs W.T H' ∧ ∀ (j : Nat) (p : Addr), σ[j]? = some (some (.ref p)) → ρ[j]? = some .dice → ∃ c k, H' p = some (.lst [.int c, .int k]))
        ⟨[], upd_same, .nil, (Ext.new hD).exd, (gd1.ext' (Ext.new hD)).ext, (gd1.ext' (Ext.new hD)).tb, (gd1.ext' (Ext.new hD)).dices⟩ (fun i H' _ ⟨_, _, _, ed, _⟩ => gd1.exO ed) (fun i x H' H2 hi hP hY => ?_) fun H' ⟨acc, hacc, hall, ed, hxt, htb, hdc⟩ => ?_
      · obtain ⟨acc, hacc, hall, ed, hxt, htb, hdc⟩ := hP
        obtain ⟨e2, d, hd, is⟩ := hY
        rw [List.getElem?_map] at hd
        cases hb : L[i]? with
        | none => rw [hb] at hd; cases hd
        | some b =>
          rw [hb] at hd
          cases hd
          have hbL : Bp b := hB L hL b (List.mem_of_getElem? hb)
          have g1 : Gd W (fun a => O a ∨ a = D) σ H' ρ := gd1.own2 hD ed hxt htb hdc ⟨_, hacc, nw_lst⟩
          have is1 := is _ g1.al hO1
          rw [List.length_map] at hi
          have hlen : acc.length ≤ i := by
            rw [hall.length, List.length_map]
            exact Nat.le_trans (List.length_filter_le _ _) (by rw [List.length_take]; exact Nat.min_le_left _ _)
          refine hT.run W _ x (enc b) (wipe σ (own.map (·.2))) H2 (wipeS ρ (own.map (·.2))) (ρ2 b) _ ((g1.ext' e2).wiped hnd) is1 (ha b hbL) ?_
          intro σ2 g2 tr dxm hw
          refine ⟨by rw [hw, wipe_wipe], b, hbL, W, _, g2, fun bb H3 hbb g3 e3 => ?_⟩
          have hbb : bb = c b := hbb
          have tr' : ∀ {Ha Hb : Hp}, ExD σ2 (ρ2 b) Ha Hb → ExD σ ρ Ha Hb := fun {Ha Hb} z => fun a o n m h => tr Ha Hb z a o (fun q => n ((dx_wipe hnd gd.len).mp q)) m h
          have dxm' : ∀ a, Dx σ ρ a → Dx σ2 (ρ2 b) a := fun a h => dxm a ((dx_wipe hnd gd.len).mpr h)
          have dice3 : ∀ {Hx : Hp} (_ : Gd W (fun a => O a ∨ a = D) σ2 Hx (ρ2 b)) (j : Nat) (p : Addr), σ[j]? = some (some (.ref p)) → ρ[j]? = some .dice → ∃ c k, Hx p = some (.lst [.int c, .int k]) := fun {Hx} gx j p h1 h2 => by
            obtain ⟨l, l1, l2⟩ := dxm' p ⟨j, h1, h2⟩
            exact gx.dices l p l1 l2
          have ed3 : ExD σ ρ H' H3 := (Ext.exd e2).trans (tr' e3)
          cases hc : c b with
          | true =>
            rw [hbb, hc]
            refine (show if true = true then _ else _ from ?_)
            rw [if_pos rfl]
            refine ⟨b, ⟨hbL, hc⟩, W, _, g3, fun z y H4 hz g4 e4 i4 => ?_⟩
            have hz : z = r b := hz
            subst hz
            have ed4 : ExD σ ρ H' H4 := ed3.trans (tr' e4)
            have hD4 : H4 D = some (.lst acc) := ed4 D _ nDx nt_lst hacc
            refine ⟨acc, hD4, by rw [sizeLine_eq]; omega, acc ++ [y], upd_same, ?_, ?_, fun a u h1 h2 => ?_, tabs_upd g4.tb ⟨_, hD4, .inl ⟨_, rfl⟩⟩, fun j p h1 h2 => ?_⟩
            · rw [take_step hb, List.filter_append, List.map_append]
              have ef : List.filter c [b] = [b] := by rw [List.filter_cons, if_pos hc]; rfl
              rw [ef]
              have ex4 : Ex (fun a => O a ∨ a = D) H' H4 := g1.exO ed4
              refine ((hall.ex ex4).append (.cons i4 .nil)).ex fun a u n _ h => ?_
              rw [upd_ne (fun z => n (.inr z))]; exact h
            · exact fun a u n m h => by rw [upd_ne (ne_of_none h hD)]; exact (ed.trans ed4) a u n m h
            · rw [upd_ne (ne_of_none (gd1.ext a u h1 h2) hD)]; exact g4.ext a u h1 h2
            · obtain ⟨c', k', h⟩ := dice3 g4 j p h1 h2
              refine ⟨c', k', ?_⟩
              rw [upd_ne (fun z => nDx (by rw [← z]; exact ⟨j, h1, h2⟩))]; exact h
          | false =>
            rw [hbb, hc]
            refine (show if false = true then _ else _ from ?_)
            rw [if_neg Bool.false_ne_true]
            refine ⟨acc, ed3 D _ nDx nt_lst hacc, ?_, ed.trans ed3, g3.ext, g3.tb, dice3 g3⟩
            rw [take_step hb, List.filter_append]
            have ef : List.filter c [b] = [] := by rw [List.filter_cons, if_neg (by rw [hc]; exact Bool.false_ne_true)]; rfl
            rw [ef, List.append_nil]
            exact hall.ex (g1.exO ed3)
      · rw [List.length_map, List.take_length] at hall
        exact k _ (.ref D) H' ⟨L, hL, rfl⟩ (gd1.via ed hxt htb hdc) (ed1.trans ed) (.lst nOD hacc (IsAll.imp (fun a o n _ h => ⟨fun z => n (.inl z), h⟩) _ _ hall))⟩
theorem i_keysDE {tg : Expr} {θ : List (List Int × PyData) → Prop} (h : XE X e ρ fun z => ∃ kvs, θ kvs ∧ z = dD kvs) : IXE X tg e ρ fun ys => ∃ kvs, θ kvs ∧ ys = kvs.map fun p => tI p.1 := PI.imp (pi_keys h) fun σ H R ⟨W, O, g, k⟩ => ⟨W, O, g, fun d v H' hd g' e' i' => by
  obtain ⟨kvs, hθ, rfl⟩ := hd
  obtain ⟨p, od, ws, rfl, n, ep, iv⟩ := i'.dict
  refine ⟨p, od, rfl, .inr ⟨ws, ep, k _ _ H' ⟨kvs, hθ, rfl⟩ g' e' ?_⟩⟩
  have w := walk_keysT (d := p) (o := od) (kvs := ws)
  have hl : (kvs.map fun p => tI p.1).length = ws.length := by rw [List.length_map, iv.len]
  rw [hl]
  refine w.mono (fun H1 ex => ex p _ n nt_frz ep) fun i H1 x H2 hi ex ⟨eH, k', v', q, h1, h2, h3⟩ => ?_
  subst eH h2
  have hk : (ws.map (·.1))[i]? = some k' := by rw [List.getElem?_map, h1]; rfl
  rw [iv.1, List.getElem?_map] at hk
  cases hq : kvs[i]? with
  | none => rw [hq] at hk; cases hk
  | some pr =>
    rw [hq] at hk
    have hk : kI pr.1 = k' := Option.some.inj hk
    subst hk
    rw [kI_kV] at h3
    exact ⟨Ext.refl _, tI pr.1, by rw [List.getElem?_map, hq]; rfl, fun O' al' _ => .tup (al'.notup h3) h3 isAll_ints⟩⟩
/-- [elt for x in iter if cnd], the list by a property -/
theorem X_lc1f {β : Type} {enc : β → PyData} {Θ : List β → Prop} {Bp : β → Prop} (i : Nat) (c : β → Bool) (r : β → PyData) (hB : ∀ L, Θ L → ∀ b ∈ L, Bp b) (hN : X.N.Nodup) (ok : BlkOk X.N X.env.scope scope [(x, i)]) (hI : IXE X (.Name x px) iter ρ fun ys => ∃ L, Θ L ∧ ys = L.map enc) (hl : ∀ L, Θ L → L.length ≤ 40000)
    (hg : ∀ (s : Shared) (H : Hp) (C : Addr) (cl : List (Str × Addr)) (fp : List Addr), PG (X.blk s H scope (compEnvC scope cl C X.env) fp) (.Name x px) (gName i))
    (ht : ∀ b, Bp b → ∀ (s : Shared) (H : Hp) (C : Addr) (cl : List (Str × Addr)) (fp : List Addr), PT (X.blk s H scope (compEnvC scope cl C X.env) fp) cnd (tXT ((wipeS ρ [i]).set i (.val (enc b))) fun z => z = c b))
    (he : ∀ b, Bp b → c b = true → ∀ (s : Shared) (H : Hp) (C : Addr) (cl : List (Str × Addr)) (fp : List Addr), PE (X.blk s H scope (compEnvC scope cl C X.env) fp) elt (tX ((wipeS ρ [i]).set i (.val (enc b))) fun z => z = r b))
    (hc : X.calm = true := by rfl) (hnd : nd ρ i = true := by rfl) (hnd2 : nd (wipeS ρ [i]) i = true := by rfl) (hs : ∀ x, foldedSetIterable iter X.env x = pure x := by intro _; rfl) : XE X (.ListComp elt [⟨.Name x px, iter, [cnd], 0⟩] scope pos) ρ fun z => ∃ L, Θ L ∧ z = .list ((L.filter c).map r) :=
  PE.imp (pe_lc (g := gName i) (own := [(x, i)]) (tt := fun σ H Q => ∃ b, Bp b ∧ tXT ((wipeS ρ [i]).set i (.val (enc b))) (fun z => z = c b) σ H Q) (te := fun σ H Q => ∃ b, (Bp b ∧ c b = true) ∧ tX ((wipeS ρ [i]).set i (.val (enc b))) (fun z => z = r b) σ H Q) hc hN hI ok hg (fun s H C cl fp => PTs.exi fun b hb => pts_one (ht b hb s H C cl fp)) (fun s H C cl fp => PE.exi fun b hb => he b hb.1 hb.2 s H C cl fp) hs)
    (lc_readE (own := [(x, i)]) (asg := asg1 i) (enc := enc) hB c r (fun b => (wipeS ρ [i]).set i (.val (enc b))) (tw1 i (by simp)) (fun v hv => by rw [mem_one hv]; exact hnd) (fun b _ => by show asg1 i (enc b) (wipeS ρ [i]) = _; unfold asg1; rw [if_pos hnd2]) hl)
/-- z = [elt for x in iter if cnd], the list by a property -/
theorem S_lc1f {β : Type} {enc : β → PyData} {Θ : List β → Prop} {Bp : β → Prop} {z : Str} {pz spos : Pos} {rest : List Stmt} {nx : List Sl → Prop} {rt : PyData → Prop} (m i : Nat) (c : β → Bool) (r : β → PyData) (hB : ∀ L, Θ L → ∀ b ∈ L, Bp b) (hN : X.N.Nodup) (ok : BlkOk X.N X.env.scope scope [(x, i)]) (hI : IXE X (.Name x px) iter ρ fun ys => ∃ L, Θ L ∧ ys = L.map enc) (hl : ∀ L, Θ L → L.length ≤ 40000)
    (hg : ∀ (s : Shared) (H : Hp) (C : Addr) (cl : List (Str × Addr)) (fp : List Addr), PG (X.blk s H scope (compEnvC scope cl C X.env) fp) (.Name x px) (gName i))
    (ht : ∀ b, Bp b → ∀ (s : Shared) (H : Hp) (C : Addr) (cl : List (Str × Addr)) (fp : List Addr), PT (X.blk s H scope (compEnvC scope cl C X.env) fp) cnd (tXT ((wipeS ρ [i]).set i (.val (enc b))) fun z => z = c b))
    (he : ∀ b, Bp b → c b = true → ∀ (s : Shared) (H : Hp) (C : Addr) (cl : List (Str × Addr)) (fp : List Addr), PE (X.blk s H scope (compEnvC scope cl C X.env) fp) elt (tX ((wipeS ρ [i]).set i (.val (enc b))) fun z => z = r b))
    (k : ∀ L, Θ L → SXs X rest (ρ.set m (.val (.list ((L.filter c).map r)))) nx rt) (hy : X.N[m]? = some z := by rfl) (hyl : X.env.scope.names.lookup z = some .local := by rfl)
    (hsw : swapsWith (.ListComp elt [⟨.Name x px, iter, [cnd], 0⟩] scope pos) (some (.Name z pz)) spos.line X.env = pure true := by exact sw_true rfl rfl rfl (by decide +kernel))
    (hc : X.calm = true := by rfl) (hm : nd ρ m = true := by rfl) (hnd : nd ρ i = true := by rfl) (hnd2 : nd (wipeS ρ [i]) i = true := by rfl) (hs : ∀ x, foldedSetIterable iter X.env x = pure x := by intro _; rfl) :
    SXs X (.Assign [.Name z pz] (.ListComp elt [⟨.Name x px, iter, [cnd], 0⟩] scope pos) spos :: rest) ρ nx rt :=
  s_seq (mid := fun ρ' => ∃ L, Θ L ∧ ρ' = ρ.set m (.val (.list ((L.filter c).map r)))) (PS.imp (ps_setLc (i := m) (g := gName i) (own := [(x, i)]) (tt := fun σ H Q => ∃ b, Bp b ∧ tXT ((wipeS ρ [i]).set i (.val (enc b))) (fun z => z = c b) σ H Q) (te := fun σ H Q => ∃ b, (Bp b ∧ c b = true) ∧ tX ((wipeS ρ [i]).set i (.val (enc b))) (fun z => z = r b) σ H Q) hc hN hy hyl hsw hI ok hg (fun s H C cl fp => PTs.exi fun b hb => pts_one (ht b hb s H C cl fp)) (fun s H C cl fp => PE.exi fun b hb => he b hb.1 hb.2 s H C cl fp) hs)
    fun D σ H ⟨W, O, gd, k1, k2⟩ => lc_readE (own := [(x, i)]) (asg := asg1 i) (enc := enc) hB c r (fun b => (wipeS ρ [i]).set i (.val (enc b))) (tw1 i (by simp)) (fun v hv => by rw [mem_one hv]; exact hnd) (fun b _ => by show asg1 i (enc b) (wipeS ρ [i]) = _; unfold asg1; rw [if_pos hnd2]) hl σ H _ ⟨W, O, gd, fun d v H' hd g' e' i' => by
      obtain ⟨L, hL, rfl⟩ := hd
      exact k1 _ O _ H' ⟨L, hL, rfl⟩ (g'.set (s := .val _) ⟨v, rfl, i'⟩ (fun z => nomatch z) (nd_of hm))⟩) fun ρ' ⟨L, hL, e⟩ => by rw [e]; exact k L hL
theorem tx_notTrue {a : Expr} {j : Nat} {p1 : Pos} {b : Bool} (ha : XV X a ρ (.bool b)) (hb : XV X (.Constant (.bool true) j p1) ρ (.bool true)) : TV X (.Compare a [.IsNot] [.Constant (.bool true) j p1] pos) ρ (!decide (b = true)) := tx_cmp op_isnot_bl ha hb (RD.now fun O H x y h1 h2 => by
  cases h1
  cases h2
  exact ⟨_, .bl _, fun Q q => ⟨b, true, rfl, rfl, q⟩⟩)
end
end Pd
set_option Elab.async false
set_option linter.all false
set_option maxRecDepth 100000
set_option maxHeartbeats 1000000
/-! sorted of a list of pairs: an int, a tuple of ints. -/
namespace L2
open PySem PySem.Spec PyProof.Rows
abbrev PV := V × (Int × List Int)
def rSrtJ (K : PySem.W.Frag) : List V → Hp → VK → Prop := fun vs H Q => ∃ (a : Addr) (bs : List PV), vs = [V.ref a] ∧ SqL K H a (bs.map (·.1)) ∧ DpAll K H (bs.map (·.1)) (bs.map fun b => pT b.2) ∧ ∀ p, H p = none → Q (.ref p) (upd H p (.lst ((bs.mergeSort (PySem.W.dataLe false fun b : PV => pT b.2)).map (·.1))))
theorem each_vals : ∀ {us : List Value} {bs : List PV}, Vals (bs.map (·.1)) us → PySem.W.EachIs (fun (v : Value) (b : PV) => RelV b.1 v) us bs
  | us, [], r => by
    have r' : Vals [] us := r
    cases r'
    exact .nil
  | us, b :: bs, r => by
    have r' : Vals (b.1 :: bs.map (·.1)) us := r
    cases r' with
    | cons h t => exact .cons h (each_vals t)
theorem vals_each : ∀ {us : List Value} {bs : List PV}, PySem.W.EachIs (fun (v : Value) (b : PV) => RelV b.1 v) us bs → Vals (bs.map (·.1)) us
  | _, _, .nil => .nil
  | _, _, .cons h t => .cons h (vals_each t)
theorem cr_srtJ {X : Cx} (hu : X.A.units + 64 < cLine) : CallR X (.builtin "sorted") (rSrtJ X.K) := by
  intro pins s σ H vs us Q I r h
  obtain ⟨a, bs, rfl, hs, hd, q⟩ := h
  obtain ⟨its, rv, hl, hz⟩ := I.list hs
  rw [Vals.ref1 r]
  rw [List.length_map] at hz
  obtain ⟨as, ra⟩ := Dp.readsAll I _ _ _ hd rv
  refine PySem.W.sorted_data (R := fun (v : Value) (b : PV) => RelV b.1 v) (enc := fun b : PV => pT b.2) hl.isList (each_vals rv) (PySem.W.readsAll_each _ ra) (PySem.W.AllAlike.of fun b b' => PySem.W.DatumOrd.alike (pA b.2) (pA b'.2)) (PySem.W.Sortable.tuples fun b => ⟨_, _, rfl⟩) hz (fun b _ => ?_) fun out ho he => ?_
  · have h2 : (pT b.2).depth ≤ 2 := PySem.W.Datum.depth_le (pA b.2)
    show X.A.units + 2 + (pT b.2).depth < cLine
    omega
  · obtain ⟨ep, hat⟩ := PyProof.Rows.sortedAll_at s.heap its out.toArray
    refine ⟨.ref _, upd H (s.heap.objs.size + 1) (.lst _), I.laid (t' := s.toks) (fun _ _ => PyProof.Rows.sortedAll_old) (Nat.le_succ _) ⟨?_, out, ep, vals_each he, hat⟩, rfl, q _ (I.hok.fresh (Nat.le_succ _))⟩
    rw [List.length_map, List.length_mergeSort]
    exact hz
end L2
namespace Pd
open PySem PySem.Spec PyProof.Rows L2
theorem listLt_lex : ∀ a b : List Int, PySem.W.listLt a b = HT.lexLt a b
  | [], [] => rfl
  | [], _ :: _ => rfl
  | _ :: _, [] => rfl
  | x :: a, y :: b => by
    rw [HT.lexLt_cons, ← listLt_lex a b]
    rfl
theorem ltJ_eq (p q : Int × List Int) : ltJ p q = if p.1 = q.1 then HT.lexLt p.2 q.2 else decide (p.1 < q.1) := by
  show (if p.1 = q.1 then PySem.W.listLt p.2 q.2 else decide (p.1 < q.1)) = _
  rw [listLt_lex]
theorem ltJ_asym {p q : Int × List Int} (h : ltJ p q = true) : ltJ q p = false := by
  rw [ltJ_eq] at h ⊢
  by_cases e : p.1 = q.1
  · rw [if_pos e] at h
    rw [if_pos e.symm]
    exact NtL.lex_asym _ _ h
  · rw [if_neg e] at h
    rw [if_neg (Ne.symm e)]
    have := of_decide_eq_true h
    exact decide_eq_false (by omega)
theorem ltJ_tr {p q r : Int × List Int} (h1 : ltJ q p = false) (h2 : ltJ r q = false) : ltJ r p = false := by
  rw [ltJ_eq] at h1 h2 ⊢
  by_cases e1 : q.1 = p.1
  · rw [if_pos e1] at h1
    by_cases e2 : r.1 = q.1
    · rw [if_pos e2] at h2
      rw [if_pos (e2.trans e1)]
      exact NtL.lex_tr _ _ _ h1 h2
    · rw [if_neg e2] at h2
      have := of_decide_eq_false h2
      rw [if_neg (by omega)]
      exact decide_eq_false (by omega)
  · rw [if_neg e1] at h1
    have := of_decide_eq_false h1
    by_cases e2 : r.1 = q.1
    · rw [if_neg (by omega)]
      exact decide_eq_false (by omega)
    · rw [if_neg e2] at h2
      have := of_decide_eq_false h2
      rw [if_neg (by omega)]
      exact decide_eq_false (by omega)
theorem ltJ_total {p q : Int × List Int} (h1 : ltJ p q = false) (h2 : ltJ q p = false) : p = q := by
  rw [ltJ_eq] at h1 h2
  by_cases e : p.1 = q.1
  · rw [if_pos e] at h1
    rw [if_pos e.symm] at h2
    have := lex_total h1 h2
    obtain ⟨a, b⟩ := p
    obtain ⟨c, d⟩ := q
    cases e
    cases this
    rfl
  · rw [if_neg e] at h1
    rw [if_neg (Ne.symm e)] at h2
    have := of_decide_eq_false h1
    have := of_decide_eq_false h2
    omega
/-- the least -/
theorem minP_le (ps : List (Int × List Int)) : ∀ p, ∀ q ∈ p :: ps, ltJ q (minP p ps) = false := by
  unfold minP
  induction ps with
  | nil =>
    intro p q hq
    rw [List.mem_singleton.mp hq, List.foldl_nil, ltJ_eq, if_pos rfl]
    cases h : HT.lexLt p.2 p.2 with
    | false => rfl
    | true => have := NtL.lex_asym _ _ h; rw [h] at this; cases this
  | cons y ys ih =>
    intro p q hq
    rw [List.foldl_cons]
    by_cases e : ltJ y p = true
    · rw [if_pos e]
      rcases List.mem_cons.mp hq with h | h
      · rw [h]
        exact ltJ_tr (ih y y List.mem_cons_self) (ltJ_asym e)
      · exact ih y q h
    · rw [if_neg e]
      have e : ltJ y p = false := by simpa using e
      rcases List.mem_cons.mp hq with h | h
      · rw [h]; exact ih p p List.mem_cons_self
      · rcases List.mem_cons.mp h with h | h
        · rw [h]; exact ltJ_tr (ih p p List.mem_cons_self) e
        · exact ih p q (List.mem_cons_of_mem _ h)
theorem zip_fst {α β : Type} : ∀ {xs : List α} {ys : List β}, xs.length = ys.length → (xs.zip ys).map (·.1) = xs ∧ (xs.zip ys).map (·.2) = ys
  | [], [], _ => ⟨rfl, rfl⟩
  | x :: xs, y :: ys, h => by
    obtain ⟨a, b⟩ := zip_fst (xs := xs) (ys := ys) (by simpa using h)
    rw [List.zip_cons_cons, List.map_cons, List.map_cons, a, b]
    exact ⟨rfl, rfl⟩
theorem isAll_zip {O : Addr → Prop} {H : Hp} : ∀ {xs : List V} {L : List (Int × List Int)}, IsAll O H xs (L.map pT) → ∀ b ∈ xs.zip L, Is O H b.1 (pT b.2)
  | _, [], h, b, hb => by rw [List.zip_nil_right] at hb; cases hb
  | _, p :: L, h, b, hb => by
    cases h with
    | cons h1 h2 =>
      rw [List.zip_cons_cons] at hb
      rcases List.mem_cons.mp hb with rfl | hb
      · exact h1
      · exact isAll_zip h2 b hb
theorem isAll_pv {O : Addr → Prop} {H : Hp} : ∀ {bs : List PV}, (∀ b ∈ bs, Is O H b.1 (pT b.2)) → IsAll O H (bs.map (·.1)) ((bs.map (·.2)).map pT)
  | [], _ => .nil
  | b :: bs, h => .cons (h b List.mem_cons_self) (isAll_pv fun c hc => h c (List.mem_cons_of_mem _ hc))
/-- sorted(xs), pairs -/
theorem rc_srtJ {K : PySem.W.Frag} {L : List (Int × List Int)} : RC (rSrtJ K) [.list (L.map pT)] (fun z => ∃ M : List (Int × List Int), M.Perm L ∧ M.Pairwise (fun a b => ltJ b a = false) ∧ z = .list (M.map pT)) := fun O H vs al h Q q => by
  obtain ⟨v, rfl, hv⟩ := h.one
  obtain ⟨a, xs, rfl, _, e, r⟩ := hv.list
  have hl : xs.length = L.length := by have := r.length; rwa [List.length_map] at this
  obtain ⟨z1, z2⟩ := zip_fst hl
  refine ⟨a, xs.zip L, rfl, ?_, ?_, fun l hnl => ?_⟩
  · rw [z1]; exact SqL.of e
  · have e2 : (xs.zip L).map (fun b => pT b.2) = L.map pT := by
      conv => rhs; rw [← z2]
      rw [List.map_map]; rfl
    rw [z1, e2]
    exact IsAll.dp K r (shA_map (fun b => sh_pT (n := 0) b) _).1
  · have hp := List.mergeSort_perm (xs.zip L) (PySem.W.dataLe false fun b : PV => pT b.2)
    have hle : ∀ b c : PV, PySem.W.dataLe false (fun b : PV => pT b.2) b c = !ltJ c.2 b.2 := fun b c => by
      rw [PySem.W.dataLe_eq]
      show (!PySem.W.dataLt (pT c.2) (pT b.2)) = _
      rw [show PySem.W.dataLt (pT c.2) (pT b.2) = ltJ c.2 b.2 from PySem.W.DatumOrd.lt_eq (pA c.2) (pA b.2)]
    have hs : ((xs.zip L).mergeSort (PySem.W.dataLe false fun b : PV => pT b.2)).Pairwise fun b c => PySem.W.dataLe false (fun b : PV => pT b.2) b c = true := by
      refine List.pairwise_mergeSort (fun b c d h1 h2 => ?_) (fun b c => ?_) _
      · rw [hle] at h1 h2 ⊢
        rw [ltJ_tr (p := b.2) (q := c.2) (r := d.2) (by simpa using h1) (by simpa using h2)]; rfl
      · rw [hle, hle]
        cases h : ltJ c.2 b.2 with
        | false => rfl
        | true => rw [ltJ_asym h]; rfl
    refine q _ _ _ ⟨((xs.zip L).mergeSort (PySem.W.dataLe false fun b : PV => pT b.2)).map (·.2), ?_, ?_, rfl⟩ (Ext.new hnl) (Is.newL al hnl (isAll_pv fun b hb => isAll_zip r b (hp.mem_iff.mp hb)))
    · have := hp.map (·.2)
      rwa [z2] at this
    · refine List.pairwise_map.mpr (hs.imp fun {b c} hbc => ?_)
      rw [hle] at hbc
      simpa using hbc
end Pd
set_option Elab.async false
set_option linter.all false
set_option maxRecDepth 100000
set_option maxHeartbeats 1000000
namespace Sr
open PySem PySem.Spec PyProof.Rows L2 Pd
theorem Pth.pull {s : Int} (hs : 2 ≤ s) : ∀ {l : List Nat} {a e : List Int} {p : Nat}, Row a → Pth s a l e → p ∈ l → p ∈ freeN s a → ∃ l', Pth s (mv a p) l' e
  | [], _, _, p, _, r, hm, hp => by cases hm
  | q :: l, a, e, p, ha, r, hm, hp => by
    cases r with
    | cons hq r =>
      by_cases h : q = p
      · subst h; exact ⟨l, r⟩
      · have hm : p ∈ l := by
          rcases List.mem_cons.mp hm with e | e
          · exact absurd e.symm h
          · exact e
        obtain ⟨l', r'⟩ := Pth.pull hs (ha.mv hs hq) r hm (free_stays hq hp (Ne.symm h))
        exact ⟨q :: l', .cons (free_stays hp hq h) (by rw [mv_comm ha hs hp hq h]; exact r')⟩
theorem Pth.counts {s : Int} {l l' : List Nat} {a e : List Int} (h : Pth s a l e) (h' : Pth s a l' e) : ∀ j, l.count j = l'.count j
  | 0 => by
    have h1 := h.ht 0
    have h2 := h'.ht 0
    rw [if_neg (by decide)] at h1 h2
    omega
  | j + 1 => by
    have h0 := Pth.counts h h' j
    have h1 := h.ht (j + 1)
    have h2 := h'.ht (j + 1)
    rw [if_pos (Nat.succ_pos j), Nat.add_sub_cancel] at h1 h2
    omega
theorem rch_both {s : Int} (hs : 2 ≤ s) {a e : List Int} {p q : Nat} (ha : Row a) (hp : p ∈ freeN s a) (hq : q ∈ freeN s a) (h : q ≠ p) (h1 : Rch s (mv a p) e) (h2 : Rch s (mv a q) e) : Rch s (mv (mv a p) q) e := by
  obtain ⟨l1, h1⟩ := h1
  obtain ⟨l2, h2⟩ := h2
  have c := Pth.counts (Pth.cons hp h1) (Pth.cons hq h2) q
  rw [List.count_cons_self, List.count_cons_of_ne (Ne.symm h)] at c
  have hm : q ∈ l1 := List.count_pos_iff.mp (by omega)
  exact Pth.pull hs (ha.mv hs hp) h1 hm (free_stays hp hq h)
theorem ixe_mono {X : Cx} {tg e : Expr} {ρ : List Sl} {θ θ' : List PyData → Prop} (h : IXE X tg e ρ θ) (k : ∀ ys, θ ys → θ' ys) : IXE X tg e ρ θ' := PI.imp h fun σ H R ⟨W, O, g, q⟩ => ⟨W, O, g, fun ys J H' hy => q ys J H' (k ys hy)⟩
theorem ways_two {s : Int} (hs : 2 ≤ s) {a : List Int} {p q : Nat} (ha : Row a) (hp : p ∈ freeN s a) (hq : q ∈ freeN s a) (h : p < q) : 2 ≤ nW s a (mv (mv a p) q) := by
  have hne : q ≠ p := by omega
  have r1 := (nW_iff hs (ha.mv hs hp) (mv (mv a p) q)).mpr ⟨[q], .cons (free_stays hp hq hne) (.nil _)⟩
  have r2 := (nW_iff hs (ha.mv hs hq) (mv (mv a p) q)).mpr ⟨[p], .cons (free_stays hq hp (Ne.symm hne)) (by rw [mv_comm ha hs hp hq hne]; exact .nil _)⟩
  rw [nW_eq hs ha]
  have nn : ∀ x ∈ freeN s a, 0 ≤ nW s (mv a x) (mv (mv a p) q) := fun x hx => nW_nn hs (ha.mv hs hx) _
  have key : ∀ l : List Nat, l.Nodup → p ∈ l → q ∈ l → (∀ x ∈ l, 0 ≤ nW s (mv a x) (mv (mv a p) q)) → 2 ≤ (l.map fun x => nW s (mv a x) (mv (mv a p) q)).sum := by
    intro l
    induction l with
    | nil => intro _ hm; cases hm
    | cons y l ih =>
      intro hn h1 h2 h3
      rw [List.map_cons, List.sum_cons]
      obtain ⟨n1, n2⟩ := List.nodup_cons.mp hn
      have h3' : ∀ x ∈ l, 0 ≤ nW s (mv a x) (mv (mv a p) q) := fun x hx => h3 x (List.mem_cons_of_mem _ hx)
      have hy := h3 y List.mem_cons_self
      rcases List.mem_cons.mp h1 with e1 | m1
      · rcases List.mem_cons.mp h2 with e2 | m2
        · exact absurd (e2.trans e1.symm) hne
        · have := sum_ge h3' q m2
          subst e1
          omega
      · rcases List.mem_cons.mp h2 with e2 | m2
        · have := sum_ge h3' p m1
          subst e2
          omega
        · have := ih n2 m1 m2 h3'
          omega
  have := key (freeN s a) (List.nodup_range.sublist List.filter_sublist) hp hq nn
  split <;> omega
/-- the first row of least weight that comes from both -/
def IsJ (st : Int) (ns ms b : List Int) : Prop := (Rch st ns b ∧ Rch st ms b) ∧ ∀ e, Rch st ns e → Rch st ms e → ltJ (weightL e, e) (weightL b, b) = false
theorem IsJ.one {st : Int} {ns ms b c : List Int} (h : IsJ st ns ms b) (h' : IsJ st ns ms c) : b = c := congrArg Prod.snd (ltJ_total (h'.2 b h.1.1 h.1.2) (h.2 c h'.1.1 h'.1.2))
theorem IsJ.symm {st : Int} {ns ms b : List Int} (h : IsJ st ns ms b) : IsJ st ms ns b := ⟨⟨h.1.2, h.1.1⟩, fun e h1 h2 => h.2 e h2 h1⟩
theorem isJ_least {st : Int} {ns ms b : List Int} (h1 : Rch st ns b) (h2 : Rch st ms b) (h : ∀ e, Rch st ns e → Rch st ms e → e = b ∨ weightL b < weightL e) : IsJ st ns ms b := ⟨⟨h1, h2⟩, fun e a1 a2 => by
  rcases h e a1 a2 with rfl | h
  · cases hx : ltJ (weightL e, e) (weightL e, e) with
    | false => rfl
    | true => have := ltJ_asym hx; rw [hx] at this; cases this
  · exact ltJ_asym (by rw [ltJ_fst (by show weightL b ≠ weightL e; omega)]; exact decide_eq_true h)⟩
theorem isJ_rch {st : Int} {ns ms : List Int} (h : Rch st ns ms) : IsJ st ns ms ms := isJ_least h (Rch.refl _ _) fun e _ h2 => by
  have h3 := h2.weight
  by_cases hw : weightL ms = weightL e
  · exact .inl (h3.2 hw).symm
  · exact .inr (by have := h3.1; omega)
end Sr
set_option Elab.async false
set_option linter.all false
set_option maxRecDepth 100000
set_option maxHeartbeats 1000000
/-! Tuples that are known to the object (no dict of their own): displays, +, count. -/
namespace L2
open PySem PySem.Spec PyProof.Rows
section
variable {X : Cx} {pos : Pos}
/-- a known tuple without a dict of its own -/
def FzT (u : HO) (xs : List V) : Prop := ∃ ob : Obj, u = .frz ob (.tup xs) ∧ ob.cls = .type "tuple" ∧ ob.dict = none
def tTupF (t : TA) : TE := fun σ H Q => t σ H fun xs H1 => xs.length ≤ sizeLine ∧ ∀ p u, H1 p = none → FzT u xs → Q (.ref p) (upd H1 p u)
theorem pe_tupF {x1} {es : List Expr} {t : TA} (ht : PA X es t) : PE X (.Tuple es x1 pos) (tTupF t) := ⟨fun pins s σ H Q J hq =>
  wpAny_Tuple_spliced (thn (ht.run pos pins s σ H _ J hq) fun us s1 ⟨xs, H1, J1, rl, hz, k⟩ => ⟨by rw [← rl.length]; exact hz, by
    have fr : H1 s1.heap.objs.size = none := J1.hok.fresh (Nat.le_refl _)
    have ok : ObjOk X.prog X.w (upd H1 s1.heap.objs.size (.frz { cls := .type "tuple", data := .seq us.toArray } (.tup xs))) (s1.heap.push { cls := .type "tuple", data := .seq us.toArray }) s1.heap.objs.size (.frz { cls := .type "tuple", data := .seq us.toArray } (.tup xs)) :=
      ⟨Heap.get?_push_size _ rfl, hz, us, rl, _, Heap.get?_push_size _ rfl, rfl, _, rfl⟩
    exact ⟨.ref s1.heap.objs.size, _, J1.laid (t' := s1.toks) (fun _ _ e => Heap.get?_push_of_some _ e) (Nat.le_refl _) ok, rfl, k _ _ fr ⟨_, rfl, rfl, rfl⟩⟩⟩)⟩
theorem FzT.sq {K : PySem.W.Frag} {H : Hp} {a : Addr} {u : HO} {xs : List V} (h : FzT u xs) (e : H a = some u) : SqT K H a xs := by
  obtain ⟨ob, rfl, _⟩ := h
  exact .inl (.inr ⟨ob, e⟩)
/-- t + u, both known -/
def rCatF : R2 := fun x y H Q => ∃ a b u1 u2 xs ys, x = .ref a ∧ y = .ref b ∧ H a = some u1 ∧ H b = some u2 ∧ FzT u1 xs ∧ FzT u2 ys ∧ ys ≠ [] ∧ xs.length + ys.length ≤ sizeLine ∧
  (xs = [] → Q (.ref b) H) ∧ (xs ≠ [] → ∀ p u, H p = none → FzT u (xs ++ ys) → Q (.ref p) (upd H p u))
theorem op_catF : OpR X (binaryOp .Add) rCatF := by
  intro pins s σ H x y v u Q J rx ry h
  obtain ⟨a, b, u1, u2, xs, ys, rfl, rfl, e1, e2, f1, f2, hy, hz, q0, q1⟩ := h
  cases rx
  cases ry
  obtain ⟨is1, l1, t1, _⟩ := J.tuple (f1.sq e1)
  obtain ⟨is2, l2, t2, _⟩ := J.tuple (f2.sq e2)
  by_cases hx : xs = []
  · subst hx
    cases l1
    exact cat_tup0 t1 t2 ⟨.ref b, H, J, rfl, q0 rfl⟩
  · refine HT.cat_tup t1 t2 (fun z => hx (l1.nil_iff.mp z)) (fun z => absurd (l2.nil_iff.mp z) hy) (fun _ => ?_) (by rw [← l1.length, ← l2.length]; exact hz)
    have ok : ObjOk X.prog X.w (upd H s.heap.objs.size (.frz { cls := .type "tuple", data := .seq (is1 ++ is2).toArray } (.tup (xs ++ ys)))) (s.heap.push { cls := .type "tuple", data := .seq (is1 ++ is2).toArray }) s.heap.objs.size (.frz { cls := .type "tuple", data := .seq (is1 ++ is2).toArray } (.tup (xs ++ ys))) :=
      ⟨Heap.get?_push_size _ rfl, by rw [List.length_append]; exact hz, _, l1.append l2, _, Heap.get?_push_size _ rfl, rfl, _, rfl⟩
    exact ⟨.ref s.heap.objs.size, _, J.laid (t' := s.toks) (fun _ _ e => Heap.get?_push_of_some _ e) (Nat.le_refl _) ok, rfl, q1 hx _ _ (J.hok.fresh (Nat.le_refl _)) ⟨_, rfl, rfl, rfl⟩⟩
/-- t.count(k), t known, of ints -/
def tCntF (to : TE) (t : TA) : TE := fun σ H Q => to σ H fun x H1 => ∃ (a : Addr) (u : HO) (ns : List Int), x = .ref a ∧ H1 a = some u ∧ FzT u (ns.map V.int) ∧ t σ H1 fun vs H2 => ∃ k : Int, vs = [.int k] ∧ H2 a = some u ∧ Q (.int (ns.count k : Nat)) H2
theorem pe_countF {o e : Expr} {apos cpos : Pos} {to : TE} {t : TA} (ho : PE X o to) (ha : PA X [e] t)
    (hbase : attributeBase o "count" X.env (eval o X.env) = eval o X.env := by rfl)
    (hfew : ((backTo cpos (starEach [e] X.env)).all (fun x => !x.1) && (backToKw cpos (keywordEach [] X.env)).all (fun x => x.1.isSome) && decide (([e] : List Expr).length + ([] : List Keyword).length + (if ([] : List Keyword).isEmpty then 0 else 1) < 30)) = true := by rfl)
    (hline : (apos.endLine == cpos.line) = true := by rfl) (hs : starEach [e] X.env = (false, eval e X.env) :: starEach [] X.env := by rfl) (hplain : (backTo cpos (starEach [] X.env)).any (·.1) = false := by rfl) :
    PE X (.Call (.Attribute o "count" apos) [e] [] cpos) (tCntF to t) := ⟨fun pins s σ H Q J h => by
  refine wpAny_Call_method_late hbase hfew hline rfl (thn (ho.run pins s σ H _ J h) fun v s1 ⟨x, H1, J1, r1, a, u, ns, ex, ea, fz, q1⟩ => ?_)
  subst ex
  cases r1
  obtain ⟨ob, eu, hc, hd⟩ := fz
  subst eu
  obtain ⟨g1, _⟩ := (show ObjOk X.prog X.w H1 s1.heap a (.frz ob (.tup (ns.map V.int))) from J1.hok a _ ea)
  refine ⟨"tuple", "tuple.count", PySem.F.plainAttrs_tuple, PySem.F.slot_tuple_count, PySem.F.type_tuple_count, ⟨ob, g1, hc⟩, fun b eb => ?_, ?_⟩
  · cases eb
    exact ⟨ob, g1, hd⟩
  have hA := ha.run cpos pins s1 σ H1 _ J1 q1
  rw [hs] at hA ⊢
  refine Calls.callWith_builtin (by show (false || (backTo cpos (starEach [] X.env)).any (·.1)) = false; rw [hplain]; rfl) (Calls.evalArgs_plain (thn hA fun us s2 ⟨vs, H2, J2, r2, k, ev, ea2, q2⟩ => ?_))
  subst ev
  obtain ⟨u, rfl, ru⟩ := r2.one
  obtain ⟨t0, rfl⟩ := ru
  obtain ⟨is1, l1, t1, _⟩ := J2.tuple (show SqT X.K H2 a (ns.map V.int) from .inl (.inr ⟨ob, ea2⟩))
  obtain ⟨⟨cls, dd, data, sl⟩, ho2, hc2, n, hd2⟩ := id t1
  simp only at hc2 hd2
  subst hc2 hd2
  have hi := ints_of_vals l1
  refine call_meets PySem.F.slot_tuple_count ⟨_, ho2, rfl⟩ PySem.F.entry_tuple_count (PySem.F.args_tuple_count_2 _ _) (SeqAt.tuple_countAt a is1.toArray n dd sl (.int k t0) (eqk k)) ⟨ho2, fun y hy => (eqk_gives hi y (by simpa using hy)).at _ _, ?_⟩
  have ec : is1.toArray.toList.countP (eqk k) = ns.count k := eqk_count hi
  exact ⟨.int (ns.count k : Nat), H2, J2.tok _, ⟨s2.toks, by rw [← ec]⟩, q2⟩⟩
end
end L2
namespace Pd
open PySem PySem.Spec PyProof.Rows L2
section
variable {X : Cx} {ρ : List Sl} {φ ψ χ : PyData → Prop} {a b c e : Expr} {es : List Expr} {pos : Pos} {d : PyData} {st : Stmt} {rest : List Stmt} {nx nx' mid : List Sl → Prop} {rt : PyData → Prop}
/-- a slot that holds a known tuple of the ints ns -/
def SlF (ns : List Int) (s : Sl) : Prop := ∃ u, FzT u (ns.map V.int) ∧ s = .fz fun _ => u
theorem FzT.nt {u : HO} {xs : List V} (h : FzT u xs) : Pd.nt u := by
  obtain ⟨ob, rfl, _⟩ := h
  exact nt_frz
theorem isAll_int {O : Addr → Prop} {H : Hp} {vs : List V} {ns : List Int} (h : IsAll O H vs (ns.map .int)) : vs = ns.map V.int := h.ints
/-- (a, b, ..) of ints -/
theorem s_tupF {x1} {ns : List Int} (h : AV X es ρ (ns.map .int)) (hl : ns.length ≤ 100000) : XS X (.Tuple es x1 pos) ρ (SlF ns) := PE.imp (pe_tupF h) fun σ H Q ⟨W, O, g, k⟩ =>
  ⟨W, O, g, fun d x H1 hd g1 e1 i1 => by
    subst hd
    have ex := i1.ints
    subst ex
    refine ⟨by rw [sizeLine_eq, List.length_map]; omega, fun p u hp hu => ?_⟩
    exact k (.fz fun _ => u) _ _ O ⟨u, hu, rfl⟩ (g1.ext' (Ext.new hp)) (fun _ h => h) (fun _ h => .inl h) (e1.trans (Ext.new hp).exd) ⟨p, rfl, g1.al.fresh hp, upd_same, FzT.nt hu⟩ (fun z => nomatch z)⟩
/-- x + (..), x a known tuple -/
theorem s_catF {i : Nat} {x : Str} {p1 : Pos} {ns ms : List Int} {s0 : Sl} (hs0 : SlF ns s0) (hb : XS X b ρ (SlF ms)) (hm : ms ≠ []) (hl : ns.length + ms.length ≤ 100000) (hi : ρ[i]? = some s0) (hN : X.N[i]? = some x := by rfl) (hv : Vis X.env.scope x := by first | exact Or.inl rfl | exact Or.inr (Or.inl rfl) | exact Or.inr (Or.inr rfl))
    (hd : (x == ("__debug__" : Str)) = false := by decide) (hcd : (x == ("__classdict__" : Str)) = false := by decide) : XS X (.BinOp (.Name x p1) .Add b pos) ρ (SlF (ns ++ ms)) :=
  PE.imp (pe_op op_catF (pe_var hN hv hd hcd) hb) fun σ H Q ⟨W, O, g, k⟩ => by
    obtain ⟨u1, f1, rfl⟩ := hs0
    obtain ⟨x0, hx0, a1, e0, n1, h1, m1⟩ := g.at hi
    subst e0
    refine ⟨.ref a1, hx0, W, O, g, fun s v H' O' hs g' sub new ed ok fr => ?_⟩
    obtain ⟨u2, f2, rfl⟩ := hs
    obtain ⟨a2, ev, n2, h2, m2⟩ := ok
    cases ev
    obtain ⟨a1', ea1, n1', h1', _⟩ := g'.sl i _ _ hx0 hi
    cases ea1
    refine ⟨a1, a2, u1, u2, _, _, rfl, rfl, h1', h2, f1, f2, fun z => hm (by simpa using z), by rw [sizeLine_eq, List.length_map, List.length_map]; omega, fun z => ?_, fun _ p u hp hu => ?_⟩
    · have z : ns = [] := by simpa using z
      subst z
      exact k (.fz fun _ => u2) _ _ O' ⟨u2, f2, rfl⟩ g' sub new ed ⟨a2, rfl, n2, h2, m2⟩ (fun z => nomatch z)
    · rw [← List.map_append] at hu
      exact k (.fz fun _ => u) _ _ O' ⟨u, hu, rfl⟩ (g'.ext' (Ext.new hp)) sub new (ed.trans (Ext.new hp).exd) ⟨p, rfl, g'.al.fresh hp, upd_same, FzT.nt hu⟩ (fun z => nomatch z)
/-- x.count(k), x a known tuple -/
theorem x_countF {i : Nat} {x : Str} {p1 apos cpos : Pos} {ns : List Int} {k : Int} {s0 : Sl} (hs0 : SlF ns s0) (he : XV X e ρ (.int k)) (hi : ρ[i]? = some s0) (hN : X.N[i]? = some x := by rfl) (hv : Vis X.env.scope x := by first | exact Or.inl rfl | exact Or.inr (Or.inl rfl) | exact Or.inr (Or.inr rfl))
    (hd : (x == ("__debug__" : Str)) = false := by decide) (hcd : (x == ("__classdict__" : Str)) = false := by decide) (hbase : attributeBase (.Name x p1) "count" X.env (eval (.Name x p1) X.env) = eval (.Name x p1) X.env := by rfl)
    (hfew : ((backTo cpos (starEach [e] X.env)).all (fun x => !x.1) && (backToKw cpos (keywordEach [] X.env)).all (fun x => x.1.isSome) && decide (([e] : List Expr).length + ([] : List Keyword).length + (if ([] : List Keyword).isEmpty then 0 else 1) < 30)) = true := by rfl)
    (hline : (apos.endLine == cpos.line) = true := by rfl) (hs : starEach [e] X.env = (false, eval e X.env) :: starEach [] X.env := by rfl) (hplain : (backTo cpos (starEach [] X.env)).any (·.1) = false := by rfl) :
    XV X (.Call (.Attribute (.Name x p1) "count" apos) [e] [] cpos) ρ (.int (ns.count k : Nat)) :=
  PE.imp (pe_countF (pe_var hN hv hd hcd) (a_cons he a_nil hs) hbase hfew hline hs hplain) fun σ H Q ⟨W, O, g, q⟩ => by
    obtain ⟨u1, f1, rfl⟩ := hs0
    obtain ⟨x0, hx0, a1, e0, n1, h1, m1⟩ := g.at hi
    subst e0
    refine ⟨.ref a1, hx0, a1, u1, ns, rfl, h1, f1, W, O, g, fun ds vs H' hds g' ed is => ?_⟩
    subst hds
    obtain ⟨w, rfl, iw⟩ := is.one
    cases iw
    obtain ⟨a1', ea1, n1', h1', _⟩ := g'.sl i _ _ hx0 hi
    cases ea1
    exact ⟨k, rfl, h1', q _ _ H' rfl g' ed (.int _)⟩
/-- a block that hands out what is no data: K tells what is to be done with it -/
def tG (ρ : List Sl) (K : Fm → Ends → Prop) : TS := fun D σ H => ∃ W O, Gd W O σ H ρ ∧ K W D
theorem g_seq {K : Fm → Ends → Prop} (h : SX X st ρ mid (fun _ => False)) (k : ∀ ρ', mid ρ' → PSs X rest (tG ρ' K)) : PSs X (st :: rest) (tG ρ K) :=
  PSs.imp (pss_cons (u := fun D σ H => ∃ ρ', mid ρ' ∧ tG ρ' K D σ H) h (PSs.exi k)) fun D σ H ⟨W, O, g, kk⟩ => ⟨W, O, g, fun ρ' O' σ' H' hm g' => ⟨ρ', hm, W, O', g', kk⟩, fun _ _ _ _ z => z.elim⟩
theorem SX_expr (h : XE X e ρ φ) (hs : swapsWith e none pos.line X.env = pure false := by rfl) : SX X (.Expr e pos) ρ (fun ρ' => ρ' = ρ) rt := PS.imp (ps_expr h hs) fun D σ H ⟨W, O, g, k1, k2⟩ => ⟨W, O, g, fun d v H' hd g' e' i' => k1 ρ O σ H' rfl g'⟩
theorem SX_ifN {ta : List Stmt} (hc : TV X c ρ false) : SX X (.If c ta [] pos) ρ (fun ρ' => ρ' = ρ) rt :=
  PS.imp (ps_if (t := fun _ _ _ => False) hc ⟨fun _ _ _ _ _ _ z => z.elim⟩ (s_nil (nx := fun ρ' => ρ' = ρ) (rt := rt) (ρ := ρ) rfl)) fun D σ H ⟨W, O, g, k1, k2⟩ => ⟨W, O, g, fun b H' hb g' e' => by
    subst hb
    exact ⟨W, O, g', k1, k2⟩⟩
/-- return x, x a known tuple -/
def KF (φ : List Int → Prop) : Fm → Ends → Prop := fun W D => ∀ ns u a O' H', φ ns → FzT u (ns.map V.int) → ¬ O' a → H' a = some u → Rt W O' H' → D.rt (.ref a) H'
theorem g_retF {i : Nat} {x : Str} {p1 : Pos} {ns : List Int} {s0 : Sl} {φ : List Int → Prop} (hs0 : SlF ns s0) (hφ : φ ns) (hi : ρ[i]? = some s0) (hN : X.N[i]? = some x := by rfl) (hv : Vis X.env.scope x := by first | exact Or.inl rfl | exact Or.inr (Or.inl rfl) | exact Or.inr (Or.inr rfl))
    (hd : (x == ("__debug__" : Str)) = false := by decide) (hcd : (x == ("__classdict__" : Str)) = false := by decide) : PSs X (.Return (some (.Name x p1)) pos :: rest) (tG ρ (KF φ)) :=
  PSs.imp (pss_cons (u := tNever) (ps_ret (pe_var hN hv hd hcd)) pss_never) fun D σ H ⟨W, O, g, kk⟩ => by
    obtain ⟨u1, f1, rfl⟩ := hs0
    obtain ⟨x0, hx0, a1, e0, n1, h1, m1⟩ := g.at hi
    subst e0
    exact ⟨.ref a1, hx0, kk ns u1 a1 O H hφ f1 n1 h1 g.rt⟩
/-- a def of data that hands out a known tuple -/
def spK {α : Type} (args : α → List PyData) (pre : α → Prop) (post : α → List Int → Prop) : Sp := fun vs H Q _ => ∃ (a : α) (O : Addr → Prop), Al O H ∧ IsAll O H vs (args a) ∧ pre a ∧ ∀ ns u p H', post a ns → FzT u (ns.map V.int) → ¬ O p → H' p = some u → Ext H H' → Q (.ref p) H'
theorem fnK {P : Program} {w : World} {K : PySem.W.Frag} {mg : Str → Option Value} {base : Heap} {α : Type} {args : α → List PyData} {pre : α → Prop} {post : α → List Int → Prop} {x qual : Str} {st : Stmt} {f : Addr} {fd : FuncData} {N ps : List Str} {k : Nat} (F : Fun K x qual st f fd) (S : FnScope N ps (defScope st)) (len : ∀ a, (args a).length = ps.length)
    (body : ∀ (a : α), pre a → ∀ (cdv : Value) (A : Around) (outer : List Env) (s : Shared) (H : Hp) (E : XK), Room k (A.deeper (envOfC qual (defScope st) s.heap.objs.size f cdv)) →
      PSs (cxOf CX0 P w K mg base N qual (defScope st) f cdv A outer s H E).nox (defBody st) (tG ((args a).map .val ++ List.replicate (N.length - ps.length) .no) (KF (post a)))) : FnOk P w K mg base CX0 (k + 1) f fd ps (spK args pre post) := by
  refine F.ok S (fun vs H Q E h => ?_) (fun cdv A outer s H vs Q E hr h => ?_)
  · obtain ⟨a, O, _, i, _⟩ := h
    rw [i.length, len]
  · obtain ⟨a, O, al, is, hp, q⟩ := h
    have hl : vs.length = ps.length := by rw [is.length, len]
    refine ⟨_, body a hp cdv A outer s H E hr, ⟨H, O, fun _ => False, fun _ => False, O, []⟩, O, ?_, fun ns u p O' H' hφ fz hO hH rt => ?_⟩
    · unfold L2.start
      rw [hl]
      exact gd_start al is
    · exact q ns u p H' hφ fz (fun z => hO (rt.1 p z)) hH (fun a o h => rt.2.1 a o h (fun z => z))
theorem Df.mkK {P : Program} {w : World} {K : PySem.W.Frag} {mg : Str → Option Value} {base : Heap} {α : Type} {args : α → List PyData} {pre : α → Prop} {post : α → List Int → Prop} {x : Str} {st : Stmt} {N ps : List Str} {k : Nat} (T : Tx K mg x st ps) (S : FnScope N ps (defScope st)) (len : ∀ a, (args a).length = ps.length)
    (body : ∀ (a : α), pre a → ∀ (f : Addr) (cdv : Value) (A : Around) (outer : List Env) (s : Shared) (H : Hp) (E : XK), Room k (A.deeper (envOfC x (defScope st) s.heap.objs.size f cdv)) →
      PSs (cxOf CX0 P w K mg base N x (defScope st) f cdv A outer s H E).nox (defBody st) (tG ((args a).map .val ++ List.replicate (N.length - ps.length) .no) (KF (post a)))) : Df P w K mg base (k + 1) x ps (spK args pre post) := by
  obtain ⟨f, fd, F, Hs⟩ := T
  exact ⟨f, fd, Hs, fnK F S len fun a hp cdv A outer s H E hr => body a hp f cdv A outer s H E hr⟩
/-- f(..) that hands out a known tuple -/
theorem s_callK {α : Type} {args : α → List PyData} {pre : α → Prop} {post : α → List Int → Prop} {k j : Nat} {ps : List Str} {x : Str} {p : Pos} (a : α) (F : Df X.prog X.w X.K X.mg X.base k x ps (spK args pre post)) (hr : Room j X.A) (ha : AV X (e :: es) ρ (args a)) (hp : pre a) (hj : k ≤ j := by decide) (hg : Gl X x := by rfl) (hdb : (x == ("__debug__" : Str)) = false := by decide)
    (he : starEach (e :: es) X.env = (false, eval e X.env) :: starEach es X.env := by rfl) (hpl : (backTo pos (starEach es X.env)).any (·.1) = false := by rfl) : XS X (.Call (.Name x p) (e :: es) [] pos) ρ (fun s => ∃ ns, post a ns ∧ SlF ns s) := by
  obtain ⟨f, fd, T, F⟩ := F
  exact PE.imp (pe_call F (hr.mono hj) hg T.gl T.kp T.bd .nil pass0 ha hdb he hpl) fun σ H Q ⟨W, O, g, q⟩ => ⟨W, O, g, fun ds vs H1 hd g1 e1 i1 => by
    subst hd
    show spK args pre post (vs ++ []) H1 Q E0
    rw [List.append_nil]
    exact ⟨a, O, g1.al, i1, hp, fun ns u p H2 h1 fz hO hH ex => q (.fz fun _ => u) (.ref p) H2 O ⟨ns, h1, u, fz, rfl⟩ (g1.ext' ex) (fun _ h => h) (fun _ h => .inl h) (e1.trans ex.exd) ⟨p, rfl, hO, hH, FzT.nt fz⟩ (fun z => nomatch z)⟩⟩
end
end Pd
set_option Elab.async false
set_option linter.all false
set_option maxRecDepth 100000
set_option maxHeartbeats 1000000
/-! [f(x) for x in ..], where f raises at some item: the exception leaves the comprehension. -/
namespace PdR
open PySem PySem.Spec PyProof.Rows L2
theorem funFrames_less {h h' B B' : Heap} (kb : ∀ b, B.get? b = none → B'.get? b = none) : ∀ {l : List Env}, (∀ b ∈ frs l, ∀ o, h.get? b = some o → h'.get? b = some o) → h.FunFrames B l → h'.FunFrames B' l
  | [], _, _ => trivial
  | env :: l, k, hl => by
    obtain ⟨h1, ⟨L, o, hf, hn, ho, hd⟩, hr⟩ := hl
    refine ⟨h1, ⟨L, o, hf, kb L hn, k L ?_ o ho, hd⟩, funFrames_less kb (fun b hb => k b ?_) hr⟩
    · exact List.mem_filterMap.mpr ⟨env, List.mem_cons_self, hf⟩
    · obtain ⟨e, he, q⟩ := List.mem_filterMap.mp hb
      exact List.mem_filterMap.mpr ⟨e, List.mem_cons_of_mem _ he, q⟩
section
variable {X : Cx} {pins pl : List (Addr × Obj)} {σ : L2.St} {H : Hp} {s s' : Shared} {W : WX} {E : XK}
/-- an exception that a call inside the block let out goes through the block -/
theorem comp_fail {C : Addr} {oC : Obj} {u : Value} {scope : Scope} {cl : List (Str × Addr)} (J : Inv X (pins ++ pl) σ H s) (tk : L2N.Takes X W) (hstk : X.stack = X.env :: X.outer) (hfr : X.env.frame = some X.env.locals) (fC : FpOk X pins H C) (gC : s.heap.get? C = some oC) (nsC : ∃ m, s.heap.Ns C m)
    (hW : ∀ cls d H', E cls d H' → W cls d σ H') (c : L2N.CX X.prog X.w X.stack H s E u s') : notedBy (model X.prog X.w) X.A (compEnvC scope cl C X.env) (CompFails (model X.prog X.w) X.A X.xe (compEnvC scope cl C X.env)) u s' := by
  obtain ⟨a, B, H', cls, d, rfl, fl, hok, ub, na, os, ag, hE⟩ := c
  obtain ⟨nC, cL, cF, cN, cC, cP⟩ := fC
  have J0 : Inv X pins σ H s := J.unpinned
  have cS : C ∉ frs X.stack := fun z => (List.mem_cons.mp (J0.stkSub C z)).elim cL cF
  have hC' : H' C = none := ub.free C oC gC nC
  have bC : B.get? C = some oC := ub.keep C oC gC nC cS
  have st : B.StaysIn s'.heap := fl.1
  obtain ⟨G, g1, g2⟩ := restrict s'.heap fun b => ((B.get? b).isSome && decide (b ≠ C)) || decide (b ∈ frs X.stack)
  have gB : ∀ b o, b ≠ C → B.get? b = some o → G.get? b = some o := fun b o n e => by
    rw [g1 b (by simp [e, n])]
    exact st b o e
  have gF : ∀ b, b ∈ frs X.stack → G.get? b = s'.heap.get? b := fun b hb => g1 b (by simp [hb])
  have og : ∀ b o, G.get? b = some o → s'.heap.get? b = some o ∧ b ≠ C ∧ (B.get? b = some o ∨ b ∈ frs X.stack) := fun b o e => by
    cases q : (((B.get? b).isSome && decide (b ≠ C)) || decide (b ∈ frs X.stack)) with
    | false => rw [g2 b q] at e; cases e
    | true =>
      rw [g1 b q] at e
      simp only [Bool.or_eq_true, Bool.and_eq_true, decide_eq_true_eq] at q
      rcases q with ⟨q1, q2⟩ | q
      · obtain ⟨o', q1⟩ := Option.isSome_iff_exists.mp q1
        have z := st b o' q1
        rw [e] at z
        cases z
        exact ⟨e, q2, .inl q1⟩
      · exact ⟨e, fun z => cS (z ▸ q), .inr q⟩
  have II : Inv X pins σ H' { s with heap := G, gens := s'.gens, drawn := s'.drawn, toks := s'.toks } := by
    refine J0.call (ch := [C]) ⟨fun b o e n hb hc => gB b o (fun z => hc (by simp [z])) (ub.keep b o e n hb), fun b o e n hb _ => ?_, fun b o e n _ => ub.free b o e n, fun b o e hc => ?_, ub.tups, ub.frzs, ub.tbls⟩ (fun b o e => ?_) ag fun b hb => ?_
    · obtain ⟨sl, q⟩ := ub.slot b o e hb
      exact ⟨sl, by rw [gF b hb]; exact q⟩
    · by_cases hb : b ∈ frs X.stack
      · obtain ⟨sl, q⟩ := ub.slot b o e hb
        exact ⟨_, by rw [gF b hb]; exact q⟩
      · obtain ⟨o', q⟩ := ub.there b o e hb
        exact ⟨o', gB b o' (fun z => hc (by simp [z])) q⟩
    · refine (hok b o e).stay (fun b' u' hb' q => gB b' u' (fun z => ?_) q) (fun _ q => q) fun _ _ q => q
      rw [z] at hb'
      rcases hb' with hb' | hb'
      · rw [← hb', hC'] at e; cases e
      · rw [hC'] at hb'; cases hb'
    · have eb : b = C := by simpa using hb
      rw [eb]
      exact ⟨cN, cL, cC, cP⟩
  rw [hstk] at fl
  have frm : X.A.frames = some (X.env :: X.outer) := by rw [J0.ok.frames, hstk]
  show wpAny _ _ (noteFrame (.ref a) X.env) _ _ _
  refine PXN.looks_onZ L2N.Zn.steady frm hfr fl fun h1 held up1 => ?_
  obtain ⟨m, hm⟩ := nsC
  have c1 : h1.get? C = some oC := held.1 C oC bC
  refine ⟨m, hm.at' fun o e => ?_, fun h2 m2 hn2 sb => ?_⟩
  · rw [gC] at e; cases e; exact c1
  have sb : Heap.SameBut C h1 h2 := sb
  obtain ⟨held_stays, hen, hl1, oe, vs, T, oT, ts, he, hz, hd, hv1, hnT, hTe, hT, hdT, h3⟩ := held
  have aC : a ≠ C := fun z => by rw [z, bC] at hen; cases hen
  have tC : T ≠ C := fun z => by rw [z, bC] at hnT; cases hnT
  have k2 : ∀ b o, b ≠ C → h1.get? b = some o → h2.get? b = some o := fun b o n e => (sb.2 b n).trans e
  have hB' : (PySem.W.hideAll B [C]).StaysIn h2 := fun b o e => by
    by_cases z : b = C
    · rw [z, PySem.W.hideAll_none [C] (by simp)] at e; cases e
    · exact k2 b o z (held_stays b o (PySem.W.of_hideAll _ e))
  have none' : ∀ b, B.get? b = none → (PySem.W.hideAll B [C]).get? b = none := fun b e => by
    cases q : (PySem.W.hideAll B [C]).get? b with
    | none => rfl
    | some o => rw [PySem.W.of_hideAll _ q] at e; cases e
  have ff2 : h2.FunFrames (PySem.W.hideAll B [C]) (X.env :: X.outer) := funFrames_less none' (fun b hb o e => k2 b o (fun z => cS (by rw [hstk]; exact z ▸ hb)) e) hl1
  have tr2 : HandSPX.TracedZ h2 (PySem.W.hideAll B [C]) a (L2N.Zn cls d) (rawInt X.env.locals) := ⟨oe, vs, T, oT, ts, k2 a oe aC he, hz, hd, hv1, none' T hnT, hTe, k2 T oT tC hT, hdT, h3⟩
  unfold PySem.passOn
  refine wpAny_bind (wpAny_field (k2 a oe aC he) hd hv1 ?_)
  rw [if_neg (by simp)]
  refine wpAny_bind (HandSPX.setFlight_anyZ (base := PySem.W.hideAll B [C]) (l := X.env :: X.outer) (Z := L2N.Zn cls d) hB' ff2 tr2 fun h4 k4 f4 t4 up4 => wpAny_throw (tk _ _ ?_))
  have t4' : HandSPX.TracedZ h4 (PySem.W.hideAll B [C]) a (L2N.Zn cls d) (rawInt X.env.locals) := by
    have e : ((compEnvC scope cl C X.env).frame.elim Value.none fun f => rawInt f) = rawInt X.env.locals := by
      show (X.env.frame.elim Value.none fun f => rawInt f) = _
      rw [hfr]
      rfl
    rw [e] at t4
    exact t4
  refine ⟨a, PySem.W.hideAll B [C], _, pins, σ, H', cls, d, rfl, II, fun b o e hb => ?_, fun b o e hnf => ?_, .inr (.inr ?_), na, os, ag, hW _ _ _ hE⟩
  · obtain ⟨_, n, q⟩ := og b o e
    rcases q with q | q
    · exact PySem.W.hideAll_get _ q (by simpa using n)
    · exact absurd q hb
  · obtain ⟨e1, n, _⟩ := og b o e
    obtain ⟨sl, e2⟩ := up1 b o e1 hnf
    obtain ⟨sl2, e3⟩ := up4 b _ (k2 b _ n e2) hnf
    exact ⟨sl2, e3⟩
  · rw [hstk]
    exact ⟨k4, none' a hen, f4, t4'⟩
/-- the turns of a comprehension that ends in a raise: f by its promise sp0, at last by its promise sp1 -/
def tLcR (wi : TI) (sp0 sp1 : Sp) (W : WX) : TE := fun σ H _ => wi σ H fun J H1 => ∃ Wt : Nat → Nat → Hp → Prop, (∃ m, Wt 0 m H1) ∧ ∀ i m H, Wt i m H → i ≤ 1000 ∧ J.go i H ∧ ∀ x H', J.yld i H x H' →
  sp0 [x] H' (fun _ H4 => ∃ m', m' < m ∧ Wt (i + 1) m' H4) E0 ∨ sp1 [x] H' (fun _ _ => False) (fun cls d H4 => W cls d σ H4)
theorem pe_lcR {fx x y : Str} {iter : Expr} {scope : Scope} {pa p1 p2 p3 pos : Pos} {wi : TI} {sp0 sp1 : Sp} {k : Nat} {f : Addr} {fd fd1 : FuncData} {y1 : Str} (tk : L2N.Takes X W) (hstk : X.stack = X.env :: X.outer) (hfr : X.env.frame = some X.env.locals) (hc : X.calm = true) (hi : PI X (.Name x pa) iter wi)
    (F0 : FnOk X.prog X.w X.K X.mg X.base CX0 k f fd [y] sp0) (F1 : FnOk X.prog X.w X.K X.mg X.base (L2N.CX X.prog X.w) k f fd1 [y1] sp1) (hr : Room k X.A) (TH : Pd.Has X.K X.mg fx f fd [y]) (TH1 : Pd.Has X.K X.mg fx f fd1 [y1])
    (hk : scope.kind = .function) (hcl : ∀ z ∈ scope.names, z.2 ≠ .cell) (hnf : ∀ z ∈ scope.names, z.2 ≠ .free) (hnm : ∀ z ∈ scope.names, z.2 = .local → scope.names.lookup z.1 = some .local) (hx : scope.names.lookup x = some .local) (hgf : ∀ cl C, (compEnvC scope cl C X.env).kindOf fx = some .globalImplicit)
    (hdx : (x == ("__debug__" : Str)) = false := by decide) (hdf : (fx == ("__debug__" : Str)) = false := by decide) (hs : ∀ z, foldedSetIterable iter X.env z = pure z := by intro _; rfl) :
    PE X (.ListComp (.Call (.Name fx p1) [.Name x p2] [] p3) [⟨.Name x pa, iter, [], 0⟩] scope pos) (tLcR wi sp0 sp1 W) := by
  refine ⟨fun pins s0 σ H Q I0 h => ?_⟩
  rw [eval_ListComp]
  refine comprehension_at (use := none) rfl hs (closure_ok fun z hz e => absurd e (hnf z hz)) hk hnm (thn (hi.run pins s0 σ H _ I0 h) fun xv s1 hx1 => thn hx1 fun itv s2 h2 => ?_)
  obtain ⟨it, fp, tn, J, H2, rfl, I2, T, st2, f2, Wt, ⟨m0, w0⟩, turn⟩ := h2
  refine wpAny_newObj_type (wpAny_newFunctionEnv hcl (fun z hz => absurd hz (by simp)) (fun h₁ hns hsb => ?_) hk)
  dsimp only at hns hsb ⊢
  generalize hHD : s2.heap.push { cls := .type "list", dict := none, data := .seq ([] : List Value).toArray } = HD at hns hsb ⊢
  have eC : HD.objs.size = s2.heap.objs.size + 1 := by rw [← hHD, Heap.size_push]
  generalize hC : HD.objs.size = C at hns hsb eC ⊢
  generalize hD : s2.heap.objs.size = D at eC ⊢
  have hDC : D ≠ C := by rw [eC]; exact Nat.ne_of_lt (Nat.lt_succ_self _)
  have old : ∀ b o, s2.heap.get? b = some o → h₁.get? b = some o := fun b o e => by
    have hb := Heap.lt_size e
    rw [hD] at hb
    exact hsb.extBut b o (by rw [eC]; exact Nat.ne_of_lt (Nat.lt_succ_of_lt hb)) (Heap.get?_push_of_some _ (hHD ▸ Heap.get?_push_of_some _ e))
  have plD : h₁.PlainList D #[] := ⟨_, hsb.extBut _ _ hDC (Heap.get?_push_of_some _ (by rw [← hHD, ← hD]; exact Heap.get?_push_size _ rfl))⟩
  have nD2 : H2 D = none := I2.hok.fresh (Nat.le_of_eq hD)
  have nC2 : H2 C = none := I2.hok.fresh (by rw [eC, hD]; exact Nat.le_succ _)
  have fD : ∀ H' : Hp, H' D = none → FpOk X pins H' D := fun H' e => I2.fpOk (Nat.le_of_eq hD) e
  have fC : ∀ H' : Hp, H' C = none → FpOk X pins H' C := fun H' e => I2.fpOk (by rw [eC, hD]; exact Nat.le_succ _) e
  have fpl : ∀ b ∈ fp, b < D := fun b hb => by
    obtain ⟨o, e, _⟩ := T.obj _ _ st2 b hb
    rw [← hD]
    exact Heap.lt_size e
  have fF : ∀ H' : Hp, (∀ b ∈ fp, H' b = none) → ∀ b ∈ fp, FpOk X pins H' b := fun H' n b hb => ⟨n b hb, (f2 b hb).2⟩
  have st3 : tn 0 h₁ := T.keep _ _ _ st2 fun b _ o e => old b o e
  have I3 : Inv X pins σ H2 { s2 with heap := h₁, toks := s2.toks + ([] : List (Str × Value)).length } := I2.kept old
  have kx : ∀ cl, (compEnvC scope cl C X.env).kindOf x = some .local := fun cl => lookup_relabel_local hx
  have hpp : ∀ cl, ((compEnvC scope cl C X.env).scope.kind == .class || ((compEnvC scope cl C X.env).scope.kind == .module && (compEnvC scope cl C X.env).locals != (compEnvC scope cl C X.env).globals)) = false := fun cl => by
    show (scope.kind == .class || (scope.kind == .module && _)) = false
    rw [hk]
    rfl
  have objs : ∀ {h : Heap} {m : Str → Option Value} {its : Array Value}, h.Ns C m → h.PlainList D its → (∃ o, h.get? D = some o ∧ ∀ v, o.data ≠ .cell v) ∧ ∃ o, h.get? C = some o ∧ ∀ v, o.data ≠ .cell v := fun {h m its} hn pl => by
    obtain ⟨n, e⟩ := pl
    obtain ⟨o, es, ep, eo, q⟩ := hn
    exact ⟨⟨_, e, fun v z => nomatch z⟩, o, eo, fun v z => by rw [q.1] at z; cases z⟩
  have loop : codeAny (model X.prog X.w) X.A (.compLoop (.ListComp (.Call (.Name fx p1) [.Name x p2] [] p3) [⟨.Name x pa, iter, [], 0⟩] scope pos) 0 (.ref it) (.ref D) (compEnvC scope (cloFrom X.env.cells scope.names []) C X.env))
      (compEnds (model X.prog X.w) X.A X.xe none (EP X pins σ Q) (.ref D) (compEnvC scope (cloFrom X.env.cells scope.names []) C X.env)) { s2 with heap := h₁, toks := s2.toks + ([] : List (Str × Value)).length } := by
    refine L2.compLoop_any (fun n s' => ∃ i H' its, Inv X pins σ H' s' ∧ tn i s'.heap ∧ (∀ b ∈ fp, H' b = none) ∧ H' D = none ∧ H' C = none ∧ (∃ m, s'.heap.Ns C m) ∧ s'.heap.PlainList D its ∧ its.size ≤ i ∧ Wt i n H') ?_ m0
      ⟨0, H2, #[], I3, st3, fun b hb => (f2 b hb).1, nD2, nC2, ⟨_, hns⟩, plD, Nat.le_refl _, w0⟩
    rintro n s5 ⟨i, H5, its, I5, st5, n5, nD5, nC5, ⟨m5, ns5⟩, pl5, hsz, w5⟩
    obtain ⟨hi1, go, step⟩ := turn i n H5 w5
    obtain ⟨oD5, oC5⟩ := objs ns5 pl5
    have I5' := I5.pinned (fp := [D, C]) (fun b hb => by
      have hb : b = D ∨ b = C := by simpa using hb
      rcases hb with rfl | rfl
      · exact fD H5 nD5
      · exact fC H5 nC5) (fun b hb => by
      have hb : b = D ∨ b = C := by simpa using hb
      rcases hb with rfl | rfl
      · exact oD5
      · exact oC5)
    have fp5 : ∀ b ∈ fp, FpOk X (pins ++ pinsAt [D, C] s5.heap) H5 b := fun b hb => by
      obtain ⟨g0, g1, g2, g3, g4, g5⟩ := fF H5 n5 b hb
      refine ⟨g0, g1, g2, g3, g4, fun p hp => ?_⟩
      rw [← List.append_assoc] at hp
      rcases List.mem_append.mp hp with hp | hp
      · exact g5 p hp
      · have hb2 := fpl b hb
        have : p.1 = D ∨ p.1 = C := by simpa using (of_pinsAt hp).1
        intro z
        rcases this with q | q
        · rw [q] at z; rw [z] at hb2; exact Nat.lt_irrefl _ hb2
        · rw [q, eC] at z; rw [← z] at hb2; exact Nat.lt_irrefl _ (Nat.lt_trans (Nat.lt_succ_self D) hb2)
    refine thn (T.item X rfl rfl rfl hc i _ s5 σ H5 _ I5' fp5 st5 go) fun r s6 ⟨u, hr6, h6⟩ => ?_
    subst hr6
    refine thn h6 fun _ s7 ⟨xw, H7, I7, r7, y7, st7, n7⟩ => ?_
    have p7 : ∀ b o, (b = D ∨ b = C) → s5.heap.get? b = some o → s7.heap.get? b = some o ∧ H7 b = none := fun b o hb e => by
      have z := I7.pin (b, o) (List.mem_append_right _ (List.mem_append_right _ (mem_pinsAt (by simpa using hb) e)))
      exact ⟨z.1, z.2.1⟩
    obtain ⟨oD, eD, _⟩ := oD5
    obtain ⟨oC, eC', _⟩ := oC5
    have nD7 := (p7 D oD (.inl rfl) eD).2
    have nC7 := (p7 C oC (.inr rfl) eC').2
    have ns7 : s7.heap.Ns C m5 := ns5.at' fun o e => (p7 C o (.inr rfl) e).1
    have pl7 : s7.heap.PlainList D its := pl5.at fun o e => (p7 D o (.inl rfl) e).1
    refine wpAny_assign_Name (wpAny_storeName_local (kx _) ns7 (fun h8 ns8 sb8 => ?_) (hpp _))
    refine wpAny_tests_nil ?_
    have off : ∀ b, b < D → b ≠ C := fun b hb z => by rw [z, eC] at hb; omega
    obtain ⟨_, cL, _, cN, cC, cP⟩ := fC H7 nC7
    have sb8' : Heap.SameBut C s7.heap h8 := sb8
    have I8 : Inv X pins σ H7 { s7 with heap := h8, toks := s7.toks + 1 } := I7.unpinned.turned (t' := s7.toks + 1) (fun b o hb e => sb8'.extBut b o hb e) nC7 cL cN cC cP
    have pl8 : h8.PlainList D its := pl7.at fun o e => sb8'.extBut _ o hDC e
    have st8 : tn (i + 1) h8 := T.keep _ _ _ st7 fun b hb o e => sb8'.extBut _ o (off b (fpl b hb)) e
    obtain ⟨oD8, oC8⟩ := objs ns8 pl8
    have J8 : Inv X (pins ++ pinsAt (D :: C :: fp) h8) σ H7 { s7 with heap := h8, toks := s7.toks + 1 } := I8.pinned (fun b hb => by
      have hb : b = D ∨ b = C ∨ b ∈ fp := by simpa using hb
      rcases hb with rfl | rfl | hb
      · exact fD H7 nD7
      · exact fC H7 nC7
      · exact fF H7 n7 b hb) (fun b hb => by
      have hb : b = D ∨ b = C ∨ b ∈ fp := by simpa using hb
      rcases hb with rfl | rfl | hb
      · exact oD8
      · exact oC8
      · exact T.obj _ _ st8 b hb)
    have g1 : h8.Ns X.env.globals X.mg := by rw [I8.ok.glob]; exact I8.mod.glob.keeps I8.bk
    refine wpAny_Call_Name_kw (Calls.Name_function_global (env := compEnvC scope (cloFrom X.env.cells scope.names []) C X.env) hk (hgf _ _) (Calls.loadGlobal_global (env := compEnvC scope (cloFrom X.env.cells scope.names []) C X.env) g1 TH.gl ?_) hdf)
    refine PySem.W.callWith_K (h₀ := X.base) I5.ok.mod.kin TH.kp ?_ rfl rfl
    refine Calls.spliced_cons ?_
    rw [eval_Name _ _ _ hdx]
    refine wpAny_bind (wpAny_standAt (wpAny_loadName_local hk (kx _) ns8 (v := u) (if_pos rfl) ?_))
    refine Calls.spliced_nil ⟨J8.kIn, ?_⟩
    have bb := TH.bd { s7 with heap := h8, toks := s7.toks + 1 } [u] J8.kIn rfl
    rw [List.append_nil] at bb
    have bb1 := TH1.bd { s7 with heap := h8, toks := s7.toks + 1 } [u] J8.kIn rfl
    rw [List.append_nil] at bb1
    rcases step xw H7 y7 with h0 | h1
    · refine wpAny_call (codeAny_mono (F0.run X.A X.stack { s7 with heap := h8, toks := s7.toks + 1 } H7 ⟨[u], []⟩ [u] [xw] _ E0 hr J8.env0 bb (.cons r7 .nil) h0) fun r s9 hq => ?_)
      cases r with
      | error e => exact (show False from hq).elim
      | ok fl =>
        cases fl with
        | ret v =>
          obtain ⟨yv, H9, J9, _, m', hm, w'⟩ := J8.after hq
          have p9 : ∀ b o, (b = D ∨ b = C ∨ b ∈ fp) → h8.get? b = some o → s9.heap.get? b = some o ∧ H9 b = none := fun b o hb e => by
            have z := J9.pin (b, o) (List.mem_append_right _ (List.mem_append_right _ (mem_pinsAt (by simpa using hb) e)))
            exact ⟨z.1, z.2.1⟩
          obtain ⟨oD9, eD9, _⟩ := oD8
          obtain ⟨oC9, eC9, _⟩ := oC8
          have nD9 := (p9 D oD9 (.inl rfl) eD9).2
          have nC9 := (p9 C oC9 (.inr (.inl rfl)) eC9).2
          obtain ⟨_, dL, _, dN, dC, dP⟩ := fD H9 nD9
          refine wpAny_list_append_plain (hsz := by rw [sizeLine_eq]; omega) (pl8.at fun o e => (p9 D o (.inl rfl) e).1) fun h10 pl10 sb10 => ?_
          refine ⟨m', hm, i + 1, H9, its.push v, J9.unpinned.turned (t' := s9.toks) (fun b o hb e => sb10.extBut b o hb e) nD9 dL dN dC dP, T.keep _ _ _ st8 fun b hb o e => ?_, fun b hb => ?_, nD9, nC9, ⟨_, (ns8.at' fun o e => ?_)⟩, pl10, ?_, w'⟩
          · exact sb10.extBut _ o (fun z => Nat.lt_irrefl _ (z ▸ fpl b hb)) (p9 b o (.inr (.inr hb)) e).1
          · obtain ⟨o, e, _⟩ := T.obj _ _ st8 b hb
            exact (p9 b o (.inr (.inr hb)) e).2
          · exact sb10.extBut _ o (Ne.symm hDC) (p9 C o (.inr (.inl rfl)) e).1
          · rw [Array.size_push]; omega
        | next => exact False.elim hq
        | brk => exact False.elim hq
        | cont => exact False.elim hq
    · refine wpAny_call (codeAny_mono (F1.run X.A X.stack { s7 with heap := h8, toks := s7.toks + 1 } H7 ⟨[u], []⟩ [u] [xw] _ _ hr J8.env0 bb1 (.cons r7 .nil) h1) fun r s9 hq => ?_)
      cases r with
      | error e =>
        obtain ⟨oC9, eC9, _⟩ := oC8
        exact comp_fail (s := { s7 with heap := h8, toks := s7.toks + 1 }) J8 tk hstk hfr (fC H7 nC7) eC9 ⟨_, ns8⟩ (fun _ _ _ h => h) hq
      | ok fl =>
        cases fl with
        | ret v =>
          obtain ⟨_, _, _, _, z⟩ := J8.after hq
          exact z.elim
        | next => exact False.elim hq
        | brk => exact False.elim hq
        | cont => exact False.elim hq
  exact codeAny_compStart_list loop (T.self X.A 0 _ _ _ st3 loop)
end
end PdR
set_option Elab.async false
set_option linter.all false
set_option maxRecDepth 100000
set_option maxHeartbeats 1000000
/-! Texts. -/
namespace Pd
open PySem PySem.Spec PyProof.Rows L2
theorem rd_addS {i j : Str} (hl : i.length + j.length ≤ 100000) : RV (fun x y H Q => ∃ i j, x = .str i ∧ y = .str j ∧ i.length + j.length ≤ sizeLine ∧ Q (.str (i ++ j)) H) (.str i) (.str j) (.str (i ++ j)) := RD.now fun O H x y h1 h2 => by
  cases h1; cases h2
  exact ⟨_, .str _, fun Q q => ⟨i, j, rfl, rfl, by rw [sizeLine_eq]; omega, q⟩⟩
theorem rc_strI {i : Int} (h : i.natAbs.log2 < 1920) : RCV (fun xs H Q => ∃ i : Int, xs = [.int i] ∧ i.natAbs.log2 < 1920 ∧ Q (.str (toString i)) H) [.int i] (.str (Str.ofString (toString i))) := rc_now fun O H vs hv => by
  obtain ⟨v, rfl, hw⟩ := hv.one
  cases hw
  exact ⟨_, .str _, fun Q q => ⟨i, rfl, h, q⟩⟩
theorem rc_lenS {z : Str} (h : z.length ≤ 100000) : RCV (fun xs H Q => ∃ z : Str, xs = [.str z] ∧ z.length ≤ sizeLine ∧ Q (.int z.length) H) [.str z] (.int (z.length : Nat)) := rc_now fun O H vs hv => by
  obtain ⟨v, rfl, hw⟩ := hv.one
  cases hw
  exact ⟨_, .int _, fun Q q => ⟨z, rfl, by rw [sizeLine_eq]; omega, q⟩⟩
theorem rc_intS {a : Str} {n : Int} (h : PySem.intText? a = some n) (hl : a.length ≤ 640) : RCV (fun xs H Q => ∃ a n, xs = [.str a] ∧ PySem.intText? a = some n ∧ a.length ≤ 640 ∧ Q (.int n) H) [.str a] (.int n) := rc_now fun O H vs hv => by
  obtain ⟨v, rfl, hw⟩ := hv.one
  cases hw
  exact ⟨_, .int _, fun Q q => ⟨a, n, rfl, h, hl, q⟩⟩
theorem rd_inSign {c : Nat} {z : Str} : RV (fun x y H Q => ∃ (c : Nat) (z : Str), x = .str ⟨#[c]⟩ ∧ y = .str z ∧ Q (.bl (decide (c ∈ z.cps.toList))) H) (.str ⟨#[c]⟩) (.str z) (.bool (decide (c ∈ z.cps.toList))) := RD.now fun O H x y h1 h2 => by
  cases h1; cases h2
  exact ⟨_, .bl _, fun Q q => ⟨c, z, rfl, rfl, q⟩⟩
theorem rd_ixS {z : Str} {i : Int} {j c : Nat} (hi : ixN z.cps.toList.length i = some j) (hc : z.cps.toList[j]? = some c) (hz : z.length ≤ 100000) : RV rIxS (.str z) (.int i) (.str ⟨#[c]⟩) := RD.now fun O H x y h1 h2 => by
  cases h1; cases h2
  refine ⟨_, .str _, fun Q q => ⟨z, i, c, rfl, rfl, by rw [sizeLine_eq]; omega, ?_, q⟩⟩
  unfold atI
  rw [hi]
  exact hc
abbrev tS1 (xs : List Str) : List PyData := xs.map .str
theorem IsAll.strs {O : Addr → Prop} {H : Hp} : ∀ {vs : List V} {xs : List Str}, IsAll O H vs (xs.map .str) → vs = xs.map V.str
  | [], [], _ => rfl
  | _ :: _, _ :: _, h => by
    cases h with
    | cons h1 t => cases h1; rw [IsAll.strs t]; rfl
  | [], _ :: _, h => by cases h
  | _ :: _, [], h => by cases h
theorem isAll_strs {O : Addr → Prop} {H : Hp} : ∀ {xs : List Str}, IsAll O H (xs.map V.str) (xs.map .str)
  | [] => .nil
  | n :: ns => .cons (.str n) isAll_strs
section
variable {X : Cx} {ρ : List Sl} {φ ψ χ : PyData → Prop} {tg a b c e o iter : Expr} {es : List Expr} {pos apos p2 : Pos} {d : PyData} {lo hi : Option Expr} {l u : Option Int}
theorem i_str {z : Str} (h : XV X e ρ (.str z)) : IX X tg e ρ (z.cps.toList.map fun c => .str ⟨#[c]⟩) := PI.imp (pi_str h) fun σ H R ⟨W, O, g, k⟩ => ⟨W, O, g, fun d v H' hd g' e' i' => by
  subst hd
  cases i'
  refine ⟨z, rfl, k _ H' g' e' ?_⟩
  rw [List.length_map, Array.length_toList]
  refine (walk_str (z := z)).mono (fun _ _ => trivial) fun i H1 x H2 hi ex ⟨eH, c, hc, hx⟩ => ?_
  subst eH hx
  exact ⟨Ext.refl _, _, by rw [List.getElem?_map, Array.getElem?_toList, hc]; rfl, fun _ _ _ => .str _⟩⟩
theorem x_slS {z : Str} (h : XV X e ρ (.str z)) (hz : z.length ≤ 100000) (hl : PO X lo (tXO ρ l)) (hu : PO X hi (tXO ρ u)) : XV X (.Subscript e (.Slice lo hi none p2) pos) ρ (.str (cutS z l u)) :=
  PE.imp (pe_slice sl_str h hl hu) fun σ H Q ⟨W, O, g, k⟩ => ⟨W, O, g, fun d v H1 hd g1 e1 i1 => ⟨W, O, g1, fun H2 g2 e2 => ⟨W, O, g2, fun H3 g3 e3 => by
    subst hd
    cases i1
    exact ⟨z, rfl, by rw [sizeLine_eq]; omega, k _ _ H3 rfl g3 ((e1.trans e2).trans e3) (.str _)⟩⟩⟩⟩
theorem x_split {z y : Str} (ho : XV X o ρ (.str z)) (he : XV X e ρ (.str y)) (hy : (y.length == 0) = false) (hz : z.length ≤ 100000) (hs : starEach [e] X.env = [(false, eval e X.env)] := by rfl) (hbase : attributeBase o "split" X.env (eval o X.env) = eval o X.env := by rfl) (hline : (apos.endLine == pos.line) = true := by rfl) :
    XV X (.Call (.Attribute o "split" apos) [e] [] pos) ρ (.list ((Txt.split z y).map .str)) :=
  PE.imp (pe_split ho he hs hbase hline) fun σ H Q ⟨W, O, g, k⟩ => ⟨W, O, g, fun d v H1 hd g1 e1 i1 => by
    subst hd
    cases i1
    refine ⟨⟨z, rfl⟩, W, O, g1, fun d2 v2 H2 hd2 g2 e2 i2 => ?_⟩
    subst hd2
    cases i2
    refine ⟨z, y, rfl, rfl, hy, by rw [sizeLine_eq]; omega, fun p hp => ?_⟩
    exact k _ _ _ rfl (g2.ext' (Ext.new hp)) ((e1.trans e2).trans (Ext.new hp).exd) (Is.newL g2.al hp isAll_strs)⟩
theorem x_join {y : Str} {xs : List Str} (ho : XV X o ρ (.str y)) (he : XV X e ρ (.list (xs.map .str))) (hz : (xs.map (·.length)).sum + xs.length * y.length ≤ 16777216) (hs : starEach [e] X.env = [(false, eval e X.env)] := by rfl) (hbase : attributeBase o "join" X.env (eval o X.env) = eval o X.env := by rfl) (hline : (apos.endLine == pos.line) = true := by rfl) :
    XV X (.Call (.Attribute o "join" apos) [e] [] pos) ρ (.str (Txt.join y xs)) :=
  PE.imp (pe_join ho he hs hbase hline) fun σ H Q ⟨W, O, g, k⟩ => ⟨W, O, g, fun d v H1 hd g1 e1 i1 => by
    subst hd
    cases i1
    refine ⟨⟨y, rfl⟩, W, O, g1, fun d2 v2 H2 hd2 g2 e2 i2 => ?_⟩
    subst hd2
    obtain ⟨p, vs, rfl, _, hp, r⟩ := i2.list
    have ev := r.strs
    subst ev
    exact ⟨y, p, xs, rfl, rfl, .inl (SqL.of hp), hz, k _ _ H2 rfl g2 (e1.trans e2) (.str _)⟩⟩
/-! shapes of texts -/
theorem sh_S {n : Nat} {x : Str} (h : x.cps.all (· < 128) = true) : Sh n (.str x) := sh_str x (by
  unfold PyData.canLay0 PyData.strOk
  rw [Array.all_eq_true] at h ⊢
  intro i hi
  have := h i hi
  simp only [decide_eq_true_eq] at this ⊢
  omega)
theorem eqv_S (a b : Str) : PyData.eqv (.str a) (.str b) = decide (a = b) := by unfold PyData.eqv; exact Bool.beq_eq_decide_eq _ _
theorem rd_eqS {K : PySem.W.Frag} {a b : Str} (ha : a.cps.all (· < 128) = true) (hb : b.cps.all (· < 128) = true) : RV (rEqD K) (.str a) (.str b) (.bool (decide (a = b))) := by rw [← eqv_S]; exact rd_eqD (sh_S (n := 0) ha).shp (sh_S (n := 0) hb).shp
theorem rd_neS {K : PySem.W.Frag} {a b : Str} (ha : a.cps.all (· < 128) = true) (hb : b.cps.all (· < 128) = true) : RV (rNeD K) (.str a) (.str b) (.bool (!decide (a = b))) := by rw [← eqv_S]; exact rd_neD (sh_S (n := 0) ha).shp (sh_S (n := 0) hb).shp
/-! what raises -/
variable {W : WX} {C : Addr}
/-- [f(x) for x in iter]: the item k0 raises, those ahead of it don't -/
theorem r_lc1 {β α α1 : Type} {enc : β → PyData} {args : α → List PyData} {pre : α → Prop} {post : α → PyData → Prop} {args1 : α1 → List PyData} {pre1 : α1 → Prop} {cl1 : α1 → Addr} {fx x y y1 : Str} {scope : Scope} {pa p1 p2 p3 : Pos} {k j : Nat} (L : List β) (k0 : Nat) (b0 : β) (a0 : α1) (at0 : β → α)
    (tk : L2N.Takes X W) (hI : IX X (.Name x pa) iter ρ (L.map enc)) (F0 : Df X.prog X.w X.K X.mg X.base k fx [y] (spF args pre post)) (F1 : DfX X.prog X.w X.K X.mg X.base k fx [y1] (spR args1 pre1 cl1)) (hr : Room j X.A) (hj : k ≤ j)
    (h0 : L[k0]? = some b0) (hk0 : k0 ≤ 1000) (hb0 : args1 a0 = [enc b0]) (hp0 : pre1 a0) (hC : cl1 a0 = C) (hbef : ∀ i b, i < k0 → L[i]? = some b → args (at0 b) = [enc b] ∧ pre (at0 b))
    (hk : scope.kind = .function) (hcl : ∀ z ∈ scope.names, z.2 ≠ .cell) (hnf : ∀ z ∈ scope.names, z.2 ≠ .free) (hnm : ∀ z ∈ scope.names, z.2 = .local → scope.names.lookup z.1 = some .local) (hx : scope.names.lookup x = some .local) (hgf : ∀ cl C, (compEnvC scope cl C X.env).kindOf fx = some .globalImplicit)
    (hstk : X.stack = X.env :: X.outer := by rfl) (hfr : X.env.frame = some X.env.locals := by rfl) (hc : X.calm = true := by rfl) (hdx : (x == ("__debug__" : Str)) = false := by decide) (hdf : (fx == ("__debug__" : Str)) = false := by decide) (hs : ∀ z, foldedSetIterable iter X.env z = pure z := by intro _; rfl) :
    XR X W (.ListComp (.Call (.Name fx p1) [.Name x p2] [] p3) [⟨.Name x pa, iter, [], 0⟩] scope pos) ρ C := by
  obtain ⟨f, fd, TH, F0⟩ := F0
  obtain ⟨f', fd1, TH1, F1⟩ := F1
  have ef : f' = f := by
    have := TH1.gl.symm.trans TH.gl
    cases this
    rfl
  subst ef
  refine PE.imp (PdR.pe_lcR tk hstk hfr hc hI (F0.mono hj) (F1.mono hj) hr TH TH1 hk hcl hnf hnm hx hgf hdx hdf hs) fun σ H Q ⟨Wf, O, g, q⟩ => ⟨Wf, O, g, fun J H1 g1 e1 w => ?_⟩
  have hkl : k0 < L.length := (List.getElem?_eq_some_iff.mp h0).1
  refine ⟨fun i m H2 => i ≤ k0 ∧ m + i = k0 ∧ Gd Wf O σ H2 ρ ∧ Ext H1 H2, ⟨k0, Nat.zero_le _, rfl, g1, Ext.refl _⟩, fun i m H2 ⟨hi, hm, g2, x2⟩ => ⟨by omega, w.goes i H2 (by rw [List.length_map]; omega) x2.ex, fun xv H3 hy => ?_⟩⟩
  obtain ⟨x3, dd, hd, is⟩ := w.yields i H2 xv H3 (by rw [List.length_map]; omega) x2.ex hy
  have is3 : Is O H3 xv dd := is O g2.al fun a h => .inl h
  have g3 := g2.ext' x3
  have il : i < L.length := by omega
  have hLi : L[i]? = some L[i] := List.getElem?_eq_getElem il
  rw [List.getElem?_map, hLi] at hd
  have hd : enc L[i] = dd := Option.some.inj hd
  subst hd
  by_cases hik : i = k0
  · subst hik
    rw [h0] at hLi
    have eb : b0 = L[i] := Option.some.inj hLi
    refine .inr ⟨a0, O, g3.al, by rw [hb0, eb]; exact .cons is3 .nil, hp0, fun H4 x4 => ?_⟩
    rw [hC]
    exact q H4 (g3.ext' x4) (e1.trans ((x2.trans x3).trans x4).exd)
  · obtain ⟨ha, hp⟩ := hbef i _ (by omega) hLi
    exact .inl ⟨at0 L[i], O, g3.al, by rw [ha]; exact .cons is3 .nil, hp, fun z v H4 _ x4 _ => ⟨m - 1, by omega, by omega, by omega, g3.ext' x4, (x2.trans x3).trans x4⟩⟩
/-- tuple(e), e raises -/
theorem r_callT {T : String} {x : Str} {p : Pos} {r : List V → Hp → VK → Prop} (hc : CallR X (.type T) r) (hm : X.mg x = none) (ha : AR X W (e :: es) ρ C) (hg : Gl X x := by rfl) (hv : bootBuiltins x = some (.type T) := by decide +kernel) (hn : x ≠ "__name__" := by decide) (hdb : (x == ("__debug__" : Str)) = false := by decide)
    (he : starEach (e :: es) X.env = (false, eval e X.env) :: starEach es X.env := by rfl) (hpl : (backTo pos (starEach es X.env)).any (·.1) = false := by rfl) : XR X W (.Call (.Name x p) (e :: es) [] pos) ρ C :=
  PE.imp (pe_callTy hc hg hm hv ha hn hdb he hpl) fun σ H Q h => h
/-- a if c else b, a raises -/
theorem r_ifExp (hc : TV X c ρ true) (ha : XR X W a ρ C) : XR X W (.IfExp c a b pos) ρ C :=
  PE.imp (pe_ifExp (tb := fun _ _ _ => False) hc ha ⟨fun _ _ _ _ _ _ z => z.elim⟩) fun σ H Q ⟨Wf, O, g, q⟩ => ⟨Wf, O, g, fun k H1 hk g1 e1 => by
    subst hk
    exact ⟨Wf, O, g1, fun H2 g2 e2 => q H2 g2 (e1.trans e2)⟩⟩
end
end Pd
set_option Elab.async false
set_option linter.all false
set_option maxRecDepth 100000
set_option maxHeartbeats 1000000
/-! Rows as texts: the plain law. -/
namespace Sr
open PySem Pd L2
abbrev numS (n : Int) : Str := Str.ofString (toString n)
def wrL (ns : List Int) : Str := if ns = [] then "-" else Txt.join " " (ns.map numS)
def isDig (c : Nat) : Bool := decide (c ∈ (("0123456789" : Str)).cps.toList)
def okW (w : Str) : Bool := decide (1 ≤ ((w.length : Nat) : Int)) && decide (((w.length : Nat) : Int) ≤ 2) && w.cps.toList.all isDig
def hOf (w : Str) : Int := ((NumText.digitsVal w.cps.toList : Nat) : Int)
def rowT (t : Str) : Option (List Int) := if t = "-" then some [] else if (Txt.split t " ").all okW = true then some ((Txt.split t " ").map hOf) else none
def prs (t : Str) : Option (List Int) := match rowT t with
  | some ns => if isRowD (tI ns) = true ∧ wrL ns = t then some ns else none
  | none => none
abbrev Pl (t : Str) : Prop := t.cps.all (· < 128) = true
theorem row_isD {ns : List Int} (h : isRowD (tI ns) = true) : Row ns := by
  obtain ⟨ms, e, hr⟩ := row_of_is h
  have : ns = ms := int_inj (by simpa using e)
  rw [this]
  exact hr
theorem prs_some {t : Str} {ns : List Int} (h : prs t = some ns) : rowT t = some ns ∧ Row ns ∧ wrL ns = t := by
  unfold prs at h
  cases hr : rowT t with
  | none => rw [hr] at h; cases h
  | some ms =>
    rw [hr] at h
    simp only [] at h
    by_cases q : isRowD (tI ms) = true ∧ wrL ms = t
    · rw [if_pos q] at h
      cases h
      exact ⟨rfl, row_isD q.1, q.2⟩
    · rw [if_neg q] at h; cases h
theorem prs_of {t : Str} {ns : List Int} (h : rowT t = some ns) (h1 : isRowD (tI ns) = true) (h2 : wrL ns = t) : prs t = some ns := by
  unfold prs
  rw [h]
  simp only []
  rw [if_pos ⟨h1, h2⟩]
theorem prs_none {t : Str} {ns : List Int} (h : prs t = none) (hr : rowT t = some ns) : isRowD (tI ns) = false ∨ (isRowD (tI ns) = true ∧ wrL ns ≠ t) := by
  unfold prs at h
  rw [hr] at h
  simp only [] at h
  cases q : isRowD (tI ns) with
  | false => exact .inl rfl
  | true =>
    refine .inr ⟨rfl, fun z => ?_⟩
    rw [if_pos ⟨q, z⟩] at h
    cases h
theorem small_num : ∀ n : Nat, n < 19 → okW (numS (n : Int)) = true ∧ hOf (numS (n : Int)) = (n : Int) ∧ 32 ∉ (numS (n : Int)).cps.toList ∧ (numS (n : Int)).length ≤ 2 ∧ Pl (numS (n : Int)) := by decide +kernel
theorem row_num {ns : List Int} (h : Row ns) {n : Int} (hn : n ∈ ns) : okW (numS n) = true ∧ hOf (numS n) = n ∧ 32 ∉ (numS n).cps.toList ∧ (numS n).length ≤ 2 ∧ Pl (numS n) := by
  have h1 := h.pos n hn
  have h2 := h.le n hn
  obtain ⟨m, rfl⟩ : ∃ m : Nat, n = (m : Int) := ⟨n.toNat, by omega⟩
  exact small_num m (by omega)
theorem split_wr {ns : List Int} (h : Row ns) (hne : ns ≠ []) : Txt.split (Txt.join " " (ns.map numS)) " " = ns.map numS := by
  refine TL.split_join (y := " ") (s := 32) (S := []) (by decide +kernel) (by decide +kernel) (by simpa using hne) fun p hp => ?_
  obtain ⟨n, hn, rfl⟩ := List.mem_map.mp hp
  exact (row_num h hn).2.2.1
theorem wr_ne {ns : List Int} (h : Row ns) (hne : ns ≠ []) : Txt.join " " (ns.map numS) ≠ ("-" : Str) := fun e => by
  have h1 := split_wr h hne
  rw [e] at h1
  have h2 : Txt.split ("-" : Str) (" " : Str) = [("-" : Str)] := by decide +kernel
  rw [h2] at h1
  cases ns with
  | nil => exact hne rfl
  | cons n r =>
    have e2 : ("-" : Str) = numS n := by
      have := congrArg List.head? h1
      simpa using this
    have ok := (row_num h (n := n) List.mem_cons_self).1
    rw [← e2] at ok
    exact absurd ok (by decide +kernel)
theorem prs_wr {ns : List Int} (h : Row ns) : prs (wrL ns) = some ns := by
  refine prs_of ?_ h.is rfl
  unfold wrL
  by_cases hne : ns = []
  · subst hne
    rw [if_pos rfl]
    rfl
  · rw [if_neg hne]
    unfold rowT
    rw [if_neg (wr_ne h hne), split_wr h hne, if_pos ?_, List.map_map]
    · congr 1
      refine (List.map_congr_left fun n hn => ?_).trans (List.map_id' ns)
      exact (row_num h hn).2.1
    · rw [List.all_map]
      exact List.all_eq_true.mpr fun n hn => (row_num h hn).1
theorem join_app (sep : Str) : ∀ (xs : List Str) (y : Str), xs ≠ [] → Str.join sep (xs ++ [y]) = Str.join sep xs ++ sep ++ y
  | [], _, h => absurd rfl h
  | [x], y, _ => rfl
  | x :: z :: r, y, _ => by
    have ih := join_app sep (z :: r) y (by simp)
    show x ++ sep ++ Str.join sep (z :: r ++ [y]) = x ++ sep ++ Str.join sep (z :: r) ++ sep ++ y
    rw [ih]
    have ass : ∀ a b c : Str, a ++ b ++ c = a ++ (b ++ c) := fun a b c => by
      show (⟨(a.cps ++ b.cps) ++ c.cps⟩ : Str) = ⟨a.cps ++ (b.cps ++ c.cps)⟩
      rw [Array.append_assoc]
    simp only [ass]
theorem tjoin_app {xs : List Str} {y : Str} (h : xs ≠ []) : Txt.join " " (xs ++ [y]) = Txt.join " " xs ++ (" " : Str) ++ y := by
  rw [TL.join_eq, TL.join_eq, join_app _ _ _ h]
theorem pl_app {a b : Str} (ha : Pl a) (hb : Pl b) : Pl (a ++ b) := by
  show (a.cps ++ b.cps).all (· < 128) = true
  rw [Array.all_append, ha, hb]
  rfl
theorem pl_join {sep : Str} (hs : Pl sep) : ∀ {xs : List Str}, (∀ x ∈ xs, Pl x) → Pl (Str.join sep xs)
  | [], _ => by show (#[] : Array Nat).all (· < 128) = true; simp
  | [x], h => h x List.mem_cons_self
  | x :: z :: r, h => by
    show Pl (x ++ sep ++ Str.join sep (z :: r))
    exact pl_app (pl_app (h x List.mem_cons_self) hs) (pl_join hs fun y hy => h y (List.mem_cons_of_mem _ hy))
theorem sum_le2 : ∀ {xs : List Str}, (∀ x ∈ xs, x.length ≤ 2) → (xs.map (·.length)).sum ≤ 2 * xs.length
  | [], _ => Nat.le_refl _
  | x :: xs, h => by
    have h1 := h x List.mem_cons_self
    have h2 := sum_le2 (xs := xs) fun y hy => h y (List.mem_cons_of_mem _ hy)
    rw [List.map_cons, List.sum_cons, List.length_cons]
    omega
theorem nums_fit {ns : List Int} (h : Row ns) : ((ns.map numS).map (·.length)).sum + (ns.map numS).length * (" " : Str).length ≤ 54 := by
  have h1 := sum_le2 (xs := ns.map numS) fun x hx => by
    obtain ⟨n, hn, rfl⟩ := List.mem_map.mp hx
    exact (row_num h hn).2.2.2.1
  have h2 := h.len
  rw [List.length_map] at h1 ⊢
  have h3 : (" " : Str).length = 1 := by decide +kernel
  rw [h3]
  omega
theorem wr_pl {ns : List Int} (h : Row ns) : Pl (wrL ns) ∧ (wrL ns).length ≤ 54 := by
  unfold wrL
  by_cases hne : ns = []
  · rw [if_pos hne]; decide +kernel
  · rw [if_neg hne]
    refine ⟨?_, ?_⟩
    · rw [TL.join_eq]
      refine pl_join (by decide +kernel) fun x hx => ?_
      obtain ⟨n, hn, rfl⟩ := List.mem_map.mp hx
      exact (row_num h hn).2.2.2.2
    · rw [TL.join_eq]
      exact Nat.le_trans (StrLaws.join_length_le _ _) (nums_fit h)
theorem len_app (a b : Str) : (a ++ b).length = a.length + b.length := Str.length_append a b
theorem pl_cut {a : Str} (h : Pl a) (lo hi : Option Int) : Pl (cutS a lo hi) := by
  have hm : ∀ c ∈ a.cps.toList, c < 128 := fun c hc => by
    have := Array.all_eq_true_iff_forall_mem.mp h c (Array.mem_def.mpr hc)
    simpa using this
  refine Array.all_eq_true_iff_forall_mem.mpr fun c hc => ?_
  have hc : c ∈ ((a.cps.toList.drop (HT.sIx a.length 0 lo)).take (HT.sIx a.length a.length hi - HT.sIx a.length 0 lo)) := by
    have := Array.mem_def.mp hc
    exact this
  simpa using hm c (List.mem_of_mem_drop (List.mem_of_mem_take hc))
theorem dig_all {w : Str} (h : okW w = true) : PySem.intText? w = some (hOf w) ∧ w.length ≤ 640 := by
  unfold okW at h
  simp only [Bool.and_eq_true, decide_eq_true_eq] at h
  obtain ⟨⟨h1, h2⟩, h3⟩ := h
  have hl : w.cps.toList.length = w.length := Array.length_toList
  refine ⟨PySem.intText_digits (fun c hc => ?_) (fun z => ?_) (by omega), by omega⟩
  · have := List.all_eq_true.mp h3 c hc
    unfold isDig at this
    have hc2 : c ∈ [48, 49, 50, 51, 52, 53, 54, 55, 56, 57] := by
      have e : (("0123456789" : Str)).cps.toList = [48, 49, 50, 51, 52, 53, 54, 55, 56, 57] := by decide +kernel
      rw [e] at this
      exact of_decide_eq_true this
    simp only [List.mem_cons, List.not_mem_nil, or_false] at hc2
    omega
  · rw [z] at hl
    simp at hl
    omega
end Sr
namespace Sr
open PySem Pd L2
theorem log_small {n : Int} (h : 0 ≤ n ∧ n < 1000) : n.natAbs.log2 < 1920 := by
  by_cases h0 : n.natAbs = 0
  · rw [h0]; decide
  · refine (Nat.log2_lt h0).mpr (Nat.lt_of_lt_of_le (show n.natAbs < 2 ^ 10 by omega) (Nat.pow_le_pow_right (by decide) (by decide)))
/-- the first word that is no height -/
theorem first_bad : ∀ {L : List Str}, L.all okW = false → ∃ (k : Nat) (w : Str), L[k]? = some w ∧ okW w = false ∧ ∀ (i : Nat) (b : Str), i < k → L[i]? = some b → okW b = true
  | [], h => by cases h
  | x :: L, h => by
    cases hx : okW x with
    | false => exact ⟨0, x, rfl, hx, fun i b hi => absurd hi (Nat.not_lt_zero _)⟩
    | true =>
      rw [List.all_cons, hx, Bool.true_and] at h
      obtain ⟨k, w, h1, h2, h3⟩ := first_bad h
      refine ⟨k + 1, w, by simpa using h1, h2, fun i b hi hb => ?_⟩
      cases i with
      | zero => simp at hb; rw [← hb]; exact hx
      | succ i => exact h3 i b (by omega) (by simpa using hb)
/-- what parse_row refuses -/
def BadT : PyData → Prop
  | .str t => Pl t ∧ t.length ≤ 900 ∧ prs t = none
  | _ => True
end Sr
set_option Elab.async false
set_option linter.all false
set_option maxRecDepth 100000
set_option maxHeartbeats 1000000
/-! A lambda that is met: the exception that it raises, as a value. -/
namespace Pd
open PySem PySem.Spec PyProof.Rows L2
section
variable {X : Cx} {pins : List (Addr × Obj)} {σ : L2.St} {H : Hp} {s : Shared}
/-- an object that stands is tracked from now on -/
theorem inv_track {a : Addr} {o : HO} (I : Inv X pins σ H s) (na : H a = none) (hs : X.s_0.heap.get? a = none) (nL : a ≠ X.env.locals) (nC : ∀ x c, X.env.cells.lookup x = some c → c ≠ a) (nP : ∀ p ∈ X.pn ++ pins, p.1 ≠ a) (new : ObjOk X.prog X.w (upd H a o) s.heap a o) : Inv X pins σ (upd H a o) s where
  ok := I.ok
  os := I.os
  bare := I.bare
  base := ⟨I.base.keep, I.base.slot, fun b ob e n hx => by
      rw [upd_ne (fun z => by rw [z, hs] at e; cases e)]
      exact I.base.free b ob e n hx, I.base.there, fun b xs e => by
      have z := I.base.tups b xs e
      rw [upd_ne (ne_of_none z na)]
      exact z, fun b ob u e => by
      have z := I.base.frzs b ob u e
      rw [upd_ne (ne_of_none z na)]
      exact z, fun b ps e => by
      obtain ⟨more, z⟩ := I.base.tbls b ps e
      exact ⟨more, by rw [upd_ne (ne_of_none z na)]; exact z⟩⟩
  loc := I.loc
  cell := I.cell
  free := by rw [upd_ne (Ne.symm nL)]; exact I.free
  freeC := fun x c e => by rw [upd_ne (nC x c e)]; exact I.freeC x c e
  pin := fun p hp => by
    obtain ⟨h1, h2, h3⟩ := I.pin p hp
    exact ⟨h1, by rw [upd_ne (nP p hp)]; exact h2, h3⟩
  hok := fun b u e => by
    by_cases hb : b = a
    · subst hb
      rw [upd_same] at e
      cases e
      exact new
    · rw [upd_ne hb] at e
      exact (I.hok b u e).stay (fun _ _ _ q => q) (fun c q => by rw [upd_ne (ne_of_none q na)]; exact q) fun c xs q => by rw [upd_ne (ne_of_none q na)]; exact q
  len := I.len
theorem objOk_XO {P : Program} {w : World} {H : Hp} {h : Heap} {a D : Addr} {oe : Obj} {vs : Array Value} (e : h.get? a = some oe) (z : L2N.Zn (.ref D) none oe) (d : oe.data = .fields vs) : ObjOk P w H h a (XO D a) :=
  ⟨⟨oe, e, z, vs, d⟩, ⟨oe, e⟩, fun h1 h2 ⟨o, q, r⟩ k => ⟨o, k o q, r⟩⟩
/-- try: body / except x as n: return n, where the body raises -/
theorem ps_met {x n : Str} {c : Value} {i : Nat} {body : List Stmt} {np pos pos' p1 p2 : Pos} {tb : WX → TS} (hs : X.stack = X.env :: X.outer) (hf : X.env.frame = some X.env.locals) (hex : X.ex = []) (hN : X.N.Nodup) (hi : X.N[i]? = some n) (hln : X.env.kindOf n = some .local) (hc : Names X x c)
    (hb : ∀ (W : WX) (pn : List (Addr × Obj)) (xe : Value → Shared → Prop), L2N.Takes (X.tr pn xe) W → PassesOwn (model X.prog X.w) X.A X.env xe → PSs (X.tr pn xe) body (tb W)) (hd : (n == ("__debug__" : Str)) = false := by decide) (hcd : (n == ("__classdict__" : Str)) = false := by decide) :
    PS X (.Try body [.ExceptHandler (some (.Name x np)) (some n) [.Return (some (.Name n p1)) p2] pos'] [] [] pos)
      (fun D σ H => tb (fun cls d _ H' => ∃ De, cls = .ref De ∧ d = none ∧ PySem.W.exmOne X.K cls c = some true ∧ ∀ a, H' a = none → D.rt (.ref a) (upd H' a (XO De a))) D σ H) := by
  refine ⟨fun pins s σ H D I h => ?_⟩
  have frm : X.A.frames = some (X.env :: X.outer) := by rw [I.ok.frames, hs]
  have oks := I.ok
  refine wpAny_Try_except ?_
  refine wpAny_mono ((hb _ (X.pn ++ pins) (fun e s₁ => wpAny (model X.prog X.w) X.A (noteFrame e X.env) (fun _ s₂ => wpAny (model X.prog X.w) X.A (setFlight e none) (fun _ s₃ => wpAny (model X.prog X.w) X.A (handleBy e X.env [.ExceptHandler (some (.Name x np)) (some n) [.Return (some (.Name n p1)) p2] pos']) (SP X pins D) X.xe s₃) X.xe s₂) X.xe s₁)
    (fun u s' air => ?_) PassesOwn.looking).run [] s σ H D (I.toTry _) h) (fun fl s1 hsp => ?_) (fun _ _ z => z)
  · obtain ⟨a, B, sI, _, σ', H', cls, d, rfl, J', nb, up, sky, na, os, ag, De, rfl, rfl, hyes, hrt⟩ := air
    have J : Inv X pins σ' H' sI := J'.ofTry oks
    have aB : B.get? a = none := by
      rcases sky with z | z | z
      · exact z.2.1
      · exact z.2.1
      · exact z.2.1
    have sky' : Sky B (X.env :: X.outer) a (L2N.Zn (.ref De) none) X.env.locals s'.heap := by rw [← hs]; exact sky
    show wpAny (model X.prog X.w) X.A (noteFrame (.ref a) X.env) _ _ _
    refine L2N.Sky.land L2N.Zn.steady frm hf sky' fun h3 fl3 up3 => ?_
    obtain ⟨oe3, vs3, g3, z3, d3⟩ := fl3.there
    have J3 : Inv X pins σ' H' { s' with heap := h3 } := J.landed nb fl3.1 (up.trans up3) os ag
    have out : a ∉ frs (X.env :: X.outer) := fun hm => by
      obtain ⟨_, o', e', hnf⟩ := fl3.2.2.1.mem hm
      rw [g3] at e'
      cases e'
      exact hnf _ d3
    have nL : a ≠ X.env.locals := fun z => out (List.mem_filterMap.mpr ⟨X.env, List.mem_cons_self, by rw [hf, z]⟩)
    have nF : a ∉ X.fs := fun hm => by
      obtain ⟨e, he, q⟩ := List.mem_filterMap.mp hm
      exact out (List.mem_filterMap.mpr ⟨e, List.mem_cons_of_mem _ he, q⟩)
    have a0 : X.s_0.heap.get? a = none := by
      cases q : X.s_0.heap.get? a with
      | none => rfl
      | some o =>
        obtain ⟨o', e'⟩ := J.base.there a o q (by rw [hex]; simp)
        have := nb a o' e' (by rw [hs]; exact out)
        rw [aB] at this
        cases this
    have S3 := J3.suite g3 d3 na nL nF
    refine wpAny_handleBy_cons (codeAny_handlers_test ?_) (by intro q; cases q)
    have kind : PySem.W.Looks (model X.prog X.w) h3 (typeOf (.ref a)) (.ref De) := fun A Q E s k q => wpAny_typeOf_ref (k _ _ g3) (by rw [z3.1]; exact q)
    have asks := PySem.W.exm_one (M := model X.prog X.w) J3.kIn kind hyes
    have named : ∀ {Q : Value → Shared → Prop} {E : Value → Shared → Prop}, Q c { s' with heap := h3 } → wpAny (model X.prog X.w) (X.A.mark (some (.ref a))) (eval (.Name x np) X.env) Q E { s' with heap := h3 } := fun {Q E} q => by
      obtain ⟨h1, h2, h3' | ⟨h4, h5, h6⟩⟩ := hc
      · exact ld_glob (X := X.suite a ((a, oe3) :: (X.pn ++ pins))) S3 h1 h3' q h2
      · exact ld_blt (X := X.suite a ((a, oe3) :: (X.pn ++ pins))) S3 h1 h4 h5 q h6 h2
    refine named (asks.here ?_)
    refine codeAny_handlers_suite_as ?_
    refine HandSPX.lands_againZ fl3 fun h4 fl4 up4 => ?_
    obtain ⟨oe4, vs4, g4, z4, d4⟩ := fl4.there
    have J4 : Inv X pins σ' H' { s' with heap := h4 } := J.landed nb fl4.1 ((up.trans up3).trans up4) os ag
    have S4 := J4.suite g4 d4 na nL nF
    refine store_ok (X := X.suite a ((a, oe4) :: (X.pn ++ pins))) (v := .ref a) S4 hN hi (.inl hln) rfl (fun s5 S5 => ?_) (.inr hln)
    have hlen : i < σ'.length := by rw [J.len]; exact (List.getElem?_eq_some_iff.mp hi).1
    refine wpAny_mono ((pss_one (ps_ret (pe_var (X := X.suite a ((a, oe4) :: (X.pn ++ pins))) (pos := p1) (i := i) hi (.inl hln) hd hcd))).run [] s5 _ H' { nx := fun _ _ => False, rt := fun v H6 => v = .ref a ∧ H6 = H' } S5 ⟨.ref a, List.getElem?_set_self hlen, rfl, rfl⟩) (fun fl s6 hsp => ?_) (fun _ _ z => False.elim z)
    cases fl with
    | ret u =>
      obtain ⟨v6, σ6, H6, S6, r6, e6, eH⟩ := hsp
      subst e6 eH
      have pA := S6.pin (a, oe4) (by simp)
      have J6 : Inv X (pins ++ [(a, oe4)]) σ6 H6 s6 := (S6.unsuite oks).pins_of fun p hp => by
        rcases List.mem_append.mp hp with hp | hp
        · exact (S6.unsuite oks).pin p (List.mem_append_right _ hp)
        · rw [List.mem_singleton.mp hp]; exact pA
      refine gone_ok J6 hN hi hln fun s7 J7 => ?_
      have g7 : s7.heap.get? a = some oe4 := (J7.pin (a, oe4) (by simp)).1
      refine ⟨.ref a, _, _, inv_track (J7.unpinned) na a0 nL (fun y cc e z => ?_) (fun p hp z => ?_) (objOk_XO g7 z4 d4), r6, hrt a na⟩
      · obtain ⟨v, oc, q1, q2⟩ := J7.cell y cc e
        rw [z, g7] at q1
        cases q1
        rw [d4] at q2
        cases q2
      · obtain ⟨q1, _, q3, q4, _⟩ := J.pin p hp
        have q5 := nb p.1 p.2 q1 (fun hm => (List.mem_cons.mp (J.stkSub p.1 hm)).elim q3 q4)
        rw [z, aB] at q5
        cases q5
    | next =>
      obtain ⟨_, _, _, z⟩ := hsp
      exact z.elim
    | brk =>
      obtain ⟨_, _, _, z⟩ := hsp
      exact False.elim z
    | cont =>
      obtain ⟨_, _, _, z⟩ := hsp
      exact False.elim z
  · cases fl with
    | next =>
      obtain ⟨σ1, H1, J1, q1⟩ := hsp
      exact wpAny_execs_nil ⟨σ1, H1, J1.ofTry oks, q1⟩
    | brk =>
      obtain ⟨σ1, H1, J1, q1⟩ := hsp
      exact ⟨σ1, H1, J1.ofTry oks, q1⟩
    | cont =>
      obtain ⟨σ1, H1, J1, q1⟩ := hsp
      exact ⟨σ1, H1, J1.ofTry oks, q1⟩
    | ret u =>
      obtain ⟨v1, σ1, H1, J1, r1, q1⟩ := hsp
      exact ⟨v1, σ1, H1, J1.ofTry oks, r1, q1⟩
end
end Pd
namespace Pd
open PySem PySem.Spec PyProof.Rows L2
section
variable {X : Cx} {ρ : List Sl} {e : Expr} {pos : Pos} {rest : List Stmt} {nx : List Sl → Prop} {rt : PyData → Prop}
/-- what is known of met -/
structure Tm (K : PySem.W.Frag) (mg : Str → Option Value) (CS : Addr) (st : Stmt) : Prop where
  met : ∃ g fd, Fun K "_law_met" "_law_met" st g fd ∧ Has K mg "_law_met" g fd ["deed"]
  gS : mg "SlideError" = some (.ref CS)
  sc : FnScope ["deed", "e"] ["deed"] (defScope st)
  hv : Vis (defScope st) "deed"
  he : (defScope st).names.lookup ("e" : Str) = some NameKind.local
  hgS : (defScope st).names.lookup ("SlideError" : Str) = some NameKind.globalImplicit
  body : ∃ p1 p2 p3 p4 p5 p6 p7 p8 p9 p10 j, defBody st = [.Try [.Expr (.Call (.Name "deed" p1) [] [] p2) p3] [.ExceptHandler (some (.Name "SlideError" p4)) (some "e") [.Return (some (.Name "e" p5)) p6] p7] [] [] p8, .Return (some (.Constant .none j p9)) p10]
theorem x_met {st : Stmt} {D CS c P : Addr} {k i0 : Nat} {T : List (Addr × Str)} {params : Arguments} {body : Expr} {scope : Scope} {p lpos pos : Pos} (M : Tm X.K X.mg CS st) (hexm : PySem.W.exmOne X.K (.ref D) (.ref CS) = some true) (TB : LamX.TabB X.base X.mg c P) (hcode : X.env.code = .ref c)
    (hmT : (P, X.env.qual ++ "<lambda>") ∈ T) (hu : ∀ p ∈ T, p.1 = P → p.2 = X.env.qual ++ "<lambda>") (hr : Room (k + 2) X.A) (L : LamX.LamS X.env.scope scope)
    (hb : ∀ (A : Around) (outer : List Env) (s : Shared) (H : Hp) (E : XK) (f c' : Addr), Room k (A.deeper (LamX.lamEnv X scope s.heap.objs.size f c')) → L2N.Takes (lamX X A outer s H E scope f c') (fun cls d _ H' => E cls d H') → XR (lamX X A outer s H E scope f c') (fun cls d _ H' => E cls d H') body ρ D) (hT : ρ[i0]? = some (.tab T))
    (hdef : defaultsOf params X.env = ([], []) := by rfl) (hbind : ∀ (q : Str) (cl : List (Str × Addr)) (pm cv ctv : Value), bindArgs (PySem.W.kla_fn "<lambda>" q params body scope cl pm cv ctv) ⟨[], []⟩ = pure [] := by intro _ _ _ _ _; rfl) (hg : Gl X "_law_met" := by rfl) :
    XS X (.Call (.Name "_law_met" p) [.Lambda params body scope lpos] [] pos) ρ (fun s => s = .fz (XO D)) := by
  refine ⟨fun pins s σ H Q I h => ?_⟩
  obtain ⟨Wf, O, g, kq⟩ := h
  obtain ⟨x0, hx0, hWT, hMT⟩ := g.at hT
  obtain ⟨ga, fd, F, Hs⟩ := M.met
  obtain ⟨p1, p2, p3, p4, p5, p6, p7, p8, p9, p10, j, hbt⟩ := M.body
  have hTabs : LamX.Tabs T H := by rw [← hWT]; exact g.tb
  refine wpAny_Call_Name_kw (ld_glob I hg Hs.gl ?_ (by decide))
  refine PySem.W.callWith_K (h₀ := X.base) I.ok.mod.kin Hs.kp ?_ (by rfl) (by rfl)
  show wpAny _ _ (spliced ((false, eval (.Lambda params body scope lpos) X.env) :: backTo pos (starEach [] X.env))) _ _ s
  refine Calls.spliced_cons (LamX.lam_make2 I TB hcode hmT hu hTabs hdef (L.has I.ok) fun f c' pm' ctv H1 s' I1 eN T1 hf hfn hfr hco => ?_)
  refine Calls.spliced_nil ⟨I1.kIn, ?_⟩
  have g1 : Gd Wf O σ H1 ρ := g.tabbed eN (by rw [hWT]; exact T1) hMT
  have ed1 : ExD σ ρ H H1 := fun a o n m h => eN a o h m
  obtain ⟨oc, od, kV, doc, pm, an, cdv, ct, osl, rfl, lk, hcd⟩ := F.ex
  have bb := Hs.bd s' [.ref f] I1.kIn rfl
  rw [List.append_nil] at bb
  have rc : codeAny (model X.prog X.w) X.A (.call (.ref ga) ⟨[.ref f], []⟩) (CR CX0 X.stack X.prog X.w H1 s' Q E0) s' := by
    refine LamX.run_ofS (N := ["deed", "e"]) (ps := ["deed"]) (us := [.ref f]) (vs := [.ref f]) lk hcd M.sc hr I1.env0 bb (.cons rfl .nil) rfl fun hr' => ?_
    rw [hbt]
    have hcl : Names (cxOf CX0 X.prog X.w X.K X.mg X.base ["deed", "e"] "_law_met" (defScope st) ga cdv X.A X.stack s' H1 E0).nox "SlideError" (.ref CS) := ⟨M.hgS, by decide, .inl M.gS⟩
    refine ⟨_, PSs.nox (pss_cons (u := tNever) (ps_met (X := (cxOf CX0 X.prog X.w X.K X.mg X.base ["deed", "e"] "_law_met" (defScope st) ga cdv X.A X.stack s' H1 E0).nox) (i := 1) (c := .ref CS)
      (tb := fun W D0 σZ HZ => ∃ Ech : XK, (∀ cls d σ' H', Ech cls d H' → W cls d σ' H') ∧ σZ[0]? = some (some (.ref f)) ∧ HZ c' = some (LamX.CodeO c' (X.env.qual ++ "<lambda>")) ∧ tXR ρ (fun cls d _ H' => Ech cls d H') D σ HZ D0.rt)
      rfl rfl rfl M.sc.nd rfl M.he hcl (fun W pn xe tk _ => ?_)) pss_never), ?_⟩
    · refine ⟨fun pinsZ sZ σZ HZ DZ IZ ⟨Ech, hW, h1, h2, h3⟩ => ?_⟩
      exact (pss_one (ps_expr (pe_deed (CXg := CX0) (Eg := E0) (E := Ech) I1 L hf hfn hfr (hbind _ _ _ _ _) tk hW hr' (fun A outer s H hr2 => hb A outer s H _ f c' hr2 lam_takes) rfl M.hv) rfl)).run pinsZ sZ σZ HZ DZ IZ ⟨h1, h2, h3⟩
    · refine ⟨fun cls d H' => cls = .ref D ∧ d = none ∧ Gd Wf O σ H' ρ ∧ ExD σ ρ H1 H', fun cls d σ' H' h => ?_, rfl, hco, Wf, O, g1, fun H' g' e' => ⟨rfl, rfl, g', e'⟩⟩
      obtain ⟨h1, h2, g2, e2⟩ := h
      refine ⟨D, h1, h2, by rw [h1]; exact hexm, fun a na => ?_⟩
      exact kq (.fz (XO D)) (.ref a) _ O rfl (g2.ext' (Ext.new na)) (fun _ h => h) (fun _ h => .inl h) ((ed1.trans e2).trans (Ext.new na).exd) ⟨a, rfl, g2.al.fresh na, upd_same, nt_XO⟩ (fun z => nomatch z)
  refine wpAny_call (codeAny_mono rc fun r s2 hq => ?_)
  cases r with
  | error e => exact (show False from hq).elim
  | ok fl =>
    cases fl with
    | ret u => exact I1.after hq
    | next => exact False.elim hq
    | brk => exact False.elim hq
    | cont => exact False.elim hq
/-- [e], e an exception -/
theorem s_xl1 {D : Addr} (h : XS X e ρ (fun s => s = .fz (XO D))) (hs : starEach [e] X.env = (false, eval e X.env) :: starEach [] X.env := by rfl) : XS X (.List [e] pos) ρ (fun s => s = .xl [D]) := PE.imp (pe_lst (pa_cons h pa_nil hs)) fun σ H Q ⟨W, O, g, k⟩ =>
  ⟨W, O, g, fun s v H1 O1 hs g1 sub new ed ok fr => by
    subst hs
    obtain ⟨a, ea, na, ha, _⟩ := ok
    cases ea
    refine ⟨by show 1 ≤ sizeLine; decide, fun p hp => ?_⟩
    obtain ⟨g2, mu, hoc⟩ := g1.own (o := .lst [.ref a]) hp nw_lst
    have hpH : bl H p := fun o q m => by
      by_cases hd : Dx σ ρ p
      · exact g1.al.fresh hp (g1.dxO hd)
      · rw [ed p o hd m q] at hp; cases hp
    refine k _ (.ref p) _ _ rfl g2 (fun _ h => .inl (sub _ h)) (fun b h => h.elim (fun z => new b z) fun z => .inr (by rw [z]; exact hpH)) (ed.trans (Ext.new hp).exd) ⟨p, _, rfl, .inr rfl, hoc, mu, upd_same, .cons (fun z => z.elim na fun z => ?_) ?_ .nil⟩ (fun _ => ⟨p, rfl, hpH⟩)
    · rw [z, hp] at ha; cases ha
    · rw [upd_ne (ne_of_none ha hp)]; exact ha⟩
/-- xs.append(e), e an exception -/
theorem s_xapp {D : Addr} {Ds : List Addr} {y : Str} {p1 p2 p3 : Pos} (i : Nat) (he : XS X e ρ (fun s => s = .fz (XO D))) (k : SXs X rest (ρ.set i (.xl (Ds ++ [D]))) nx rt) (hl : Ds.length < 100000) (hi : ρ[i]? = some (.xl Ds) := by rfl)
    (hN : X.N[i]? = some y := by rfl) (hv : Vis X.env.scope y := by first | exact Or.inl rfl | exact Or.inr (Or.inl rfl) | exact Or.inr (Or.inr rfl)) (hyb : (y == ("__debug__" : Str)) = false := by decide) (hyc : (y == ("__classdict__" : Str)) = false := by decide)
    (hbase : attributeBase (.Name y p1) "append" X.env (eval (.Name y p1) X.env) = eval (.Name y p1) X.env := by rfl)
    (hfew : ((backTo p3 (starEach [e] X.env)).all (fun x => !x.1) && (backToKw p3 (keywordEach [] X.env)).all (fun x => x.1.isSome) && decide (([e] : List Expr).length + ([] : List Keyword).length + (if ([] : List Keyword).isEmpty then 0 else 1) < 30)) = true := by rfl)
    (hline : (p2.endLine == p3.line) = true := by rfl) (hs : starEach [e] X.env = (false, eval e X.env) :: starEach [] X.env := by rfl) (hplain : (backTo p3 (starEach [] X.env)).any (·.1) = false := by rfl)
    (hsw : swapsWith (.Call (.Attribute (.Name y p1) "append" p2) [e] [] p3) none pos.line X.env = pure false := by rfl) :
    SXs X (.Expr (.Call (.Attribute (.Name y p1) "append" p2) [e] [] p3) pos :: rest) ρ nx rt :=
  s_seq (mid := fun ρ' => ρ' = ρ.set i (.xl (Ds ++ [D]))) (PS.imp (ps_expr (pe_bm PySem.F.plainAttrs_list PySem.F.slot_list_append PySem.F.type_list_append mt_append (pe_var hN hv hyb hyc) (pa_cons he pa_nil hs) hbase hfew hline hs hplain) hsw) fun D0 σ H ⟨W, O, g, k1, k2⟩ => by
    obtain ⟨x, hx, p, xs, e1, e2, e3, e4, e5, e6⟩ := g.at hi
    subst e1
    refine ⟨.ref p, hx, .inl ⟨rfl, _, .inl (.inl e5)⟩, W, O, g, fun s v H' O' hs g' sub new ed ok fr => ?_⟩
    subst hs
    obtain ⟨a, ea, na, ha, _⟩ := ok
    cases ea
    obtain ⟨p', xs', e1', _, e3', e4', e5', e6'⟩ := g'.sl i _ _ hx hi
    cases e1'
    have pO : O' p := sub p e2
    have pa : a ≠ p := fun z => na (z ▸ pO)
    refine ⟨p, xs', .ref a, rfl, rfl, e5', by rw [sizeLine_eq, e6'.length]; omega, ?_⟩
    refine k1 _ O' σ _ rfl (g'.wrOwn hi rfl (fun z => nomatch z) hx ?_ (fun z => nomatch z) e4' nw_lst)
    have ex : Ex O' H' (upd H' p (.lst (xs' ++ [.ref a]))) := fun b u n _ h => by rw [upd_ne (fun z => n (by rw [z]; exact pO))]; exact h
    exact ⟨p, _, rfl, pO, e3', e4', upd_same, (e6'.append (.cons na ha .nil)).ex ex⟩) fun ρ' e => by rw [e]; exact k
/-- isinstance of an exception that is held -/
def rIsX (K : PySem.W.Frag) (D : Addr) : List V → Hp → VK → Prop := fun xs H Q => ∃ (a : Addr) (c : V) (cv : Value) (b : Bool), xs = [.ref a, c] ∧ H a = some (XO D a) ∧ (∀ u, RelV c u → u = cv) ∧ PySem.W.kitOne K (.ref D) cv = some b ∧ Q (.bl b) H
theorem call_isX {D : Addr} (C : ExcC X.K D) : CallR X (.builtin "isinstance") (rIsX X.K D) := by
  intro pins s σ H xs us Q I r h
  obtain ⟨a, c, cv, b, rfl, ha, hcv, e, q⟩ := h
  cases r with
  | cons rx rr =>
    cases rr with
    | cons rt rr =>
      cases rr
      cases rx
      have ec := hcv _ rt
      subst ec
      obtain ⟨⟨oe, hget, hz, vs, hv⟩, _⟩ := (show ObjOk X.prog X.w H s.heap a (XO D a) from I.hok a _ ha)
      have J : PySem.W.InstAt s.heap a oe D none := by
        obtain ⟨oc, od, oda, osl⟩ := oe
        obtain ⟨h1, h2, _⟩ := hz
        dsimp only at h1 h2 hv
        subst h1 h2 hv
        exact ⟨hget, rfl, rfl, trivial⟩
      exact PySem.W.kia_one (PySem.W.handS_kitx_exc C.hg C.hk C.hs C.hd C.ha C.hn C.ht C.hm) I.kIn J e (fun z => nomatch z) fun tk => ⟨.bl b, H, I.kept (t' := tk) fun _ _ z => z, rfl, q⟩
theorem x_isXC {D C : Addr} {b : Bool} {i : Nat} {e y : Str} {p p1 p2 pos : Pos} (hc : ExcC X.K D) (hm : X.mg "isinstance" = none) (hC : X.mg y = some (.ref C)) (hk : PySem.W.kitOne X.K (.ref D) (.ref C) = some b) (hi : ρ[i]? = some (.fz (XO D)))
    (hN : X.N[i]? = some e := by rfl) (hv : Vis X.env.scope e := by exact Or.inl rfl) (hg : Gl X "isinstance" := by rfl) (hg2 : Gl X y := by rfl) (hd : (e == ("__debug__" : Str)) = false := by decide) (hcd : (e == ("__classdict__" : Str)) = false := by decide) (hdy : (y == ("__debug__" : Str)) = false := by decide) :
    XV X (.Call (.Name "isinstance" p) [.Name e p1, .Name y p2] [] pos) ρ (.bool b) :=
  PE.imp (pe_callB (call_isX hc) hg hm PyProof.Rows.boot_isinstance (pa_cons (pe_var hN hv hd hcd) (pa_cons (pe_glob (v := .ref C) hg2 hC rfl hdy) pa_nil)) (by decide) (by decide)) fun σ H Q ⟨W, O, g, k⟩ => by
    obtain ⟨x, hx, a, e1, n1, h1, _⟩ := g.at hi
    subst e1
    exact ⟨.ref a, hx, a, .ref C, .ref C, b, rfl, h1, fun u hu => hu, hk, k _ _ H rfl g (ExD.refl σ ρ H) (.bl b)⟩
theorem x_isXV {D : Addr} {b : Bool} {i : Nat} {e y : Str} {T : String} {p p1 p2 pos : Pos} (hc : ExcC X.K D) (hm : X.mg "isinstance" = none) (hC : X.mg y = none) (hk : PySem.W.kitOne X.K (.ref D) (.type T) = some b) (hi : ρ[i]? = some (.fz (XO D))) (hvT : bootBuiltins y = some (.type T) := by decide +kernel)
    (hN : X.N[i]? = some e := by rfl) (hv : Vis X.env.scope e := by exact Or.inl rfl) (hg : Gl X "isinstance" := by rfl) (hg2 : Gl X y := by rfl) (hd : (e == ("__debug__" : Str)) = false := by decide) (hcd : (e == ("__classdict__" : Str)) = false := by decide) (hdy : (y == ("__debug__" : Str)) = false := by decide) (hny : y ≠ "__name__" := by decide) :
    XV X (.Call (.Name "isinstance" p) [.Name e p1, .Name y p2] [] pos) ρ (.bool b) :=
  PE.imp (pe_callB (call_isX hc) hg hm PyProof.Rows.boot_isinstance (pa_cons (pe_var hN hv hd hcd) (pa_cons (pe_bltn (v := .ty T) hg2 hC hvT rfl hny hdy) pa_nil)) (by decide) (by decide)) fun σ H Q ⟨W, O, g, k⟩ => by
    obtain ⟨x, hx, a, e1, n1, h1, _⟩ := g.at hi
    subst e1
    exact ⟨.ref a, hx, a, .ty T, .type T, b, rfl, h1, fun u hu => hu, hk, k _ _ H rfl g (ExD.refl σ ρ H) (.bl b)⟩
end
section
variable {P : Program} {w : World} {K : PySem.W.Frag} {mg : Str → Option Value} {base : Heap}
/-- a def whose first argument is an exception -/
def spZ {α : Type} (D : α → Addr) (args : α → List PyData) (pre : α → Prop) (post : α → PyData → Prop) : Sp := fun vs H Q _ => ∃ (a : α) (p : Addr) (ws : List V), vs = .ref p :: ws ∧ H p = some (XO (D a) p) ∧ IsAll (fun _ => False) H ws (args a) ∧ pre a ∧ ∀ d v H', post a d → Ext H H' → Is (fun _ => False) H' v d → Q v H'
theorem fnZ {α : Type} {D : α → Addr} {args : α → List PyData} {pre : α → Prop} {post : α → PyData → Prop} {x qual : Str} {st : Stmt} {f : Addr} {fd : FuncData} {N ps : List Str} {k : Nat} (F : Fun K x qual st f fd) (S : FnScope N ps (defScope st)) (len : ∀ a, (args a).length + 1 = ps.length)
    (body : ∀ (a : α), pre a → ∀ (cdv : Value) (A : Around) (outer : List Env) (s : Shared) (H : Hp) (E : XK), Room k (A.deeper (envOfC qual (defScope st) s.heap.objs.size f cdv)) →
      SXs (cxOf CX0 P w K mg base N qual (defScope st) f cdv A outer s H E).nox (defBody st) (.fz (XO (D a)) :: ((args a).map .val ++ List.replicate (N.length - ps.length) .no)) (fun _ => post a .none) (post a)) : FnOk P w K mg base CX0 (k + 1) f fd ps (spZ D args pre post) := by
  refine F.ok S (fun vs H Q E h => ?_) (fun cdv A outer s H vs Q E hr h => ?_)
  · obtain ⟨a, p, ws, rfl, _, i, _⟩ := h
    rw [List.length_cons, i.length, len]
  · obtain ⟨a, p, ws, rfl, hp, is, hpre, q⟩ := h
    have hlen : (V.ref p :: ws).length = ps.length := by rw [List.length_cons, is.length, len]
    have al : Al (fun _ => False) H := fun _ z => z.elim
    have g0 := gd_start (n := N.length - ps.length) al is
    have gg : Gd ⟨H, fun _ => False, fun _ => False, fun _ => False, fun _ => False, []⟩ (fun _ => False) (L2.start N (.ref p :: ws)) H (.fz (XO (D a)) :: ((args a).map .val ++ List.replicate (N.length - ps.length) .no)) := by
      unfold L2.start
      rw [hlen]
      have nomut : ∀ (l : Nat) (t : Sl), ((args a).map Sl.val ++ List.replicate (N.length - ps.length) Sl.no)[l]? = some t → t.mut = true → False := fun l t h h' => by
        have := List.mem_of_getElem? h
        simp only [List.mem_append, List.mem_map, List.mem_replicate] at this
        rcases this with ⟨_, _, rfl⟩ | ⟨_, rfl⟩ <;> cases h'
      refine ⟨by simp [is.length], fun i x s h1 h2 => ?_, fun i j q s t hij h1 h2 h3 h4 h5 h6 => ?_, al, fun _ h => h, fun _ _ h _ => h, fun b hb => hb.elim, fun a o h1 h2 => ⟨o, h1, h2⟩, fun _ h => h.elim, fun _ h => nomatch h⟩
      · cases i with
        | zero => cases h1; cases h2; exact ⟨p, rfl, fun z => z, hp, nt_XO⟩
        | succ i => exact g0.sl i x s (by simpa using h1) (by simpa using h2)
      · cases i with
        | zero => cases h3; cases h5
        | succ i => exact nomut i s (by simpa using h3) h5
    refine ⟨_, body a hpre cdv A outer s H E hr, _, _, gg, fun ρ' O' σ' H' hn g' => ?_, fun d v O' H' hr is' rt => ?_⟩
    · exact q .none .non H' hn (fun a o h => g'.ext a o h (fun z => z)) .non
    · exact q d v H' hr (fun a o h => rt.2.1 a o h (fun z => z)) (Is.imp (fun a o n _ h => ⟨fun z => z, h⟩) d v is')
theorem Df.mkZ {α : Type} {D : α → Addr} {args : α → List PyData} {pre : α → Prop} {post : α → PyData → Prop} {x : Str} {st : Stmt} {N ps : List Str} {k : Nat} (T : Tx K mg x st ps) (S : FnScope N ps (defScope st)) (len : ∀ a, (args a).length + 1 = ps.length)
    (body : ∀ (a : α), pre a → ∀ (f : Addr) (cdv : Value) (A : Around) (outer : List Env) (s : Shared) (H : Hp) (E : XK), Room k (A.deeper (envOfC x (defScope st) s.heap.objs.size f cdv)) →
      SXs (cxOf CX0 P w K mg base N x (defScope st) f cdv A outer s H E).nox (defBody st) (.fz (XO (D a)) :: ((args a).map .val ++ List.replicate (N.length - ps.length) .no)) (fun _ => post a .none) (post a)) : Df P w K mg base (k + 1) x ps (spZ D args pre post) := by
  obtain ⟨f, fd, F, Hs⟩ := T
  exact ⟨f, fd, Hs, fnZ F S len fun a hp cdv A outer s H E hr => body a hp f cdv A outer s H E hr⟩
end
end Pd
namespace Pd
open PySem PySem.Spec PyProof.Rows L2
section
variable {X : Cx} {ρ : List Sl}
/-- all([f(e, at) for at, e in enumerate(xs)]), xs exceptions -/
theorem x_allX {α : Type} {D : α → Addr} {args : α → List PyData} {pre : α → Prop} {post : α → PyData → Prop} {Ds : List Addr} {scope : Scope} {elt : Expr} {y xa xe : Str} {p0 p5 p6 p7 p8 p9 pa pe pt : Pos} {tk ia ie : Nat} (j : Nat) (hc : X.calm = true) (hN : X.N.Nodup) (ok : BlkOk X.N X.env.scope scope [(xa, ia), (xe, ie)])
    (hmA : X.mg "all" = none) (hmE : X.mg "enumerate" = none) (hl : Ds.length ≤ 1000) (hall : ∀ (i : Nat) Dd, Ds[i]? = some Dd → ∃ a, D a = Dd ∧ args a = [.int (i : Nat)] ∧ pre a ∧ ∀ z, post a z → z = .bool true)
    (hg : ∀ (s : Shared) (H : Hp) (C : Addr) (cl : List (Str × Addr)) (fp : List Addr), PG (X.blk s H scope (compEnvC scope cl C X.env) fp) (.Tuple [.Name xa pa, .Name xe pe] tk pt) (gTup X.K 2 (gCons (gName ia) (gCons (gName ie) gNil))))
    (he : ∀ (s : Shared) (H : Hp) (C : Addr) (cl : List (Str × Addr)) (fp : List Addr), PE (X.blk s H scope (compEnvC scope cl C X.env) fp) elt (tCall (spZ D args pre post) [] E0 (tCons (tVar ie) (tCons (tVar ia) tNil))))
    (hi : ρ[j]? = some (.xl Ds)) (hae : ia ≠ ie) (hai : ia < ρ.length) (hei : ie < ρ.length) (hNj : X.N[j]? = some y) (hv : Vis X.env.scope y) (hgA : Gl X "all" := by rfl) (hgE : Gl X "enumerate" := by rfl) (hyb : (y == ("__debug__" : Str)) = false := by decide) (hyc : (y == ("__classdict__" : Str)) = false := by decide)
    (hs : ∀ x, foldedSetIterable (.Call (.Name "enumerate" p5) [.Name y p6] [] p7) X.env x = pure x := by intro _; rfl) :
    XV X (.Call (.Name "all" p0) [.ListComp elt [⟨.Tuple [.Name xa pa, .Name xe pe] tk pt, .Call (.Name "enumerate" p5) [.Name y p6] [] p7, [], 0⟩] scope p8] [] p9) ρ (.bool true) :=
  PE.imp (pe_callB (cr_all hc) hgA hmA (by decide +kernel) (pa_cons (pe_lc hc hN (pi_enum hgE hmE (pa_cons (pe_var hNj hv hyb hyc) pa_nil)) ok hg (fun _ _ _ _ _ => pts_nil) he hs) pa_nil) (by decide) (by decide)) fun σ H Q ⟨W, O, g, k⟩ => by
    obtain ⟨x, hx, p, xs, e1, e2, e3, e4, e5, e6⟩ := g.at hi
    subst e1
    refine ⟨.ref p, hx, p, xs, rfl, SqL.of e5, fun D0 hD => ?_⟩
    have xl := e6.length
    have pD : p ≠ D0 := ne_of_none e5 hD
    refine ⟨fun i m H2 => i + m = xs.length ∧ H2 D0 = some (.lst (List.replicate i (.bl true))) ∧ ∀ b o, b ≠ D0 → H b = some o → H2 b = some o, ⟨xs.length, by omega, upd_same, fun b o n e => by rw [upd_ne n]; exact e⟩, fun i m H2 ⟨him, hD2, k2⟩ => ?_⟩
    have hp2 := k2 p _ pD e5
    have ext : Ext H H2 := fun b o e => k2 b o (ne_of_none e hD) e
    by_cases hm : m = 0
    · have ei : i = xs.length := by omega
      subst ei
      refine .inl ⟨(walk_enum (K := X.K) (a := p) (xs := xs)).stops H2 (SqL.of hp2), D0, List.replicate xs.length true, rfl, ?_, ?_⟩
      · rw [List.map_replicate]; exact SqL.of hD2
      · rw [show (List.replicate xs.length true).all id = true by simp]
        exact k _ _ H2 rfl (g.ext' ext) ext.exd (.bl true)
    · have hi2 : i < xs.length := by omega
      refine .inr ⟨(walk_enum (K := X.K) (a := p) (xs := xs)).goes i H2 hi2 (SqL.of hp2), fun H4 => H4 D0 = some (.lst (List.replicate (i + 1) (.bl true))) ∧ ∀ b o, b ≠ D0 → H b = some o → H4 b = some o, fun H4 ⟨q1, q2⟩ => ⟨m - 1, by omega, by omega, q1, q2⟩, fun xv H3 hy => ?_⟩
      obtain ⟨T, x1, x2, hv1, hT, hH, hx1, hx2⟩ := (walk_enum (K := X.K) (a := p) (xs := xs)).yields i H2 xv H3 hi2 (SqL.of hp2) hy
      subst hv1 hH
      cases hx1
      obtain ⟨a, Dd, rfl, hDd, na, ha⟩ := e6.get hx2
      obtain ⟨aa, hDa, hargs, hpre, hpost⟩ := hall i Dd hDd
      have aD : a ≠ D0 := ne_of_none ha hD
      have ha2 := k2 a _ aD ha
      have hlen : (wipe σ [ia, ie]).length = ρ.length := by rw [wipe_length, g.len]
      refine ⟨T, [.int (i : Nat), .ref a], rfl, SqT.of upd_same, rfl, _, _, rfl, _, _, rfl, rfl, ?_⟩
      refine ⟨?_, ?_⟩
      · show wipe (((wipe σ [ia, ie]).set ia _).set ie _) [ia, ie] = wipe σ [ia, ie]
        rw [wipe_set (by simp), wipe_set (by simp), wipe_wipe]
      · show tCall (spZ D args pre post) [] E0 (tCons (tVar ie) (tCons (tVar ia) tNil)) _ _ _
        refine ⟨.ref a, ?_, .int (i : Nat), ?_, ?_⟩
        · show (((wipe σ [ia, ie]).set ia _).set ie _)[ie]? = _
          exact List.getElem?_set_self (by rw [List.length_set, hlen]; exact hei)
        · show (((wipe σ [ia, ie]).set ia _).set ie _)[ia]? = _
          rw [List.getElem?_set_ne (Ne.symm hae)]
          exact List.getElem?_set_self (by rw [hlen]; exact hai)
        · show spZ D args pre post ([.ref a, .int (i : Nat)] ++ []) _ _ E0
          refine ⟨aa, a, [.int (i : Nat)], rfl, ?_, by rw [hargs]; exact .cons (.int _) .nil, hpre, fun d v H5 hd x5 iv => ?_⟩
          · rw [hDa, upd_ne (ne_of_none ha2 hT)]; exact ha2
          · have hd := hpost d hd
            subst hd
            cases iv
            have hD5 : H5 D0 = some (.lst (List.replicate i (.bl true))) := x5 _ _ (by rw [upd_ne (ne_of_none hD2 hT)]; exact hD2)
            refine ⟨_, hD5, by rw [List.length_replicate, sizeLine_eq]; omega, ?_, fun b o n e => ?_⟩
            · rw [upd_same, List.replicate_succ']
            · rw [upd_ne n]
              have z := k2 b o n e
              exact x5 _ _ (by rw [upd_ne (ne_of_none z hT)]; exact z)
end
end Pd
namespace Pd
open PySem PySem.Spec PyProof.Rows L2
/-! ### a class of the program: what the top has made of it -/
structure Tb (K : PySem.W.Frag) (mg : Str → Option Value) (C : Addr) : Prop where
  cl : Cls K C
  n1 : NoAttr K C "steep"
  n2 : NoAttr K C "now"
  n3 : NoAttr K C "earlier"
  n4 : NoAttr K C "undone"
  gl : mg "Table" = some (.ref C)
def TxM (K : PySem.W.Frag) (C : Addr) (m qual : Str) (st : Stmt) (ps : List Str) : Prop := ∃ f fd, Fun K m qual st f fd ∧ Meth K C m f ∧ Binds K fd ps []
def TxI (K : PySem.W.Frag) (C : Addr) (qual : Str) (st : Stmt) (ps : List Str) : Prop := ∃ f fd, Fun K "__init__" qual st f fd ∧ Mk K C f ∧ Binds K fd ps []
theorem adr_eq {K : PySem.W.Frag} {x : Str} {C : Addr} (h : PySem.W.nsIn K mainGlobals x = some (some (.ref C))) : adr K x = C := by
  unfold adr
  rw [h]
theorem tb_use {goal : Prop} {K : PySem.W.Frag} {mg : Str → Option Value} {h : Heap} {C : Addr} (X : K.In h) (G : h.Ns mainGlobals mg) (aC : PySem.W.nsIn K mainGlobals "Table" = some (some (.ref C))) (pg : PySem.W.plainGet K C Str.empty = true) (hd : PySem.W.hasDictIn K C = true) (po : PySem.W.plainOver K C = true) (sa : PySem.W.findIn K (.ref C) "__setattr__" = some (some (.builtin "object.__setattr__")))
    (n1 : PySem.W.findIn K (.ref C) "steep" = some none) (n2 : PySem.W.findIn K (.ref C) "now" = some none) (n3 : PySem.W.findIn K (.ref C) "earlier" = some none) (n4 : PySem.W.findIn K (.ref C) "undone" = some none) (go : Tb K mg (adr K "Table") → goal) : goal := by
  have e := adr_eq aC
  refine go ?_
  rw [e]
  exact ⟨⟨pg, hd, po, sa⟩, n1, n2, n3, n4, PySem.W.mg_of X G aC⟩
theorem txm_use {goal : Prop} {K : PySem.W.Frag} (m qual : Str) (st : Stmt) (ps : List Str) {C f : Addr} {oc kV doc pm cdv ct : Value} {od an : Option Addr} {sl : Array (Option Value)} (aC : PySem.W.nsIn K mainGlobals "Table" = some (some (.ref C))) (a : PySem.W.findIn K (.ref C) m = some (some (.ref f))) (i : PySem.W.isFn K (.ref f) = true)
    (l : K.lookup f = some ⟨oc, od, .func (PySem.W.fnOf m qual (defArgs st) (defBody st) (defScope st) .none kV doc pm an cdv ct), sl⟩) (c : PySem.W.codeIn K cdv qual = true) (k : PySem.W.keepIn K (.ref f) = true)
    (hb : ∀ (kV doc pm : Value) (an : Option Addr) (cdv ct : Value) (us : List Value), us.length = ps.length → bindArgs (PySem.W.fnOf m qual (defArgs st) (defBody st) (defScope st) .none kV doc pm an cdv ct) ⟨us, []⟩ = pure (ps.zip us)) (go : TxM K (adr K "Table") m qual st ps → goal) : goal := by
  have e := adr_eq aC
  refine go ?_
  rw [e]
  exact ⟨f, _, fun_mk l c k, ⟨a, i, k⟩, (fun_mk (st := st) l c k).binds hb⟩
theorem txi_use {goal : Prop} {K : PySem.W.Frag} (qual : Str) (st : Stmt) (ps : List Str) {C f : Addr} {oc kV doc pm cdv ct : Value} {od an : Option Addr} {sl : Array (Option Value)} (aC : PySem.W.nsIn K mainGlobals "Table" = some (some (.ref C))) (a : PySem.W.findIn K (.ref C) "__init__" = some (some (.ref f))) (i : PySem.W.isFn K (.ref f) = true)
    (l : K.lookup f = some ⟨oc, od, .func (PySem.W.fnOf "__init__" qual (defArgs st) (defBody st) (defScope st) .none kV doc pm an cdv ct), sl⟩) (c : PySem.W.codeIn K cdv qual = true) (k : PySem.W.keepIn K (.ref f) = true) (mk : PySem.W.makesIn K C = true) (kc : PySem.W.keepIn K (.ref C) = true)
    (hb : ∀ (kV doc pm : Value) (an : Option Addr) (cdv ct : Value) (us : List Value), us.length = ps.length → bindArgs (PySem.W.fnOf "__init__" qual (defArgs st) (defBody st) (defScope st) .none kV doc pm an cdv ct) ⟨us, []⟩ = pure (ps.zip us)) (go : TxI K (adr K "Table") qual st ps → goal) : goal := by
  have e := adr_eq aC
  refine go ?_
  rw [e]
  exact ⟨f, _, fun_mk l c k, ⟨mk, a, i, kc⟩, (fun_mk (st := st) l c k).binds hb⟩
/-- the attributes of a table -/
def tfs (a b c d : V) : List (Str × V) := [("steep", a), ("now", b), ("earlier", c), ("undone", d)]
theorem tf_ne : ((("steep" : Str) ≠ "now" ∧ ("steep" : Str) ≠ "earlier" ∧ ("steep" : Str) ≠ "undone") ∧ (("now" : Str) ≠ "earlier" ∧ ("now" : Str) ≠ "undone")) ∧ ("earlier" : Str) ≠ "undone" := by decide +kernel
theorem tf_put (a b c d : V) : putF "undone" d (putF "earlier" c (putF "now" b (putF "steep" a []))) = tfs a b c d := by
  obtain ⟨⟨⟨h1, h2, h3⟩, h4, h5⟩, h6⟩ := tf_ne
  simp only [putF, if_neg h1, if_neg h2, if_neg h3, if_neg h4, if_neg h5, if_neg h6]
  rfl
theorem tf_undone (a b c d : V) : (tfs a b c d).lookup ("undone" : Str) = some d := by
  have e1 : (("undone" : Str) == "steep") = false := by decide +kernel
  have e2 : (("undone" : Str) == "now") = false := by decide +kernel
  have e3 : (("undone" : Str) == "earlier") = false := by decide +kernel
  unfold tfs
  rw [List.lookup_cons, e1, List.lookup_cons, e2, List.lookup_cons, e3, List.lookup_cons, beq_self_eq_true]
theorem tf_no (a b c d : V) {m : Str} (h1 : ("steep" : Str) ≠ m) (h2 : ("now" : Str) ≠ m) (h3 : ("earlier" : Str) ≠ m) (h4 : ("undone" : Str) ≠ m) : (tfs a b c d).lookup m = none := by
  unfold tfs
  rw [List.lookup_cons, beq_eq_false_iff_ne.mpr (Ne.symm h1), List.lookup_cons, beq_eq_false_iff_ne.mpr (Ne.symm h2), List.lookup_cons, beq_eq_false_iff_ne.mpr (Ne.symm h3), List.lookup_cons, beq_eq_false_iff_ne.mpr (Ne.symm h4)]
  rfl
end Pd
set_option Elab.async false
set_option linter.all false
set_option maxRecDepth 100000
set_option maxHeartbeats 1000000
/-! A table as a slot: attributes, methods that change it. -/
namespace Pd
open PySem PySem.Spec PyProof.Rows L2
/-- a table's state -/
structure Tst where
  st : Int
  now : List Int
  er : List (List Int)
  un : List (List Int)
abbrev lT (L : List (List Int)) : PyData := .list (L.map tI)
/-- four values are a table's attributes -/
structure Ta (t : Tst) (O : Addr → Prop) (H : Hp) (a b c d : V) : Prop where
  st : Is O H a (.int t.st)
  now : Is O H b (tI t.now)
  er : Is O H c (lT t.er)
  un : Is O H d (lT t.un)
def tbR (C p0 : Addr) (t : Tst) (O : Addr → Prop) (H : Hp) (p : Addr) (o : HO) : Prop := p = p0 ∧ ∃ dx a b c d, o = .ins C dx (tfs a b c d) ∧ Ta t O H a b c d
theorem Ta.imp {t : Tst} {O O' : Addr → Prop} {H H' : Hp} {a b c d : V} (k : ∀ a u, ¬ O a → nt u → H a = some u → ¬ O' a ∧ H' a = some u) (h : Ta t O H a b c d) : Ta t O' H' a b c d :=
  ⟨Is.imp k _ _ h.st, Is.imp k _ _ h.now, Is.imp k _ _ h.er, Is.imp k _ _ h.un⟩
def tbG (C p0 : Addr) (t : Tst) : GS where
  R := tbR C p0 t
  st := fun k ⟨e, dx, a, b, c, d, eo, h⟩ => ⟨e, dx, a, b, c, d, eo, h.imp k⟩
  kd := fun ⟨_, dx, a, b, c, d, eo, _⟩ => .inr (.inr ⟨_, _, _, eo⟩)
/-- an expression that may change slots -/
def tX2 (ρ : List Sl) (φ : PyData → List Sl → Prop) : TE := fun σ H Q => ∃ W O, Gd W O σ H ρ ∧ ∀ d ρ' v H', φ d ρ' → Gd W O σ H' ρ' → Is O H' v d → Q v H'
section
variable {W : Fm} {O : Addr → Prop} {σ : L2.St} {H H' : Hp} {ρ : List Sl}
/-- an owned thing has changed, all else stands -/
theorem Gd.wr2 (g : Gd W O σ H ρ) {i : Nat} {s0 s1 : Sl} {p : Addr} {o : HO} (hi : ρ[i]? = some s0) (hm : s0.mut = true) (hd : s0 ≠ .dice) (hσ : σ[i]? = some (some (.ref p))) (hk : ∀ b u, b ≠ p → H b = some u → H' b = some u) (hp : H' p = some o) (hs : SlOk W O H' (some (.ref p)) s1) (hs1 : s1 ≠ .dice) (hmu : W.Mu p) (hnt : Pd.nw o) : Gd W O σ H' (ρ.set i s1) := by
  obtain ⟨_, u0, hu0, _⟩ := g.there hσ hi hm
  have e1 : Ext H (upd H' p u0) := fun b u h => by
    by_cases hb : b = p
    · subst hb; rw [hu0] at h; cases h; exact upd_same
    · rw [upd_ne hb]; exact hk b u hb h
  have e2 : upd (upd H' p u0) p o = H' := by
    funext b
    by_cases hb : b = p
    · subst hb; rw [upd_same, hp]
    · rw [upd_ne hb, upd_ne hb]
  have := (g.ext' e1).wrOwn (o := o) (s1 := s1) hi hm hd hσ (by rw [e2]; exact hs) hs1 hmu hnt
  rw [e2] at this
  exact this
end
section
variable {X : Cx} {ρ : List Sl} {φ : PyData → Prop} {ψ : PyData → List Sl → Prop} {e a : Expr} {es : List Expr} {d : PyData} {pos : Pos} {rest : List Stmt} {mid : List Sl → Prop} {rt : PyData → Prop} {c0 : Expr}
theorem XE.x2 (h : XE X e ρ φ) : PE X e (tX2 ρ fun d ρ' => φ d ∧ ρ' = ρ) := PE.imp h fun σ H Q ⟨W, O, g, k⟩ => ⟨W, O, g, fun d v H' hd g' _ is => k d ρ v H' ⟨hd, rfl⟩ g' is⟩
theorem PE.x2 {ψ' : PyData → List Sl → Prop} (h : PE X e (tX2 ρ ψ)) (k : ∀ d ρ', ψ d ρ' → ψ' d ρ') : PE X e (tX2 ρ ψ') := PE.imp h fun σ H Q ⟨W, O, g, q⟩ => ⟨W, O, g, fun d ρ' v H' hd g' is => q d ρ' v H' (k d ρ' hd) g' is⟩
/-- x.f of a table -/
theorem x_fldG {i : Nat} {y f : Str} {p1 : Pos} {C p : Addr} {t : Tst} {m c : Bool} {sel : V → V → V → V → V} {dt : PyData} (hC : Cls X.K C) (hn : NoAttr X.K C f) (hl : ∀ a b c d, (tfs a b c d).lookup f = some (sel a b c d)) (hsel : ∀ O H a b c d, Ta t O H a b c d → Is O H (sel a b c d) dt) (hi : ρ[i]? = some (.gn (tbG C p t) m c))
    (hN : X.N[i]? = some y := by rfl) (hv : Vis X.env.scope y := by first | exact Or.inl rfl | exact Or.inr (Or.inl rfl) | exact Or.inr (Or.inr rfl)) (hyb : (y == ("__debug__" : Str)) = false := by decide) (hyc : (y == ("__classdict__" : Str)) = false := by decide)
    (hb : attributeBase (.Name y p1) f X.env (eval (.Name y p1) X.env) = eval (.Name y p1) X.env := by rfl) : XV X (.Attribute (.Name y p1) f pos) ρ dt :=
  PE.imp (pe_fld (pe_var hN hv hyb hyc) hb) fun σ H Q ⟨W, O, g, k⟩ => by
    obtain ⟨x, hx, q, o, e1, e2, e3, e4, e5, e6, dx, a, b, c', d', e7, ta⟩ := g.at hi
    subst e1
    exact ⟨.ref q, hx, q, C, dx, tfs a b c' d', sel a b c' d', rfl, by rw [e5, e7], hC, hn, hl _ _ _ _, k dt _ H rfl g (ExD.refl _ _ _) (hsel _ _ _ _ _ _ ta)⟩
/-- x.f = e of a table -/
theorem sx_fldG {i : Nat} {y f : Str} {p1 p2 : Pos} {C p : Addr} {t t' : Tst} {c : Bool} {dv : PyData} (hC : Cls X.K C) (hn : NoAttr X.K C f) (hput : ∀ O H a b c d v, Ta t O H a b c d → Is O H v dv → ∃ a' b' c' d', putF f v (tfs a b c d) = tfs a' b' c' d' ∧ Ta t' O H a' b' c' d') (he : XV X e ρ dv) (hi : ρ[i]? = some (.gn (tbG C p t) true c))
    (hN : X.N[i]? = some y := by rfl) (hv : Vis X.env.scope y := by first | exact Or.inl rfl | exact Or.inr (Or.inl rfl) | exact Or.inr (Or.inr rfl)) (hyb : (y == ("__debug__" : Str)) = false := by decide) (hyc : (y == ("__classdict__" : Str)) = false := by decide)
    (hs : swapsWith e (some (.Attribute (.Name y p1) f p2)) pos.line X.env = pure false := by rfl) : SX X (.Assign [.Attribute (.Name y p1) f p2] e pos) ρ (fun ρ' => ρ' = ρ.set i (.gn (tbG C p t') true c)) rt :=
  PS.imp (ps_fld (pe_var hN hv hyb hyc) he hs) fun D σ H ⟨W, O, g, k1, k2⟩ => ⟨W, O, g, fun d v H1 hd g1 ed is => by
    subst hd
    obtain ⟨x, hx, q, o, e1, e2, e3, e4, e5, e6, dx, a, b, c', d', e7, ta⟩ := g1.at hi
    subst e1
    have e6 : q = p := e6
    subst e6
    obtain ⟨a2, b2, c2, d2, ep, ta2⟩ := hput _ _ _ _ _ _ _ ta is
    refine ⟨.ref q, hx, q, C, dx, tfs a b c' d', rfl, by rw [e5, e7], hC, hn, (by show 4 < 1000; decide), ?_⟩
    rw [ep]
    have ex : ∀ a u, ¬ O a → nt u → H1 a = some u → ¬ O a ∧ upd H1 q (.ins C dx (tfs a2 b2 c2 d2)) a = some u := fun a u n _ h => ⟨n, by rw [upd_ne (fun z => n (by rw [z]; exact e2))]; exact h⟩
    exact k1 _ O σ _ rfl (g1.wrOwn hi rfl (fun z => nomatch z) hx ⟨q, _, rfl, e2, e3, e4, upd_same, rfl, dx, a2, b2, c2, d2, rfl, ta2.imp ex⟩ (fun z => nomatch z) (e4 rfl) (kd.nw (.inr (.inr ⟨_, _, _, rfl⟩))))⟩
/-- blocks that hand out slots -/
def KT (ψ : PyData → List Sl → Prop) : Fm → Ends → Prop := fun W D => ∀ d ρ' O' σ' H' v, ψ d ρ' → Gd W O' σ' H' ρ' → Is O' H' v d → D.rt v H'
theorem g_ret2 (h : PE X e (tX2 ρ ψ)) : PSs X (.Return (some e) pos :: rest) (tG ρ (KT ψ)) :=
  PSs.imp (pss_cons (u := tNever) (ps_ret h) pss_never) fun D σ H ⟨W, O, g, kk⟩ => ⟨W, O, g, fun d ρ' v H' hd g' is => kk d ρ' O σ H' v hd g' is⟩
theorem g_retV (h : XV X e ρ d) (k : ψ d ρ) : PSs X (.Return (some e) pos :: rest) (tG ρ (KT ψ)) := g_ret2 (PE.x2 (XE.x2 h) fun d' ρ' ⟨h1, h2⟩ => by subst h1 h2; exact k)
theorem g_if {k : Bool} {ta : List Stmt} (hc : TV X c0 ρ k) (ha : k = true → PSs X ta (tG ρ (KT ψ))) (hb : k = false → PSs X rest (tG ρ (KT ψ))) : PSs X (.If c0 ta [] pos :: rest) (tG ρ (KT ψ)) := by
  cases k with
  | true =>
    exact PSs.imp (pss_cons (u := tNever) (ps_if (u := fun _ _ _ => False) hc (ha rfl) ⟨fun _ _ _ _ _ _ z => z.elim⟩) pss_never) fun D σ H ⟨W, O, g, kk⟩ => ⟨W, O, g, fun b H' hb g' e' => by subst hb; exact ⟨W, O, g', kk⟩⟩
  | false =>
    exact g_seq (mid := fun ρ' => ρ' = ρ) (SX_ifN hc) fun ρ' h => by subst h; exact hb rfl
end
/-- a def with a table at its head: what it answers, how it leaves the table -/
def spT {α : Type} (C : Addr) (t0 : α → Tst) (args : α → List PyData) (pre : α → Prop) (post : α → PyData → Tst → Prop) : Sp := fun vs H Q _ => ∃ (a : α) (O : Addr → Prop) (p : Addr) (o : HO) (ws : List V), vs = .ref p :: ws ∧ O p ∧ Al O H ∧ H p = some o ∧ tbR C p (t0 a) O H p o ∧ IsAll O H ws (args a) ∧ pre a ∧
  ∀ d v H' o' t', post a d t' → (∀ b u, b ≠ p → H b = some u → H' b = some u) → H' p = some o' → tbR C p t' O H' p o' → Is O H' v d → Q v H'
def Dm (P : Program) (w : World) (K : PySem.W.Frag) (mg : Str → Option Value) (base : Heap) (k : Nat) (C : Addr) (m : Str) (ps : List Str) (sp : Sp) : Prop := ∃ f fd, Meth K C m f ∧ Binds K fd ps [] ∧ FnOk P w K mg base CX0 k f fd ps sp
/-- the start of a def with a table at its head -/
theorem gd_startT {O : Addr → Prop} {H : Hp} {C p : Addr} {o : HO} {t : Tst} {vs : List V} {ds : List PyData} {n : Nat} (al : Al O H) (hO : O p) (hp : H p = some o) (hR : tbR C p t O H p o) (is : IsAll O H vs ds) (M : Addr → Prop) (m : Bool) (hM : m = true → M p) (T : List (Addr × Str)) (hT : LamX.Tabs T H) :
    Gd ⟨H, O, M, fun _ => False, O, T⟩ O ((V.ref p :: vs).map some ++ List.replicate n none) H (.gn (tbG C p t) m false :: (ds.map .val ++ List.replicate n .no)) := by
  have g0 := gd_start (n := n) al is
  have nomut : ∀ (l : Nat) (t : Sl), (ds.map Sl.val ++ List.replicate n Sl.no)[l]? = some t → (∃ d, t = .val d) ∨ t = .no := fun l t h => by
    have := List.mem_of_getElem? h
    simp only [List.mem_append, List.mem_map, List.mem_replicate] at this
    rcases this with ⟨d, _, rfl⟩ | ⟨_, rfl⟩
    · exact .inl ⟨d, rfl⟩
    · exact .inr rfl
  have nm2 : ∀ (l : Nat) (t : Sl), (ds.map Sl.val ++ List.replicate n Sl.no)[l]? = some t → t.mut = true → False := fun l t h h' => by
    rcases nomut l t h with ⟨d, rfl⟩ | rfl <;> cases h'
  refine ⟨by simp [is.length], fun i x s h1 h2 => ?_, fun i j q s t hij h1 h2 h3 h4 h5 h6 => ?_, al, fun _ h => h, fun _ _ h _ => h, fun _ h => h.elim, fun a o h1 h2 => ⟨o, h1, h2⟩, fun _ h => .inl h, hT⟩
  · cases i with
    | zero =>
      cases h1; cases h2
      exact ⟨p, o, rfl, hO, fun z => (nomatch z), fun z => .inr (hM z), hp, hR⟩
    | succ i =>
      have := g0.sl i x s (by simpa using h1) (by simpa using h2)
      rcases nomut i s (by simpa using h2) with ⟨d, rfl⟩ | rfl
      · exact this
      · trivial
  · cases i with
    | zero =>
      cases j with
      | zero => exact hij rfl
      | succ j => exact nm2 j t (by simpa using h4) h6
    | succ i => exact nm2 i s (by simpa using h3) h5
theorem fnTb {P : Program} {w : World} {K : PySem.W.Frag} {mg : Str → Option Value} {base : Heap} {α : Type} {C : Addr} {t0 : α → Tst} {args : α → List PyData} {pre : α → Prop} {post : α → PyData → Tst → Prop} {x qual : Str} {st : Stmt} {f : Addr} {fd : FuncData} {N ps : List Str} {k : Nat} (F : Fun K x qual st f fd) (S : FnScope N ps (defScope st)) (len : ∀ a, (args a).length + 1 = ps.length)
    (body : ∀ (a : α) (p : Addr), pre a → ∀ (cdv : Value) (A : Around) (outer : List Env) (s : Shared) (H : Hp) (E : XK), Room k (A.deeper (envOfC qual (defScope st) s.heap.objs.size f cdv)) →
      PSs (cxOf CX0 P w K mg base N qual (defScope st) f cdv A outer s H E).nox (defBody st) (tG (.gn (tbG C p (t0 a)) true false :: ((args a).map .val ++ List.replicate (N.length - ps.length) .no)) (KT fun d ρ' => ∃ t', post a d t' ∧ ρ'[0]? = some (.gn (tbG C p t') true false)))) : FnOk P w K mg base CX0 (k + 1) f fd ps (spT C t0 args pre post) := by
  refine F.ok S (fun vs H Q E h => ?_) (fun cdv A outer s H vs Q E hr h => ?_)
  · obtain ⟨a, O, p, o, ws, rfl, _, _, _, _, i, _⟩ := h
    rw [List.length_cons, i.length, len]
  · obtain ⟨a, O, p, o, ws, rfl, hO, al, ho, hR, is, hp, q⟩ := h
    have hl : (V.ref p :: ws).length = ps.length := by rw [List.length_cons, is.length, len]
    refine ⟨_, body a p hp cdv A outer s H E hr, ⟨H, O, fun a => a = p, fun _ => False, O, []⟩, O, ?_, fun d ρ' O' σ' H' v hφ g' is' => ?_⟩
    · unfold L2.start
      rw [hl]
      exact gd_startT al hO ho hR is (fun a => a = p) true (fun _ => rfl) [] (fun _ h => nomatch h)
    · obtain ⟨t', hpost, h0⟩ := hφ
      obtain ⟨x1, hx1, p1, o1, e1, e2, e3, e4, e5, e6⟩ := g'.at h0
      have e7 : p1 = p := e6.1
      subst e7
      have im : ∀ a u, ¬ O' a → nt u → H' a = some u → ¬ O a ∧ H' a = some u := fun a u n _ h => ⟨fun z => n (g'.sup a z), h⟩
      exact q d v H' o1 t' hpost (fun b u hb h => g'.ext b u h hb) e5 ((tbG C p1 t').st im e6) (Is.imp im d v is')
theorem Dm.mk {P : Program} {w : World} {K : PySem.W.Frag} {mg : Str → Option Value} {base : Heap} {α : Type} {C : Addr} {t0 : α → Tst} {args : α → List PyData} {pre : α → Prop} {post : α → PyData → Tst → Prop} {m qual : Str} {st : Stmt} {N ps : List Str} {k : Nat} (T : TxM K C m qual st ps) (S : FnScope N ps (defScope st)) (len : ∀ a, (args a).length + 1 = ps.length)
    (body : ∀ (a : α) (p : Addr), pre a → ∀ (f : Addr) (cdv : Value) (A : Around) (outer : List Env) (s : Shared) (H : Hp) (E : XK), Room k (A.deeper (envOfC qual (defScope st) s.heap.objs.size f cdv)) →
      PSs (cxOf CX0 P w K mg base N qual (defScope st) f cdv A outer s H E).nox (defBody st) (tG (.gn (tbG C p (t0 a)) true false :: ((args a).map .val ++ List.replicate (N.length - ps.length) .no)) (KT fun d ρ' => ∃ t', post a d t' ∧ ρ'[0]? = some (.gn (tbG C p t') true false)))) : Dm P w K mg base (k + 1) C m ps (spT C t0 args pre post) := by
  obtain ⟨f, fd, F, M, b⟩ := T
  exact ⟨f, fd, M, b, fnTb F S len fun a p hp cdv A outer s H E hr => body a p hp f cdv A outer s H E hr⟩
section
variable {X : Cx} {ρ : List Sl} {e : Expr} {es : List Expr} {pos : Pos}
/-- the call's end, seen by the caller -/
theorem spT_use {α : Type} {C : Addr} {t0 : α → Tst} {args : α → List PyData} {pre : α → Prop} {post : α → PyData → Tst → Prop} {W : Fm} {O : Addr → Prop} {σ : L2.St} {H : Hp} {i : Nat} {p : Addr} {c : Bool} {vs : List V} {Q : VK} (a : α) (g : Gd W O σ H ρ) (hi : ρ[i]? = some (.gn (tbG C p (t0 a)) true c)) (hp : pre a) (is : IsAll O H vs (args a))
    (k : ∀ d ρ' v H', (∃ t', post a d t' ∧ ρ' = ρ.set i (.gn (tbG C p t') true c)) → Gd W O σ H' ρ' → Is O H' v d → Q v H') : spT C t0 args pre post (.ref p :: vs) H Q E0 := by
  obtain ⟨x, hx, q, o, e1, e2, e3, e4, e5, e6⟩ := g.at hi
  have e7 : q = p := e6.1
  subst e7
  subst e1
  refine ⟨a, O, q, o, vs, rfl, e2, g.al, e5, e6, is, hp, fun d v H' o' t' hpost hk hp' hR is' => ?_⟩
  exact k d _ v H' ⟨t', hpost, rfl⟩ (g.wr2 hi rfl (fun z => nomatch z) hx hk hp' ⟨q, o', rfl, e2, e3, e4, hp', hR⟩ (fun z => nomatch z) (e4 rfl) ((tbG C q t').kd hR).nw) is'
/-- x.m(..) of a table -/
theorem x_meth2 {α : Type} {C : Addr} {t0 : α → Tst} {args : α → List PyData} {pre : α → Prop} {post : α → PyData → Tst → Prop} {k j i : Nat} {y m : Str} {ps : List Str} {p : Addr} {c : Bool} {p1 apos : Pos} {pl : Sem Bool} (a : α) (F : Dm X.prog X.w X.K X.mg X.base k C m ps (spT C t0 args pre post)) (hC : Cls X.K C) (hr : Room j X.A) (ha : AV X (e :: es) ρ (args a)) (hp : pre a) (hi : ρ[i]? = some (.gn (tbG C p (t0 a)) true c)) (hj : k ≤ j := by decide)
    (hN : X.N[i]? = some y := by rfl) (hv : Vis X.env.scope y := by first | exact Or.inl rfl | exact Or.inr (Or.inl rfl) | exact Or.inr (Or.inr rfl)) (hyb : (y == ("__debug__" : Str)) = false := by decide) (hyc : (y == ("__classdict__" : Str)) = false := by decide)
    (m1 : ("steep" : Str) ≠ m := by decide +kernel) (m2 : ("now" : Str) ≠ m := by decide +kernel) (m3 : ("earlier" : Str) ≠ m := by decide +kernel) (m4 : ("undone" : Str) ≠ m := by decide +kernel)
    (hst : starEach (e :: es) X.env = (false, eval e X.env) :: starEach es X.env := by rfl) (hpl : (backTo pos (starEach es X.env)).any (·.1) = false := by rfl)
    (ht : eval (.Call (.Attribute (.Name y p1) m apos) (e :: es) [] pos) X.env = (do
      let ov ← eval (.Name y p1) X.env
      standAt apos.atName
      let (f, first) ← holding [ov] (getMethod ov m pl)
      callWith pos f first (backTo pos (starEach (e :: es) X.env)) (backToKw pos (keywordEach [] X.env))) := by rfl) :
    PE X (.Call (.Attribute (.Name y p1) m apos) (e :: es) [] pos) (tX2 ρ fun d ρ' => ∃ t', post a d t' ∧ ρ' = ρ.set i (.gn (tbG C p t') true c)) := by
  obtain ⟨f, fd, M, b, F⟩ := F
  refine PE.imp (pe_meth (E := E0) (pe_var hN hv hyb hyc) hC M F (hr.mono hj) b .nil pass0 ha hst hpl ht) fun σ H Q ⟨W, O, g, k⟩ => ?_
  obtain ⟨x, hx, q, o, e1, e2, e3, e4, e5, e6, dx, a1, b1, c1, d1, e7, ta⟩ := g.at hi
  have e6 : q = p := e6
  subst e6
  subst e1
  refine ⟨.ref q, hx, q, dx, tfs a1 b1 c1 d1, rfl, by rw [e5, e7], tf_no _ _ _ _ m1 m2 m3 m4, W, O, g, fun ds vs H1 hd g1 ed is => ?_⟩
  subst hd
  rw [List.append_nil]
  exact spT_use a g1 hi hp is k
theorem x_meth20 {α : Type} {C : Addr} {t0 : α → Tst} {args : α → List PyData} {pre : α → Prop} {post : α → PyData → Tst → Prop} {k j i : Nat} {y m : Str} {ps : List Str} {p : Addr} {c : Bool} {p1 apos : Pos} {pl : Sem Bool} (a : α) (F : Dm X.prog X.w X.K X.mg X.base k C m ps (spT C t0 args pre post)) (hC : Cls X.K C) (hr : Room j X.A) (ha : args a = []) (hp : pre a) (hi : ρ[i]? = some (.gn (tbG C p (t0 a)) true c)) (hj : k ≤ j := by decide)
    (hN : X.N[i]? = some y := by rfl) (hv : Vis X.env.scope y := by first | exact Or.inl rfl | exact Or.inr (Or.inl rfl) | exact Or.inr (Or.inr rfl)) (hyb : (y == ("__debug__" : Str)) = false := by decide) (hyc : (y == ("__classdict__" : Str)) = false := by decide)
    (m1 : ("steep" : Str) ≠ m := by decide +kernel) (m2 : ("now" : Str) ≠ m := by decide +kernel) (m3 : ("earlier" : Str) ≠ m := by decide +kernel) (m4 : ("undone" : Str) ≠ m := by decide +kernel)
    (ht : eval (.Call (.Attribute (.Name y p1) m apos) [] [] pos) X.env = (do
      let ov ← eval (.Name y p1) X.env
      standAt apos.atName
      let (f, first) ← holding [ov] (getMethod ov m pl)
      callWith pos f first (backTo pos (starEach [] X.env)) (backToKw pos (keywordEach [] X.env))) := by rfl) :
    PE X (.Call (.Attribute (.Name y p1) m apos) [] [] pos) (tX2 ρ fun d ρ' => ∃ t', post a d t' ∧ ρ' = ρ.set i (.gn (tbG C p t') true c)) := by
  obtain ⟨f, fd, M, b, F⟩ := F
  refine PE.imp (pe_meth0 (E := E0) (pe_var hN hv hyb hyc) hC M F (hr.mono hj) b .nil pass0 ht) fun σ H Q ⟨W, O, g, k⟩ => ?_
  obtain ⟨x, hx, q, o, e1, e2, e3, e4, e5, e6, dx, a1, b1, c1, d1, e7, ta⟩ := g.at hi
  have e6 : q = p := e6
  subst e6
  subst e1
  refine ⟨.ref q, hx, q, dx, tfs a1 b1 c1 d1, rfl, by rw [e5, e7], tf_no _ _ _ _ m1 m2 m3 m4, ?_⟩
  show spT C t0 args pre post (.ref q :: ([] ++ [])) H Q E0
  exact spT_use a g hi hp (ha ▸ .nil) k
end
theorem tf_steep (a b c d : V) : (tfs a b c d).lookup ("steep" : Str) = some a := by
  unfold tfs
  rw [List.lookup_cons, beq_self_eq_true]
theorem tf_now (a b c d : V) : (tfs a b c d).lookup ("now" : Str) = some b := by
  have e1 : (("now" : Str) == "steep") = false := by decide +kernel
  unfold tfs
  rw [List.lookup_cons, e1, List.lookup_cons, beq_self_eq_true]
theorem tf_earlier (a b c d : V) : (tfs a b c d).lookup ("earlier" : Str) = some c := by
  have e1 : (("earlier" : Str) == "steep") = false := by decide +kernel
  have e2 : (("earlier" : Str) == "now") = false := by decide +kernel
  unfold tfs
  rw [List.lookup_cons, e1, List.lookup_cons, e2, List.lookup_cons, beq_self_eq_true]
theorem pf_now (a b c d v : V) : putF "now" v (tfs a b c d) = tfs a v c d := by
  obtain ⟨⟨⟨h1, h2, h3⟩, h4, h5⟩, h6⟩ := tf_ne
  simp only [putF, tfs, if_neg h1, if_true]
theorem pf_earlier (a b c d v : V) : putF "earlier" v (tfs a b c d) = tfs a b v d := by
  obtain ⟨⟨⟨h1, h2, h3⟩, h4, h5⟩, h6⟩ := tf_ne
  simp only [putF, tfs, if_neg h2, if_neg h4, if_true]
theorem pf_undone (a b c d v : V) : putF "undone" v (tfs a b c d) = tfs a b c v := by
  obtain ⟨⟨⟨h1, h2, h3⟩, h4, h5⟩, h6⟩ := tf_ne
  simp only [putF, tfs, if_neg h3, if_neg h5, if_neg h6, if_true]
theorem up_now {t : Tst} {r : List Int} : ∀ O H a b c d v, Ta t O H a b c d → Is O H v (tI r) → ∃ a' b' c' d', putF "now" v (tfs a b c d) = tfs a' b' c' d' ∧ Ta { t with now := r } O H a' b' c' d' := fun O H a b c d v h i => ⟨a, v, c, d, pf_now _ _ _ _ _, h.st, i, h.er, h.un⟩
theorem up_er {t : Tst} {r : List (List Int)} : ∀ O H a b c d v, Ta t O H a b c d → Is O H v (lT r) → ∃ a' b' c' d', putF "earlier" v (tfs a b c d) = tfs a' b' c' d' ∧ Ta { t with er := r } O H a' b' c' d' := fun O H a b c d v h i => ⟨a, b, v, d, pf_earlier _ _ _ _ _, h.st, h.now, i, h.un⟩
theorem up_un {t : Tst} {r : List (List Int)} : ∀ O H a b c d v, Ta t O H a b c d → Is O H v (lT r) → ∃ a' b' c' d', putF "undone" v (tfs a b c d) = tfs a' b' c' d' ∧ Ta { t with un := r } O H a' b' c' d' := fun O H a b c d v h i => ⟨a, b, c, v, pf_undone _ _ _ _ _, h.st, h.now, h.er, i⟩
theorem cut_but {α : Type} (xs : List α) (x : α) : cutD (xs ++ [x]) none (some (-1)) = xs := by
  have e1 : HT.sIx (xs ++ [x]).length 0 none = 0 := rfl
  have e2 : HT.sIx (xs ++ [x]).length (xs ++ [x]).length (some (-1)) = xs.length := by
    rw [List.length_append]
    unfold HT.sIx
    simp
    omega
  unfold cutD
  rw [e1, e2, List.drop_zero, Nat.sub_zero, List.take_left]
theorem lT_app (a : List (List Int)) (b : List Int) : PyData.list (a.map tI ++ [tI b]) = lT (a ++ [b]) := by
  show _ = PyData.list _
  rw [List.map_append]
  rfl
end Pd
set_option Elab.async false
set_option linter.all false
set_option maxRecDepth 100000
set_option maxHeartbeats 1000000
/-! Methods of a table that raise; a lambda that changes the table, told. -/
namespace Pd
open PySem PySem.Spec PyProof.Rows L2
/-- a method of a table that raises: the table stays -/
def spTX {α : Type} (C : Addr) (t0 : α → Tst) (args : α → List PyData) (pre : α → Prop) (cl : α → Addr) : Sp := fun vs H _ E => ∃ (a : α) (O : Addr → Prop) (p : Addr) (o : HO) (ws : List V), vs = .ref p :: ws ∧ O p ∧ Al O H ∧ H p = some o ∧ tbR C p (t0 a) O H p o ∧ IsAll O H ws (args a) ∧ pre a ∧ ∀ H', Ext H H' → E (.ref (cl a)) none H'
def DmX (P : Program) (w : World) (K : PySem.W.Frag) (mg : Str → Option Value) (base : Heap) (k : Nat) (C : Addr) (m : Str) (ps : List Str) (sp : Sp) : Prop := ∃ f fd, Meth K C m f ∧ Binds K fd ps [] ∧ FnOk P w K mg base (L2N.CX P w) k f fd ps sp
theorem DmX.mk {P : Program} {w : World} {K : PySem.W.Frag} {mg : Str → Option Value} {base : Heap} {α : Type} {C : Addr} {t0 : α → Tst} {args : α → List PyData} {pre : α → Prop} {cl : α → Addr} {m qual : Str} {st : Stmt} {N ps : List Str} {k : Nat} (T : TxM K C m qual st ps) (S : FnScope N ps (defScope st)) (len : ∀ a, (args a).length + 1 = ps.length)
    (body : ∀ (a : α) (p : Addr), pre a → ∀ (f : Addr) (cdv : Value) (A : Around) (outer : List Env) (s : Shared) (H : Hp) (E : XK), Room k (A.deeper (envOfC qual (defScope st) s.heap.objs.size f cdv)) → L2N.Takes (cxOf (L2N.CX P w) P w K mg base N qual (defScope st) f cdv A outer s H E) (fun cls d _ H' => E cls d H') →
      RXs (cxOf (L2N.CX P w) P w K mg base N qual (defScope st) f cdv A outer s H E) (fun cls d _ H' => E cls d H') (defBody st) (.gn (tbG C p (t0 a)) false false :: ((args a).map .val ++ List.replicate (N.length - ps.length) .no)) (cl a)) : DmX P w K mg base (k + 1) C m ps (spTX C t0 args pre cl) := by
  obtain ⟨f, fd, F, M, b⟩ := T
  obtain ⟨oc, od, kV, doc, pm, an, cdv, ct, osl, rfl, lk, hcd⟩ := F.ex
  refine ⟨f, _, M, b, fn_of lk hcd S (fun vs H Q E h => ?_) fun A outer s H vs Q E hr hsp => ?_⟩
  · obtain ⟨a, O, p, o, ws, rfl, _, _, _, _, i, _⟩ := h
    rw [List.length_cons, i.length, len]
  · obtain ⟨a, O, p, o, ws, rfl, hO, al, ho, hR, is, hp, q⟩ := hsp
    have hl : (V.ref p :: ws).length = ps.length := by rw [List.length_cons, is.length, len]
    refine ⟨_, body a p hp f cdv A outer s H E hr (L2N.takes_of rfl rfl rfl rfl), ⟨H, O, fun _ => False, fun _ => False, O, []⟩, O, ?_, fun σ' H' hx => q H' fun a o h => hx a o h (fun z => z)⟩
    unfold L2.start
    rw [hl]
    exact gd_startT al hO ho hR is (fun _ => False) false (fun z => nomatch z) [] (fun _ h => nomatch h)
section
variable {X : Cx} {ρ : List Sl} {e : Expr} {es : List Expr} {pos : Pos} {E : XK} {D : Addr} {W : WX}
/-- x.m(..), an argument raises -/
theorem r_methA {C : Addr} {sp : Sp} {k j i : Nat} {y m : Str} {ps : List Str} {p : Addr} {t : Tst} {mm c : Bool} {p1 apos : Pos} {pl : Sem Bool} (F : Dm X.prog X.w X.K X.mg X.base k C m ps sp) (hC : Cls X.K C) (hr : Room j X.A) (ha : AR X W (e :: es) ρ D) (hi : ρ[i]? = some (.gn (tbG C p t) mm c)) (hj : k ≤ j := by decide)
    (hN : X.N[i]? = some y := by rfl) (hv : Vis X.env.scope y := by first | exact Or.inl rfl | exact Or.inr (Or.inl rfl) | exact Or.inr (Or.inr rfl)) (hyb : (y == ("__debug__" : Str)) = false := by decide) (hyc : (y == ("__classdict__" : Str)) = false := by decide)
    (m1 : ("steep" : Str) ≠ m := by decide +kernel) (m2 : ("now" : Str) ≠ m := by decide +kernel) (m3 : ("earlier" : Str) ≠ m := by decide +kernel) (m4 : ("undone" : Str) ≠ m := by decide +kernel)
    (hst : starEach (e :: es) X.env = (false, eval e X.env) :: starEach es X.env := by rfl) (hpl : (backTo pos (starEach es X.env)).any (·.1) = false := by rfl)
    (ht : eval (.Call (.Attribute (.Name y p1) m apos) (e :: es) [] pos) X.env = (do
      let ov ← eval (.Name y p1) X.env
      standAt apos.atName
      let (f, first) ← holding [ov] (getMethod ov m pl)
      callWith pos f first (backTo pos (starEach (e :: es) X.env)) (backToKw pos (keywordEach [] X.env))) := by rfl) :
    XR X W (.Call (.Attribute (.Name y p1) m apos) (e :: es) [] pos) ρ D := by
  obtain ⟨f, fd, M, b, F⟩ := F
  refine PE.imp (pe_meth (E := E0) (pe_var hN hv hyb hyc) hC M F (hr.mono hj) b .nil pass0 ha hst hpl ht) fun σ H Q ⟨Wf, O, g, q⟩ => ?_
  obtain ⟨x, hx, p', o, e1, e2, e3, e4, e5, e6, dx, a1, b1, c1, d1, e7, ta⟩ := g.at hi
  subst e1
  exact ⟨.ref p', hx, p', dx, tfs a1 b1 c1 d1, rfl, by rw [e5, e7], tf_no _ _ _ _ m1 m2 m3 m4, Wf, O, g, q⟩
theorem spTX_use {α : Type} {C : Addr} {t0 : α → Tst} {args : α → List PyData} {pre : α → Prop} {cl : α → Addr} {Wf : Fm} {O : Addr → Prop} {σ : L2.St} {H : Hp} {i : Nat} {p : Addr} {mm c : Bool} {vs : List V} {Q : VK} (a : α) (g : Gd Wf O σ H ρ) (hi : ρ[i]? = some (.gn (tbG C p (t0 a)) mm c)) (hp : pre a) (is : IsAll O H vs (args a))
    (k : ∀ H', Gd Wf O σ H' ρ → ExD σ ρ H H' → E (.ref (cl a)) none H') : spTX C t0 args pre cl (.ref p :: vs) H Q E := by
  obtain ⟨x, hx, q, o, e1, e2, e3, e4, e5, e6⟩ := g.at hi
  have e7 : q = p := e6.1
  subst e7
  exact ⟨a, O, q, o, vs, rfl, e2, g.al, e5, e6, is, hp, fun H' ex => k H' (g.ext' ex) ex.exd⟩
/-- x.m(..) raises -/
theorem r_meth {α : Type} {C : Addr} {t0 : α → Tst} {args : α → List PyData} {pre : α → Prop} {cl : α → Addr} {k j i : Nat} {y m : Str} {ps : List Str} {p : Addr} {mm c : Bool} {p1 apos : Pos} {pl : Sem Bool} (a : α) (tk : L2N.Takes X (fun cls d _ H' => E cls d H')) (F : DmX X.prog X.w X.K X.mg X.base k C m ps (spTX C t0 args pre cl)) (hC : Cls X.K C) (hr : Room j X.A) (ha : AV X (e :: es) ρ (args a)) (hp : pre a) (hD : cl a = D) (hi : ρ[i]? = some (.gn (tbG C p (t0 a)) mm c)) (hj : k ≤ j := by decide)
    (hN : X.N[i]? = some y := by rfl) (hv : Vis X.env.scope y := by first | exact Or.inl rfl | exact Or.inr (Or.inl rfl) | exact Or.inr (Or.inr rfl)) (hyb : (y == ("__debug__" : Str)) = false := by decide) (hyc : (y == ("__classdict__" : Str)) = false := by decide)
    (m1 : ("steep" : Str) ≠ m := by decide +kernel) (m2 : ("now" : Str) ≠ m := by decide +kernel) (m3 : ("earlier" : Str) ≠ m := by decide +kernel) (m4 : ("undone" : Str) ≠ m := by decide +kernel)
    (hst : starEach (e :: es) X.env = (false, eval e X.env) :: starEach es X.env := by rfl) (hpl : (backTo pos (starEach es X.env)).any (·.1) = false := by rfl)
    (ht : eval (.Call (.Attribute (.Name y p1) m apos) (e :: es) [] pos) X.env = (do
      let ov ← eval (.Name y p1) X.env
      standAt apos.atName
      let (f, first) ← holding [ov] (getMethod ov m pl)
      callWith pos f first (backTo pos (starEach (e :: es) X.env)) (backToKw pos (keywordEach [] X.env))) := by rfl) :
    XR X (fun cls d _ H' => E cls d H') (.Call (.Attribute (.Name y p1) m apos) (e :: es) [] pos) ρ D := by
  obtain ⟨f, fd, M, b, F⟩ := F
  refine PE.imp (pe_meth (pe_var hN hv hyb hyc) hC M F (hr.mono hj) b .nil (L2N.passes_call tk fun cls d σ H h => h) ha hst hpl ht) fun σ H Q ⟨Wf, O, g, q⟩ => ?_
  obtain ⟨x, hx, p', o, e1, e2, e3, e4, e5, e6, dx, a1, b1, c1, d1, e7, ta⟩ := g.at hi
  have e6 : p' = p := e6
  subst e6
  subst e1
  refine ⟨.ref p', hx, p', dx, tfs a1 b1 c1 d1, rfl, by rw [e5, e7], tf_no _ _ _ _ m1 m2 m3 m4, Wf, O, g, fun ds vs H1 hd g1 ed is => ?_⟩
  subst hd
  rw [List.append_nil]
  exact spTX_use a g1 hi hp is fun H' g' e' => by rw [hD]; exact q H' g' (ed.trans e')
theorem r_meth0 {α : Type} {C : Addr} {t0 : α → Tst} {args : α → List PyData} {pre : α → Prop} {cl : α → Addr} {k j i : Nat} {y m : Str} {ps : List Str} {p : Addr} {mm c : Bool} {p1 apos : Pos} {pl : Sem Bool} (a : α) (tk : L2N.Takes X (fun cls d _ H' => E cls d H')) (F : DmX X.prog X.w X.K X.mg X.base k C m ps (spTX C t0 args pre cl)) (hC : Cls X.K C) (hr : Room j X.A) (ha : args a = []) (hp : pre a) (hD : cl a = D) (hi : ρ[i]? = some (.gn (tbG C p (t0 a)) mm c)) (hj : k ≤ j := by decide)
    (hN : X.N[i]? = some y := by rfl) (hv : Vis X.env.scope y := by first | exact Or.inl rfl | exact Or.inr (Or.inl rfl) | exact Or.inr (Or.inr rfl)) (hyb : (y == ("__debug__" : Str)) = false := by decide) (hyc : (y == ("__classdict__" : Str)) = false := by decide)
    (m1 : ("steep" : Str) ≠ m := by decide +kernel) (m2 : ("now" : Str) ≠ m := by decide +kernel) (m3 : ("earlier" : Str) ≠ m := by decide +kernel) (m4 : ("undone" : Str) ≠ m := by decide +kernel)
    (ht : eval (.Call (.Attribute (.Name y p1) m apos) [] [] pos) X.env = (do
      let ov ← eval (.Name y p1) X.env
      standAt apos.atName
      let (f, first) ← holding [ov] (getMethod ov m pl)
      callWith pos f first (backTo pos (starEach [] X.env)) (backToKw pos (keywordEach [] X.env))) := by rfl) :
    XR X (fun cls d _ H' => E cls d H') (.Call (.Attribute (.Name y p1) m apos) [] [] pos) ρ D := by
  obtain ⟨f, fd, M, b, F⟩ := F
  refine PE.imp (pe_meth0 (pe_var hN hv hyb hyc) hC M F (hr.mono hj) b .nil (L2N.passes_call tk fun cls d σ H h => h) ht) fun σ H Q ⟨Wf, O, g, q⟩ => ?_
  obtain ⟨x, hx, p', o, e1, e2, e3, e4, e5, e6, dx, a1, b1, c1, d1, e7, ta⟩ := g.at hi
  have e6 : p' = p := e6
  subst e6
  subst e1
  refine ⟨.ref p', hx, p', dx, tfs a1 b1 c1 d1, rfl, by rw [e5, e7], tf_no _ _ _ _ m1 m2 m3 m4, ?_⟩
  show spTX C t0 args pre cl (.ref p' :: ([] ++ [])) H Q E
  exact spTX_use a g hi hp (ha ▸ .nil) fun H' g' e' => by rw [hD]; exact q H' g' e'
end
section
variable {X : Cx} {ρ : List Sl} {χ : PyData → Prop}
theorem x_toldE {st : Stmt} {cl : Ec → Addr} {CS c P : Addr} {kt k i0 : Nat} {T : List (Addr × Str)} {params : Arguments} {body : Expr} {scope : Scope} {p lpos pos : Pos} (D : Td X.prog X.w X.K X.mg X.base kt cl CS st) (TB : LamX.TabB X.base X.mg c P) (hcode : X.env.code = .ref c)
    (hmT : (P, X.env.qual ++ "<lambda>") ∈ T) (hu : ∀ p ∈ T, p.1 = P → p.2 = X.env.qual ++ "<lambda>") (hr : Room (k + 2) X.A) (L : LamX.LamS X.env.scope scope) (c0 : Ec) (hχ : χ (res c0)) (hb : ∀ (A : Around) (outer : List Env) (s : Shared) (H : Hp) (E : XK) (f c' : Addr), Room k (A.deeper (LamX.lamEnv X scope s.heap.objs.size f c')) → L2N.Takes (lamX X A outer s H E scope f c') (fun cls d _ H' => E cls d H') → XR (lamX X A outer s H E scope f c') (fun cls d _ H' => E cls d H') body ρ (cl c0)) (hkt : kt ≤ k + 1) (hT : ρ[i0]? = some (.tab T))
    (hdef : defaultsOf params X.env = ([], []) := by rfl) (hbind : ∀ (q : Str) (cl : List (Str × Addr)) (pm cv ctv : Value), bindArgs (PySem.W.kla_fn "<lambda>" q params body scope cl pm cv ctv) ⟨[], []⟩ = pure [] := by intro _ _ _ _ _; rfl) (hg : Gl X "_law_told" := by rfl) :
    XE X (.Call (.Name "_law_told" p) [.Lambda params body scope lpos] [] pos) ρ χ := by
  refine ⟨fun pins s σ H Q I h => ?_⟩
  obtain ⟨Wf, O, g, kq⟩ := h
  obtain ⟨x0, hx0, hWT, hMT⟩ := g.at hT
  obtain ⟨ga, fd, F, Hs⟩ := D.told
  obtain ⟨ft, fdt, Ht, Gt⟩ := D.term
  obtain ⟨p1, p2, p3, p4, p5, p6, p7, p8, p9, p10, hbt⟩ := D.body
  have hTabs : LamX.Tabs T H := by rw [← hWT]; exact g.tb
  refine wpAny_Call_Name_kw (ld_glob I hg Hs.gl ?_ (by decide))
  refine PySem.W.callWith_K (h₀ := X.base) I.ok.mod.kin Hs.kp ?_ (by rfl) (by rfl)
  show wpAny _ _ (spliced ((false, eval (.Lambda params body scope lpos) X.env) :: backTo pos (starEach [] X.env))) _ _ s
  refine Calls.spliced_cons (LamX.lam_make2 I TB hcode hmT hu hTabs hdef (L.has I.ok) fun f c' pm' ctv H1 s' I1 eN T1 hf hfn hfr hco => ?_)
  refine Calls.spliced_nil ⟨I1.kIn, ?_⟩
  have g1 : Gd Wf O σ H1 ρ := g.tabbed eN (by rw [hWT]; exact T1) hMT
  have ed1 : ExD σ ρ H H1 := fun a o n m h => eN a o h m
  obtain ⟨oc, od, kV, doc, pm, an, cdv, ct, osl, rfl, lk, hcd⟩ := F.ex
  have bb := Hs.bd s' [.ref f] I1.kIn rfl
  rw [List.append_nil] at bb
  have rc : codeAny (model X.prog X.w) X.A (.call (.ref ga) ⟨[.ref f], []⟩) (CR CX0 X.stack X.prog X.w H1 s' Q E0) s' := by
    refine LamX.run_ofS (N := ["deed", "e"]) (ps := ["deed"]) (us := [.ref f]) (vs := [.ref f]) lk hcd D.sc hr I1.env0 bb (.cons rfl .nil) rfl fun hr' => ?_
    rw [hbt]
    have hcl : Names (cxOf CX0 X.prog X.w X.K X.mg X.base ["deed", "e"] "_law_told" (defScope st) ga cdv X.A X.stack s' H1 E0).nox "SlideError" (.ref CS) := ⟨D.hgS, by decide, .inl D.gS⟩
    have hrt : ∀ a : Addr, L2H.RoomH kt ((X.A.deeper (envOfC "_law_told" (defScope st) s'.heap.objs.size ga cdv)).mark (some (.ref a))) := fun a => ⟨(hr'.mono hkt).dp, (hr'.mono hkt).un⟩
    · refine ⟨_, PSs.nox (pss_one (L2N.ps_try_as (X := (cxOf CX0 X.prog X.w X.K X.mg X.base ["deed", "e"] "_law_told" (defScope st) ga cdv X.A X.stack s' H1 E0).nox) (i := 1) (c := .ref CS) (Wout := fun _ _ _ _ => False)
        (tb := fun W D σZ HZ => ∃ Ech : XK, (∀ cls d σ' H', Ech cls d H' → W cls d σ' H') ∧ σZ[0]? = some (some (.ref f)) ∧ HZ c' = some (LamX.CodeO c' (X.env.qual ++ "<lambda>")) ∧ tXR ρ (fun cls d _ H' => Ech cls d H') (cl c0) σ HZ D.rt)
        (ts := fun a cls d D σ H => cls = .ref (cl c0) ∧ d = none ∧ (1 < σ.length → σ[1]? = some (some (.ref a))) ∧ ∀ v H', Ext H H' → Is (fun b => ∃ o, H b = some o ∧ nw o) H' v (res c0) → D.rt v H')
        rfl rfl D.sc.nd rfl D.he hcl takesN (fun W pn xe tk _ => ?_) (fun a oe cls d pn hz hfl => ?_))), ?_⟩
      · refine ⟨fun pinsZ sZ σZ HZ DZ IZ ⟨Ech, hW, h1, h2, h3⟩ => ?_⟩
        exact (pss_one (ps_ret (pe_deed (CXg := CX0) (Eg := E0) (E := Ech) I1 L hf hfn hfr (hbind _ _ _ _ _) tk hW hr' (fun A outer s H hr2 => hb A outer s H _ f c' hr2 lam_takes) rfl D.hv))).run pinsZ sZ σZ HZ DZ IZ ⟨h1, h2, h3⟩
      · refine ⟨fun pinsZ sZ σZ HZ DZ IZ ⟨h1, h2, h3, h4⟩ => ?_⟩
        subst h1 h2
        exact (pss_one (ps_ret (pe_term (X := (cxOf CX0 X.prog X.w X.K X.mg X.base ["deed", "e"] "_law_told" (defScope st) ga cdv X.A X.stack s' H1 E0).nox) (i := 1) (Gt c0) Ht hz hfl (hrt a) D.hgT rfl (.inl D.he)))).run pinsZ sZ σZ HZ DZ IZ ⟨h3 (by rw [IZ.len]; exact Nat.lt_succ_self 1), h4⟩
      · refine ⟨fun cls d H' => cls = .ref (cl c0) ∧ d = none ∧ Gd Wf O σ H' ρ ∧ ExD σ ρ H1 H', fun cls d σ' H' h => ?_, rfl, hco, Wf, O, g1, fun H' g' e' => ⟨rfl, rfl, g', e'⟩⟩
        obtain ⟨h1, h2, g2, e2⟩ := h
        subst h1 h2
        refine ⟨true, D.exm c0, fun _ a ha => ⟨rfl, rfl, ?_, fun v H'' ex is => ?_⟩, fun z => nomatch z⟩
        · intro hl; rw [List.length_set] at hl; exact List.getElem?_set_self hl
        · exact kq _ v H'' hχ (g2.ext' ex) ((ed1.trans e2).trans ex.exd) (Is.imp (fun b o n _ h => ⟨fun z => n (g2.al b z), h⟩) _ _ is)
  refine wpAny_call (codeAny_mono rc fun r s2 hq => ?_)
  cases r with
  | error e => exact (show False from hq).elim
  | ok fl =>
    cases fl with
    | ret u => exact I1.after hq
    | next => exact False.elim hq
    | brk => exact False.elim hq
    | cont => exact False.elim hq
theorem x_told2 {ψ : PyData → List Sl → Prop} {st : Stmt} {cl : Ec → Addr} {CS c P : Addr} {kt k i0 : Nat} {T : List (Addr × Str)} {params : Arguments} {body : Expr} {scope : Scope} {p lpos pos : Pos} (D : Td X.prog X.w X.K X.mg X.base kt cl CS st) (TB : LamX.TabB X.base X.mg c P) (hcode : X.env.code = .ref c)
    (hmT : (P, X.env.qual ++ "<lambda>") ∈ T) (hu : ∀ p ∈ T, p.1 = P → p.2 = X.env.qual ++ "<lambda>") (hr : Room (k + 2) X.A) (L : LamX.LamS X.env.scope scope) (hb : ∀ (A : Around) (outer : List Env) (s : Shared) (H : Hp) (E : XK) (f c' : Addr), Room k (A.deeper (LamX.lamEnv X scope s.heap.objs.size f c')) → PE (lamX X A outer s H E scope f c') body (tX2 ρ ψ)) (hkt : kt ≤ k + 1) (hT : ρ[i0]? = some (.tab T))
    (hdef : defaultsOf params X.env = ([], []) := by rfl) (hbind : ∀ (q : Str) (cl : List (Str × Addr)) (pm cv ctv : Value), bindArgs (PySem.W.kla_fn "<lambda>" q params body scope cl pm cv ctv) ⟨[], []⟩ = pure [] := by intro _ _ _ _ _; rfl) (hg : Gl X "_law_told" := by rfl) :
    PE X (.Call (.Name "_law_told" p) [.Lambda params body scope lpos] [] pos) (tX2 ρ ψ) := by
  refine ⟨fun pins s σ H Q I h => ?_⟩
  obtain ⟨Wf, O, g, kq⟩ := h
  obtain ⟨x0, hx0, hWT, hMT⟩ := g.at hT
  obtain ⟨ga, fd, F, Hs⟩ := D.told
  obtain ⟨ft, fdt, Ht, Gt⟩ := D.term
  obtain ⟨p1, p2, p3, p4, p5, p6, p7, p8, p9, p10, hbt⟩ := D.body
  have hTabs : LamX.Tabs T H := by rw [← hWT]; exact g.tb
  refine wpAny_Call_Name_kw (ld_glob I hg Hs.gl ?_ (by decide))
  refine PySem.W.callWith_K (h₀ := X.base) I.ok.mod.kin Hs.kp ?_ (by rfl) (by rfl)
  show wpAny _ _ (spliced ((false, eval (.Lambda params body scope lpos) X.env) :: backTo pos (starEach [] X.env))) _ _ s
  refine Calls.spliced_cons (LamX.lam_make2 I TB hcode hmT hu hTabs hdef (L.has I.ok) fun f c' pm' ctv H1 s' I1 eN T1 hf hfn hfr hco => ?_)
  refine Calls.spliced_nil ⟨I1.kIn, ?_⟩
  have g1 : Gd Wf O σ H1 ρ := g.tabbed eN (by rw [hWT]; exact T1) hMT
  have ed1 : ExD σ ρ H H1 := fun a o n m h => eN a o h m
  obtain ⟨oc, od, kV, doc, pm, an, cdv, ct, osl, rfl, lk, hcd⟩ := F.ex
  have bb := Hs.bd s' [.ref f] I1.kIn rfl
  rw [List.append_nil] at bb
  have rc : codeAny (model X.prog X.w) X.A (.call (.ref ga) ⟨[.ref f], []⟩) (CR CX0 X.stack X.prog X.w H1 s' Q E0) s' := by
    refine LamX.run_ofS (N := ["deed", "e"]) (ps := ["deed"]) (us := [.ref f]) (vs := [.ref f]) lk hcd D.sc hr I1.env0 bb (.cons rfl .nil) rfl fun hr' => ?_
    rw [hbt]
    have hcl : Names (cxOf CX0 X.prog X.w X.K X.mg X.base ["deed", "e"] "_law_told" (defScope st) ga cdv X.A X.stack s' H1 E0).nox "SlideError" (.ref CS) := ⟨D.hgS, by decide, .inl D.gS⟩
    have hrt : ∀ a : Addr, L2H.RoomH kt ((X.A.deeper (envOfC "_law_told" (defScope st) s'.heap.objs.size ga cdv)).mark (some (.ref a))) := fun a => ⟨(hr'.mono hkt).dp, (hr'.mono hkt).un⟩
    · refine ⟨_, PSs.nox (pss_one (L2N.ps_try_as (X := (cxOf CX0 X.prog X.w X.K X.mg X.base ["deed", "e"] "_law_told" (defScope st) ga cdv X.A X.stack s' H1 E0).nox) (i := 1) (c := .ref CS) (Wout := fun _ _ _ _ => False)
        (tb := fun W D σZ HZ => σZ[0]? = some (some (.ref f)) ∧ HZ c' = some (LamX.CodeO c' (X.env.qual ++ "<lambda>")) ∧ tX2 ρ ψ σ HZ D.rt) (ts := fun _ _ _ _ _ _ => False)
        rfl rfl D.sc.nd rfl D.he hcl takesN (fun W pn xe tk _ => ?_) (fun a oe cls d pn _ _ => ⟨fun _ _ _ _ _ _ z => z.elim⟩))), ?_⟩
      · exact pss_one (ps_ret (pe_deed (CXg := CX0) (Eg := E0) (E := fun _ _ _ => False) I1 L hf hfn hfr (hbind _ _ _ _ _) tk (fun _ _ _ _ z => z.elim) hr' (fun A outer s H hr2 => hb A outer s H _ f c' hr2) rfl D.hv))
      · exact ⟨rfl, hco, Wf, O, g1, fun d ρ' v H' hd g' is => kq d ρ' v H' hd g' is⟩
  refine wpAny_call (codeAny_mono rc fun r s2 hq => ?_)
  cases r with
  | error e => exact (show False from hq).elim
  | ok fl =>
    cases fl with
    | ret u => exact I1.after hq
    | next => exact False.elim hq
    | brk => exact False.elim hq
    | cont => exact False.elim hq
end
end Pd
set_option Elab.async false
set_option linter.all false
set_option maxRecDepth 100000
set_option maxHeartbeats 1000000
/-! Methods of a table that leave it as it is; len(table). -/
namespace Pd
open PySem PySem.Spec PyProof.Rows L2
def spTF {α : Type} (C : Addr) (t0 : α → Tst) (args : α → List PyData) (pre : α → Prop) (post : α → PyData → Prop) : Sp := fun vs H Q _ => ∃ (a : α) (O : Addr → Prop) (p : Addr) (o : HO) (ws : List V), vs = .ref p :: ws ∧ O p ∧ Al O H ∧ H p = some o ∧ tbR C p (t0 a) O H p o ∧ IsAll O H ws (args a) ∧ pre a ∧ ∀ d v H', post a d → Ext H H' → Is O H' v d → Q v H'
theorem Dm.mkF {P : Program} {w : World} {K : PySem.W.Frag} {mg : Str → Option Value} {base : Heap} {α : Type} {C : Addr} {t0 : α → Tst} {args : α → List PyData} {pre : α → Prop} {post : α → PyData → Prop} {m qual : Str} {st : Stmt} {N ps : List Str} {k : Nat} (T : TxM K C m qual st ps) (S : FnScope N ps (defScope st)) (len : ∀ a, (args a).length + 1 = ps.length)
    (body : ∀ (a : α) (p : Addr), pre a → ∀ (f : Addr) (cdv : Value) (A : Around) (outer : List Env) (s : Shared) (H : Hp) (E : XK), Room k (A.deeper (envOfC qual (defScope st) s.heap.objs.size f cdv)) →
      SXs (cxOf CX0 P w K mg base N qual (defScope st) f cdv A outer s H E).nox (defBody st) (.gn (tbG C p (t0 a)) false false :: ((args a).map .val ++ List.replicate (N.length - ps.length) .no)) (fun _ => False) (post a)) : Dm P w K mg base (k + 1) C m ps (spTF C t0 args pre post) := by
  obtain ⟨f, fd, F, M, b⟩ := T
  refine ⟨f, fd, M, b, F.ok S (fun vs H Q E h => ?_) (fun cdv A outer s H vs Q E hr h => ?_)⟩
  · obtain ⟨a, O, p, o, ws, rfl, _, _, _, _, i, _⟩ := h
    rw [List.length_cons, i.length, len]
  · obtain ⟨a, O, p, o, ws, rfl, hO, al, ho, hR, is, hp, q⟩ := h
    have hl : (V.ref p :: ws).length = ps.length := by rw [List.length_cons, is.length, len]
    refine ⟨_, body a p hp f cdv A outer s H E hr, ⟨H, O, fun _ => False, fun _ => False, O, []⟩, O, ?_, fun _ _ _ _ z => z.elim, fun d v O' H' hr is' rt => ?_⟩
    · unfold L2.start
      rw [hl]
      exact gd_startT al hO ho hR is (fun _ => False) false (fun z => nomatch z) [] (fun _ h => nomatch h)
    · exact q d v H' hr (fun b o h => rt.2.1 b o h (fun z => z)) (Is.imp (fun a o n _ h => ⟨fun z => n (rt.1 a z), h⟩) d v is')
section
variable {X : Cx} {ρ : List Sl} {pos : Pos}
theorem spTF_use {α : Type} {C : Addr} {t0 : α → Tst} {args : α → List PyData} {pre : α → Prop} {post : α → PyData → Prop} {W : Fm} {O : Addr → Prop} {σ : L2.St} {H : Hp} {i : Nat} {p : Addr} {m c : Bool} {vs : List V} {Q : VK} (a : α) (g : Gd W O σ H ρ) (hi : ρ[i]? = some (.gn (tbG C p (t0 a)) m c)) (hp : pre a) (is : IsAll O H vs (args a))
    (k : ∀ d v H', post a d → Gd W O σ H' ρ → ExD σ ρ H H' → Is O H' v d → Q v H') : spTF C t0 args pre post (.ref p :: vs) H Q E0 := by
  obtain ⟨x, hx, q, o, e1, e2, e3, e4, e5, e6⟩ := g.at hi
  have e7 : q = p := e6.1
  subst e7
  exact ⟨a, O, q, o, vs, rfl, e2, g.al, e5, e6, is, hp, fun d v H' hpost ex is' => k d v H' hpost (g.ext' ex) ex.exd is'⟩
/-- x.m() that only answers -/
theorem x_methV {α : Type} {C : Addr} {t0 : α → Tst} {args : α → List PyData} {pre : α → Prop} {post : α → PyData → Prop} {k j i : Nat} {y m : Str} {ps : List Str} {p : Addr} {mm c : Bool} {p1 apos : Pos} {pl : Sem Bool} (a : α) (F : Dm X.prog X.w X.K X.mg X.base k C m ps (spTF C t0 args pre post)) (hC : Cls X.K C) (hr : Room j X.A) (ha : args a = []) (hp : pre a) (hi : ρ[i]? = some (.gn (tbG C p (t0 a)) mm c)) (hj : k ≤ j := by decide)
    (hN : X.N[i]? = some y := by rfl) (hv : Vis X.env.scope y := by first | exact Or.inl rfl | exact Or.inr (Or.inl rfl) | exact Or.inr (Or.inr rfl)) (hyb : (y == ("__debug__" : Str)) = false := by decide) (hyc : (y == ("__classdict__" : Str)) = false := by decide)
    (m1 : ("steep" : Str) ≠ m := by decide +kernel) (m2 : ("now" : Str) ≠ m := by decide +kernel) (m3 : ("earlier" : Str) ≠ m := by decide +kernel) (m4 : ("undone" : Str) ≠ m := by decide +kernel)
    (ht : eval (.Call (.Attribute (.Name y p1) m apos) [] [] pos) X.env = (do
      let ov ← eval (.Name y p1) X.env
      standAt apos.atName
      let (f, first) ← holding [ov] (getMethod ov m pl)
      callWith pos f first (backTo pos (starEach [] X.env)) (backToKw pos (keywordEach [] X.env))) := by rfl) :
    XE X (.Call (.Attribute (.Name y p1) m apos) [] [] pos) ρ (post a) := by
  obtain ⟨f, fd, M, b, F⟩ := F
  refine PE.imp (pe_meth0 (E := E0) (pe_var hN hv hyb hyc) hC M F (hr.mono hj) b .nil pass0 ht) fun σ H Q ⟨W, O, g, k⟩ => ?_
  obtain ⟨x, hx, q, o, e1, e2, e3, e4, e5, e6, dx, a1, b1, c1, d1, e7, ta⟩ := g.at hi
  have e6 : q = p := e6
  subst e6
  subst e1
  refine ⟨.ref q, hx, q, dx, tfs a1 b1 c1 d1, rfl, by rw [e5, e7], tf_no _ _ _ _ m1 m2 m3 m4, ?_⟩
  show spTF C t0 args pre post (.ref q :: ([] ++ [])) H Q E0
  exact spTF_use a g hi hp (ha ▸ .nil) k
/-- len(x), x a table -/
theorem x_lenT {α : Type} {C : Addr} {t0 : α → Tst} {args : α → List PyData} {pre : α → Prop} {post : α → PyData → Prop} {k j i n : Nat} {y : Str} {ps : List Str} {p : Addr} {mm c : Bool} {p1 p2 : Pos} (a : α) (F : Dm X.prog X.w X.K X.mg X.base k C "__len__" ps (spTF C t0 args pre post)) (hr : Room j X.A) (ha : args a = []) (hp : pre a) (hpo : post a = fun z => z = .int (n : Nat)) (hn : n < 100000) (hi : ρ[i]? = some (.gn (tbG C p (t0 a)) mm c)) (hm : X.mg "len" = none) (hj : k + 1 ≤ j := by decide)
    (hN : X.N[i]? = some y := by rfl) (hv : Vis X.env.scope y := by first | exact Or.inl rfl | exact Or.inr (Or.inl rfl) | exact Or.inr (Or.inr rfl)) (hyb : (y == ("__debug__" : Str)) = false := by decide) (hyc : (y == ("__classdict__" : Str)) = false := by decide) (hg : Gl X "len" := by rfl)
    (na : starEach [.Name y p1] X.env = (false, eval (.Name y p1) X.env) :: starEach [] X.env := by rfl) : XV X (.Call (.Name "len" p2) [.Name y p1] [] pos) ρ (.int (n : Nat)) := by
  obtain ⟨f, fd, M, b, F⟩ := F
  refine ⟨fun pins s σ H Q I h => ?_⟩
  obtain ⟨W, O, g, kq⟩ := h
  obtain ⟨x, hx, q, o, e1, e2, e3, e4, e5, e6, dx, a1, b1, c1, d1, e7, ta⟩ := g.at hi
  have e6 : q = p := e6
  subst e6
  subst e1
  refine Call_ (ld_blt I hg hm PySem.boot_len ?_)
  refine PyProof.Rows.callWith_builtin1 (PyProof.Rows.args_cons (thn ((pe_var (pos := p1) hN hv hyb hyc).run pins s σ H (fun v H1 => v = .ref q ∧ H1 = H) I ⟨.ref q, hx, rfl, rfl⟩) fun u s1 ⟨x, H1, I1, r1, q1⟩ => PyProof.Rows.args_nil ?_) na) na rfl
  obtain ⟨ex, eH⟩ := q1
  subst ex eH
  obtain rfl : u = Value.ref q := r1
  have ha' : H1 q = some (.ins C dx (tfs a1 b1 c1 d1)) := by rw [e5, e7]
  obtain ⟨mA, J, _⟩ := ins_get I1.hok ha'
  obtain ⟨od, J, _⟩ := J.look
  obtain ⟨m, hF⟩ := I1.fr
  have room : Room k X.A.in1 := (hr.mono hj).in1
  refine PySem.W.len_K hF I1.ok.mod.kin J M.1 M.fn ?_
  have e0 : Env0 X.prog X.w X.K X.mg X.base X.A.in1 X.stack s1 H1 := by
    have e := I1.env0
    exact ⟨e.frames, e.mod, e.bs, e.bsz, e.funs, e.frf, e.hok, e.bare⟩
  have hsp : spTF C t0 args pre post [.ref q] H1 (fun v H' => v = .int (n : Nat) ∧ Gd W O σ H' ρ ∧ ExD σ ρ H1 H') E0 := spTF_use a g hi hp (ha ▸ .nil) fun d v H' hd g' ed is => by
    rw [hpo] at hd
    subst hd
    cases is
    exact ⟨rfl, g', ed⟩
  have hl := F.len _ _ _ _ hsp
  refine wpAny_call (codeAny_mono (F.run X.A.in1 X.stack s1 H1 ⟨[.ref q], []⟩ [.ref q] [.ref q] _ E0 room e0 (by
    have := b s1 [.ref q] I1.kIn (by simpa using hl)
    simpa using this) (.cons rfl .nil) hsp) fun r s' hq => ?_)
  cases r with
  | error e => exact (show False from hq).elim
  | ok fl =>
    cases fl with
    | ret u =>
      obtain ⟨v, H', I', rv, rfl, g', ed⟩ := I1.after hq
      obtain ⟨t, rfl⟩ := rv
      exact ⟨⟨by omega, by omega⟩, .int (n : Nat), H', I'.tok _, ⟨_, rfl⟩, kq _ _ H' rfl g' ed (.int _)⟩
    | next => exact False.elim hq
    | brk => exact False.elim hq
    | cont => exact False.elim hq
end
end Pd
set_option Elab.async false
set_option linter.all false
set_option maxRecDepth 100000
set_option maxHeartbeats 1000000
/-! Defs with a table at their head that make lambdas. -/
namespace Pd
open PySem PySem.Spec PyProof.Rows L2
section
variable {W : Fm} {O : Addr → Prop} {σ : L2.St} {H H' : Hp} {ρ : List Sl}
/-- a slot that says nothing may tell of the tables of code -/
theorem Gd.retab (g : Gd W O σ H ρ) {i : Nat} {T : List (Addr × Str)} (hi : ρ[i]? = some .no) (hT : W.T = T) (hM : ∀ a ps, W.H0 a = some (.tbl ps) → W.M a) : Gd W O σ H (ρ.set i (.tab T)) := by
  have len : i < ρ.length := (List.getElem?_eq_some_iff.mp hi).1
  have back : ∀ (l : Nat) (t : Sl), (ρ.set i (.tab T))[l]? = some t → t.mut = true → ρ[l]? = some t := fun l t h h' => by
    by_cases hil : i = l
    · subst hil
      rw [List.getElem?_set_self len] at h
      cases h; cases h'
    · rwa [List.getElem?_set_ne hil] at h
  refine ⟨by rw [List.length_set]; exact g.len, fun j x s h1 h2 => ?_, fun j l q s t hjl h1 h2 h3 h4 h5 h6 => g.uq j l q s t hjl h1 h2 (back j s h3 h5) (back l t h4 h6) h5 h6, g.al, g.sup, g.ext, fun a ha => (dx_set (s := .tab T) (fun z => by rw [hi] at z; cases z) (fun z => nomatch z)).mpr (g.dc a ha), g.kp, g.nw, g.tb⟩
  by_cases hij : i = j
  · subst hij
    rw [List.getElem?_set_self len] at h2
    cases h2
    exact ⟨hT, hM⟩
  · rw [List.getElem?_set_ne hij] at h2
    exact g.sl j x s h1 h2
/-- an owned thing has changed, the tables of code have grown, all else stands -/
theorem Gd.wr3 (g : Gd W O σ H ρ) {i : Nat} {s0 s1 : Sl} {p : Addr} {o : HO} (hi : ρ[i]? = some s0) (hm : s0.mut = true) (hd : s0 ≠ .dice) (hσ : σ[i]? = some (some (.ref p))) (hM : ∀ a ps, W.H0 a = some (.tbl ps) → W.M a) (hk : ∀ b u, b ≠ p → nt u → H b = some u → H' b = some u) (ht : LamX.Tabs W.T H') (hp : H' p = some o) (hko : kd o) (hs : SlOk W O H' (some (.ref p)) s1) (hs1 : s1 ≠ .dice) (hmu : W.Mu p) : Gd W O σ H' (ρ.set i s1) := by
  obtain ⟨_, u0, hu0, _⟩ := g.there hσ hi hm
  have e1 : LamX.ExtN H (upd H' p u0) := fun b u h hn => by
    by_cases hb : b = p
    · subst hb; rw [hu0] at h; cases h; exact upd_same
    · rw [upd_ne hb]; exact hk b u hb hn h
  have e2 : upd (upd H' p u0) p o = H' := by
    funext b
    by_cases hb : b = p
    · subst hb; rw [upd_same, hp]
    · rw [upd_ne hb, upd_ne hb]
  have := (g.tabbed e1 (tabs_upd ht ⟨o, hp, hko⟩) hM).wrOwn (o := o) (s1 := s1) hi hm hd hσ (by rw [e2]; exact hs) hs1 hmu hko.nw
  rw [e2] at this
  exact this
end
/-- one more argument, owned -/
theorem gd_cons {O : Addr → Prop} {H : Hp} {M : Addr → Prop} {T : List (Addr × Str)} {σ : L2.St} {ρ : List Sl} {q : Addr} {c k : Int} (g : Gd ⟨H, O, M, fun _ => False, O, T⟩ O σ H ρ) (hO : O q) (hM : M q) (hq : H q = some (.lst [.int c, .int k])) (hn : ∀ (j : Nat) (t : Sl), σ[j]? = some (some (.ref q)) → ρ[j]? = some t → t.mut = true → False) : Gd ⟨H, O, M, fun a => a = q, O, T⟩ O (some (.ref q) :: σ) H (.dice :: ρ) := by
  refine ⟨by rw [List.length_cons, List.length_cons, g.len], fun i x s h1 h2 => ?_, fun i j p s t hij h1 h2 h3 h4 h5 h6 => ?_, g.al, g.sup, g.ext, fun a ha => ⟨0, by rw [show a = q from ha]; rfl, rfl⟩, g.kp, g.nw, g.tb⟩
  · cases i with
    | zero => cases h1; cases h2; exact ⟨q, c, k, rfl, hO, .inr hM, hq⟩
    | succ i =>
      have := g.sl i x s (by simpa using h1) (by simpa using h2)
      cases s with
      | no => trivial
      | raw v => exact this
      | tab T => exact this
      | val d => exact this
      | fz u => exact this
      | own ds => exact this
      | xl ds => exact this
      | gn G m c => exact this
      | dice => exact this
      | dct kvs => exact this
  · cases i with
    | zero =>
      cases j with
      | zero => exact hij rfl
      | succ j =>
        cases h1
        exact hn j t (by simpa using h2) (by simpa using h4) h6
    | succ i =>
      cases j with
      | zero =>
        cases h2
        exact hn i s (by simpa using h1) (by simpa using h3) h5
      | succ j => exact g.uq i j p s t (fun z => hij (by rw [z])) (by simpa using h1) (by simpa using h2) (by simpa using h3) (by simpa using h4) h5 h6
/-- a def with a table at its head that makes lambdas -/
def spTL {α : Type} (C : Addr) (T : List (Addr × Str)) (t0 : α → Tst) (args : α → List PyData) (pre : α → Prop) (post : α → PyData → Tst → Prop) : Sp := fun vs H Q _ => ∃ (a : α) (O : Addr → Prop) (p : Addr) (o : HO) (ws : List V), vs = .ref p :: ws ∧ O p ∧ Al O H ∧ H p = some o ∧ tbR C p (t0 a) O H p o ∧ IsAll O H ws (args a) ∧ pre a ∧ LamX.Tabs T H ∧
  ∀ d v H' o' t', post a d t' → (∀ b u, b ≠ p → nt u → H b = some u → H' b = some u) → LamX.Tabs T H' → H' p = some o' → tbR C p t' O H' p o' → Is O H' v d → Q v H'
/-- .. with dice ahead -/
def spDL {α : Type} (C : Addr) (T : List (Addr × Str)) (t0 : α → Tst) (args : α → List PyData) (pre : α → Prop) (post : α → PyData → Tst → Prop) : Sp := fun vs H Q _ => ∃ (a : α) (O : Addr → Prop) (q : Addr) (c k : Int) (p : Addr) (o : HO) (ws : List V), vs = .ref q :: .ref p :: ws ∧ O q ∧ H q = some (.lst [.int c, .int k]) ∧ O p ∧ Al O H ∧ H p = some o ∧ tbR C p (t0 a) O H p o ∧ IsAll O H ws (args a) ∧ pre a ∧ LamX.Tabs T H ∧
  ∀ d v H' c' k' o' t', post a d t' → (∀ b u, b ≠ p → b ≠ q → nt u → H b = some u → H' b = some u) → LamX.Tabs T H' → H' q = some (.lst [.int c', .int k']) → H' p = some o' → tbR C p t' O H' p o' → Is O H' v d → Q v H'
theorem start_len {N : List Str} {vs : List V} {n : Nat} (h : vs.length = n) : L2.start N vs = vs.map some ++ List.replicate (N.length - n) none := by
  unfold L2.start
  rw [h]
/-- a def whose code object is known -/
def TxC (K : PySem.W.Frag) (mg : Str → Option Value) (x : Str) (st : Stmt) (ps : List Str) (c : Addr) : Prop := ∃ (f : Addr) (oc : Value) (od : Option Addr) (kV doc pm : Value) (an : Option Addr) (ct : Value) (osl : Array (Option Value)), K.lookup f = some ⟨oc, od, .func (PySem.W.fnOf x x (defArgs st) (defBody st) (defScope st) .none kV doc pm an (.ref c) ct), osl⟩ ∧ PySem.W.codeIn K (.ref c) x = true ∧
  Has K mg x f (PySem.W.fnOf x x (defArgs st) (defBody st) (defScope st) .none kV doc pm an (.ref c) ct) ps
theorem Df.mkTL {P : Program} {w : World} {K : PySem.W.Frag} {mg : Str → Option Value} {base : Heap} {α : Type} {C c : Addr} {T : List (Addr × Str)} {t0 : α → Tst} {args : α → List PyData} {pre : α → Prop} {post : α → PyData → Tst → Prop} {x : Str} {st : Stmt} {N ps : List Str} {k : Nat} (i0 : Nat) (Tt : TxC K mg x st ps c) (S : FnScope N ps (defScope st)) (len : ∀ a, (args a).length + 1 = ps.length)
    (h0 : ∀ a p, (Sl.gn (tbG C p (t0 a)) true false :: ((args a).map Sl.val ++ List.replicate (N.length - ps.length) Sl.no))[i0]? = some .no)
    (body : ∀ (a : α) (p : Addr), pre a → ∀ (f : Addr) (A : Around) (outer : List Env) (s : Shared) (H : Hp) (E : XK), Room k (A.deeper (envOfC x (defScope st) s.heap.objs.size f (.ref c))) →
      PSs (cxOf CX0 P w K mg base N x (defScope st) f (.ref c) A outer s H E).nox (defBody st) (tG ((Sl.gn (tbG C p (t0 a)) true false :: ((args a).map Sl.val ++ List.replicate (N.length - ps.length) Sl.no)).set i0 (.tab T)) (KT fun d ρ' => ∃ t', post a d t' ∧ ρ'[0]? = some (.gn (tbG C p t') true false)))) : Df P w K mg base (k + 1) x ps (spTL C T t0 args pre post) := by
  obtain ⟨f, oc, od, kV, doc, pm, an, ct, osl, lk, hcd, hs⟩ := Tt
  refine ⟨f, _, hs, fn_of lk hcd S (fun vs H Q E h => ?_) fun A outer s H vs Q E hr h => ?_⟩
  · obtain ⟨a, O, p, o, ws, rfl, _, _, _, _, i, _⟩ := h
    rw [List.length_cons, i.length, len]
  · obtain ⟨a, O, p, o, ws, rfl, hO, al, ho, hR, is, hp, hT, q⟩ := h
    have hl : (V.ref p :: ws).length = ps.length := by rw [List.length_cons, is.length, len]
    refine ⟨_, (body a p hp f A outer s H E hr).nox, ⟨H, O, fun b => b = p ∨ ∃ ps, H b = some (.tbl ps), fun _ => False, O, T⟩, O, ?_, fun d ρ' O' σ' H' v hφ g' is' => ?_⟩
    · rw [start_len hl]
      exact (gd_startT al hO ho hR is (fun b => b = p ∨ ∃ ps, H b = some (.tbl ps)) true (fun _ => .inl rfl) T hT).retab (h0 a p) rfl fun b ps h => .inr ⟨ps, h⟩
    · obtain ⟨t', hpost, h1⟩ := hφ
      obtain ⟨x1, hx1, p1, o1, e1, e2, e3, e4, e5, e6⟩ := g'.at h1
      have e7 : p1 = p := e6.1
      subst e7
      have im : ∀ a u, ¬ O' a → nt u → H' a = some u → ¬ O a ∧ H' a = some u := fun a u n _ h => ⟨fun z => n (g'.sup a z), h⟩
      refine q d v H' o1 t' hpost (fun b u hb hn h => g'.ext b u h fun z => ?_) g'.tb e5 ((tbG C p1 t').st im e6) (Is.imp im d v is')
      rcases z with z | ⟨ps, z⟩
      · exact hb z
      · rw [h] at z; cases z; exact hn ps rfl
theorem Df.mkDL {P : Program} {w : World} {K : PySem.W.Frag} {mg : Str → Option Value} {base : Heap} {α : Type} {C : Addr} {T : List (Addr × Str)} {t0 : α → Tst} {args : α → List PyData} {pre : α → Prop} {post : α → PyData → Tst → Prop} {x : Str} {st : Stmt} {N ps : List Str} {k : Nat} (i0 : Nat) (Tt : Tx K mg x st ps) (S : FnScope N ps (defScope st)) (len : ∀ a, (args a).length + 2 = ps.length)
    (h0 : ∀ a p, (Sl.dice :: Sl.gn (tbG C p (t0 a)) true false :: ((args a).map Sl.val ++ List.replicate (N.length - ps.length) Sl.no))[i0]? = some .no)
    (body : ∀ (a : α) (p : Addr), pre a → ∀ (f : Addr) (cdv : Value) (A : Around) (outer : List Env) (s : Shared) (H : Hp) (E : XK), Room k (A.deeper (envOfC x (defScope st) s.heap.objs.size f cdv)) →
      PSs (cxOf CX0 P w K mg base N x (defScope st) f cdv A outer s H E).nox (defBody st) (tG ((Sl.dice :: Sl.gn (tbG C p (t0 a)) true false :: ((args a).map Sl.val ++ List.replicate (N.length - ps.length) Sl.no)).set i0 (.tab T)) (KT fun d ρ' => ∃ t', post a d t' ∧ ρ'[1]? = some (.gn (tbG C p t') true false)))) : Df P w K mg base (k + 1) x ps (spDL C T t0 args pre post) := by
  obtain ⟨f, fd, F, hs⟩ := Tt
  refine ⟨f, fd, hs, F.ok S (fun vs H Q E h => ?_) (fun cdv A outer s H vs Q E hr h => ?_)⟩
  · obtain ⟨a, O, q, c, k, p, o, ws, rfl, _, _, _, _, _, _, i, _⟩ := h
    rw [List.length_cons, List.length_cons, i.length, len]
  · obtain ⟨a, O, q, c, k, p, o, ws, rfl, hOq, hq, hO, al, ho, hR, is, hp, hT, kq⟩ := h
    have hl : (V.ref q :: V.ref p :: ws).length = ps.length := by rw [List.length_cons, List.length_cons, is.length, len]
    have hpq : q ≠ p := fun z => by
      obtain ⟨_, dx, a1, b1, c1, d1, e7, _⟩ := hR
      rw [z, ho, e7] at hq
      cases hq
    refine ⟨_, body a p hp f cdv A outer s H E hr, ⟨H, O, fun b => b = p ∨ b = q ∨ ∃ ps, H b = some (.tbl ps), fun b => b = q, O, T⟩, O, ?_, fun d ρ' O' σ' H' v hφ g' is' => ?_⟩
    · rw [start_len hl]
      refine (gd_cons (gd_startT (n := N.length - ps.length) al hO ho hR is (fun b => b = p ∨ b = q ∨ ∃ ps, H b = some (.tbl ps)) true (fun _ => .inl rfl) T hT) hOq (.inr (.inl rfl)) hq fun j t h1 h2 h3 => ?_).retab (h0 a p) rfl fun b ps h => .inr (.inr ⟨ps, h⟩)
      cases j with
      | zero => cases h1; exact hpq rfl
      | succ j =>
        have h2 : ((args a).map Sl.val ++ List.replicate (N.length - ps.length) Sl.no)[j]? = some t := by simpa using h2
        have := List.mem_of_getElem? h2
        simp only [List.mem_append, List.mem_map, List.mem_replicate] at this
        rcases this with ⟨_, _, rfl⟩ | ⟨_, rfl⟩ <;> cases h3
    · obtain ⟨t', hpost, h1⟩ := hφ
      obtain ⟨x1, hx1, p1, o1, e1, e2, e3, e4, e5, e6⟩ := g'.at h1
      have e7 : p1 = p := e6.1
      subst e7
      obtain ⟨c', k', hq'⟩ := g'.rt.2.2 q rfl
      have im : ∀ a u, ¬ O' a → nt u → H' a = some u → ¬ O a ∧ H' a = some u := fun a u n _ h => ⟨fun z => n (g'.sup a z), h⟩
      refine kq d v H' c' k' o1 t' hpost (fun b u hb hb2 hn h => g'.ext b u h fun z => ?_) g'.tb hq' e5 ((tbG C p1 t').st im e6) (Is.imp im d v is')
      rcases z with z | z | ⟨ps, z⟩
      · exact hb z
      · exact hb2 z
      · rw [h] at z; cases z; exact hn ps rfl
section
variable {X : Cx} {ρ : List Sl} {e : Expr} {es : List Expr} {pos : Pos}
/-- f(table, ..), f makes lambdas -/
theorem x_callTL {α : Type} {C : Addr} {T : List (Addr × Str)} {t0 : α → Tst} {args : α → List PyData} {pre : α → Prop} {post : α → PyData → Tst → Prop} {k j i i0 : Nat} {x y : Str} {ps : List Str} {p : Addr} {c : Bool} {p1 p2 : Pos} (a : α) (F : Df X.prog X.w X.K X.mg X.base k x ps (spTL C T t0 args pre post)) (hr : Room j X.A) (ha : AV X es ρ (args a)) (hp : pre a) (hi : ρ[i]? = some (.gn (tbG C p (t0 a)) true c)) (h0 : ρ[i0]? = some (.tab T)) (hj : k ≤ j := by decide)
    (hN : X.N[i]? = some y := by rfl) (hv : Vis X.env.scope y := by first | exact Or.inl rfl | exact Or.inr (Or.inl rfl) | exact Or.inr (Or.inr rfl)) (hyb : (y == ("__debug__" : Str)) = false := by decide) (hyc : (y == ("__classdict__" : Str)) = false := by decide) (hg : Gl X x := by rfl) (hdb : (x == ("__debug__" : Str)) = false := by decide)
    (he : starEach (.Name y p2 :: es) X.env = (false, eval (.Name y p2) X.env) :: starEach es X.env := by rfl) (hpl : (backTo pos (starEach es X.env)).any (·.1) = false := by rfl) :
    PE X (.Call (.Name x p1) (.Name y p2 :: es) [] pos) (tX2 ρ fun d ρ' => ∃ t', post a d t' ∧ ρ' = ρ.set i (.gn (tbG C p t') true c)) := by
  obtain ⟨f, fd, Hs, F⟩ := F
  refine PE.imp (pe_call F (hr.mono hj) hg Hs.gl Hs.kp Hs.bd .nil pass0 (pa_cons (pe_var hN hv hyb hyc) ha he) hdb he hpl) fun σ H Q ⟨W, O, g, kq⟩ => ?_
  obtain ⟨x0, hx0, q0, o0, e1, _, _, _, _, e6, _⟩ := g.at hi
  have e6 : q0 = p := e6
  subst e6
  subst e1
  refine ⟨.ref q0, hx0, W, O, g, fun ds vs H1 hd g1 e1 i1 => ?_⟩
  subst hd
  show spTL C T t0 args pre post ((V.ref q0 :: vs) ++ []) H1 Q E0
  rw [List.append_nil]
  obtain ⟨z0, hz0, hWT, hMT⟩ := g1.at h0
  obtain ⟨q1, o, f1, f2, f3, f4, f5, f6⟩ := g1.sl i _ _ hx0 hi
  cases f1
  refine ⟨a, O, q0, o, vs, rfl, f2, g1.al, f5, f6, i1, hp, hWT ▸ g1.tb, fun d v H' o' t' hpost hk hT' hp' hR is' => ?_⟩
  exact kq d _ v H' ⟨t', hpost, rfl⟩ (g1.wr3 hi rfl (fun z => nomatch z) hx0 hMT hk (by rw [hWT]; exact hT') hp' ((tbG C q0 t').kd hR) ⟨q0, o', rfl, f2, f3, f4, hp', hR⟩ (fun z => nomatch z) (f4 rfl)) is'
/-- f(dice, table, ..) -/
theorem x_callDL {α : Type} {C : Addr} {T : List (Addr × Str)} {t0 : α → Tst} {args : α → List PyData} {pre : α → Prop} {post : α → PyData → Tst → Prop} {k j i i0 id : Nat} {x y yd : Str} {ps : List Str} {p : Addr} {c : Bool} {p1 p2 p3 : Pos} (a : α) (F : Df X.prog X.w X.K X.mg X.base k x ps (spDL C T t0 args pre post)) (hr : Room j X.A) (ha : AV X es ρ (args a)) (hp : pre a) (hd : ρ[id]? = some .dice) (hi : ρ[i]? = some (.gn (tbG C p (t0 a)) true c)) (h0 : ρ[i0]? = some (.tab T)) (hj : k ≤ j := by decide)
    (hN : X.N[i]? = some y := by rfl) (hv : Vis X.env.scope y := by first | exact Or.inl rfl | exact Or.inr (Or.inl rfl) | exact Or.inr (Or.inr rfl)) (hyb : (y == ("__debug__" : Str)) = false := by decide) (hyc : (y == ("__classdict__" : Str)) = false := by decide)
    (hNd : X.N[id]? = some yd := by rfl) (hvd : Vis X.env.scope yd := by first | exact Or.inl rfl | exact Or.inr (Or.inl rfl) | exact Or.inr (Or.inr rfl)) (hydb : (yd == ("__debug__" : Str)) = false := by decide) (hydc : (yd == ("__classdict__" : Str)) = false := by decide) (hg : Gl X x := by rfl) (hdb : (x == ("__debug__" : Str)) = false := by decide)
    (he : starEach (.Name yd p3 :: .Name y p2 :: es) X.env = (false, eval (.Name yd p3) X.env) :: starEach (.Name y p2 :: es) X.env := by rfl) (he2 : starEach (.Name y p2 :: es) X.env = (false, eval (.Name y p2) X.env) :: starEach es X.env := by rfl) (hpl : (backTo pos (starEach (.Name y p2 :: es) X.env)).any (·.1) = false := by rfl) :
    PE X (.Call (.Name x p1) (.Name yd p3 :: .Name y p2 :: es) [] pos) (tX2 ρ fun d ρ' => ∃ t', post a d t' ∧ ρ' = ρ.set i (.gn (tbG C p t') true c)) := by
  obtain ⟨f, fd, Hs, F⟩ := F
  refine PE.imp (pe_call F (hr.mono hj) hg Hs.gl Hs.kp Hs.bd .nil pass0 (pa_cons (pe_var hNd hvd hydb hydc) (pa_cons (pe_var hN hv hyb hyc) ha he2) he) hdb he hpl) fun σ H Q ⟨W, O, g, kq⟩ => ?_
  obtain ⟨x0, hx0, q0, o0, e1, _, _, _, _, e6, _⟩ := g.at hi
  have e6 : q0 = p := e6
  subst e6
  subst e1
  obtain ⟨xd, hxd, qd, c0, k0, ed1, _⟩ := g.at hd
  subst ed1
  refine ⟨.ref qd, hxd, .ref q0, hx0, W, O, g, fun ds vs H1 hds g1 e1 i1 => ?_⟩
  subst hds
  show spDL C T t0 args pre post ((V.ref qd :: V.ref q0 :: vs) ++ []) H1 Q E0
  rw [List.append_nil]
  obtain ⟨z0, hz0, hWT, hMT⟩ := g1.at h0
  obtain ⟨q1, o, f1, f2, f3, f4, f5, f6⟩ := g1.sl i _ _ hx0 hi
  cases f1
  obtain ⟨q2, c2, k2, d1, d2, d3, d4⟩ := g1.sl id _ _ hxd hd
  cases d1
  have hpq : qd ≠ q0 := fun z => by
    obtain ⟨_, dx, a1, b1, cc1, dd1, e7, _⟩ := f6
    rw [z, f5, e7] at d4
    cases d4
  have hidi : i ≠ id := fun z => by rw [z, hd] at hi; cases hi
  refine ⟨a, O, qd, c2, k2, q0, o, vs, rfl, d2, d4, f2, g1.al, f5, f6, i1, hp, hWT ▸ g1.tb, fun d v H' c' k' o' t' hpost hk hT' hq' hp' hR is' => ?_⟩
  have ex : ∀ b u, ¬ O b → nt u → H' b = some u → ¬ O b ∧ upd H' qd (.lst [.int c2, .int k2]) b = some u := fun b u n _ h => ⟨n, by rw [upd_ne (fun z => n (by rw [z]; exact d2))]; exact h⟩
  have g2 := g1.wr3 (H' := upd H' qd (.lst [.int c2, .int k2])) (s1 := .gn (tbG C q0 t') true c) hi rfl (fun z => nomatch z) hx0 hMT (fun b u hb hn h => by
      by_cases hbq : b = qd
      · subst hbq; rw [d4] at h; cases h; exact upd_same
      · rw [upd_ne hbq]; exact hk b u hb hbq hn h) (tabs_upd (by rw [hWT]; exact hT') ⟨_, hq', .inl ⟨_, rfl⟩⟩) (by rw [upd_ne (Ne.symm hpq)]; exact hp') ((tbG C q0 t').kd hR) ⟨q0, o', rfl, f2, f3, f4, by rw [upd_ne (Ne.symm hpq)]; exact hp', (tbG C q0 t').st ex hR⟩ (fun z => nomatch z) (f4 rfl)
  refine kq d _ v H' ⟨t', hpost, rfl⟩ (g2.diced (i := id) (c := c') (k := k') (by rw [List.getElem?_set_ne hidi]; exact hd) hxd (fun b u hb h => by rw [upd_ne hb] at h; exact h) hq') is'
/-- x = e, e may change slots -/
theorem sx_set2 {ψ : PyData → List Sl → Prop} {x : Str} {pos' : Pos} {rt : PyData → Prop} (i : Nat) (he : PE X e (tX2 ρ ψ)) (hN : X.N.Nodup) (hn : ∀ d ρ', ψ d ρ' → nd ρ' i = true) (hi : X.N[i]? = some x := by rfl) (hx : Loc X.env.scope x := by first | exact Or.inl rfl | exact Or.inr rfl)
    (hs : swapsWith e (some (.Name x pos')) pos.line X.env = pure false := by rfl) (hf : X.fn x = true ∨ X.env.scope.names.lookup x = some .local := by first | exact .inl rfl | exact .inr rfl | assumption) : SX X (.Assign [.Name x pos'] e pos) ρ (fun ρ2 => ∃ d ρ', ψ d ρ' ∧ ρ2 = ρ'.set i (.val d)) rt :=
  PS.imp (ps_set (i := i) hN hi hx he hs hf) fun D σ H ⟨W, O, g, k1, k2⟩ => ⟨W, O, g, fun d ρ' v H' hd g' is => k1 _ O _ H' ⟨d, ρ', hd, rfl⟩ (g'.setNew g' ⟨v, rfl, is⟩ (fun z => nomatch z) (nd_of (hn d ρ' hd)))⟩
end
end Pd
set_option Elab.async false
set_option linter.all false
set_option maxRecDepth 100000
set_option maxHeartbeats 1000000
namespace Sr
open PySem PySem.Spec PyProof.Rows L2 Pd
def topS (i : Nat) : Stmt := PySem.Challenge.pw_slidingrow_k19_whole_tables.main.body.getD i (.Pass ⟨0, 0, 0, 0⟩)
abbrev s_is_whole : Stmt := topS 13
abbrev s_is_row : Stmt := topS 14
abbrev s_need_row : Stmt := topS 15
abbrev s_need_both : Stmt := topS 16
abbrev s_steps_of : Stmt := topS 17
abbrev s_raised : Stmt := topS 18
abbrev s_places_of : Stmt := topS 20
abbrev s_moved : Stmt := topS 21
abbrev s_slid : Stmt := topS 22
abbrev s_course : Stmt := topS 23
abbrev s_end_of : Stmt := topS 24
abbrev s_Table : Stmt := topS 26
abbrev s_T_init : Stmt := inClass s_Table 0
abbrev s_T_change : Stmt := inClass s_Table 1
abbrev s_T_slide : Stmt := inClass s_Table 2
abbrev s_T_put : Stmt := inClass s_Table 3
abbrev s_T_settle : Stmt := inClass s_Table 4
abbrev s_T_row : Stmt := inClass s_Table 5
abbrev s_T_undo : Stmt := inClass s_Table 6
abbrev s_T_redo : Stmt := inClass s_Table 7
abbrev s_T_len : Stmt := inClass s_Table 8
abbrev s_law_cell : Stmt := topS 28
abbrev s_law_drawn : Stmt := topS 29
abbrev s_law_roll : Stmt := topS 30
abbrev s_law_rounds : Stmt := topS 31
abbrev s_law_term : Stmt := topS 32
abbrev s_law_told : Stmt := topS 33
abbrev s_law_any_row : Stmt := topS 34
abbrev s_law_steep : Stmt := topS 35
abbrev s_law_free : Stmt := topS 36
abbrev s_law_moved : Stmt := topS 37
abbrev s_law_end : Stmt := topS 38
abbrev s_law_done : Stmt := topS 39
abbrev s_law_next : Stmt := topS 40
abbrev s_law_turn : Stmt := topS 41
abbrev s_law : Stmt := topS 42
end Sr
set_option Elab.async false
set_option linter.all false
set_option maxRecDepth 100000
set_option maxHeartbeats 1000000
namespace Sr
open PySem PySem.Spec PyProof.Rows L2 Pd
section
variable {P : Program} {w : World} {K : PySem.W.Frag} {mg : Str → Option Value} {base : Heap}
/-! ### is_whole -/
theorem sc_is_whole : FnScope ["value", "low", "high"] ["value", "low", "high"] (defScope s_is_whole) := ⟨rfl, rfl, rfl, by decide +kernel, rfl, by decide +kernel, by decide +kernel⟩
abbrev D_is_whole (P : Program) (w : World) (K : PySem.W.Frag) (mg : Str → Option Value) (base : Heap) : Prop := Df P w K mg base 1 "is_whole" ["value", "low", "high"] (spF (fun (a : PyData × Int × Int) => [a.1, .int a.2.1, .int a.2.2]) (fun _ => True) fun a z => z = .bool (isWhole a.1 a.2.1 a.2.2))
theorem ok_is_whole (T : Tx K mg "is_whole" s_is_whole ["value", "low", "high"]) (B : Bl mg) : D_is_whole P w K mg base := by
  refine Df.mk T sc_is_whole (fun _ => rfl) fun a hp f cdv A outer s H E hr => ?_
  obtain ⟨d, lo, hi⟩ := a
  have m1 := B.isinstance
  have m2 := B.int
  have m3 := B.bool
  cases d with
  | int i => exact s_ret (x_and (x_isi "int" (b := true) m1 m2 (xv 0 rfl) kit_int_int) fun _ => x_and (x_not (x_isi "bool" (b := false) m1 m3 (xv 0 rfl) kit_int_bool)) fun _ => x_one (x_chain op_le op_le (xv 1 rfl) (xv 0 rfl) (xv 2 rfl) rd_le fun _ => rd_le)) rfl
  | bool i => exact s_ret (x_and (x_isi "int" (b := true) m1 m2 (xv 0 rfl) kit_bool_int) fun _ => x_and (l := true) (x_not (x_isi "bool" (b := true) m1 m3 (xv 0 rfl) kit_bool_bool)) fun z => nomatch z) rfl
  | none => exact s_ret (x_and (l := true) (x_isi "int" (b := false) m1 m2 (xv 0 rfl) kit_NoneType_int) fun z => nomatch z) rfl
  | str i => exact s_ret (x_and (l := true) (x_isi "int" (b := false) m1 m2 (xv 0 rfl) kit_str_int) fun z => nomatch z) rfl
  | list i => exact s_ret (x_and (l := true) (x_isi "int" (b := false) m1 m2 (xv 0 rfl) kit_list_int) fun z => nomatch z) rfl
  | tuple i => exact s_ret (x_and (l := true) (x_isi "int" (b := false) m1 m2 (xv 0 rfl) kit_tuple_int) fun z => nomatch z) rfl
  | dict i => exact s_ret (x_and (l := true) (x_isi "int" (b := false) m1 m2 (xv 0 rfl) kit_dict_int) fun z => nomatch z) rfl
/-! ### is_row -/
abbrev N_is_row : List Str := ["value", "one", "at"]
theorem sc_is_row : FnScope N_is_row ["value"] (defScope s_is_row) := ⟨rfl, rfl, rfl, by decide +kernel, rfl, by decide +kernel, by decide +kernel⟩
abbrev D_is_row (P : Program) (w : World) (K : PySem.W.Frag) (mg : Str → Option Value) (base : Heap) : Prop := Df P w K mg base 2 "is_row" ["value"] (spF (fun (a : PyData) => [a]) (fun _ => True) fun a z => z = .bool (isRowD a))
theorem ok_is_row (T : Tx K mg "is_row" s_is_row ["value"]) (B : Bl mg) (G : D_is_whole P w K mg base) : D_is_row P w K mg base := by
  refine Df.mk T sc_is_row (fun _ => rfl) fun a hp f cdv A outer s H E hr => ?_
  cases a with
  | tuple ds =>
    have hlen : ¬ 18 < (ds.length : Int) → ds.length ≤ 40000 := fun h => by omega
    by_cases hL : 18 < (ds.length : Int)
    · refine s_ifR (k := true) (tv_is (wv_pt (w_or (tx_not (tx_val (x_isi "tuple" (b := true) B.isinstance B.tuple (xv 0 rfl) kit_tuple_tuple))) fun _ => w_or (l := true) (tx_cmp op_gt (x_callB call_len_seq B.len (a_cons (xv 0 rfl) a_nil) rc_lenT) x_int rd_gt) fun h => absurd hL (of_decide_eq_false h))) ?_) (fun _ => s_ret x_bl ?_) (fun h => nomatch h)
      · simp [hL]
      · show PyData.bool false = _
        unfold isRowD
        have : ¬ ds.length ≤ 18 := by omega
        simp [this]
    · refine s_ifR (k := !(ds.map fun d => isWhole d 1 18).all id) (tv_is (wv_pt (w_or (tx_not (tx_val (x_isi "tuple" (b := true) B.isinstance B.tuple (xv 0 rfl) kit_tuple_tuple))) fun _ => w_or (tx_cmp op_gt (x_callB call_len_seq B.len (a_cons (xv 0 rfl) a_nil) rc_lenT) x_int rd_gt) fun h =>
          w_or1 (tx_not (tx_val (x_callB (cr_all rfl) B.all (a_cons (x_lB (f := fun d => isWhole d 1 18) (x_lc1 (enc := fun d => d) 1 ds (fun d => .bool (isWhole d 1 18)) sc_is_row.nd (blkOk_by (N := N_is_row) (sc := defScope s_is_row) (by decide +kernel)) (i_id (i_tup (xv 0 rfl))) (hlen hL) (fun _ _ _ _ _ => pg_name (i := 1) sc_is_row.nd rfl (Or.inl rfl))
            (fun d _ _ _ _ _ _ => x_f (d, 1, 18) G hr (a_cons (xv 1 rfl) (a_cons x_int (a_cons x_int a_nil))) trivial rfl))) a_nil) rc_all))))) ?_) (fun h => s_ret x_bl ?_) (fun h => ?_)
      · simp [hL]
      · show PyData.bool false = _
        unfold isRowD
        have h' : ds.all (isWhole · 1 18) = false := by
          rw [List.all_map] at h
          simpa using h
        simp [h']
      · have h' : ds.all (isWhole · 1 18) = true := by
          rw [List.all_map] at h
          simpa using h
        obtain ⟨ns, rfl⟩ := ints_of_whole h'
        have hn : ns.length ≤ 18 := by simpa using (show (ns.map PyData.int).length ≤ 18 by omega)
        refine s_ret (x_and (x_cmp op_le (x_callB (cr_sumT rfl) B.sum (a_cons (xv 0 rfl) a_nil) rc_sumT) x_int rd_le) fun _ => x_one (x_callB (cr_all rfl) B.all (a_cons (x_lB (f := fun a : Int => decide (ns.getD (a.toNat + 1) 0 ≤ ns.getD a.toNat 0))
          (x_lc1 (enc := PyData.int) 2 (rng 0 ((((ns.map PyData.int).length : Nat) : Int) - 1).toNat) (fun a => .bool (decide (ns.getD (a.toNat + 1) 0 ≤ ns.getD a.toNat 0))) sc_is_row.nd (blkOk_by (N := N_is_row) (sc := defScope s_is_row) (by decide +kernel)) (i_rng1 B.range (x_op op_sub (x_callB call_len_seq B.len (a_cons (xv 0 rfl) a_nil) rc_lenT) x_int rd_sub) ?_) ?_ (fun _ _ _ _ _ => pg_name (i := 2) sc_is_row.nd rfl (Or.inl rfl))
            (fun a ha _ _ _ _ _ => ?_))) a_nil) rc_all)) ?_
        · rw [List.length_map]; omega
        · rw [rng_length, List.length_map]; omega
        · obtain ⟨k, hk, rfl⟩ := mem_rng ha
          rw [List.length_map] at hk
          have h1 : k < ns.length := by omega
          have h2 : k + 1 < ns.length := by omega
          have e0 : (0 : Int) + (k : Nat) = (k : Nat) := Int.zero_add _
          refine x_cmp op_ge (x_ix ix_tup (xv 0 rfl) (xv 2 rfl) (rd_ixT (j := k) (ixN_nat e0 (by rw [List.length_map]; exact h1)) (getD_int h1))) (x_ix ix_tup (xv 0 rfl) (x_op op_add (xv 2 rfl) x_int rd_add) (rd_ixT (j := k + 1) (ixN_nat (by rw [e0]; rfl) (by rw [List.length_map]; exact h2)) (getD_int h2))) ?_
          have e1 : ((0 : Int) + (k : Nat)).toNat = k := by omega
          rw [e1]
          exact rd_ge
        · show _ = PyData.bool _
          rw [all_rng]
          have : isRowD (.tuple (ns.map .int)) = (decide (ns.sum ≤ 18) && fallsB ns) := by
            show (decide ((ns.map PyData.int).length ≤ 18) && (ns.map PyData.int).all (isWhole · 1 18) && (decide (((ns.map PyData.int).map toI).sum ≤ 18) && fallsB ((ns.map PyData.int).map toI))) = _
            rw [map_toI, h', List.length_map]
            simp [hn]
          rw [this]
          have e3 : ((((ns.map PyData.int).length : Nat) : Int) - 1).toNat = ns.length - 1 := by rw [List.length_map]; omega
          rw [e3]
          rfl
  | _ => exact s_ifR (k := true) (wv_pt (w_or (l := false) (tx_not (tx_val (x_isi "tuple" (b := false) B.isinstance B.tuple (xv 0 rfl) (by first | exact kit_NoneType_tuple | exact kit_bool_tuple | exact kit_int_tuple | exact kit_str_tuple | exact kit_list_tuple | exact kit_dict_tuple)))) fun z => nomatch z)) (fun _ => s_ret x_bl rfl) (fun h => nomatch h)
/-! ### need_row -/
theorem sc_need_row : FnScope ["row"] ["row"] (defScope s_need_row) := ⟨rfl, rfl, rfl, by decide +kernel, rfl, by decide +kernel, by decide +kernel⟩
abbrev D_need_row (P : Program) (w : World) (K : PySem.W.Frag) (mg : Str → Option Value) (base : Heap) : Prop := Df P w K mg base 3 "need_row" ["row"] (spF (fun (a : PyData) => [a]) (fun a => isRowD a = true) fun _ z => z = .none)
theorem ok_need_row (T : Tx K mg "need_row" s_need_row ["row"]) (G : D_is_row P w K mg base) : D_need_row P w K mg base := by
  refine Df.mk T sc_need_row (fun _ => rfl) fun a hp f cdv A outer s H E hr => ?_
  exact s_ifN (tv_is (tx_not (tx_val (x_f a G hr (a_cons (xv 0 rfl) a_nil) trivial rfl))) (by rw [hp]; rfl)) (s_nil rfl)
/-! ### need_both -/
theorem sc_need_both : FnScope ["steep", "row"] ["steep", "row"] (defScope s_need_both) := ⟨rfl, rfl, rfl, by decide +kernel, rfl, by decide +kernel, by decide +kernel⟩
abbrev D_need_both (P : Program) (w : World) (K : PySem.W.Frag) (mg : Str → Option Value) (base : Heap) : Prop := Df P w K mg base 4 "need_both" ["steep", "row"] (spF (fun (a : PyData × PyData) => [a.1, a.2]) (fun a => isWhole a.1 2 4 = true ∧ isRowD a.2 = true) fun _ z => z = .none)
theorem ok_need_both (T : Tx K mg "need_both" s_need_both ["steep", "row"]) (G1 : D_is_whole P w K mg base) (G2 : D_need_row P w K mg base) : D_need_both P w K mg base := by
  refine Df.mk T sc_need_both (fun _ => rfl) fun a hp f cdv A outer s H E hr => ?_
  exact s_ifN (tv_is (tx_not (tx_val (x_f (a.1, 2, 4) G1 hr (a_cons (xv 0 rfl) (a_cons x_int (a_cons x_int a_nil))) trivial rfl))) (by rw [hp.1]; rfl)) (S_expr (x_f a.2 G2 hr (a_cons (xv 1 rfl) a_nil) hp.2 rfl) (s_nil rfl))
/-! ### steps_of -/
abbrev N_steps_of : List Str := ["row", "some", "place"]
theorem sc_steps_of : FnScope N_steps_of ["row"] (defScope s_steps_of) := ⟨rfl, rfl, rfl, by decide +kernel, rfl, by decide +kernel, by decide +kernel⟩
abbrev D_steps_of (P : Program) (w : World) (K : PySem.W.Frag) (mg : Str → Option Value) (base : Heap) : Prop := Df P w K mg base 1 "steps_of" ["row"] (spF (fun (a : List Int) => [tI a]) (fun a => a.length ≤ 1000) fun a z => z = tI (stepsL a))
theorem ok_steps_of (T : Tx K mg "steps_of" s_steps_of ["row"]) (B : Bl mg) : D_steps_of P w K mg base := by
  refine Df.mk T sc_steps_of (fun _ => rfl) fun a hp f cdv A outer s H E hr => ?_
  refine s_asg 1 (sv_x (x_op op_catA (xv 0 rfl) (x_tup (a_cons x_int a_nil)) (rd_catI (b := [0]) ?_))) ?_ sc_steps_of.nd
  · show a.length + 1 ≤ 100000; omega
  refine s_ret (x_callT call_tuple_of B.tuple (a_cons (x_lI (f := fun k : Int => a.getD k.toNat 0 - a.getD (k.toNat + 1) 0) (x_lc1 (enc := PyData.int) 2 (rng 0 ((((a.map PyData.int).length : Nat) : Int)).toNat) (fun k => .int (a.getD k.toNat 0 - a.getD (k.toNat + 1) 0)) sc_steps_of.nd (blkOk_by (N := N_steps_of) (sc := defScope s_steps_of) (by decide +kernel))
    (i_rng1 B.range (x_callB call_len_seq B.len (a_cons (xv 0 rfl) a_nil) rc_lenT) ?_) ?_ (fun _ _ _ _ _ => pg_name (i := 2) sc_steps_of.nd rfl (Or.inl rfl)) (fun k hm _ _ _ _ _ => ?_))) a_nil) rc_tuple) ?_
  · rw [List.length_map]; omega
  · rw [rng_length, List.length_map]; omega
  · obtain ⟨j, hj, rfl⟩ := mem_rng hm
    rw [List.length_map] at hj
    have e0 : (0 : Int) + (j : Nat) = (j : Nat) := Int.zero_add _
    have e1 : ((0 : Int) + (j : Nat)).toNat = j := by omega
    have l1 : j < (a ++ [0]).length := by rw [List.length_append]; show j < a.length + 1; omega
    have l2 : j + 1 < (a ++ [0]).length := by rw [List.length_append]; show j + 1 < a.length + 1; omega
    rw [e1, ← getD_app0 a j, ← getD_app0 a (j + 1)]
    exact x_op op_sub (x_ix ix_tup (xv 1 rfl) (xv 2 rfl) (rd_ixT (j := j) (ixN_nat e0 (by rw [List.length_map]; exact l1)) (getD_int l1))) (x_ix ix_tup (xv 1 rfl) (x_op op_add (xv 2 rfl) x_int rd_add) (rd_ixT (j := j + 1) (ixN_nat (by rw [e0]; rfl) (by rw [List.length_map]; exact l2)) (getD_int l2))) rd_sub
  · show tI _ = tI _
    rw [map_rng, List.length_map]
    rfl
/-! ### places_of -/
abbrev N_places_of : List Str := ["steep", "row", "place", "step"]
theorem sc_places_of : FnScope N_places_of ["steep", "row"] (defScope s_places_of) := ⟨rfl, rfl, rfl, by decide +kernel, rfl, by decide +kernel, by decide +kernel⟩
abbrev D_places_of (P : Program) (w : World) (K : PySem.W.Frag) (mg : Str → Option Value) (base : Heap) : Prop := Df P w K mg base 2 "places_of" ["steep", "row"] (spF (fun (a : Int × List Int) => [.int a.1, tI a.2]) (fun a => a.2.length ≤ 1000) fun a z => z = lI (placesL a.1 a.2))
theorem ok_places_of (T : Tx K mg "places_of" s_places_of ["steep", "row"]) (B : Bl mg) (G : D_steps_of P w K mg base) : D_places_of P w K mg base := by
  refine Df.mk T sc_places_of (fun _ => rfl) fun a hp f cdv A outer s H E hr => ?_
  obtain ⟨st, ns⟩ := a
  refine s_ret (x_lI (f := fun p : Int × Nat => ((p.2 : Nat) : Int)) (x_lc2f 2 3 (stepsL ns).zipIdx (fun p => decide (st ≤ p.1)) (fun p => .int ((p.2 : Nat) : Int)) sc_places_of.nd (blkOk_by (N := N_places_of) (sc := defScope s_places_of) (by decide +kernel)) (i_enumTI B.enumerate (x_f ns G hr (a_cons (xv 1 rfl) a_nil) hp rfl)) ?_
    (fun _ _ _ _ _ => pg_tup rfl (pgs_cons (pg_name (i := 2) sc_places_of.nd rfl (Or.inl rfl)) (pgs_cons (pg_name (i := 3) sc_places_of.nd rfl (Or.inl rfl)) pgs_nil))) (fun p hm _ _ _ _ _ => tx_cmp op_ge (xv 3 rfl) (xv 0 rfl) rd_ge) (fun p hm _ _ _ _ _ _ => xv 2 rfl))) ?_
  · rw [List.length_zipIdx]
    show (stepsL ns).length ≤ 40000
    unfold stepsL
    rw [List.length_map, List.length_range]
    have : ns.length ≤ 1000 := hp
    omega
  · show lI _ = lI _
    rw [zipIdx_filter_map]
/-! ### moved -/
abbrev N_moved : List Str := ["row", "place", "some", "height"]
theorem sc_moved : FnScope N_moved ["row", "place"] (defScope s_moved) := ⟨rfl, rfl, rfl, by decide +kernel, rfl, by decide +kernel, by decide +kernel⟩
abbrev D_moved (P : Program) (w : World) (K : PySem.W.Frag) (mg : Str → Option Value) (base : Heap) : Prop := Df P w K mg base 1 "moved" ["row", "place"] (spF (fun (a : List Int × Nat) => [tI a.1, .int ((a.2 : Nat) : Int)]) (fun a => a.1.length ≤ 1000 ∧ a.2 < a.1.length ∧ (∀ n ∈ a.1, 1 ≤ n) ∧ 2 ≤ a.1.getD a.2 0) fun a z => z = tI (mv a.1 a.2))
theorem ok_moved (T : Tx K mg "moved" s_moved ["row", "place"]) (B : Bl mg) : D_moved P w K mg base := by
  refine Df.mk T sc_moved (fun _ => rfl) fun a hp f cdv A outer s H E hr => ?_
  obtain ⟨ns, p⟩ := a
  obtain ⟨h1, h2, h3, h4⟩ := hp
  have l0 : (ns ++ [0]).length = ns.length + 1 := by rw [List.length_append]; rfl
  have l1 : p < (ns ++ [0]).length := by rw [l0]; exact Nat.lt_succ_of_lt h2
  have l2 : p + 1 < (ns ++ [0]).length := by rw [l0]; exact Nat.succ_lt_succ h2
  refine s_asg 2 (s_listT B.list (x_op op_catA (xv 0 rfl) (x_tup (a_cons x_int a_nil)) (rd_catI (b := [0]) (by show ns.length + 1 ≤ 100000; have : ns.length ≤ 1000 := h1; omega)))) ?_ sc_moved.nd
  refine s_setit (ds := (ns ++ [0]).map .int) (d := .int ((ns ++ [0]).getD p 0 - 1)) 2 (x_frz (ds := (ns ++ [0]).map .int) 2 (x_op op_sub (x_ix ix_list (xv 2 rfl) (xv 1 rfl) (rd_ixL (j := p) (ixN_nat rfl (by rw [List.length_map]; exact l1)) (getD_int l1))) x_int rd_sub)) (xv 1 rfl) (ixN_nat rfl (by rw [List.length_map]; exact l1)) ?_
  rw [set_int]
  have l3 : p + 1 < ((ns ++ [0]).set p ((ns ++ [0]).getD p 0 - 1)).length := by rw [List.length_set]; exact l2
  refine s_setit (ds := ((ns ++ [0]).set p ((ns ++ [0]).getD p 0 - 1)).map .int) (d := .int (((ns ++ [0]).set p ((ns ++ [0]).getD p 0 - 1)).getD (p + 1) 0 + 1)) (m := p + 1) 2 (x_frz (ds := ((ns ++ [0]).set p ((ns ++ [0]).getD p 0 - 1)).map .int) 2 (x_op op_add (x_ix ix_list (xv 2 rfl) (x_op op_add (xv 1 rfl) x_int rd_add) (rd_ixL (j := p + 1) (ixN_nat rfl (by rw [List.length_map]; exact l3)) (getD_int l3))) x_int rd_add)) (x_op op_add (xv 1 rfl) x_int rd_add) (ixN_nat rfl (by rw [List.length_map]; exact l3)) ?_
  rw [set_int]
  refine s_frz (ds := (((ns ++ [0]).set p ((ns ++ [0]).getD p 0 - 1)).set (p + 1) (((ns ++ [0]).set p ((ns ++ [0]).getD p 0 - 1)).getD (p + 1) 0 + 1)).map .int) 2 (s_ret (x_callT call_tuple_of B.tuple (a_cons (x_lc1f (enc := PyData.int) 3 (((ns ++ [0]).set p ((ns ++ [0]).getD p 0 - 1)).set (p + 1) (((ns ++ [0]).set p ((ns ++ [0]).getD p 0 - 1)).getD (p + 1) 0 + 1)) (fun n => decide (0 < n)) PyData.int sc_moved.nd (blkOk_by (N := N_moved) (sc := defScope s_moved) (by decide +kernel)) (i_list (xv 2 rfl)) ?_
    (fun _ _ _ _ _ => pg_name (i := 3) sc_moved.nd rfl (Or.inl rfl)) (fun n hm _ _ _ _ _ => tx_cmp op_gt (xv 3 rfl) x_int rd_gt) (fun n hm _ _ _ _ _ _ => xv 3 rfl)) a_nil) rc_tuple) ?_)
  · rw [List.length_set, List.length_set, l0]
    have : ns.length ≤ 1000 := h1
    omega
  · show tI _ = tI _
    rw [getD_app0, getD_set _ _ _ _ l1, if_neg (by omega), getD_app0]
    rw [mv_filter h2 h3 h4]
/-! ### course -/
abbrev N_course : List Str := ["steep", "row", "found", "some"]
theorem sc_course : FnScope N_course ["steep", "row"] (defScope s_course) := ⟨rfl, rfl, rfl, by decide +kernel, rfl, by decide +kernel, by decide +kernel⟩
abbrev D_course (P : Program) (w : World) (K : PySem.W.Frag) (mg : Str → Option Value) (base : Heap) : Prop := Df P w K mg base 3 "course" ["steep", "row"] (spF (fun (a : Int × List Int) => [.int a.1, tI a.2]) (fun a => 2 ≤ a.1 ∧ Row a.2) fun a z => z = .tuple [lI (courseL a.1 a.2).1, tI (courseL a.1 a.2).2])
theorem ok_course (T : Tx K mg "course" s_course ["steep", "row"]) (B : Bl mg) (G1 : D_places_of P w K mg base) (G2 : D_moved P w K mg base) : D_course P w K mg base := by
  refine Df.mk T sc_course (fun _ => rfl) fun a hp f cdv A outer s H E hr => ?_
  obtain ⟨st, ns⟩ := a
  obtain ⟨hs, hrow⟩ := hp
  refine S_par 2 3 (s_lst a_nil) (sv_x (x_f (st, ns) G1 hr (a_cons (xv 0 rfl) (a_cons (xv 1 rfl) a_nil)) hrow.len1000 rfl)) (fun u v hu hv => ?_) rfl sc_course.nd (hps := fun h => ps_par rfl sc_course.nd rfl rfl (by decide) rfl rfl h rfl)
  subst hu hv
  refine s_seq (mid := fun ρ => ∃ ms fs, Row ms ∧ freeN st ms = [] ∧ courseL st ns = (fs, ms) ∧ ρ = [.val (.int st), .val (tI ms), .own (fs.map .int), .val (lI (placesL st ms))])
    (S_while (fun m ρ => ∃ ms fs, Row ms ∧ m = sq ms ∧ fs.length + sq ms ≤ 324 ∧ courseL st ns = (fs ++ (courseL st ms).1, (courseL st ms).2) ∧ ρ = [.val (.int st), .val (tI ms), .own (fs.map .int), .val (lI (placesL st ms))]) (sq ns) ⟨ns, [], hrow, rfl, ?_, rfl, rfl⟩ (fun m ρ1 hI => ?_) PassesOwn.never) ?_
  · have := sq_row hrow
    simpa using this
  · obtain ⟨ms, fs, hm, rfl, hl, hc, rfl⟩ := hI
    refine ⟨!decide (placesL st ms = []), tx_cmp (op_neD hr.units) (xv 3 rfl) (x_lst a_nil) (rd_neLI (b := [])), fun hk => ?_, fun hk => ?_⟩
    · cases hf : freeN st ms with
      | nil => exact absurd hk (by simp [placesL, hf])
      | cons p r =>
        have hp : p ∈ freeN st ms := by rw [hf]; exact List.mem_cons_self
        obtain ⟨hpl, hpd⟩ := mem_freeN.mp hp
        have hpl' : placesL st ms = ((p : Nat) : Int) :: r.map (fun i => ((i : Nat) : Int)) := by unfold placesL; rw [hf]; rfl
        have hlt := sq_free hm hs hp
        refine s_app (ds := fs.map .int) (d := .int ((p : Nat) : Int)) 2 (x_ix ix_list (xv 3 rfl) x_int (rd_ixL (j := 0) (ixN_nat rfl (by rw [hpl']; simp)) (head_int hpl'))) ?_ (by rw [List.length_map]; omega)
        refine s_asg 1 (sv_x (x_f (ms, p) G2 hr (a_cons (xv 1 rfl) (a_cons (x_ix ix_list (xv 3 rfl) x_int (rd_ixL (j := 0) (ixN_nat rfl (by rw [hpl']; simp)) (head_int hpl'))) a_nil)) ⟨hm.len1000, hpl, hm.pos, by have := hm.nn (p + 1); show 2 ≤ ms.getD p 0; omega⟩ rfl)) ?_ sc_course.nd
        refine s_asg 3 (sv_x (x_f (st, mv ms p) G1 hr (a_cons (xv 0 rfl) (a_cons (xv 1 rfl) a_nil)) (hm.mv hs hp).len1000 rfl)) (s_nil ?_) sc_course.nd
        refine ⟨sq (mv ms p), hlt, mv ms p, fs ++ [((p : Nat) : Int)], hm.mv hs hp, rfl, ?_, ?_, ?_⟩
        · rw [List.length_append]; show fs.length + 1 + _ ≤ _; omega
        · rw [hc, course_cons hm hs hf]; simp
        · rw [List.map_append]; rfl
    · have hk' : placesL st ms = [] := by simpa using hk
      have hf : freeN st ms = [] := by
        unfold placesL at hk'
        exact List.map_eq_nil_iff.mp hk'
      rw [course_nil hf] at hc
      exact ⟨ms, fs, hm, hf, by rw [hc]; simp, rfl⟩
  · rintro ρ' ⟨ms, fs, hm, hf, hc, rfl⟩
    refine s_frz (ds := fs.map .int) 2 (s_ret (x_tup (a_cons (xv 2 rfl) (a_cons (xv 1 rfl) a_nil))) ?_)
    show _ = PyData.tuple [lI (courseL st ns).1, tI (courseL st ns).2]
    rw [hc]
/-! ### end_of -/
theorem sc_end_of : FnScope ["steep", "row"] ["steep", "row"] (defScope s_end_of) := ⟨rfl, rfl, rfl, by decide +kernel, rfl, by decide +kernel, by decide +kernel⟩
abbrev D_end_of (P : Program) (w : World) (K : PySem.W.Frag) (mg : Str → Option Value) (base : Heap) : Prop := Df P w K mg base 4 "end_of" ["steep", "row"] (spF (fun (a : Int × List Int) => [.int a.1, tI a.2]) (fun a => 2 ≤ a.1 ∧ Row a.2) fun a z => z = tI (endL a.1 a.2))
theorem ok_end_of (T : Tx K mg "end_of" s_end_of ["steep", "row"]) (G : D_course P w K mg base) : D_end_of P w K mg base := by
  refine Df.mk T sc_end_of (fun _ => rfl) fun a hp f cdv A outer s H E hr => ?_
  exact s_ret (x_ix ix_tup (x_f (a.1, a.2) G hr (a_cons (xv 0 rfl) (a_cons (xv 1 rfl) a_nil)) hp rfl) x_int (rd_ixT (j := 1) rfl rfl)) rfl
/-! ### raised -/
abbrev N_raised : List Str := ["row", "place", "some", "height"]
theorem sc_raised : FnScope N_raised ["row", "place"] (defScope s_raised) := ⟨rfl, rfl, rfl, by decide +kernel, rfl, by decide +kernel, by decide +kernel⟩
abbrev D_raised (P : Program) (w : World) (K : PySem.W.Frag) (mg : Str → Option Value) (base : Heap) : Prop := Df P w K mg base 2 "raised" ["row", "place"] (spF (fun (a : List Int × Nat) => [tI a.1, .int ((a.2 : Nat) : Int)]) (fun a => Row a.1 ∧ CanPut a.1 a.2 ∧ a.1.sum < 18) fun a z => z = tI (rsL a.1 a.2))
theorem ok_raised (T : Tx K mg "raised" s_raised ["row", "place"]) (B : Bl mg) (G : D_is_whole P w K mg base) : D_raised P w K mg base := by
  refine Df.mk T sc_raised (fun _ => rfl) fun a hp f cdv A outer s H E hr => ?_
  obtain ⟨ns, p⟩ := a
  obtain ⟨h1, h2, h3⟩ := hp
  have h2a : p ≤ ns.length := h2.1
  have l0 : (ns ++ [0]).length = ns.length + 1 := by rw [List.length_append]; rfl
  have l1 : p < (ns ++ [0]).length := by rw [l0]; omega
  have l18 := h1.len1000
  have h3' : ns.sum < 18 := h3
  refine s_ifN (tv_is (tx_not (tx_val (x_f (.int ((p : Nat) : Int), 0, (((ns.map PyData.int).length : Nat) : Int)) G hr (a_cons (xv 1 rfl) (a_cons x_int (a_cons (x_callB call_len_seq B.len (a_cons (xv 0 rfl) a_nil) rc_lenT) a_nil))) trivial rfl))) ?_) ?_
  · rw [List.length_map]
    unfold isWhole
    have : ((p : Nat) : Int) ≤ ((ns.length : Nat) : Int) := by omega
    simp [this]
  refine s_ifN (tv_is (tx_cmp (op_eqD hr.units) (x_callB (cr_sumT rfl) B.sum (a_cons (xv 0 rfl) a_nil) rc_sumT) x_int rd_eqI) (decide_eq_false (by omega))) ?_
  refine s_asg 2 (s_listT B.list (x_op op_catA (xv 0 rfl) (x_tup (a_cons x_int a_nil)) (rd_catI (b := [0]) (by show ns.length + 1 ≤ 100000; have : ns.length ≤ 1000 := l18; omega)))) ?_ sc_raised.nd
  refine s_ifN (t_frz (ds := (ns ++ [0]).map .int) 2 (tv_is (wv_pt (w_and (l := decide ((ns ++ [0]).getD p 0 = (ns ++ [0]).getD (p - 1) 0)) (tx_cmp op_gt (xv 1 rfl) x_int rd_gt) fun h => w_and1 ?_)) ?_)) ?_
  · have h' : 0 < p := by have := of_decide_eq_true h; omega
    refine tx_cmp (op_eqD hr.units) (x_ix ix_list (xv 2 rfl) (xv 1 rfl) (rd_ixL (j := p) (ixN_nat rfl (by rw [List.length_map]; exact l1)) (getD_int l1))) (x_ix ix_list (xv 2 rfl) (x_op op_sub (xv 1 rfl) x_int rd_sub) (rd_ixL (j := p - 1) (ixN_nat (by omega) (by rw [List.length_map]; omega)) (getD_int (by omega)))) rd_eqI
  · rw [getD_app0, getD_app0]
    rcases h2.2 with z | z
    · have z : p = 0 := z
      subst z; rfl
    · have : ¬ ns.getD p 0 = ns.getD (p - 1) 0 := fun e => by
        have z : ns.getD p 0 < ns.getD (p - 1) 0 := z
        omega
      rw [decide_eq_false this, Bool.and_false]
  refine s_setit (ds := (ns ++ [0]).map .int) (d := .int ((ns ++ [0]).getD p 0 + 1)) 2 (x_frz (ds := (ns ++ [0]).map .int) 2 (x_op op_add (x_ix ix_list (xv 2 rfl) (xv 1 rfl) (rd_ixL (j := p) (ixN_nat rfl (by rw [List.length_map]; exact l1)) (getD_int l1))) x_int rd_add)) (xv 1 rfl) (ixN_nat rfl (by rw [List.length_map]; exact l1)) ?_
  rw [set_int]
  refine s_frz (ds := ((ns ++ [0]).set p ((ns ++ [0]).getD p 0 + 1)).map .int) 2 (s_ret (x_callT call_tuple_of B.tuple (a_cons (x_lc1f (enc := PyData.int) 3 ((ns ++ [0]).set p ((ns ++ [0]).getD p 0 + 1)) (fun n => decide (0 < n)) PyData.int sc_raised.nd (blkOk_by (N := N_raised) (sc := defScope s_raised) (by decide +kernel)) (i_list (xv 2 rfl)) ?_
    (fun _ _ _ _ _ => pg_name (i := 3) sc_raised.nd rfl (Or.inl rfl)) (fun n hm _ _ _ _ _ => tx_cmp op_gt (xv 3 rfl) x_int rd_gt) (fun n hm _ _ _ _ _ _ => xv 3 rfl)) a_nil) rc_tuple) ?_)
  · rw [List.length_set, l0]; have : ns.length ≤ 1000 := l18; omega
  · show tI _ = tI _
    rw [getD_app0, rs_filter h2a h1.pos]
/-! ### drawn -/
theorem sc_drawn : FnScope ["cell", "k", "more"] ["cell", "k"] (defScope s_law_drawn) := ⟨rfl, rfl, rfl, by decide +kernel, rfl, by decide +kernel, by decide +kernel⟩
abbrev D_drawn (P : Program) (w : World) (K : PySem.W.Frag) (mg : Str → Option Value) (base : Heap) : Prop := Df P w K mg base 1 "_law_drawn" ["cell", "k"] (spF (fun (a : Int × Int) => [.int a.1, .int a.2]) (fun _ => True) fun _ z => ∃ r : Int, 0 ≤ r ∧ z = .int r)
theorem ok_drawn (T : Tx K mg "_law_drawn" s_law_drawn ["cell", "k"]) : D_drawn P w K mg base := by
  refine Df.mk T sc_drawn (fun _ => rfl) fun a hp f cdv A outer s H E hr => ?_
  obtain ⟨c, k⟩ := a
  refine s_asg 2 (sv_x (x_op op_mod (x_op op_add (x_op op_mul (xv 0 rfl) x_int (rd_mul (.inr ⟨by decide, by decide⟩))) (x_op op_mul (x_op op_add (xv 1 rfl) x_int rd_add) x_int (rd_mul (.inr ⟨by decide, by decide⟩))) rd_add) x_int (rd_mod (by decide)))) ?_ sc_drawn.nd
  generalize hm : (c * 6364136223846793005 + (k + 1) * 1442695040888963407) % 340282366920938463463374607431768211507 = m1
  have a0 : 0 ≤ m1 := by rw [← hm]; exact Int.emod_nonneg _ (by decide)
  have a1 : m1 < 340282366920938463463374607431768211507 := by rw [← hm]; exact Int.emod_lt_of_pos _ (by decide)
  have n1 : m1.natAbs < 2 ^ 129 := natAbs_lt a0 a1 (by decide)
  refine s_asg 2 (sv_x (x_op op_mod (x_op op_mulW (xv 2 rfl) (xv 2 rfl) (rd_mulW (wide_mul n1 n1 (by decide) (by decide) (by decide)))) x_int (rd_mod (by decide)))) ?_ sc_drawn.nd
  generalize hm2 : m1 * m1 % 340282366920938463463374607431768211297 = m2
  have b0 : 0 ≤ m2 := by rw [← hm2]; exact Int.emod_nonneg _ (by decide)
  have b1 : m2 < 340282366920938463463374607431768211297 := by rw [← hm2]; exact Int.emod_lt_of_pos _ (by decide)
  have n2 : m2.natAbs < 2 ^ 129 := natAbs_lt b0 b1 (by decide)
  have c0 : 0 ≤ m2 % 18446744073709551557 := Int.emod_nonneg _ (by decide)
  have c1 : m2 % 18446744073709551557 < 18446744073709551557 := Int.emod_lt_of_pos _ (by decide)
  have d0 : 0 ≤ m2 / 18446744073709551557 := Int.ediv_nonneg b0 (by decide)
  have d1 : m2 / 18446744073709551557 < 340282366920938463463374607431768211297 := Int.lt_of_le_of_lt (Int.ediv_le_self _ b0) b1
  have n3 : (m2 % 18446744073709551557 + 1).natAbs < 2 ^ 65 := natAbs_lt (m := 18446744073709551558) (by omega) (by omega) (by decide)
  have n4 : (m2 / 18446744073709551557 + 1).natAbs < 2 ^ 130 := natAbs_lt (m := 340282366920938463463374607431768211298) (by omega) (by omega) (by decide)
  refine s_asg 2 (sv_x (x_op op_mulW (x_op op_mulW (x_op op_add (x_op op_mod (xv 2 rfl) x_int (rd_mod (by decide))) x_int rd_add) (x_op op_add (x_op op_fdivW (xv 2 rfl) x_int (rd_fdivW (wide_div (b := 65) (by decide) (by decide) (by decide) (by decide)))) x_int rd_add) (rd_mulW (wide_mul n3 n4 (by decide) (by decide) (by decide)))) (xv 2 rfl) (rd_mulW (wide_mul (wide_lt n3 n4) n2 (by decide) (by decide) (by decide))))) ?_ sc_drawn.nd
  exact s_ret (x_op op_mod (xv 2 rfl) x_int (rd_mod (by decide))) ⟨_, Int.emod_nonneg _ (by decide), rfl⟩
/-! ### roll -/
theorem sc_roll : FnScope ["dice", "many", "told"] ["dice", "many"] (defScope s_law_roll) := ⟨rfl, rfl, rfl, by decide +kernel, rfl, by decide +kernel, by decide +kernel⟩
abbrev D_roll (P : Program) (w : World) (K : PySem.W.Frag) (mg : Str → Option Value) (base : Heap) : Prop := Df P w K mg base 2 "_law_roll" ["dice", "many"] (spD (fun (n : Int) => [.int n]) (fun n => 0 < n ∧ n < 1000) fun n z => ∃ r : Int, 0 ≤ r ∧ r < n ∧ z = .int r)
theorem ok_roll (T : Tx K mg "_law_roll" s_law_roll ["dice", "many"]) (G : D_drawn P w K mg base) : D_roll P w K mg base := by
  obtain ⟨f, fd, F, hh⟩ := T
  obtain ⟨f1, fd1, hh1, G1⟩ := G
  refine ⟨f, fd, hh, F.ok sc_roll (fun vs H Q E h => ?_) (fun cdv A outer s H vs Q E hr h => ?_)⟩
  · obtain ⟨a, O, p, c, k, ws, rfl, _, _, _, i, _⟩ := h
    rw [List.length_cons, i.length]; rfl
  · obtain ⟨n, O, p, c, k, ws, rfl, hO, al, hl, is, ⟨n0, n1⟩, q⟩ := h
    obtain ⟨v, rfl, hv⟩ := is.one
    cases hv
    refine ⟨_, pss_cons (ps_if (pt_cmpR op_ge (pe_ix ix_list (pv 0) pe_int (fun _ _ => rfl)) (pe_op op_pow pe_int pe_int) (nomark _))
        (pss_cons (ps_set (i := 2) sc_roll.nd rfl (.inl rfl) (pe_op op_mod (pe_ix ix_list (pv 0) pe_int (fun _ _ => rfl)) (pv 1))) (pss_cons (ps_asg (pe_op op_fdiv (pe_ix ix_list (pv 0) pe_int (fun _ _ => rfl)) (pv 1)) (pg_sub (pv 0) pe_int set_list)) (pss_one (ps_ret (pv 2))))) pss_nil)
      (pss_cons (ps_asg (pe_op op_add (pe_ix ix_list (pv 0) pe_int (fun _ _ => rfl)) pe_int) (pg_sub (pv 0) pe_int set_list))
        (pss_one (ps_ret (pe_op op_mod (pe_op op_fdiv (pe_call G1 hr (by rfl) hh1.gl hh1.kp hh1.bd .nil pass0 (pa_cons (pe_ix ix_list (pv 0) pe_int (fun _ _ => rfl)) (pa_cons (pe_ix ix_list (pv 0) pe_int (fun _ _ => rfl)) pa_nil))) pe_int) (pv 1))))), ?_⟩
    refine ⟨.ref p, rfl, p, _, 0, .int c, rfl, rfl, SqL.of hl, rfl, 10, 18, rfl, rfl, ⟨by decide, by decide, by decide⟩, c, _, rfl, rfl, _, rfl, ite2 (fun e => ?_) (fun e => ?_)⟩
    · refine ⟨.ref p, rfl, p, _, 0, .int c, rfl, rfl, SqL.of hl, rfl, .int n, rfl, c, n, rfl, rfl, n0, ?_⟩
      refine ⟨.ref p, rfl, p, _, 0, .int c, rfl, rfl, SqL.of hl, rfl, .int n, rfl, c, n, rfl, rfl, ⟨n0, by omega⟩, .ref p, rfl, p, _, 0, 0, rfl, rfl, hl, rfl, ?_⟩
      refine ⟨.int (c % n), rfl, q _ _ _ (c / n) k ⟨c % n, Int.emod_nonneg _ (by omega), Int.emod_lt_of_pos _ n0, rfl⟩ (fun b o hb h => by rw [upd_ne hb]; exact h) upd_same (.int _)⟩
    · refine ⟨.ref p, rfl, p, _, 1, .int k, rfl, rfl, SqL.of hl, rfl, k, 1, rfl, rfl, .ref p, rfl, p, _, 1, 1, rfl, rfl, hl, rfl, ?_⟩
      have hl2 : (upd H p (.lst ([.int c, .int k].set 1 (.int (k + 1))))) p = some (.lst [.int c, .int (k + 1)]) := upd_same
      refine ⟨.ref p, rfl, p, _, 0, .int c, rfl, rfl, SqL.of hl2, rfl, .ref p, rfl, p, _, 1, .int (k + 1), rfl, rfl, SqL.of hl2, rfl, ?_⟩
      refine ⟨(c, k + 1), O, fun a ha => ?_, .cons (.int _) (.cons (.int _) .nil), trivial, fun d v H' hd e' i' => ?_⟩
      · by_cases hap : a = p
        · rw [hap]; exact ⟨_, hl2, nw_lst⟩
        · rw [upd_ne hap]; exact al a ha
      · obtain ⟨r, r0, rfl⟩ := hd
        cases i'
        refine ⟨r, 8, rfl, rfl, ⟨by decide, by decide⟩, .int n, rfl, _, n, rfl, rfl, n0, ?_⟩
        exact q _ _ H' c (k + 1) ⟨_, Int.emod_nonneg _ (by omega), Int.emod_lt_of_pos _ n0, rfl⟩ (fun b o hb h => e' b o (by rw [upd_ne hb]; exact h)) (e' p _ hl2) (.int _)
/-! ### steep -/
theorem sc_steep : FnScope ["dice"] ["dice"] (defScope s_law_steep) := ⟨rfl, rfl, rfl, by decide +kernel, rfl, by decide +kernel, by decide +kernel⟩
abbrev D_steep (P : Program) (w : World) (K : PySem.W.Frag) (mg : Str → Option Value) (base : Heap) : Prop := Df P w K mg base 3 "_law_steep" ["dice"] (spD (fun (_ : Unit) => []) (fun _ => True) fun _ z => ∃ s : Int, (2 ≤ s ∧ s ≤ 4) ∧ z = .int s)
theorem ok_steep (T : Tx K mg "_law_steep" s_law_steep ["dice"]) (G : D_roll P w K mg base) : D_steep P w K mg base := by
  refine Df.mkD T sc_steep (fun _ => rfl) fun a hp f cdv A outer s H E hr => ?_
  refine S_ret (X_ix ix_list (x_lst (ds := [.int 2, .int 2, .int 3, .int 4]) (a_cons x_int (a_cons x_int (a_cons x_int (a_cons x_int a_nil))))) (x_fD 0 4 G hr (a_cons x_int a_nil) ⟨by decide, by decide⟩ rfl) (χ := fun z => ∃ s : Int, (2 ≤ s ∧ s ≤ 4) ∧ z = .int s) fun d e hd he => ?_) (fun z h => h)
  have hd : d = .list [.int 2, .int 2, .int 3, .int 4] := hd
  subst hd
  obtain ⟨r, r0, r1, rfl⟩ := he
  have key : ∀ {s : Int} {j : Nat}, ixN 4 r = some j → ([.int 2, .int 2, .int 3, .int 4] : List PyData)[j]? = some (.int s) → (2 ≤ s ∧ s ≤ 4) → RD (rIxL K) (.list [.int 2, .int 2, .int 3, .int 4]) (.int r) fun z => ∃ s : Int, (2 ≤ s ∧ s ≤ 4) ∧ z = .int s := fun {s j} h1 h2 h3 O H x y al i1 i2 Q q =>
    rd_ixL (K := K) (ds := [.int 2, .int 2, .int 3, .int 4]) (j := j) h1 h2 O H x y al i1 i2 Q fun z v H' hz e i => q z v H' ⟨s, h3, hz⟩ e i
  obtain ⟨j, hj, rfl⟩ : ∃ j : Nat, j < 4 ∧ r = (j : Int) := ⟨r.toNat, by omega, by omega⟩
  have hx : ixN 4 (j : Int) = some j := ixN_nat rfl hj
  match j, hj, hx with
  | 0, _, hx => exact key hx rfl (by decide)
  | 1, _, hx => exact key hx rfl (by decide)
  | 2, _, hx => exact key hx rfl (by decide)
  | 3, _, hx => exact key hx rfl (by decide)
/-! ### cell -/
def spCell (K : PySem.W.Frag) : Sp := fun vs H Q _ => ∃ (a : Addr) (ns : List Int) (k : Int), vs = [.ref a, .int k] ∧ SqL K H a (ns.map V.int) ∧ ns.length ≤ 63 ∧ 0 ≤ k ∧ k < 1000 ∧ ∀ c H', Ext H H' → Q (.int c) H'
theorem sc_cell : FnScope ["script", "k"] ["script", "k"] (defScope s_law_cell) := ⟨rfl, rfl, rfl, by decide +kernel, rfl, by decide +kernel, by decide +kernel⟩
abbrev D_cell (P : Program) (w : World) (K : PySem.W.Frag) (mg : Str → Option Value) (base : Heap) : Prop := Df P w K mg base 1 "_law_cell" ["script", "k"] (spCell K)
theorem ok_cell (T : Tx K mg "_law_cell" s_law_cell ["script", "k"]) (B : Bl mg) : D_cell P w K mg base := by
  obtain ⟨f, fd, F, hh⟩ := T
  refine ⟨f, fd, hh, F.ok sc_cell (fun vs H Q E h => ?_) (fun cdv A outer s H vs Q E hr h => ?_)⟩
  · obtain ⟨a, ns, k, rfl, _⟩ := h
    rfl
  · obtain ⟨a, ns, k, rfl, hS, hlen, k0, k1, q⟩ := h
    refine ⟨_, pss_cons (ps_if (pt_cmpR (op_eqD hr.units) (pv 0) (pe_lst pa_nil) (nomark _)) (pss_one (ps_ret (pe_op op_mul (pv 1) pe_int))) pss_nil)
      (pss_one (ps_ret (pe_op op_add (pe_ix ix_list (pv 0) (pe_op op_mod (pv 1) (pe_callB call_len_seq (by rfl) B.len PySem.boot_len (pa_cons (pv 0) pa_nil))) (fun _ _ => rfl))
        (pe_op op_mul (pe_op op_fdiv (pv 1) (pe_callB call_len_seq (by rfl) B.len PySem.boot_len (pa_cons (pv 0) pa_nil))) pe_int)))), ?_⟩
    refine ⟨.ref a, rfl, Nat.zero_le _, fun l hl => ?_⟩
    have e1 : Ext H (upd H l (.lst [])) := Ext.new hl
    have hS1 := Ext.seq e1 hS
    refine ⟨lI ns, lI [], .lst hS1 (dp_ints ns), .lst (SqL.of upd_same) .nil, (sh_lI (n := 0) ns).shp, (sh_lI (n := 0) []).shp, _, rfl, ?_⟩
    rw [eqv_lI]
    refine ite2 (fun e => ?_) (fun e => ?_)
    · exact ⟨.int k, rfl, k, 7919, rfl, rfl, .inr ⟨by decide, by decide⟩, q _ _ e1⟩
    · have h0 : ns ≠ [] := fun z => e (decide_eq_true z)
      have hpos : 0 < ns.length := List.length_pos_iff.mpr h0
      have hL : ((ns.map V.int).length : Int) = (ns.length : Int) := by rw [List.length_map]
      have m0 : 0 ≤ k % (((ns.map V.int).length : Nat) : Int) := Int.emod_nonneg _ (by omega)
      have m1 : k % (((ns.map V.int).length : Nat) : Int) < (((ns.map V.int).length : Nat) : Int) := Int.emod_lt_of_pos _ (by omega)
      obtain ⟨j, hj⟩ : ∃ j : Nat, k % (((ns.map V.int).length : Nat) : Int) = (j : Int) := ⟨(k % (((ns.map V.int).length : Nat) : Int)).toNat, by omega⟩
      have hj2 : j < ns.length := by omega
      have hat : atI (ns.map V.int) (k % (((ns.map V.int).length : Nat) : Int)) = some (.int ns[j]) := by
        rw [hj]
        exact atI_nat (by rw [List.getElem?_map, List.getElem?_eq_getElem hj2]; rfl)
      refine ⟨.ref a, rfl, .int k, rfl, .ref a, rfl, a, _, rfl, .inl hS1, k, _, rfl, rfl, by omega, a, _, _, _, rfl, rfl, hS1, hat, ?_⟩
      refine ⟨.int k, rfl, .ref a, rfl, a, _, rfl, .inl hS1, k, _, rfl, rfl, ⟨by omega, by omega⟩, _, 104729, rfl, rfl, .inr ⟨by decide, by decide⟩, _, _, rfl, rfl, q _ _ e1⟩
/-! ### rounds -/
def spRounds (K : PySem.W.Frag) : Sp := fun vs H Q _ => ∃ (a : Addr) (ns : List Int) (m : Int), vs = [.ref a, .int m] ∧ SqL K H a (ns.map V.int) ∧ ns.length ≤ 63 ∧ 1 ≤ m ∧ m < 1000 ∧
  ∀ (p : Addr) (qs : List Addr) (H' : Hp), Ext H H' → H' p = some (.lst (qs.map V.ref)) → qs.Nodup → (∀ x ∈ qs, x ≠ p ∧ ∃ c k : Int, H' x = some (.lst [.int c, .int k])) → Q (.ref p) H'
abbrev N_rounds : List Str := ["script", "most", "k"]
theorem sc_rounds : FnScope N_rounds ["script", "most"] (defScope s_law_rounds) := ⟨rfl, rfl, rfl, by decide +kernel, rfl, by decide +kernel, by decide +kernel⟩
abbrev D_rounds (P : Program) (w : World) (K : PySem.W.Frag) (mg : Str → Option Value) (base : Heap) : Prop := Df P w K mg base 2 "_law_rounds" ["script", "most"] (spRounds K)
theorem ok_rounds (T : Tx K mg "_law_rounds" s_law_rounds ["script", "most"]) (B : Bl mg) (G : D_cell P w K mg base) : D_rounds P w K mg base := by
  obtain ⟨f, fd, F, hh⟩ := T
  obtain ⟨f1, fd1, hh1, G1⟩ := G
  refine ⟨f, fd, hh, F.ok sc_rounds (fun vs H Q E h => ?_) (fun cdv A outer s H vs Q E hr h => ?_)⟩
  · obtain ⟨a, ns, k, rfl, _⟩ := h
    rfl
  · obtain ⟨a, ns, m, rfl, hS, hlen, m0, m1, q⟩ := h
    refine ⟨_, pss_one (ps_ret (pe_lc (own := [("k", 2)]) (g := gName 2) (tt := tYes) rfl sc_rounds.nd (pi_range1 (by rfl) B.range (pa_cons (pe_callB (call_max2 rfl) (by rfl) B.max (by decide +kernel) (pa_cons pe_int (pa_cons (pe_callB (call_min2 rfl) (by rfl) B.min (by decide +kernel) (pa_cons (pv 1) (pa_cons (pe_callB call_len_seq (by rfl) B.len PySem.boot_len (pa_cons (pv 0) pa_nil)) pa_nil))) pa_nil))) pa_nil))
      (blkOk_by (N := N_rounds) (sc := defScope s_law_rounds) (by decide +kernel)) (fun _ _ _ _ _ => pg_name (i := 2) sc_rounds.nd rfl (Or.inl rfl)) (fun _ _ _ _ _ => pts_nil)
      (fun _ _ _ _ _ => pe_lst (pa_cons (pe_call G1 hr (by rfl) hh1.gl hh1.kp hh1.bd .nil pass0 (pa_cons (pv 0) (pa_cons (pv 2) pa_nil))) (pa_cons pe_int pa_nil))))), ?_⟩
    generalize hn : (if (if (((ns.map V.int).length : Nat) : Int) < m then (((ns.map V.int).length : Nat) : Int) else m) > 1 then (if (((ns.map V.int).length : Nat) : Int) < m then (((ns.map V.int).length : Nat) : Int) else m) else 1) = n
    have hn2 : n < 1000 := by
      rw [← hn]
      split
      · split <;> omega
      · omega
    have hn1 : 1 ≤ n := by
      rw [← hn]
      split
      · omega
      · omega
    refine ⟨.int m, rfl, .ref a, rfl, a, _, rfl, .inl hS, m, _, rfl, 1, _, rfl, _, rfl, ?_⟩
    rw [hn]
    refine ⟨by omega, by omega, fun D hD => lc_range (lo := 0) (n := n.toNat) (fun i H' => ∃ qs : List Addr, qs.length = i ∧ Ext H H' ∧ H' D = some (.lst (qs.map V.ref)) ∧ qs.Nodup ∧ ∀ x ∈ qs, x ≠ D ∧ ∃ c k : Int, H' x = some (.lst [.int c, .int k])) ⟨[], rfl, Ext.new hD, upd_same, List.nodup_nil, fun x hx => absurd hx List.not_mem_nil⟩ (fun i H' hi hP => ?_) (fun H' hP => ?_)⟩
    · obtain ⟨qs, hl, he, hd, hnd, hq⟩ := hP
      refine ⟨rfl, .ref a, rfl, .int (0 + (i : Int)), rfl, a, ns, 0 + (i : Int), rfl, Ext.seq he hS, hlen, by omega, by omega, fun c H2 e2 => ⟨by show 2 ≤ sizeLine; decide, fun x hx => ?_⟩⟩
      have hd2 := e2 _ _ hd
      have hxD : x ≠ D := (ne_of_none hd2 hx).symm
      refine ⟨qs.map V.ref, by rw [upd_ne hxD.symm]; exact hd2, by rw [sizeLine_eq, List.length_map]; omega, qs ++ [x], by rw [List.length_append, hl]; rfl, fun b o hb => ?_, by rw [upd_same, List.map_append]; rfl, ?_, fun y hy => ?_⟩
      · have h1 : H' b = some o := he b o hb
        have hbD : b ≠ D := ne_of_none hb hD
        rw [upd_ne hbD, upd_ne (ne_of_none (e2 _ _ h1) hx)]
        exact e2 _ _ h1
      · rw [List.nodup_append]
        refine ⟨hnd, by simp, fun y hy z hz => ?_⟩
        have hz : z = x := by simpa using hz
        subst hz
        obtain ⟨_, c', k', h⟩ := hq y hy
        exact ne_of_none (e2 _ _ h) hx
      · rw [List.mem_append] at hy
        rcases hy with hy | hy
        · obtain ⟨h1, c', k', h⟩ := hq y hy
          refine ⟨h1, c', k', ?_⟩
          rw [upd_ne h1, upd_ne (ne_of_none (e2 _ _ h) hx)]
          exact e2 _ _ h
        · have hy : y = x := by simpa using hy
          subst hy
          exact ⟨hxD, c, 0, by rw [upd_ne hxD, upd_same]⟩
    · obtain ⟨qs, hl, he, hd, hnd, hq⟩ := hP
      exact q D qs H' he hd hnd hq
/-! ### term -/
def _root_.Pd.Ec.idx : Ec → Nat
  | .st => 0 | .row => 1 | .pl => 2 | .gr => 3 | .tx => 4 | .firm => 5 | .ne => 6 | .ris => 7 | .tm => 8 | .un => 9
abbrev N_term : List Str := ["e", "flags", "kinds"]
theorem sc_term : FnScope N_term ["e"] (defScope s_law_term) := ⟨rfl, rfl, rfl, by decide +kernel, rfl, by decide +kernel, by decide +kernel⟩
def fl (c : Ec) : List Bool := [decide (c = .st), decide (c = .row), decide (c = .pl), decide (c = .gr), decide (c = .tx), decide (c = .firm), decide (c = .ne), decide (c = .ris), decide (c = .tm), decide (c = .un)]
abbrev D_term (P : Program) (w : World) (K : PySem.W.Frag) (mg : Str → Option Value) (base : Heap) : Prop := ∃ f fd, Has K mg "_law_term" f fd ["e"] ∧ ∀ c : Ec, FnT P w K mg base 1 f fd "e" (cl K c) (res c)
theorem ok_term (T : Tx K mg "_law_term" s_law_term ["e"]) (B : Bl mg) (Z : Xf K mg) : D_term P w K mg base := by
  obtain ⟨f, fd, F, h⟩ := T
  refine ⟨f, fd, h, fun c => fnT (k := 0) F sc_term (by decide) fun cdv A outer s H p hot hz hr => ?_⟩
  have hf : ∃ vs, p.2.data = .fields vs := by obtain ⟨_, vs, h, _⟩ := hot; exact ⟨vs, h⟩
  have hH : L2H.HotC (L2H.cxH CX0 P w K mg base N_term "_law_term" (defScope s_law_term) f cdv A outer s H E0 p).nox := ⟨p, ⟨hot.1, hot.2⟩, List.mem_cons_self⟩
  have hI := call_isP (X := (L2H.cxH CX0 P w K mg base N_term "_law_term" (defScope s_law_term) f cdv A outer s H E0 p).nox) (a := p.1) (oe := p.2) (Z.e c) hz hf List.mem_cons_self
  have m1 := B.isinstance
  have hu : (L2H.cxH CX0 P w K mg base N_term "_law_term" (defScope s_law_term) f cdv A outer s H E0 p).nox.A.units + 64 < cLine := by have := hr.un; show (A.deeper _).units + 64 < cLine; omega
  refine s_asg 1 (XV.sv (x_lst (ds := [.bool (decide (c = .st)), .bool (decide (c = .row)), .bool (decide (c = .pl))]) (a_cons (x_isE (i := 0) hI m1 (Z.k .st).gl (Z.kit c .st) rfl) (a_cons (x_isE (i := 0) hI m1 (Z.k .row).gl (Z.kit c .row) rfl) (a_cons (x_isE (i := 0) hI m1 (Z.k .pl).gl (Z.kit c .pl) rfl) a_nil))))) ?_ sc_term.nd
  refine s_asg 1 (XV.sv (x_op op_cat (xv 1 rfl) (x_lst (ds := [.bool (decide (c = .gr)), .bool (decide (c = .tx)), .bool (decide (c = .firm))]) (a_cons (x_isE (i := 0) hI m1 (Z.k .gr).gl (Z.kit c .gr) rfl) (a_cons (x_isE (i := 0) hI m1 (Z.k .tx).gl (Z.kit c .tx) rfl) (a_cons (x_isE (i := 0) hI m1 (Z.k .firm).gl (Z.kit c .firm) rfl) a_nil)))) (rd_catL (Nat.le_of_ble_eq_true rfl)))) ?_ sc_term.nd
  refine s_asg 1 (XV.sv (x_op op_cat (xv 1 rfl) (x_lst (ds := [.bool (decide (c = .ne)), .bool (decide (c = .ris)), .bool (decide (c = .tm))]) (a_cons (x_isE (i := 0) hI m1 (Z.k .ne).gl (Z.kit c .ne) rfl) (a_cons (x_isE (i := 0) hI m1 (Z.k .ris).gl (Z.kit c .ris) rfl) (a_cons (x_isE (i := 0) hI m1 (Z.k .tm).gl (Z.kit c .tm) rfl) a_nil)))) (rd_catL (Nat.le_of_ble_eq_true rfl)))) ?_ sc_term.nd
  refine s_asg 1 (XV.sv (x_op op_cat (xv 1 rfl) (x_lst (ds := [.bool (decide (c = .un))]) (a_cons (x_isE (i := 0) hI m1 (Z.k .un).gl (Z.kit c .un) rfl) a_nil)) (rd_catL (Nat.le_of_ble_eq_true rfl)))) ?_ sc_term.nd
  refine s_asg 2 (XV.sv (x_lst (a_cons x_str (a_cons x_str (a_cons x_str (a_cons x_str (a_cons x_str (a_cons x_str a_nil)))))))) ?_ sc_term.nd
  refine s_asg 2 (XV.sv (x_op op_cat (xv 2 rfl) (x_lst (a_cons x_str (a_cons x_str (a_cons x_str (a_cons x_str a_nil))))) (rd_catL (Nat.le_of_ble_eq_true rfl)))) ?_ sc_term.nd
  refine s_ifN (tv_is (wv_pt (w_or (tx_cmp (op_neD hu) (x_sumH (i := 1) (bs := fl c) hH rfl (Nat.le_of_ble_eq_true rfl) B.int B.sum rfl (by decide +kernel) (by decide +kernel) (by decide +kernel) (by decide +kernel) (fun _ _ => rfl)) x_int rd_neI) fun _ => w_or1 (tx_not (tx_val (x_isV (i := 0) (T := "ValueError") hI m1 B.ValueError (Z.kv c) rfl))))) ?_) ?_
  · cases c <;> rfl
  refine s_ret (d := res c) (x_tup (a_cons x_str (a_cons (x_ix ix_list (xv 2 rfl) (x_mtL PySem.F.slot_list_index PySem.F.type_list_index mt_index (xv 1 rfl) (a_cons x_bl a_nil) (rm_indexB (bs := fl c) (j := c.idx) (by cases c <;> rfl) (by cases c <;> decide))) (rd_ixL (j := c.idx) (z := .str c.nm) (by cases c <;> rfl) (by cases c <;> rfl))) a_nil))) rfl
/-! ### told -/
abbrev D_told (P : Program) (w : World) (K : PySem.W.Frag) (mg : Str → Option Value) (base : Heap) : Prop := Td P w K mg base 1 (cl K) (adr K "SlideError") s_law_told
theorem ok_told (T : Tx K mg "_law_told" s_law_told ["deed"]) (Z : Xf K mg) (G : D_term P w K mg base) : D_told P w K mg base :=
  ⟨T, G, Z.gS, Z.exm, ⟨rfl, rfl, rfl, by decide +kernel, rfl, by decide +kernel, by decide +kernel⟩, Or.inl rfl, rfl, rfl, rfl, ⟨_, _, _, _, _, _, _, _, _, _, rfl⟩⟩
/-! ### any_row -/
abbrev N_any_row : List Str := ["dice", "limit", "left", "found", "top", "height"]
theorem sc_any_row : FnScope N_any_row ["dice", "limit"] (defScope s_law_any_row) := ⟨rfl, rfl, rfl, by decide +kernel, rfl, by decide +kernel, by decide +kernel⟩
abbrev D_any_row (P : Program) (w : World) (K : PySem.W.Frag) (mg : Str → Option Value) (base : Heap) : Prop := Df P w K mg base 3 "_law_any_row" ["dice", "limit"] (spD (fun (n : Int) => [.int n]) (fun n => 0 ≤ n ∧ n ≤ 18) fun n z => ∃ ns : List Int, (Row ns ∧ ns.sum ≤ n) ∧ z = tI ns)
theorem ok_any_row (T : Tx K mg "_law_any_row" s_law_any_row ["dice", "limit"]) (B : Bl mg) (G : D_roll P w K mg base) : D_any_row P w K mg base := by
  refine Df.mkD T sc_any_row (fun _ => rfl) fun n hp f cdv A outer s H E hr => ?_
  refine S_par 2 3 (XE.xs (x_fD 0 (n + 1) G hr (a_cons (x_op op_add (xv 1 rfl) x_int rd_add) a_nil) ⟨by omega, by omega⟩ rfl)) (s_lst a_nil) (fun u v hu hv => ?_) rfl sc_any_row.nd (hps := fun h => ps_par rfl sc_any_row.nd rfl rfl (by decide) rfl rfl h rfl) (hφ := xs_nd)
  subst hv
  obtain ⟨d, ⟨l0, l1, l2, rfl⟩, rfl⟩ := hu
  refine S_if (β := fun _ => True) (mid := fun ρ => ρ = [.dice, .val (.int n), .val (.int l0), .own [], .no, .no]) (TX_cmp (op_eqD hr.units) (x_fD 0 4 G hr (a_cons x_int a_nil) ⟨by decide, by decide⟩ rfl) (x_int (i := 0)) (fun d e hd he => ?_) (nomark _)) (fun _ => ?_) (fun _ => s_nil rfl) ?_
  · obtain ⟨r, _, _, rfl⟩ := hd
    have he : e = .int 0 := he
    subst he
    exact (rd_eqI (K := K)).mono fun z hz => ⟨_, trivial, hz⟩
  · refine S_ret (x_if (k := decide (0 < l0)) (χ := fun z => z = tI (heapL l0)) (tx_cmp op_gt (xv 2 rfl) x_int rd_gt) (fun h => ?_) (fun h => ?_)) fun z hz => ⟨heapL l0, ⟨row_heap ⟨l1, by omega⟩, ?_⟩, hz⟩
    · have h' : 0 < l0 := of_decide_eq_true h
      exact xv_is (x_tup (a_cons (xv 2 rfl) a_nil)) (by unfold heapL; rw [if_pos h']; rfl)
    · have h' : ¬ 0 < l0 := of_decide_eq_false h
      exact xv_is (x_tup a_nil) (by unfold heapL; rw [if_neg h']; rfl)
    · unfold heapL
      split
      · simp; omega
      · simp; omega
  rintro ρ' rfl
  refine s_seq (mid := fun ρ => ∃ ns s4 s5, Row ns ∧ ns.sum ≤ n ∧ ρ = [.dice, .val (.int n), .val (.int 0), .own (ns.map .int), s4, s5])
    (S_while (fun m ρ => ∃ ns l s4 s5, 0 ≤ l ∧ m = l.toNat ∧ Row ns ∧ ns.sum + l = l0 ∧ nd [s4, s5] 0 = true ∧ nd [s4, s5] 1 = true ∧ ρ = [.dice, .val (.int n), .val (.int l), .own (ns.map .int), s4, s5]) l0.toNat ⟨[], l0, .no, .no, l1, rfl, row_nil, by simp, rfl, rfl, rfl⟩ (fun m ρ1 hI => ?_) PassesOwn.never) ?_
  · obtain ⟨ns, l, s4, s5, hl, rfl, hrow, hsum, hn4, hn5, rfl⟩ := hI
    refine ⟨decide (0 < l), tx_cmp op_gt (xv 2 rfl) x_int rd_gt, fun hk => ?_, fun hk => ?_⟩
    · have hl0 : 0 < l := of_decide_eq_true hk
      have hlen := hrow.len
      have hs0 : 0 ≤ ns.sum := sum_nonneg fun m hm => by have := hrow.pos m hm; omega
      refine S_asg 4 (XE.xs (x_frz (ds := ns.map .int) 3 (x_callB (cr_min rfl) B.min (a_cons (xv_is (k := .list ([.int l] ++ cutD (ns.map .int) (some (-1)) none)) (x_op op_cat (x_lst (a_cons (xv 2 rfl) a_nil)) (x_slL (xv 3 rfl) (xo_some (x_un un_neg x_int ru_neg)) xo_none) (rd_catL ?_)) (show _ = lI (l :: ns.drop (ns.length - 1)) by rw [cutD_map, cut_last]; rfl)) a_nil) (rc_minL (ns := l :: ns.drop (ns.length - 1)) (by simp))) rfl ?_)) (fun u hu => ?_) sc_any_row.nd (hn := hn4)
      · rw [cutD_map, List.length_map]
        have : (cutD ns (some (-1)) none).length ≤ ns.length := by rw [cut_last, List.length_drop]; omega
        simp
        omega
      · rintro z ⟨m, _, _, rfl⟩
        rfl
      · obtain ⟨d, ⟨t, t1, t2, rfl⟩, rfl⟩ := hu
        have tl : t ≤ l := t2 l List.mem_cons_self
        have tp : 1 ≤ t := by
          rcases List.mem_cons.mp t1 with e | h
          · omega
          · exact hrow.pos t (List.mem_of_mem_drop h)
        refine S_asg 5 (XE.xs (X_op op_add x_int (x_fD 0 t G hr (a_cons (xv 4 rfl) a_nil) ⟨by omega, by omega⟩ rfl) (χ := fun z => ∃ h : Int, (1 ≤ h ∧ h ≤ t) ∧ z = .int h) fun d e hd he => ?_)) (fun u hu => ?_) sc_any_row.nd (hn := hn5)
        · have hd : d = .int 1 := hd
          subst hd
          obtain ⟨r, r0, r1, rfl⟩ := he
          exact rd_add.mono fun z hz => ⟨1 + r, ⟨by omega, by omega⟩, hz⟩
        · obtain ⟨d, ⟨h, ⟨h1, h2⟩, rfl⟩, rfl⟩ := hu
          refine s_app (ds := ns.map .int) 3 (xv 5 rfl) ?_ (by rw [List.length_map]; omega)
          refine s_asg 2 (sv_x (x_op op_sub (xv 2 rfl) (xv 5 rfl) rd_sub)) (s_nil ?_) sc_any_row.nd
          refine ⟨(l - h).toNat, by omega, ns ++ [h], l - h, .val (.int t), .val (.int h), by omega, rfl, row_snoc hrow h1 (fun y hy => ?_) (by omega), by rw [List.sum_append]; simp; omega, rfl, rfl, ?_⟩
          · have := t2 y (List.mem_cons_of_mem _ hy)
            omega
          · rw [List.map_append]; rfl
    · have hl0 : ¬ 0 < l := of_decide_eq_false hk
      have : l = 0 := by omega
      subst this
      exact ⟨ns, s4, s5, hrow, by omega, rfl⟩
  · rintro ρ' ⟨ns, s4, s5, hrow, hsum, rfl⟩
    exact s_frz (ds := ns.map .int) 3 (s_ret (x_callT call_tuple_of B.tuple (a_cons (xv 3 rfl) a_nil) rc_tuple) ⟨ns, ⟨hrow, hsum⟩, rfl⟩)
/-! ### law_free -/
abbrev N_law_free : List Str := ["steep", "row", "found", "place", "height", "behind"]
theorem sc_law_free : FnScope N_law_free ["steep", "row"] (defScope s_law_free) := ⟨rfl, rfl, rfl, by decide +kernel, rfl, by decide +kernel, by decide +kernel⟩
abbrev D_law_free (P : Program) (w : World) (K : PySem.W.Frag) (mg : Str → Option Value) (base : Heap) : Prop := Df P w K mg base 1 "_law_free" ["steep", "row"] (spF (fun (a : Int × List Int) => [.int a.1, tI a.2]) (fun a => a.2.length ≤ 1000) fun a z => z = lI (placesL a.1 a.2))
theorem ok_law_free (T : Tx K mg "_law_free" s_law_free ["steep", "row"]) (B : Bl mg) : D_law_free P w K mg base := by
  refine Df.mk T sc_law_free (fun _ => rfl) fun a hp f cdv A outer s H E hr => ?_
  obtain ⟨st, ns⟩ := a
  have hp : ns.length ≤ 1000 := hp
  refine s_asg 2 (s_lst a_nil) ?_ sc_law_free.nd
  refine s_for (asg := asg2 3 4) (i_enumTI (ns := ns) B.enumerate (xv 1 rfl)) (pg_tup rfl (pgs_cons (pg_name (i := 3) sc_law_free.nd rfl (Or.inl rfl)) (pgs_cons (pg_name (i := 4) sc_law_free.nd rfl (Or.inl rfl)) pgs_nil))) (tg2 K 3 4)
      (fun i ρ => ∃ s3 s4 s5, nd [s3, s4, s5] 0 = true ∧ nd [s3, s4, s5] 1 = true ∧ nd [s3, s4, s5] 2 = true ∧ ρ = [.val (.int st), .val (tI ns), .own ((((List.range i).filter fun i => decide (st ≤ ns.getD i 0 - ns.getD (i + 1) 0)).map fun i => ((i : Nat) : Int)).map .int), s3, s4, s5])
      ⟨.no, .no, .no, rfl, rfl, rfl, rfl⟩ (fun i d ρ1 hd hI => ?_) (fun ρ1 hI => ?_) PassesOwn.never rfl
  · obtain ⟨s3, s4, s5, n3, n4, n5, rfl⟩ := hI
    rw [List.getElem?_map, List.getElem?_zipIdx] at hd
    cases hx : ns[i]? with
    | none => rw [hx] at hd; cases hd
    | some x =>
      rw [hx] at hd
      have hd : PyData.tuple [.int ((0 + i : Nat) : Int), .int x] = d := by simpa using hd
      rw [Nat.zero_add] at hd
      subst hd
      have hi : i < ns.length := (List.getElem?_eq_some_iff.mp hx).1
      have hg : ns.getD i 0 = x := by rw [List.getD_eq_getElem?_getD, hx]; rfl
      refine ⟨[.val (.int st), .val (tI ns), .own ((((List.range i).filter fun i => decide (st ≤ ns.getD i 0 - ns.getD (i + 1) 0)).map fun i => ((i : Nat) : Int)).map .int), .val (.int ((i : Nat) : Int)), .val (.int x), s5], asg2_ok ⟨n3, n4⟩, ?_⟩
      refine s_asg 5 (s := .val (.int (ns.getD (i + 1) 0))) (sv_x (x_if (k := decide (((i : Nat) : Int) + 1 < (((ns.map PyData.int).length : Nat) : Int))) (tx_cmp op_lt (x_op op_add (xv 3 rfl) x_int rd_add) (x_callB call_len_seq B.len (a_cons (xv 1 rfl) a_nil) rc_lenT) rd_lt) (fun h => ?_) (fun h => ?_))) ?_ sc_law_free.nd (hn := n5)
      · have h1 : i + 1 < ns.length := by have := of_decide_eq_true h; rw [List.length_map] at this; omega
        exact x_ix ix_tup (xv 1 rfl) (x_op op_add (xv 3 rfl) x_int rd_add) (rd_ixT (j := i + 1) (ixN_nat rfl (by rw [List.length_map]; exact h1)) (getD_int h1))
      · have h1 : ¬ i + 1 < ns.length := by have := of_decide_eq_false h; rw [List.length_map] at this; omega
        exact xv_is x_int (by rw [List.getD_eq_getElem?_getD, List.getElem?_eq_none (by omega)]; rfl)
      refine s_if (mid := fun ρ => ∃ s3 s4 s5, nd [s3, s4, s5] 0 = true ∧ nd [s3, s4, s5] 1 = true ∧ nd [s3, s4, s5] 2 = true ∧ ρ = [.val (.int st), .val (tI ns), .own ((((List.range (i + 1)).filter fun i => decide (st ≤ ns.getD i 0 - ns.getD (i + 1) 0)).map fun i => ((i : Nat) : Int)).map .int), s3, s4, s5])
        (tx_cmp op_ge (x_op op_sub (xv 4 rfl) (xv 5 rfl) rd_sub) (xv 0 rfl) rd_ge) (fun h => ?_) (fun h => ?_) fun ρ' h => s_nil h
      · refine s_app (d := .int ((i : Nat) : Int)) 2 (xv 3 rfl) (s_nil ⟨.val (.int ((i : Nat) : Int)), .val (.int x), .val (.int (ns.getD (i + 1) 0)), rfl, rfl, rfl, ?_⟩) ?_
        · rw [filter_range_succ, hg, if_pos h, List.map_append, List.map_append]; rfl
        · rw [List.length_map, List.length_map]
          have := List.length_filter_le (fun i => decide (st ≤ ns.getD i 0 - ns.getD (i + 1) 0)) (List.range i)
          rw [List.length_range] at this
          omega
      · refine s_nil ⟨.val (.int ((i : Nat) : Int)), .val (.int x), .val (.int (ns.getD (i + 1) 0)), rfl, rfl, rfl, ?_⟩
        rw [filter_range_succ, hg, if_neg (by rw [h]; exact Bool.false_ne_true), List.append_nil]
        rfl
  · obtain ⟨s3, s4, s5, _, _, _, rfl⟩ := hI
    rw [List.length_map, List.length_zipIdx]
    exact s_frz (ds := (placesL st ns).map .int) 2 (s_ret (xv 2 rfl) rfl)
/-! ### law_moved -/
abbrev N_law_moved : List Str := ["row", "place", "found"]
theorem sc_law_moved : FnScope N_law_moved ["row", "place"] (defScope s_law_moved) := ⟨rfl, rfl, rfl, by decide +kernel, rfl, by decide +kernel, by decide +kernel⟩
abbrev D_law_moved (P : Program) (w : World) (K : PySem.W.Frag) (mg : Str → Option Value) (base : Heap) : Prop := Df P w K mg base 1 "_law_moved" ["row", "place"] (spF (fun (a : List Int × Nat) => [tI a.1, .int ((a.2 : Nat) : Int)]) (fun a => a.1.length ≤ 1000 ∧ a.2 < a.1.length) fun a z => z = tI (mv a.1 a.2))
theorem ok_law_moved (T : Tx K mg "_law_moved" s_law_moved ["row", "place"]) (B : Bl mg) : D_law_moved P w K mg base := by
  refine Df.mk T sc_law_moved (fun _ => rfl) fun a hp f cdv A outer s H E hr => ?_
  obtain ⟨ns, p⟩ := a
  obtain ⟨h1, h2⟩ := hp
  have h1 : ns.length ≤ 1000 := h1
  have h2 : p < ns.length := h2
  refine s_asg 2 (s_listT B.list (xv 0 rfl)) ?_ sc_law_moved.nd
  refine s_setit (ds := ns.map .int) (d := .int (ns.getD p 0 - 1)) 2 (x_frz (ds := ns.map .int) 2 (x_op op_sub (x_ix ix_list (xv 2 rfl) (xv 1 rfl) (rd_ixL (j := p) (ixN_nat rfl (by rw [List.length_map]; exact h2)) (getD_int h2))) x_int rd_sub)) (xv 1 rfl) (ixN_nat rfl (by rw [List.length_map]; exact h2)) ?_
  rw [set_int]
  refine s_if (k := decide (((p : Nat) : Int) + 1 < ((((ns.set p (ns.getD p 0 - 1)).map PyData.int).length : Nat) : Int))) (mid := fun ρ => ρ = [.val (tI ns), .val (.int ((p : Nat) : Int)), .own ((mv ns p).map .int)])
    (t_frz (ds := (ns.set p (ns.getD p 0 - 1)).map .int) 2 (tx_cmp op_lt (x_op op_add (xv 1 rfl) x_int rd_add) (x_callB call_len_seq B.len (a_cons (xv 2 rfl) a_nil) rc_lenL) rd_lt)) (fun h => ?_) (fun h => ?_) ?_
  · have h3 : p + 1 < ns.length := by have := of_decide_eq_true h; rw [List.length_map, List.length_set] at this; omega
    have h4 : p + 1 < (ns.set p (ns.getD p 0 - 1)).length := by rw [List.length_set]; exact h3
    refine s_setit (ds := (ns.set p (ns.getD p 0 - 1)).map .int) (d := .int ((ns.set p (ns.getD p 0 - 1)).getD (p + 1) 0 + 1)) (m := p + 1) 2 (x_frz (ds := (ns.set p (ns.getD p 0 - 1)).map .int) 2 (x_op op_add (x_ix ix_list (xv 2 rfl) (x_op op_add (xv 1 rfl) x_int rd_add) (rd_ixL (j := p + 1) (ixN_nat rfl (by rw [List.length_map]; exact h4)) (getD_int h4))) x_int rd_add)) (x_op op_add (xv 1 rfl) x_int rd_add) (ixN_nat rfl (by rw [List.length_map]; exact h4)) (s_nil ?_)
    rw [set_int]
    show [Sl.val _, Sl.val _, Sl.own _] = _
    rw [getD_set _ _ _ _ h2, if_neg (by omega)]
    unfold mv
    rw [if_pos h3]
  · have h3 : ¬ p + 1 < ns.length := by have := of_decide_eq_false h; rw [List.length_map, List.length_set] at this; omega
    refine s_app (ds := (ns.set p (ns.getD p 0 - 1)).map .int) 2 x_int (s_nil ?_) (by rw [List.length_map, List.length_set]; omega)
    show [Sl.val _, Sl.val _, Sl.own _] = _
    unfold mv
    rw [if_neg h3, List.map_append]
    rfl
  · rintro ρ' rfl
    exact s_frz (ds := (mv ns p).map .int) 2 (s_ret (x_callT call_tuple_of B.tuple (a_cons (xv 2 rfl) a_nil) rc_tuple) rfl)
/-! ### slid -/
theorem sc_slid : FnScope ["steep", "row", "place"] ["steep", "row", "place"] (defScope s_slid) := ⟨rfl, rfl, rfl, by decide +kernel, rfl, by decide +kernel, by decide +kernel⟩
abbrev D_slid (P : Program) (w : World) (K : PySem.W.Frag) (mg : Str → Option Value) (base : Heap) : Prop := Df P w K mg base 5 "slid" ["steep", "row", "place"] (spF (fun (a : Int × List Int × Nat) => [.int a.1, tI a.2.1, .int ((a.2.2 : Nat) : Int)]) (fun a => (2 ≤ a.1 ∧ a.1 ≤ 4) ∧ Row a.2.1 ∧ a.2.2 ∈ freeN a.1 a.2.1) fun a z => z = tI (mv a.2.1 a.2.2))
theorem ok_slid (T : Tx K mg "slid" s_slid ["steep", "row", "place"]) (B : Bl mg) (G0 : D_is_whole P w K mg base) (G1 : D_need_both P w K mg base) (G2 : D_places_of P w K mg base) (G3 : D_moved P w K mg base) : D_slid P w K mg base := by
  refine Df.mk T sc_slid (fun _ => rfl) fun a hp f cdv A outer s H E hr => ?_
  obtain ⟨st, ns, p⟩ := a
  obtain ⟨hs, hrow, hf⟩ := hp
  have hrow : Row ns := hrow
  have hf : p ∈ freeN st ns := hf
  have hs : 2 ≤ st ∧ st ≤ 4 := hs
  obtain ⟨hpl, hpd⟩ := mem_freeN.mp hf
  refine S_expr (x_f (.int st, tI ns) G1 hr (a_cons (xv 0 rfl) (a_cons (xv 1 rfl) a_nil)) ⟨is_steep hs, hrow.is⟩ rfl) ?_
  refine s_ifN (tv_is (tx_not (tx_val (x_f (.int ((p : Nat) : Int), 0, (((ns.map PyData.int).length : Nat) : Int) - 1) G0 hr (a_cons (xv 2 rfl) (a_cons x_int (a_cons (x_op op_sub (x_callB call_len_seq B.len (a_cons (xv 1 rfl) a_nil) rc_lenT) x_int rd_sub) a_nil))) trivial rfl))) ?_) ?_
  · rw [List.length_map]
    unfold isWhole
    simp
    omega
  refine s_ifN (tv_is (tx_cmp (op_notInD (Room.units65 hr)) (xv 2 rfl) (x_f (st, ns) G2 hr (a_cons (xv 0 rfl) (a_cons (xv 1 rfl) a_nil)) hrow.len1000 rfl) rd_notInLI) ?_) ?_
  · have : ((p : Nat) : Int) ∈ placesL st ns := List.mem_map.mpr ⟨p, hf, rfl⟩
    simp [this]
  exact s_ret (x_f (ns, p) G3 hr (a_cons (xv 1 rfl) (a_cons (xv 2 rfl) a_nil)) ⟨hrow.len1000, hpl, hrow.pos, by have := hrow.nn (p + 1); show 2 ≤ ns.getD p 0; omega⟩ rfl) rfl
/-! ### R_need_row -/
abbrev D_R_need_row (P : Program) (w : World) (K : PySem.W.Frag) (mg : Str → Option Value) (base : Heap) : Prop := DfX P w K mg base 3 "need_row" ["row"] (spR (fun (a : PyData) => [a]) (fun a => isRowD a = false) (fun _ => cl K .row))
theorem ok_R_need_row (T : Tx K mg "need_row" s_need_row ["row"]) (G : D_is_row P w K mg base) (Z : Xf K mg) : D_R_need_row P w K mg base := by
  refine DfX.mk T sc_need_row (fun _ => rfl) fun a hp f cdv A outer s H E hr W tk => ?_
  exact r_ifT (tv_is (tx_not (tx_val (x_f a G hr (a_cons (xv 0 rfl) a_nil) trivial rfl))) (by rw [hp]; rfl)) (r_raise tk (Z.k .row))
/-! ### R_need_both -/
abbrev D_R_need_both (P : Program) (w : World) (K : PySem.W.Frag) (mg : Str → Option Value) (base : Heap) : Prop := DfX P w K mg base 4 "need_both" ["steep", "row"] (spE K (fun (a : PyData × PyData) => [a.1, a.2]) (fun a => bothX a.1 a.2))
theorem ok_R_need_both (T : Tx K mg "need_both" s_need_both ["steep", "row"]) (G1 : D_is_whole P w K mg base) (G2 : D_R_need_row P w K mg base) (Z : Xf K mg) : D_R_need_both P w K mg base := by
  refine DfX.mk T sc_need_both (fun _ => rfl) fun a hp f cdv A outer s H E hr W tk => ?_
  have hp : (bothX a.1 a.2).isSome = true := hp
  show RXs _ W _ _ (cl K ((bothX a.1 a.2).getD .st))
  cases h : isWhole a.1 2 4 with
  | false =>
    rw [both_st h]
    exact r_ifT (tv_is (tx_not (tx_val (x_f (a.1, 2, 4) G1 hr (a_cons (xv 0 rfl) (a_cons x_int (a_cons x_int a_nil))) trivial rfl))) (by rw [h]; rfl)) (r_raise tk (Z.k .st))
  | true =>
    have h2 : isRowD a.2 = false := by
      cases h2 : isRowD a.2 with
      | false => rfl
      | true => unfold bothX at hp; rw [if_pos h, if_pos h2] at hp; cases hp
    rw [both_row h h2]
    exact r_ifN (tv_is (tx_not (tx_val (x_f (a.1, 2, 4) G1 hr (a_cons (xv 0 rfl) (a_cons x_int (a_cons x_int a_nil))) trivial rfl))) (by rw [h]; rfl)) (r_expr (r_call a.2 tk G2 hr (a_cons (xv 1 rfl) a_nil) h2 rfl))
/-! ### R_slid -/
def slidX (s : Int) (ns : List Int) (d : PyData) : Option Ec := if isWhole d 0 ((ns.length : Nat) - 1) = true then (if toI d ∈ placesL s ns then none else some .firm) else some .pl
abbrev D_R_slid (P : Program) (w : World) (K : PySem.W.Frag) (mg : Str → Option Value) (base : Heap) : Prop := DfX P w K mg base 5 "slid" ["steep", "row", "place"] (spR (fun (a : Int × List Int × PyData) => [.int a.1, tI a.2.1, a.2.2]) (fun a => ((2 ≤ a.1 ∧ a.1 ≤ 4) ∧ Row a.2.1) ∧ (slidX a.1 a.2.1 a.2.2).isSome = true) (fun a => cl K ((slidX a.1 a.2.1 a.2.2).getD .st)))
theorem ok_R_slid (T : Tx K mg "slid" s_slid ["steep", "row", "place"]) (B : Bl mg) (G0 : D_is_whole P w K mg base) (G1 : D_need_both P w K mg base) (G2 : D_places_of P w K mg base) (Z : Xf K mg) : D_R_slid P w K mg base := by
  refine DfX.mk T sc_slid (fun _ => rfl) fun a hp f cdv A outer s H E hr W tk => ?_
  obtain ⟨st, ns, d⟩ := a
  obtain ⟨⟨hs, hrow⟩, hx⟩ := hp
  have hrow : Row ns := hrow
  have hx : (slidX st ns d).isSome = true := hx
  show RXs _ W _ _ (cl K ((slidX st ns d).getD .st))
  refine r_exprN (x_f (.int st, tI ns) G1 hr (a_cons (xv 0 rfl) (a_cons (xv 1 rfl) a_nil)) ⟨is_steep hs, hrow.is⟩ rfl) ?_
  have e1 : (((ns.map PyData.int).length : Nat) : Int) - 1 = ((ns.length : Nat) : Int) - 1 := by rw [List.length_map]
  cases h : isWhole d 0 ((ns.length : Nat) - 1) with
  | false =>
    have e2 : slidX st ns d = some .pl := by unfold slidX; rw [if_neg (by rw [h]; exact Bool.false_ne_true)]
    rw [e2]
    exact r_ifT (tv_is (tx_not (tx_val (x_f (d, 0, (((ns.map PyData.int).length : Nat) : Int) - 1) G0 hr (a_cons (xv 2 rfl) (a_cons x_int (a_cons (x_op op_sub (x_callB call_len_seq B.len (a_cons (xv 1 rfl) a_nil) rc_lenT) x_int rd_sub) a_nil))) trivial rfl))) (by rw [e1, h]; rfl)) (r_raise tk (Z.k .pl))
  | true =>
    have hn : ¬ toI d ∈ placesL st ns := fun hm => by unfold slidX at hx; rw [if_pos h, if_pos hm] at hx; cases hx
    have e2 : slidX st ns d = some .firm := by unfold slidX; rw [if_pos h, if_neg hn]
    rw [e2]
    obtain ⟨i, rfl⟩ : ∃ i, d = .int i := by
      cases d with
      | int i => exact ⟨i, rfl⟩
      | _ => cases h
    refine r_ifN (tv_is (tx_not (tx_val (x_f (.int i, 0, (((ns.map PyData.int).length : Nat) : Int) - 1) G0 hr (a_cons (xv 2 rfl) (a_cons x_int (a_cons (x_op op_sub (x_callB call_len_seq B.len (a_cons (xv 1 rfl) a_nil) rc_lenT) x_int rd_sub) a_nil))) trivial rfl))) (by rw [e1, h]; rfl)) ?_
    refine r_ifT (tv_is (tx_cmp (op_notInD (Room.units65 hr)) (xv 2 rfl) (x_f (st, ns) G2 hr (a_cons (xv 0 rfl) (a_cons (xv 1 rfl) a_nil)) hrow.len1000 rfl) rd_notInLI) ?_) (r_raise tk (Z.k .firm))
    have hn : ¬ i ∈ placesL st ns := hn
    simp [hn]
/-! ### R_raised -/
def raisedX (ns : List Int) (d : PyData) : Option Ec := if isWhole d 0 (ns.length : Nat) = true then (if ns.sum = 18 then some .tm else if 0 < toI d ∧ ns.getD (toI d).toNat 0 = ns.getD ((toI d).toNat - 1) 0 then some .ris else none) else some .pl
abbrev D_R_raised (P : Program) (w : World) (K : PySem.W.Frag) (mg : Str → Option Value) (base : Heap) : Prop := DfX P w K mg base 2 "raised" ["row", "place"] (spR (fun (a : List Int × PyData) => [tI a.1, a.2]) (fun a => Row a.1 ∧ (raisedX a.1 a.2).isSome = true) (fun a => cl K ((raisedX a.1 a.2).getD .st)))
theorem ok_R_raised (T : Tx K mg "raised" s_raised ["row", "place"]) (B : Bl mg) (G0 : D_is_whole P w K mg base) (Z : Xf K mg) : D_R_raised P w K mg base := by
  refine DfX.mk T sc_raised (fun _ => rfl) fun a hp f cdv A outer s H E hr W tk => ?_
  obtain ⟨ns, d⟩ := a
  obtain ⟨hrow, hx⟩ := hp
  have hrow : Row ns := hrow
  have hx : (raisedX ns d).isSome = true := hx
  show RXs _ W _ _ (cl K ((raisedX ns d).getD .st))
  have e1 : (((ns.map PyData.int).length : Nat) : Int) = ((ns.length : Nat) : Int) := by rw [List.length_map]
  cases h : isWhole d 0 (ns.length : Nat) with
  | false =>
    have e2 : raisedX ns d = some .pl := by unfold raisedX; rw [if_neg (by rw [h]; exact Bool.false_ne_true)]
    rw [e2]
    exact r_ifT (tv_is (tx_not (tx_val (x_f (d, 0, (((ns.map PyData.int).length : Nat) : Int)) G0 hr (a_cons (xv 1 rfl) (a_cons x_int (a_cons (x_callB call_len_seq B.len (a_cons (xv 0 rfl) a_nil) rc_lenT) a_nil))) trivial rfl))) (by rw [e1, h]; rfl)) (r_raise tk (Z.k .pl))
  | true =>
    obtain ⟨i, rfl⟩ : ∃ i, d = .int i := by
      cases d with
      | int i => exact ⟨i, rfl⟩
      | _ => cases h
    have hi : 0 ≤ i ∧ i ≤ (ns.length : Nat) := by
      unfold isWhole at h
      simpa using h
    refine r_ifN (tv_is (tx_not (tx_val (x_f (.int i, 0, (((ns.map PyData.int).length : Nat) : Int)) G0 hr (a_cons (xv 1 rfl) (a_cons x_int (a_cons (x_callB call_len_seq B.len (a_cons (xv 0 rfl) a_nil) rc_lenT) a_nil))) trivial rfl))) (by rw [e1, h]; rfl)) ?_
    by_cases h18 : ns.sum = 18
    · have e2 : raisedX ns (.int i) = some .tm := by unfold raisedX; rw [if_pos h, if_pos h18]
      rw [e2]
      exact r_ifT (tv_is (tx_cmp (op_eqD hr.units) (x_callB (cr_sumT rfl) B.sum (a_cons (xv 0 rfl) a_nil) rc_sumT) x_int rd_eqI) (decide_eq_true h18)) (r_raise tk (Z.k .tm))
    · have hris : 0 < i ∧ ns.getD i.toNat 0 = ns.getD (i.toNat - 1) 0 := by
        by_cases hh : 0 < i ∧ ns.getD i.toNat 0 = ns.getD (i.toNat - 1) 0
        · exact hh
        · unfold raisedX at hx
          rw [if_pos h, if_neg h18, if_neg (show ¬ (0 < toI (.int i) ∧ ns.getD (toI (.int i)).toNat 0 = ns.getD ((toI (.int i)).toNat - 1) 0) from hh)] at hx
          cases hx
      have e2 : raisedX ns (.int i) = some .ris := by
        unfold raisedX
        rw [if_pos h, if_neg h18, if_pos (show 0 < toI (.int i) ∧ ns.getD (toI (.int i)).toNat 0 = ns.getD ((toI (.int i)).toNat - 1) 0 from hris)]
      rw [e2]
      obtain ⟨p, rfl⟩ : ∃ p : Nat, i = (p : Int) := ⟨i.toNat, by omega⟩
      have hp : p ≤ ns.length := by omega
      have hp0 : 0 < p := by omega
      have hq : ns.getD p 0 = ns.getD (p - 1) 0 := by have := hris.2; simpa using this
      have l0 : (ns ++ [0]).length = ns.length + 1 := by rw [List.length_append]; rfl
      have l1 : p < (ns ++ [0]).length := by rw [l0]; omega
      have l18 := hrow.len1000
      refine r_ifN (tv_is (tx_cmp (op_eqD hr.units) (x_callB (cr_sumT rfl) B.sum (a_cons (xv 0 rfl) a_nil) rc_sumT) x_int rd_eqI) (decide_eq_false h18)) ?_
      refine r_asgN 2 (s_listT B.list (x_op op_catA (xv 0 rfl) (x_tup (a_cons x_int a_nil)) (rd_catI (b := [0]) (by show ns.length + 1 ≤ 100000; have : ns.length ≤ 1000 := l18; omega)))) ?_ sc_raised.nd
      refine r_ifT (t_frz (ds := (ns ++ [0]).map .int) 2 (tv_is (wv_pt (w_and (k := true) (l := true) (tv_is (tx_cmp op_gt (xv 1 rfl) x_int rd_gt) (decide_eq_true (by omega))) fun _ => w_and1 (tv_is (tx_cmp (op_eqD hr.units) (x_ix ix_list (xv 2 rfl) (xv 1 rfl) (rd_ixL (j := p) (ixN_nat rfl (by rw [List.length_map]; exact l1)) (getD_int l1))) (x_ix ix_list (xv 2 rfl) (x_op op_sub (xv 1 rfl) x_int rd_sub) (rd_ixL (j := p - 1) (ixN_nat (by omega) (by rw [List.length_map]; omega)) (getD_int (by omega)))) rd_eqI) (decide_eq_true (by rw [getD_app0, getD_app0]; exact hq))))) rfl)) (r_raise tk (Z.k .ris))
/-! ### law_end -/
abbrev N_law_end : List Str := ["dice", "steep", "row", "some", "slides", "place"]
theorem sc_law_end : FnScope N_law_end ["dice", "steep", "row"] (defScope s_law_end) := ⟨rfl, rfl, rfl, by decide +kernel, rfl, by decide +kernel, by decide +kernel⟩
abbrev D_law_end (P : Program) (w : World) (K : PySem.W.Frag) (mg : Str → Option Value) (base : Heap) : Prop := Df P w K mg base 3 "_law_end" ["dice", "steep", "row"] (spD (fun (a : Int × List Int) => [.int a.1, tI a.2]) (fun a => 2 ≤ a.1 ∧ Row a.2) fun a z => ∃ l : List Nat, Pth a.1 a.2 l (endL a.1 a.2) ∧ z = .tuple [tI (endL a.1 a.2), lI (l.map fun i => ((i : Nat) : Int))])
theorem ok_law_end (T : Tx K mg "_law_end" s_law_end ["dice", "steep", "row"]) (B : Bl mg) (G0 : D_roll P w K mg base) (G1 : D_law_free P w K mg base) (G2 : D_law_moved P w K mg base) : D_law_end P w K mg base := by
  refine Df.mkD T sc_law_end (fun _ => rfl) fun a hp f cdv A outer s H E hr => ?_
  obtain ⟨st, ns⟩ := a
  obtain ⟨hs, hrow⟩ := hp
  have hrow : Row ns := hrow
  have hs : 2 ≤ st := hs
  refine S_par 3 4 (sv_x (x_f (st, ns) G1 hr (a_cons (xv 1 rfl) (a_cons (xv 2 rfl) a_nil)) hrow.len1000 rfl)) (s_lst a_nil) (fun u v hu hv => ?_) rfl sc_law_end.nd (hps := fun h => ps_par rfl sc_law_end.nd rfl rfl (by decide) rfl rfl h rfl)
  subst hu hv
  refine s_seq (mid := fun ρ => ∃ ms l s5, Row ms ∧ freeN st ms = [] ∧ Pth st ns l ms ∧ ρ = [.dice, .val (.int st), .val (tI ms), .val (lI (placesL st ms)), .own ((l.map fun i => ((i : Nat) : Int)).map .int), s5])
    (S_while (fun m ρ => ∃ ms l s5, Row ms ∧ m = sq ms ∧ l.length + sq ms ≤ 324 ∧ Pth st ns l ms ∧ nd [s5] 0 = true ∧ ρ = [.dice, .val (.int st), .val (tI ms), .val (lI (placesL st ms)), .own ((l.map fun i => ((i : Nat) : Int)).map .int), s5]) (sq ns) ⟨ns, [], .no, hrow, rfl, ?_, .nil _, rfl, rfl⟩ (fun m ρ1 hI => ?_) PassesOwn.never) ?_
  · have := sq_row hrow
    simpa using this
  · obtain ⟨ms, l, s5, hm, rfl, hl, hc, n5, rfl⟩ := hI
    refine ⟨!decide (placesL st ms = []), tx_cmp (op_neD hr.units) (xv 3 rfl) (x_lst a_nil) (rd_neLI (b := [])), fun hk => ?_, fun hk => ?_⟩
    · have hne : freeN st ms ≠ [] := fun h => absurd hk (by simp [placesL, h])
      have hlen : 0 < (freeN st ms).length := List.length_pos_iff.mpr hne
      have hlen2 : (freeN st ms).length ≤ 18 := by
        have h1 := List.length_filter_le (fun i => decide (st ≤ ms.getD i 0 - ms.getD (i + 1) 0)) (List.range ms.length)
        rw [List.length_range] at h1
        have := hm.len
        unfold freeN
        omega
      have lp : ((placesL st ms).map PyData.int).length = (freeN st ms).length := by unfold placesL; rw [List.length_map, List.length_map]
      refine S_asg 5 (XE.xs (X_ix ix_list (xv 3 rfl) (x_fD 0 ((((placesL st ms).map PyData.int).length : Nat) : Int) G0 hr (a_cons (x_callB call_len_seq B.len (a_cons (xv 3 rfl) a_nil) rc_lenL) a_nil) ⟨by omega, by omega⟩ rfl) (χ := fun z => ∃ p : Nat, p ∈ freeN st ms ∧ z = .int ((p : Nat) : Int)) fun d e hd he => ?_)) (fun u hu => ?_) sc_law_end.nd (hn := n5)
      · have hd : d = lI (placesL st ms) := hd
        subst hd
        obtain ⟨r, r0, r1, rfl⟩ := he
        obtain ⟨j, rfl⟩ : ∃ j : Nat, r = (j : Int) := ⟨r.toNat, by omega⟩
        have hj : j < (freeN st ms).length := by omega
        have hg : ((placesL st ms).map PyData.int)[j]? = some (.int (((freeN st ms)[j] : Nat) : Int)) := by
          unfold placesL
          rw [List.getElem?_map, List.getElem?_map, List.getElem?_eq_getElem hj]
          rfl
        exact (rd_ixL (K := K) (j := j) (ixN_nat rfl (by omega)) hg).mono fun z hz => ⟨_, List.getElem_mem hj, hz⟩
      · obtain ⟨d, ⟨p, hp, rfl⟩, rfl⟩ := hu
        have hpl := (mem_freeN.mp hp).1
        have hlt := sq_free hm hs hp
        refine s_app (ds := (l.map fun i => ((i : Nat) : Int)).map .int) (d := .int ((p : Nat) : Int)) 4 (xv 5 rfl) ?_ (by rw [List.length_map, List.length_map]; omega)
        refine s_asg 2 (sv_x (x_f (ms, p) G2 hr (a_cons (xv 2 rfl) (a_cons (xv 5 rfl) a_nil)) ⟨hm.len1000, hpl⟩ rfl)) ?_ sc_law_end.nd
        refine s_asg 3 (sv_x (x_f (st, mv ms p) G1 hr (a_cons (xv 1 rfl) (a_cons (xv 2 rfl) a_nil)) (hm.mv hs hp).len1000 rfl)) (s_nil ?_) sc_law_end.nd
        refine ⟨sq (mv ms p), hlt, mv ms p, l ++ [p], .val (.int ((p : Nat) : Int)), hm.mv hs hp, rfl, ?_, hc.app (.cons hp (.nil _)), rfl, ?_⟩
        · rw [List.length_append]; show l.length + 1 + _ ≤ _; omega
        · rw [List.map_append, List.map_append]; rfl
    · have hk' : placesL st ms = [] := by simpa using hk
      have hf : freeN st ms = [] := by
        unfold placesL at hk'
        exact List.map_eq_nil_iff.mp hk'
      exact ⟨ms, l, s5, hm, hf, hc, rfl⟩
  · rintro ρ' ⟨ms, l, s5, hm, hf, hc, rfl⟩
    have e : ms = endL st ns := by
      obtain ⟨l2, _, r2⟩ := course_pth st ns
      exact (Pth.same hs hrow hf (end_free hrow hs) hc r2).1
    subst e
    exact s_frz (ds := (l.map fun i => ((i : Nat) : Int)).map .int) 4 (s_ret (x_tup (a_cons (xv 2 rfl) (a_cons (xv 4 rfl) a_nil))) ⟨l, hc, rfl⟩)
/-! ### T_init -/
theorem sc_T_init : FnScope ["self", "steep", "row"] ["self", "steep", "row"] (defScope s_T_init) := ⟨rfl, rfl, rfl, by decide +kernel, rfl, by decide +kernel, by decide +kernel⟩
def spTI (C : Addr) : Sp := fun vs H Q _ => ∃ (p dx : Addr) (st : Int) (ns : List Int) (vr : V) (O : Addr → Prop), vs = [.ref p, .int st, vr] ∧ H p = some (.ins C dx []) ∧ Al O H ∧ Is O H vr (tI ns) ∧ (2 ≤ st ∧ st ≤ 4) ∧ Row ns ∧
  ∀ l1 l2 H', (∀ b o, b ≠ p → H b = some o → H' b = some o) → H' p = some (.ins C dx (tfs (.int st) vr (.ref l1) (.ref l2))) → H' l1 = some (.lst []) → H' l2 = some (.lst []) → H l1 = none → H l2 = none → Q .non H'
abbrev D_T_init (P : Program) (w : World) (K : PySem.W.Frag) (mg : Str → Option Value) (base : Heap) : Prop := ∃ f fd, Mk K (adr K "Table") f ∧ Binds K fd ["self", "steep", "row"] [] ∧ FnOk P w K mg base CX0 5 f fd ["self", "steep", "row"] (spTI (adr K "Table"))
theorem ok_T_init (T : TxI K (adr K "Table") "Table.__init__" s_T_init ["self", "steep", "row"]) (TB0 : Tb K mg (adr K "Table")) (G : D_need_both P w K mg base) : D_T_init P w K mg base := by
  obtain ⟨f, fd, F, M, b⟩ := T
  obtain ⟨f0, fd0, T0, G0⟩ := G
  refine ⟨f, fd, M, b, F.ok sc_T_init (fun vs H Q E h => ?_) (fun cdv A outer s H vs Q E hr h => ?_)⟩
  · obtain ⟨p, dx, st, ns, vr, O, rfl, _⟩ := h
    rfl
  · obtain ⟨p, dx, st, ns, vr, O, rfl, hp, al, iv, hst, hrow, k⟩ := h
    refine ⟨_, pss_cons (ps_expr (pe_call G0 hr rfl T0.gl T0.kp T0.bd .nil pass0 (pa_cons (pe_var (i := 1) rfl (Or.inl rfl)) (pa_cons (pe_var (i := 2) rfl (Or.inl rfl)) pa_nil))) rfl)
      (pss_cons (ps_fld (pe_var (i := 0) rfl (Or.inl rfl)) (pe_var (i := 1) rfl (Or.inl rfl)) rfl)
      (pss_cons (ps_fld (pe_var (i := 0) rfl (Or.inl rfl)) (pe_var (i := 2) rfl (Or.inl rfl)) rfl)
      (pss_cons (ps_fld (pe_var (i := 0) rfl (Or.inl rfl)) (pe_lst pa_nil) rfl)
      (pss_one (ps_fld (pe_var (i := 0) rfl (Or.inl rfl)) (pe_lst pa_nil) rfl))))), ?_⟩
    refine ⟨.int st, rfl, vr, rfl, ?_⟩
    show spF _ _ _ ([.int st, vr] ++ []) H _ E0
    refine ⟨(.int st, tI ns), O, al, .cons (.int st) (.cons iv .nil), ⟨is_steep hst, hrow.is⟩, fun d v H1 _ x1 _ => ?_⟩
    refine ⟨.int st, rfl, .ref p, rfl, p, _, dx, [], rfl, x1 _ _ hp, TB0.cl, TB0.n1, (by show 0 < 1000; decide), ?_⟩
    refine ⟨vr, rfl, .ref p, rfl, p, _, dx, _, rfl, upd_same, TB0.cl, TB0.n2, (by show 1 < 1000; decide), ?_⟩
    refine ⟨(by show 0 ≤ sizeLine; decide), fun l1 h1 => ⟨.ref p, rfl, p, _, dx, _, rfl, (by rw [upd_ne (ne_of_none upd_same h1), upd_same]), TB0.cl, TB0.n3, ?_, ?_⟩⟩
    · obtain ⟨⟨⟨h1, h2, h3⟩, h4, h5⟩, h6⟩ := tf_ne
      simp only [putF, if_neg h1]
      show 2 < 1000
      decide
    refine ⟨(by show 0 ≤ sizeLine; decide), fun l2 h2 => ⟨.ref p, rfl, p, _, dx, _, rfl, (by rw [upd_ne (ne_of_none upd_same h2), upd_same]), TB0.cl, TB0.n4, ?_, ?_⟩⟩
    · obtain ⟨⟨⟨h1, h2, h3⟩, h4, h5⟩, h6⟩ := tf_ne
      simp only [putF, if_neg h1, if_neg h2, if_neg h4]
      show 3 < 1000
      decide
    have p1 : p ≠ l1 := fun z => by rw [z, upd_same] at h1; cases h1
    have e1 : (upd (upd (upd (upd H1 p (.ins (adr K "Table") dx (putF "steep" (.int st) []))) p (.ins (adr K "Table") dx (putF "now" vr (putF "steep" (.int st) [])))) l1 (.lst [])) p (.ins (adr K "Table") dx (putF "earlier" (.ref l1) (putF "now" vr (putF "steep" (.int st) []))))) l1 = some (.lst []) := by rw [upd_ne (Ne.symm p1), upd_same]
    have l12 : l1 ≠ l2 := ne_of_none e1 h2
    have p2 : p ≠ l2 := fun z => by rw [z, upd_same] at h2; cases h2
    refine k l1 l2 _ (fun b o hb e => ?_) ?_ ?_ ?_ ?_ ?_
    · have e1 := x1 b o e
      have b1 : b ≠ l1 := fun z => by rw [upd_ne (Ne.symm p1), upd_ne (Ne.symm p1), ← z, e1] at h1; cases h1
      have b2 : b ≠ l2 := fun z => by rw [upd_ne (Ne.symm p2), upd_ne (Ne.symm l12), upd_ne (Ne.symm p2), upd_ne (Ne.symm p2), ← z, e1] at h2; cases h2
      rw [upd_ne hb, upd_ne b2, upd_ne hb, upd_ne b1, upd_ne hb, upd_ne hb]
      exact e1
    · rw [upd_same, tf_put]
    · rw [upd_ne (Ne.symm p1), upd_ne l12, upd_ne (Ne.symm p1), upd_same]
    · rw [upd_ne (Ne.symm p2), upd_same]
    · rw [upd_ne (Ne.symm p1), upd_ne (Ne.symm p1)] at h1
      exact ext_none x1 h1
    · rw [upd_ne (Ne.symm p2), upd_ne (Ne.symm l12), upd_ne (Ne.symm p2), upd_ne (Ne.symm p2)] at h2
      exact ext_none x1 h2
/-! ### R_T_init -/
def spTJ (K : PySem.W.Frag) : Sp := fun vs H _ E => ∃ (p : Addr) (d1 d2 : PyData) (v1 v2 : V) (O : Addr → Prop), vs = [.ref p, v1, v2] ∧ Al O H ∧ Is O H v1 d1 ∧ Is O H v2 d2 ∧ (bothX d1 d2).isSome = true ∧ ∀ H', Ext H H' → E (.ref (cl K ((bothX d1 d2).getD .st))) none H'
abbrev D_R_T_init (P : Program) (w : World) (K : PySem.W.Frag) (mg : Str → Option Value) (base : Heap) : Prop := ∃ f fd, Mk K (adr K "Table") f ∧ Binds K fd ["self", "steep", "row"] [] ∧ FnOk P w K mg base (L2N.CX P w) 5 f fd ["self", "steep", "row"] (spTJ K)
theorem ok_R_T_init (T : TxI K (adr K "Table") "Table.__init__" s_T_init ["self", "steep", "row"]) (G : D_R_need_both P w K mg base) : D_R_T_init P w K mg base := by
  obtain ⟨f, fd, F, M, b⟩ := T
  obtain ⟨f0, fd0, T0, G0⟩ := G
  obtain ⟨oc, od, kV, doc, pm, an, cdv, ct, osl, rfl, lk, hcd⟩ := F.ex
  refine ⟨f, _, M, b, fn_of lk hcd sc_T_init (fun vs H Q E h => ?_) fun A outer s H vs Q E hr h => ?_⟩
  · obtain ⟨p, d1, d2, v1, v2, O, rfl, _⟩ := h
    rfl
  · obtain ⟨p, d1, d2, v1, v2, O, rfl, al, i1, i2, hx, k⟩ := h
    have tk : L2N.Takes (cxOf (L2N.CX P w) P w K mg base ["self", "steep", "row"] "Table.__init__" (defScope s_T_init) f cdv A outer s H E) (fun cls d _ H' => E cls d H') := L2N.takes_of rfl rfl rfl rfl
    refine ⟨_, pss_cons (u := tNever) (ps_expr (pe_call G0 hr rfl T0.gl T0.kp T0.bd .nil (L2N.passes_call tk fun cls d σ H h => h) (pa_cons (pe_var (i := 1) rfl (Or.inl rfl)) (pa_cons (pe_var (i := 2) rfl (Or.inl rfl)) pa_nil))) rfl) pss_never, ?_⟩
    refine ⟨v1, rfl, v2, rfl, ?_⟩
    exact ⟨(d1, d2), O, al, .cons i1 (.cons i2 .nil), hx, fun H' e' => k H' e'⟩
/-! ### R_redo -/
theorem sc_T_redo : FnScope ["self"] ["self"] (defScope s_T_redo) := ⟨rfl, rfl, rfl, by decide +kernel, rfl, by decide +kernel, by decide +kernel⟩
def spTR (K : PySem.W.Frag) (C : Addr) : Sp := fun vs H _ E => ∃ (p dx : Addr) (a b c : V) (l2 : Addr), vs = [.ref p] ∧ H p = some (.ins C dx (tfs a b c (.ref l2))) ∧ H l2 = some (.lst []) ∧ ∀ H', Ext H H' → E (.ref (cl K .un)) none H'
abbrev D_R_redo (P : Program) (w : World) (K : PySem.W.Frag) (mg : Str → Option Value) (base : Heap) : Prop := ∃ f fd, Meth K (adr K "Table") "redo" f ∧ Binds K fd ["self"] [] ∧ FnOk P w K mg base (L2N.CX P w) 1 f fd ["self"] (spTR K (adr K "Table"))
theorem ok_R_redo (T : TxM K (adr K "Table") "redo" "Table.redo" s_T_redo ["self"]) (TB0 : Tb K mg (adr K "Table")) (Z : Xf K mg) : D_R_redo P w K mg base := by
  obtain ⟨f, fd, F, M, b⟩ := T
  obtain ⟨oc, od, kV, doc, pm, an, cdv, ct, osl, rfl, lk, hcd⟩ := F.ex
  refine ⟨f, _, M, b, fn_of lk hcd sc_T_redo (fun vs H Q E h => ?_) fun A outer s H vs Q E hr h => ?_⟩
  · obtain ⟨p, dx, a, b, c, l2, rfl, _⟩ := h
    rfl
  · obtain ⟨p, dx, a, b, c, l2, rfl, hp, hl, k⟩ := h
    have tk : L2N.Takes (cxOf (L2N.CX P w) P w K mg base ["self"] "Table.redo" (defScope s_T_redo) f cdv A outer s H E) (fun cls d _ H' => E cls d H') := L2N.takes_of rfl rfl rfl rfl
    have B := Z.k .un
    refine ⟨_, pss_cons (u := tNever) (ps_if (u := fun _ _ _ => False) (pt_cmpR (op_eqD hr.units) (pe_fld (pe_var (i := 0) rfl (Or.inl rfl)) rfl) (pe_lst pa_nil) (nomark _)) (pss_cons (u := tNever) (L2N.ps_raise rfl tk (L2N.pmk_own PySem.F.excBase_ValueError B.ex B.gl B.kp (raises_own B.sb B.ty) rfl (by decide))) pss_never) ⟨fun _ _ _ _ _ _ z => z.elim⟩) pss_never, ?_⟩
    refine ⟨.ref p, rfl, p, _, dx, _, _, rfl, hp, TB0.cl, TB0.n4, tf_undone _ _ _ _, by show 0 ≤ sizeLine; decide, fun l hl0 => ?_⟩
    have hl1 : (upd H l (.lst [])) l2 = some (.lst []) := by rw [upd_ne (ne_of_none hl hl0)]; exact hl
    refine ⟨.list [], .list [], .lst (SqL.of hl1) .nil, .lst (SqL.of upd_same) .nil, rfl, rfl, true, rfl, ?_⟩
    exact k _ (Ext.new hl0)
/-! ### T_change -/
abbrev cT (K : PySem.W.Frag) : Addr := adr K "Table"
theorem sc_T_change : FnScope ["self", "row"] ["self", "row"] (defScope s_T_change) := ⟨rfl, rfl, rfl, by decide +kernel, rfl, by decide +kernel, by decide +kernel⟩
abbrev D_T_change (P : Program) (w : World) (K : PySem.W.Frag) (mg : Str → Option Value) (base : Heap) : Prop := Dm P w K mg base 1 (cT K) "change" ["self", "row"] (spT (cT K) (fun (a : Tst × List Int) => a.1) (fun a => [tI a.2]) (fun a => a.1.er.length < 1000) fun a d t' => d = tI a.2 ∧ t' = ⟨a.1.st, a.2, a.1.er ++ [a.1.now], []⟩)
theorem ok_T_change (T : TxM K (cT K) "change" "Table.change" s_T_change ["self", "row"]) (TB0 : Tb K mg (cT K)) : D_T_change P w K mg base := by
  refine Dm.mk T sc_T_change (fun _ => rfl) fun a p hp f cdv A outer s H E hr => ?_
  obtain ⟨t, r⟩ := a
  have hp : t.er.length < 1000 := hp
  refine g_seq (sx_fldG (i := 0) (t' := { t with er := t.er ++ [t.now] }) TB0.cl TB0.n3 up_er (xv_is (x_op op_cat (x_fldG (i := 0) TB0.cl TB0.n3 tf_earlier (fun _ _ _ _ _ _ h => h.er) rfl) (x_lst (a_cons (x_fldG (i := 0) TB0.cl TB0.n2 tf_now (fun _ _ _ _ _ _ h => h.now) rfl) a_nil)) (rd_catL (by rw [List.length_map]; show _ + 1 ≤ 100000; omega))) (lT_app _ _)) rfl) fun ρ' h => ?_
  subst h
  refine g_seq (sx_fldG (i := 0) (t' := { t with er := t.er ++ [t.now], un := [] }) TB0.cl TB0.n4 (up_un (r := [])) (x_lst a_nil) rfl) fun ρ' h => ?_
  subst h
  refine g_seq (sx_fldG (i := 0) (t' := { t with er := t.er ++ [t.now], un := [], now := r }) TB0.cl TB0.n2 up_now (xv 1 rfl) rfl) fun ρ' h => ?_
  subst h
  exact g_retV (xv 1 rfl) ⟨_, ⟨rfl, rfl⟩, rfl⟩
/-! ### T_slide -/
theorem sc_T_slide : FnScope ["self", "place"] ["self", "place"] (defScope s_T_slide) := ⟨rfl, rfl, rfl, by decide +kernel, rfl, by decide +kernel, by decide +kernel⟩
abbrev D_T_slide (P : Program) (w : World) (K : PySem.W.Frag) (mg : Str → Option Value) (base : Heap) : Prop := Dm P w K mg base 6 (cT K) "slide" ["self", "place"] (spT (cT K) (fun (a : Tst × Nat) => a.1) (fun a => [.int ((a.2 : Nat) : Int)]) (fun a => a.1.er.length < 1000 ∧ (2 ≤ a.1.st ∧ a.1.st ≤ 4) ∧ Row a.1.now ∧ a.2 ∈ freeN a.1.st a.1.now) fun a d t' => d = tI (mv a.1.now a.2) ∧ t' = ⟨a.1.st, mv a.1.now a.2, a.1.er ++ [a.1.now], []⟩)
theorem ok_T_slide (T : TxM K (cT K) "slide" "Table.slide" s_T_slide ["self", "place"]) (TB0 : Tb K mg (cT K)) (GS : D_slid P w K mg base) (GC : D_T_change P w K mg base) : D_T_slide P w K mg base := by
  refine Dm.mk T sc_T_slide (fun _ => rfl) fun a p hp f cdv A outer s H E hr => ?_
  obtain ⟨t, q⟩ := a
  refine g_ret2 (PE.x2 (x_meth2 (i := 0) (t, mv t.now q) GC TB0.cl hr (a_cons (x_g (tI (mv t.now q)) (t.st, t.now, q) GS hr (a_cons (x_fldG (i := 0) TB0.cl TB0.n1 tf_steep (fun _ _ _ _ _ _ h => h.st) rfl) (a_cons (x_fldG (i := 0) TB0.cl TB0.n2 tf_now (fun _ _ _ _ _ _ h => h.now) rfl) (a_cons (xv 1 rfl) a_nil))) hp.2 rfl) a_nil) hp.1 rfl) fun d ρ' h => ?_)
  obtain ⟨t', h, rfl⟩ := h
  exact ⟨t', h, rfl⟩
/-! ### T_put -/
theorem sc_T_put : FnScope ["self", "place"] ["self", "place"] (defScope s_T_put) := ⟨rfl, rfl, rfl, by decide +kernel, rfl, by decide +kernel, by decide +kernel⟩
abbrev D_T_put (P : Program) (w : World) (K : PySem.W.Frag) (mg : Str → Option Value) (base : Heap) : Prop := Dm P w K mg base 3 (cT K) "put" ["self", "place"] (spT (cT K) (fun (a : Tst × Nat) => a.1) (fun a => [.int ((a.2 : Nat) : Int)]) (fun a => a.1.er.length < 1000 ∧ Row a.1.now ∧ CanPut a.1.now a.2 ∧ a.1.now.sum < 18) fun a d t' => d = tI (rsL a.1.now a.2) ∧ t' = ⟨a.1.st, rsL a.1.now a.2, a.1.er ++ [a.1.now], []⟩)
theorem ok_T_put (T : TxM K (cT K) "put" "Table.put" s_T_put ["self", "place"]) (TB0 : Tb K mg (cT K)) (GS : D_raised P w K mg base) (GC : D_T_change P w K mg base) : D_T_put P w K mg base := by
  refine Dm.mk T sc_T_put (fun _ => rfl) fun a p hp f cdv A outer s H E hr => ?_
  obtain ⟨t, q⟩ := a
  refine g_ret2 (PE.x2 (x_meth2 (i := 0) (t, rsL t.now q) GC TB0.cl hr (a_cons (x_g (tI (rsL t.now q)) (t.now, q) GS hr (a_cons (x_fldG (i := 0) TB0.cl TB0.n2 tf_now (fun _ _ _ _ _ _ h => h.now) rfl) (a_cons (xv 1 rfl) a_nil)) hp.2 rfl) a_nil) hp.1 rfl) fun d ρ' h => ?_)
  obtain ⟨t', h, rfl⟩ := h
  exact ⟨t', h, rfl⟩
/-! ### T_settle -/
theorem sc_T_settle : FnScope ["self"] ["self"] (defScope s_T_settle) := ⟨rfl, rfl, rfl, by decide +kernel, rfl, by decide +kernel, by decide +kernel⟩
abbrev D_T_settle (P : Program) (w : World) (K : PySem.W.Frag) (mg : Str → Option Value) (base : Heap) : Prop := Dm P w K mg base 5 (cT K) "settle" ["self"] (spT (cT K) (fun (a : Tst) => a) (fun a => []) (fun a => a.er.length < 1000 ∧ 2 ≤ a.st ∧ Row a.now) fun a d t' => d = tI (endL a.st a.now) ∧ t' = ⟨a.st, endL a.st a.now, a.er ++ [a.now], []⟩)
theorem ok_T_settle (T : TxM K (cT K) "settle" "Table.settle" s_T_settle ["self"]) (TB0 : Tb K mg (cT K)) (GS : D_end_of P w K mg base) (GC : D_T_change P w K mg base) : D_T_settle P w K mg base := by
  refine Dm.mk T sc_T_settle (fun _ => rfl) fun t p hp f cdv A outer s H E hr => ?_
  refine g_ret2 (PE.x2 (x_meth2 (i := 0) (t, endL t.st t.now) GC TB0.cl hr (a_cons (x_g (tI (endL t.st t.now)) (t.st, t.now) GS hr (a_cons (x_fldG (i := 0) TB0.cl TB0.n1 tf_steep (fun _ _ _ _ _ _ h => h.st) rfl) (a_cons (x_fldG (i := 0) TB0.cl TB0.n2 tf_now (fun _ _ _ _ _ _ h => h.now) rfl) a_nil)) hp.2 rfl) a_nil) hp.1 rfl) fun d ρ' h => ?_)
  obtain ⟨t', h, rfl⟩ := h
  exact ⟨t', h, rfl⟩
/-! ### T_undo -/
theorem ix_end {L : List (List Int)} {r : List Int} : ixN ((L ++ [r]).map tI).length (-1) = some L.length := by
  rw [List.length_map, List.length_append]
  unfold ixN
  simp
  omega
theorem get_end {L : List (List Int)} {r : List Int} : ((L ++ [r]).map tI)[L.length]? = some (tI r) := by
  rw [List.getElem?_map, List.getElem?_append_right (Nat.le_refl _), Nat.sub_self]
  rfl
theorem cut_lT {L : List (List Int)} {r : List Int} : PyData.list (cutD ((L ++ [r]).map tI) none (some (-1))) = lT L := by
  rw [List.map_append]
  exact congrArg PyData.list (cut_but _ _)
theorem sc_T_undo : FnScope ["self"] ["self"] (defScope s_T_undo) := ⟨rfl, rfl, rfl, by decide +kernel, rfl, by decide +kernel, by decide +kernel⟩
abbrev D_T_undo (P : Program) (w : World) (K : PySem.W.Frag) (mg : Str → Option Value) (base : Heap) : Prop := Dm P w K mg base 1 (cT K) "undo" ["self"] (spT (cT K) (fun (a : Tst × List Int) => { a.1 with er := a.1.er ++ [a.2] }) (fun a => []) (fun a => a.1.un.length < 1000) fun a d t' => d = tI a.2 ∧ t' = ⟨a.1.st, a.2, a.1.er, a.1.un ++ [a.1.now]⟩)
theorem ok_T_undo (T : TxM K (cT K) "undo" "Table.undo" s_T_undo ["self"]) (TB0 : Tb K mg (cT K)) : D_T_undo P w K mg base := by
  refine Dm.mk T sc_T_undo (fun _ => rfl) fun a p hp f cdv A outer s H E hr => ?_
  obtain ⟨t, r⟩ := a
  have hp : t.un.length < 1000 := hp
  refine g_if (k := false) (tv_is (tx_cmp (op_eqD hr.units) (x_fldG (i := 0) (dt := lT (t.er ++ [r])) TB0.cl TB0.n3 tf_earlier (fun _ _ _ _ _ _ h => h.er) rfl) (x_lst a_nil) (rd_eqLT (b := []))) (decide_eq_false (by simp))) (fun h => nomatch h) fun _ => ?_
  refine g_seq (sx_fldG (i := 0) (t' := { t with er := t.er ++ [r], un := t.un ++ [t.now] }) TB0.cl TB0.n4 up_un (xv_is (x_op op_cat (x_fldG (i := 0) TB0.cl TB0.n4 tf_undone (fun _ _ _ _ _ _ h => h.un) rfl) (x_lst (a_cons (x_fldG (i := 0) TB0.cl TB0.n2 tf_now (fun _ _ _ _ _ _ h => h.now) rfl) a_nil)) (rd_catL (by rw [List.length_map]; show _ + 1 ≤ 100000; show t.un.length + 1 ≤ 100000; omega))) (lT_app _ _)) rfl) fun ρ' h => ?_
  subst h
  refine g_seq (sx_fldG (i := 0) (t' := { t with er := t.er ++ [r], un := t.un ++ [t.now], now := r }) TB0.cl TB0.n2 up_now (x_ix ix_list (x_fldG (i := 0) (dt := lT (t.er ++ [r])) TB0.cl TB0.n3 tf_earlier (fun _ _ _ _ _ _ h => h.er) rfl) (x_un un_neg x_int ru_neg) (rd_ixL ix_end get_end)) rfl) fun ρ' h => ?_
  subst h
  refine g_seq (sx_fldG (i := 0) (t' := { t with un := t.un ++ [t.now], now := r }) TB0.cl TB0.n3 up_er (xv_is (x_slL (x_fldG (i := 0) (dt := lT (t.er ++ [r])) TB0.cl TB0.n3 tf_earlier (fun _ _ _ _ _ _ h => h.er) rfl) xo_none (xo_some (x_un un_neg x_int ru_neg))) cut_lT) rfl) fun ρ' h => ?_
  subst h
  exact g_retV (x_fldG (i := 0) TB0.cl TB0.n2 tf_now (fun _ _ _ _ _ _ h => h.now) rfl) ⟨_, ⟨rfl, rfl⟩, rfl⟩
/-! ### T_redo -/
abbrev D_T_redo (P : Program) (w : World) (K : PySem.W.Frag) (mg : Str → Option Value) (base : Heap) : Prop := Dm P w K mg base 1 (cT K) "redo" ["self"] (spT (cT K) (fun (a : Tst × List Int) => { a.1 with un := a.1.un ++ [a.2] }) (fun a => []) (fun a => a.1.er.length < 1000) fun a d t' => d = tI a.2 ∧ t' = ⟨a.1.st, a.2, a.1.er ++ [a.1.now], a.1.un⟩)
theorem sc_T_redo2 : FnScope ["self"] ["self"] (defScope s_T_redo) := ⟨rfl, rfl, rfl, by decide +kernel, rfl, by decide +kernel, by decide +kernel⟩
theorem ok_T_redo (T : TxM K (cT K) "redo" "Table.redo" s_T_redo ["self"]) (TB0 : Tb K mg (cT K)) : D_T_redo P w K mg base := by
  refine Dm.mk T sc_T_redo2 (fun _ => rfl) fun a p hp f cdv A outer s H E hr => ?_
  obtain ⟨t, r⟩ := a
  have hp : t.er.length < 1000 := hp
  refine g_if (k := false) (tv_is (tx_cmp (op_eqD hr.units) (x_fldG (i := 0) (dt := lT (t.un ++ [r])) TB0.cl TB0.n4 tf_undone (fun _ _ _ _ _ _ h => h.un) rfl) (x_lst a_nil) (rd_eqLT (b := []))) (decide_eq_false (by simp))) (fun h => nomatch h) fun _ => ?_
  refine g_seq (sx_fldG (i := 0) (t' := { t with er := t.er ++ [t.now], un := t.un ++ [r] }) TB0.cl TB0.n3 up_er (xv_is (x_op op_cat (x_fldG (i := 0) TB0.cl TB0.n3 tf_earlier (fun _ _ _ _ _ _ h => h.er) rfl) (x_lst (a_cons (x_fldG (i := 0) TB0.cl TB0.n2 tf_now (fun _ _ _ _ _ _ h => h.now) rfl) a_nil)) (rd_catL (by rw [List.length_map]; show _ + 1 ≤ 100000; show t.er.length + 1 ≤ 100000; omega))) (lT_app _ _)) rfl) fun ρ' h => ?_
  subst h
  refine g_seq (sx_fldG (i := 0) (t' := { t with er := t.er ++ [t.now], un := t.un ++ [r], now := r }) TB0.cl TB0.n2 up_now (x_ix ix_list (x_fldG (i := 0) (dt := lT (t.un ++ [r])) TB0.cl TB0.n4 tf_undone (fun _ _ _ _ _ _ h => h.un) rfl) (x_un un_neg x_int ru_neg) (rd_ixL ix_end get_end)) rfl) fun ρ' h => ?_
  subst h
  refine g_seq (sx_fldG (i := 0) (t' := { t with er := t.er ++ [t.now], now := r }) TB0.cl TB0.n4 up_un (xv_is (x_slL (x_fldG (i := 0) (dt := lT (t.un ++ [r])) TB0.cl TB0.n4 tf_undone (fun _ _ _ _ _ _ h => h.un) rfl) xo_none (xo_some (x_un un_neg x_int ru_neg))) cut_lT) rfl) fun ρ' h => ?_
  subst h
  exact g_retV (x_fldG (i := 0) TB0.cl TB0.n2 tf_now (fun _ _ _ _ _ _ h => h.now) rfl) ⟨_, ⟨rfl, rfl⟩, rfl⟩
/-! ### RT_slide -/
abbrev D_RT_slide (P : Program) (w : World) (K : PySem.W.Frag) (mg : Str → Option Value) (base : Heap) : Prop := DmX P w K mg base 6 (cT K) "slide" ["self", "place"] (spTX (cT K) (fun (a : Tst × PyData) => a.1) (fun a => [a.2]) (fun a => ((2 ≤ a.1.st ∧ a.1.st ≤ 4) ∧ Row a.1.now) ∧ (slidX a.1.st a.1.now a.2).isSome = true) (fun a => cl K ((slidX a.1.st a.1.now a.2).getD .st)))
theorem ok_RT_slide (T : TxM K (cT K) "slide" "Table.slide" s_T_slide ["self", "place"]) (TB0 : Tb K mg (cT K)) (RS : D_R_slid P w K mg base) (GC : D_T_change P w K mg base) : D_RT_slide P w K mg base := by
  refine DmX.mk T sc_T_slide (fun _ => rfl) fun a p hp f cdv A outer s H E hr tk => ?_
  obtain ⟨t, d⟩ := a
  exact r_ret (r_methA (i := 0) GC TB0.cl hr (a_here (r_call (t.st, t.now, d) tk RS hr (a_cons (x_fldG (i := 0) TB0.cl TB0.n1 tf_steep (fun _ _ _ _ _ _ h => h.st) rfl) (a_cons (x_fldG (i := 0) TB0.cl TB0.n2 tf_now (fun _ _ _ _ _ _ h => h.now) rfl) (a_cons (xv 1 rfl) a_nil))) hp rfl) a_never) rfl)
/-! ### RT_put -/
abbrev D_RT_put (P : Program) (w : World) (K : PySem.W.Frag) (mg : Str → Option Value) (base : Heap) : Prop := DmX P w K mg base 3 (cT K) "put" ["self", "place"] (spTX (cT K) (fun (a : Tst × PyData) => a.1) (fun a => [a.2]) (fun a => Row a.1.now ∧ (raisedX a.1.now a.2).isSome = true) (fun a => cl K ((raisedX a.1.now a.2).getD .st)))
theorem ok_RT_put (T : TxM K (cT K) "put" "Table.put" s_T_put ["self", "place"]) (TB0 : Tb K mg (cT K)) (RS : D_R_raised P w K mg base) (GC : D_T_change P w K mg base) : D_RT_put P w K mg base := by
  refine DmX.mk T sc_T_put (fun _ => rfl) fun a p hp f cdv A outer s H E hr tk => ?_
  obtain ⟨t, d⟩ := a
  exact r_ret (r_methA (i := 0) GC TB0.cl hr (a_here (r_call (t.now, d) tk RS hr (a_cons (x_fldG (i := 0) TB0.cl TB0.n2 tf_now (fun _ _ _ _ _ _ h => h.now) rfl) (a_cons (xv 1 rfl) a_nil)) hp rfl) a_never) rfl)
/-! ### RT_undo -/
abbrev D_RT_undo (P : Program) (w : World) (K : PySem.W.Frag) (mg : Str → Option Value) (base : Heap) : Prop := DmX P w K mg base 1 (cT K) "undo" ["self"] (spTX (cT K) (fun (a : Tst) => a) (fun a => []) (fun a => a.er = []) (fun _ => cl K .un))
theorem ok_RT_undo (T : TxM K (cT K) "undo" "Table.undo" s_T_undo ["self"]) (TB0 : Tb K mg (cT K)) (Z : Xf K mg) : D_RT_undo P w K mg base := by
  refine DmX.mk T sc_T_undo (fun _ => rfl) fun t p hp f cdv A outer s H E hr tk => ?_
  have hp : t.er = [] := hp
  exact r_ifT (tv_is (tx_cmp (op_eqD hr.units) (x_fldG (i := 0) TB0.cl TB0.n3 tf_earlier (fun _ _ _ _ _ _ h => h.er) rfl) (x_lst a_nil) (rd_eqLT (b := []))) (decide_eq_true hp)) (r_raise tk (Z.k .un))
/-! ### RT_redo -/
abbrev D_RT_redo (P : Program) (w : World) (K : PySem.W.Frag) (mg : Str → Option Value) (base : Heap) : Prop := DmX P w K mg base 1 (cT K) "redo" ["self"] (spTX (cT K) (fun (a : Tst) => a) (fun a => []) (fun a => a.un = []) (fun _ => cl K .un))
theorem ok_RT_redo (T : TxM K (cT K) "redo" "Table.redo" s_T_redo ["self"]) (TB0 : Tb K mg (cT K)) (Z : Xf K mg) : D_RT_redo P w K mg base := by
  refine DmX.mk T sc_T_redo2 (fun _ => rfl) fun t p hp f cdv A outer s H E hr tk => ?_
  have hp : t.un = [] := hp
  exact r_ifT (tv_is (tx_cmp (op_eqD hr.units) (x_fldG (i := 0) TB0.cl TB0.n4 tf_undone (fun _ _ _ _ _ _ h => h.un) rfl) (x_lst a_nil) (rd_eqLT (b := []))) (decide_eq_true hp)) (r_raise tk (Z.k .un))
/-! ### T_row -/
theorem sc_T_row : FnScope ["self"] ["self"] (defScope s_T_row) := ⟨rfl, rfl, rfl, by decide +kernel, rfl, by decide +kernel, by decide +kernel⟩
abbrev D_T_row (P : Program) (w : World) (K : PySem.W.Frag) (mg : Str → Option Value) (base : Heap) : Prop := Dm P w K mg base 1 (cT K) "row" ["self"] (spTF (cT K) (fun (a : Tst) => a) (fun a => []) (fun _ => True) fun a z => z = tI a.now)
theorem ok_T_row (T : TxM K (cT K) "row" "Table.row" s_T_row ["self"]) (TB0 : Tb K mg (cT K)) : D_T_row P w K mg base := by
  refine Dm.mkF T sc_T_row (fun _ => rfl) fun t p hp f cdv A outer s H E hr => ?_
  exact s_ret (x_fldG (i := 0) TB0.cl TB0.n2 tf_now (fun _ _ _ _ _ _ h => h.now) rfl) rfl
/-! ### T_len -/
theorem sc_T_len : FnScope ["self"] ["self"] (defScope s_T_len) := ⟨rfl, rfl, rfl, by decide +kernel, rfl, by decide +kernel, by decide +kernel⟩
abbrev D_T_len (P : Program) (w : World) (K : PySem.W.Frag) (mg : Str → Option Value) (base : Heap) : Prop := Dm P w K mg base 1 (cT K) "__len__" ["self"] (spTF (cT K) (fun (a : Tst) => a) (fun a => []) (fun _ => True) fun a z => z = .int ((a.er.length : Nat) : Int))
theorem ok_T_len (T : TxM K (cT K) "__len__" "Table.__len__" s_T_len ["self"]) (TB0 : Tb K mg (cT K)) (B : Bl mg) : D_T_len P w K mg base := by
  refine Dm.mkF T sc_T_len (fun _ => rfl) fun t p hp f cdv A outer s H E hr => ?_
  exact s_ret (xv_is (x_callB call_len_seq B.len (a_cons (x_fldG (i := 0) TB0.cl TB0.n3 tf_earlier (fun _ _ _ _ _ _ h => h.er) rfl) a_nil) rc_lenL) (by rw [List.length_map])) rfl
end
end Sr
set_option Elab.async false
set_option linter.all false
set_option maxRecDepth 100000
set_option maxHeartbeats 1000000
namespace Sr
open PySem PySem.Spec PyProof.Rows L2 Pd
section
variable {P : Program} {w : World} {K : PySem.W.Frag} {mg : Str → Option Value} {base : Heap}
theorem tx_mk {h : Heap} {x : Str} {st : Stmt} {ps : List Str} {f : Addr} {oc kV doc pm cdv ct : Value} {od an : Option Addr} {sl : Array (Option Value)} (X : K.In h) (G : h.Ns mainGlobals mg) (a : PySem.W.nsIn K mainGlobals x = some (some (.ref f)))
    (l : K.lookup f = some ⟨oc, od, .func (PySem.W.fnOf x x (defArgs st) (defBody st) (defScope st) .none kV doc pm an cdv ct), sl⟩) (c : PySem.W.codeIn K cdv x = true) (k : PySem.W.keepIn K (.ref f) = true)
    (hb : ∀ (kV doc pm : Value) (an : Option Addr) (cdv ct : Value) (us : List Value), us.length = ps.length → bindArgs (PySem.W.fnOf x x (defArgs st) (defBody st) (defScope st) .none kV doc pm an cdv ct) ⟨us, []⟩ = pure (ps.zip us)) : Tx K mg x st ps :=
  ⟨f, _, fun_mk l c k, PySem.W.mg_of X G a, k, (fun_mk (st := st) l c k).binds hb⟩
/-! ### a law with a table: for dice in _law_rounds(script, most): body / return True -/
/-- the name of a lambda of the law -/
def lamN : Str := (envOfC "law" (defScope s_law) 0 0 .none).qual ++ "<lambda>"
def spLaw (K : PySem.W.Frag) (T : List (Addr × Str)) : Sp := fun vs H Q _ => ∃ (a : Addr) (ns : List Int), vs = [.ref a] ∧ SqL K H a (ns.map V.int) ∧ ns.length ≤ 63 ∧ LamX.Tabs T H ∧ ∀ H', Q (.bl true) H'
theorem gd_dice {n : Nat} {σ : L2.St} {H : Hp} {q : Addr} {c k : Int} {T : List (Addr × Str)} (hl : σ.length = n + 2) (h1 : σ[1]? = some (some (.ref q))) (hq : H q = some (.lst [.int c, .int k])) (ht : LamX.Tabs T H) :
    Gd ⟨H, fun _ => False, fun a => a = q ∨ ∃ ps, H a = some (.tbl ps), fun _ => False, fun a => a = q, T⟩ (fun a => a = q) σ H ([.tab T, .dice] ++ List.replicate n .no) := by
  have other : ∀ (i : Nat) (s : Sl), i ≠ 1 → i ≠ 0 → ([Sl.tab T, Sl.dice] ++ List.replicate n Sl.no)[i]? = some s → s = .no := fun i s hi hi0 h => by
    match i, hi, hi0 with
    | 0, _, hi0 => exact absurd rfl hi0
    | 1, hi, _ => exact absurd rfl hi
    | i + 2, _, _ =>
      have h' : (List.replicate n Sl.no)[i]? = some s := by simpa using h
      have := List.mem_of_getElem? h'
      simp at this
      exact this.2
  refine ⟨by simp [hl], fun i x s e1 e2 => ?_, fun i j p s t hij e1 e2 e3 e4 m1 m2 => ?_, fun a ha => ?_, fun a h => h.elim, fun a o h _ => h, fun a h => h.elim, fun a o h1 h2 => ⟨o, h1, h2⟩, fun a h => .inl h, ht⟩
  · by_cases hi : i = 1
    · subst hi
      rw [h1] at e1
      cases e1
      cases e2
      exact ⟨q, c, k, rfl, rfl, .inr (.inl rfl), hq⟩
    · by_cases hi0 : i = 0
      · subst hi0
        cases e2
        exact ⟨rfl, fun a ps h => .inr ⟨ps, h⟩⟩
      · rw [other i s hi hi0 e2]
        trivial
  · have nm : ∀ (i : Nat) (s : Sl), ([Sl.tab T, Sl.dice] ++ List.replicate n Sl.no)[i]? = some s → s.mut = true → i = 1 := fun i s h hm => by
      by_cases hi : i = 1
      · exact hi
      · by_cases hi0 : i = 0
        · subst hi0; cases h; cases hm
        · rw [other i s hi hi0 h] at hm; cases hm
    exact hij ((nm i s e3 m1).trans (nm j t e4 m2).symm)
  · have : a = q := ha
    rw [this]
    exact ⟨_, hq, nw_lst⟩
theorem law_ok {st : Stmt} {N : List Str} {k n : Nat} {most : Int} {body : List Stmt} {p1 p2 p3 p4 p5 p6 p7 p8 : Pos} {j1 j2} {T : List (Addr × Str)} {f : Addr} {kV doc pm cdv ct oc : Value} {an od : Option Addr} {osl : Array (Option Value)}
    (lk : K.lookup f = some ⟨oc, od, .func (PySem.W.fnOf "law" "law" (defArgs st) (defBody st) (defScope st) .none kV doc pm an cdv ct), osl⟩) (hcd : PySem.W.codeIn K cdv "law" = true) (S : FnScope N ["script"] (defScope st)) (G : D_rounds P w K mg base)
    (hb : defBody st = [.For (.Name "dice" p1) (.Call (.Name "_law_rounds" p2) [.Name "script" p3, .Constant (.int most) j1 p4] [] p5) body [] p6, .Return (some (.Constant (.bool true) j2 p7)) p8])
    (hN0 : N[0]? = some ("script" : Str)) (hN1 : N[1]? = some ("dice" : Str)) (hn : N.length = n + 2) (hv : Vis (defScope st) "script") (hl : Loc (defScope st) "dice") (hg : (defScope st).names.lookup ("_law_rounds" : Str) = some NameKind.globalImplicit) (hm : 1 ≤ most ∧ most < 1000) (hk : 2 ≤ k)
    (hbody : ∀ (A : Around) (outer : List Env) (s : Shared) (H : Hp), Room k (A.deeper (envOfC "law" (defScope st) s.heap.objs.size f cdv)) →
      SXs (cxOf CX0 P w K mg base N "law" (defScope st) f cdv A outer s H E0).nox body ([.tab T, .dice] ++ List.replicate n .no) (fun ρ => ρ.length = n + 2) (fun _ => False)) :
    FnOk P w K mg base CX0 (k + 1) f (PySem.W.fnOf "law" "law" (defArgs st) (defBody st) (defScope st) .none kV doc pm an cdv ct) ["script"] (spLaw K T) := by
  obtain ⟨f1, fd1, hh1, G1⟩ := G
  refine fn_of lk hcd S (fun vs H Q E h => ?_) fun A outer s H vs Q E hr h => ?_
  · obtain ⟨a, ns, rfl, _⟩ := h
    rfl
  · obtain ⟨a, ns, rfl, hS, hlen, hT0, q⟩ := h
    rw [hb]
    have hbody' : SXs (cxOf CX0 P w K mg base N "law" (defScope st) f cdv A outer s H E).nox body ([.tab T, .dice] ++ List.replicate n .no) (fun ρ => ρ.length = n + 2) (fun _ => False) := hbody A outer s H hr
    refine ⟨_, PSs.nox (pss_cons (ps_for PassesOwn.never rfl (pi_list (pe_call G1 (hr.mono hk) hg hh1.gl hh1.kp hh1.bd .nil pass0 (pa_cons (pe_var (i := 0) hN0 hv) (pa_cons pe_int pa_nil)))) (pg_name (i := 1) S.nd hN1 hl) hbody') (pss_one (ps_ret pe_bl))), ?_⟩
    have hlen0 : (L2.start N [.ref a]).length = n + 2 := by unfold L2.start; simp [hn]
    refine ⟨.ref a, rfl, a, ns, most, rfl, hS, hlen, hm.1, hm.2, fun p qs H1 e1 hp hnd hq => ⟨p, rfl, ⟨_, SqL.of hp⟩, ?_⟩⟩
    refine for_list (K := K) (a := p) (xs := qs.map V.ref) (g := gName 1) (tb := tS ([.tab T, .dice] ++ List.replicate n .no) (fun ρ => ρ.length = n + 2) (fun _ => False)) (fun i σ' H' => σ'.length = n + 2 ∧ H' p = some (.lst (qs.map V.ref)) ∧ LamX.Tabs T H' ∧ ∀ (j : Nat) (x : Addr), i ≤ j → qs[j]? = some x → x ≠ p ∧ ∃ c k : Int, H' x = some (.lst [.int c, .int k]))
      ⟨hlen0, hp, hT0.ext e1, fun j x _ hx => hq x (List.mem_of_getElem? hx)⟩ (fun i σ' H' _ hP => SqL.of hP.2.1) (fun i x σ' H' hx hP => ?_) (fun σ' H' hP => ?_)
    rotate_left
    · exact q H'
    obtain ⟨hl', hp', ht', hq'⟩ := hP
    rw [List.getElem?_map] at hx
    cases hqi : qs[i]? with
    | none => rw [hqi] at hx; cases hx
    | some y =>
      rw [hqi] at hx
      cases hx
      obtain ⟨hyp, c, k', hy⟩ := hq' i y (Nat.le_refl _) hqi
      have g := gd_dice (σ := σ'.set 1 (some (.ref y))) (n := n) (by rw [List.length_set]; exact hl') (by rw [List.getElem?_set_self (by omega)]) hy ht'
      refine ⟨_, _, g, fun ρ' O' σ'' H'' hρ g' => ⟨by rw [g'.len]; exact hρ, g'.ext p _ hp' (fun z => ?_), g'.tb, fun j x hj hx => ?_⟩, fun d v O' H'' hf _ _ => hf.elim⟩
      · rcases z with z | ⟨ps, z⟩
        · exact hyp z.symm
        · rw [hp'] at z; cases z
      · obtain ⟨hxp, c2, k2, hx2⟩ := hq' j x (by omega) hx
        refine ⟨hxp, c2, k2, g'.ext x _ hx2 fun z => ?_⟩
        rcases z with z | ⟨ps, z⟩
        · subst z
          exact absurd (L2.nd_ix hnd hqi hx) (by omega)
        · rw [hx2] at z; cases z
end
end Sr
namespace Sr
open PySem PySem.Spec PyProof.Rows L2 Pd
theorem walk_T {l : PySem.W.OpenLaw} {n k : Nat} {q : Program} {loose : List Str} {XP : (Str → Option Value) → Heap → Prop} {YP : World → Heap → Prop} {d : DefRec} {K : Params → PySem.W.Frag} {CX : World → CXT} {x : Str}
    (hn : l.most = some n) (hn2 : n ≤ sizeLine) (hdf : d.params.defaults = []) (hr : Room k callerA) (hY : ∀ (w : World) (h : Heap), YP w h → (K w.params).In h)
    (F : ∀ (w : World) (s₀ : Shared) (mg mb : Str → Option Value) (fa : Addr) (h : Heap), PySem.W.Ground q loose [] XP w s₀ mg mb h → (K w.params).In h → mg d.name = some (.ref fa) → LamX.LawAtS l w (K w.params) (CX w) k n x mg fa h)
    (hCX : ∀ (w : World) (H : Hp) (s : Shared) (e : Value) (s' : Shared), CX w [] H s (fun _ _ _ => False) e s' → False) :
    PySem.W.WalkO q loose XP YP l.row.toRowW d [] (fun f vs => PySem.call f vs) := by
  refine Att.attach_callB hn hdf fun w s₀ s₁ mg mb fa o pm cd doc a vs ns G Y ho hd hcd hmg hobj hints hlen hbits hg => ?_
  have KX := hY w _ Y
  obtain ⟨fd, cs, sp, hT, nT, C, hb, hsp, hF⟩ := F w s₀ mg mb fa _ G KX hmg
  exact LamX.law_callTs KX G.T.g G.T.b G.T.builtins G.T.nolimit hg hT nT C G.T.bmain hobj hints (Nat.le_trans hlen hn2) hr hF hb (fun H hH hS => hsp H a ns hlen hbits hH hS) fun H e s' => hCX w H s₁ e s'
theorem tabIn_of {K : PySem.W.Frag} {x : Str} {f c Pt : Addr} {oc o2 : Value} {od d2 : Option Addr} {fd : FuncData} {sl s2 : Array (Option Value)} {vs : Array Value} (a : PySem.W.nsIn K mainGlobals x = some (some (.ref f))) (l : K.lookup f = some ⟨oc, od, .func fd, sl⟩) (hc : fd.code = .ref c) (l2 : K.lookup c = some ⟨o2, d2, .fields vs, s2⟩)
    (hv : vs[11]? = some (.ref Pt)) : PySem.W.tabIn K x = some (c, Pt) := by
  unfold PySem.W.tabIn
  rw [a]
  simp only []
  rw [l]
  simp only []
  rw [hc]
  simp only []
  rw [l2]
  simp only []
  rw [hv]
/-- the law's own def, for the end -/
theorem end_T {l : PySem.W.OpenLaw} {w : World} {K : PySem.W.Frag} {h : Heap} {mg mb : Str → Option Value} {q : Program} {loose : List Str} {mean : ExcName → Option Value} {fa f c Pt : Addr} {k : Nat} {oc kV doc pm ct o2 : Value} {od an d2 : Option Addr} {sl s2 : Array (Option Value)} {vs : Array Value} (X : K.In h) (T : Top q loose mean mg mb h) (hfa : mg "law" = some (.ref fa))
    (a : PySem.W.nsIn K mainGlobals "law" = some (some (.ref f))) (lk : K.lookup f = some ⟨oc, od, .func (PySem.W.fnOf "law" "law" (defArgs s_law) (defBody s_law) (defScope s_law) .none kV doc pm an (.ref c) ct), sl⟩) (cd : PySem.W.codeIn K (.ref c) "law" = true)
    (l2 : K.lookup c = some ⟨o2, d2, .fields vs, s2⟩) (hv : vs[11]? = some (.ref Pt)) (hr : ((recsOf q).find? (fun e => e.name == ("law" : Str))).isSome = true) (nT : K.lookup Pt = none)
    (ok : K.lookup f = some ⟨oc, od, .func (PySem.W.fnOf "law" "law" (defArgs s_law) (defBody s_law) (defScope s_law) .none kV doc pm an (.ref c) ct), sl⟩ → PySem.W.codeIn K (.ref c) "law" = true → ∀ base : Heap, K.In base → base.Ns mainGlobals mg → LamX.TabB base mg c Pt → FnOk l.prog w K mg base CX0 k f (PySem.W.fnOf "law" "law" (defArgs s_law) (defBody s_law) (defScope s_law) .none kV doc pm an (.ref c) ct) ["script"] (spLaw K [(Pt, lamN)]))
    (hb : ∀ (s : Shared) (v : Value), BindsTo s (PySem.W.fnOf "law" "law" (defArgs s_law) (defBody s_law) (defScope s_law) .none kV doc pm an (.ref c) ct) ⟨[v], []⟩ [("script", v)]) :
    LamX.LawAtS l w K CX0 k 63 "script" mg fa h := by
  have e := hfa.symm.trans (PySem.W.mg_of X T.g a)
  cases e
  obtain ⟨d, hr⟩ := Option.isSome_iff_exists.mp hr
  obtain ⟨C, ht⟩ := PySem.W.tab_of T X hr (tabIn_of a lk rfl l2 hv)
  have one : ∀ p ∈ [(c, Pt)], p = (c, Pt) := fun p hp => List.mem_singleton.mp hp
  refine ⟨_, [(c, Pt)], spLaw K [(Pt, lamN)], fun p hp => by rw [one p hp]; exact ht, fun p hp => by rw [one p hp]; exact nT, fun p hp => by rw [one p hp]; exact C, hb, fun H a ns hl _ hH hS => ⟨a, ns, rfl, hS, hl, fun p hp => ?_, fun _ => rfl⟩, fun base h1 h2 h3 => ok lk cd base h1 h2 (h3 (c, Pt) List.mem_cons_self)⟩
  rw [List.mem_singleton.mp hp]
  exact LamX.TabS.nil (hH (c, Pt) List.mem_cons_self)
theorem tx_use {goal : Prop} {K : PySem.W.Frag} {mg : Str → Option Value} {h : Heap} (x : Str) (st : Stmt) (ps : List Str) {f : Addr} {oc kV doc pm cdv ct : Value} {od an : Option Addr} {sl : Array (Option Value)} (X : K.In h) (G : h.Ns mainGlobals mg) (a : PySem.W.nsIn K mainGlobals x = some (some (.ref f)))
    (l : K.lookup f = some ⟨oc, od, .func (PySem.W.fnOf x x (defArgs st) (defBody st) (defScope st) .none kV doc pm an cdv ct), sl⟩) (c : PySem.W.codeIn K cdv x = true) (k : PySem.W.keepIn K (.ref f) = true)
    (hb : ∀ (kV doc pm : Value) (an : Option Addr) (cdv ct : Value) (us : List Value), us.length = ps.length → bindArgs (PySem.W.fnOf x x (defArgs st) (defBody st) (defScope st) .none kV doc pm an cdv ct) ⟨us, []⟩ = pure (ps.zip us)) (go : Tx K mg x st ps → goal) : goal :=
  go (tx_mk X G a l c k hb)
theorem bl_use {goal : Prop} {K : PySem.W.Frag} {mg : Str → Option Value} {h : Heap} (X : K.In h) (G : h.Ns mainGlobals mg) (b0 : PySem.W.nsIn K mainGlobals "isinstance" = some none) (b1 : PySem.W.nsIn K mainGlobals "int" = some none) (b2 : PySem.W.nsIn K mainGlobals "bool" = some none) (b3 : PySem.W.nsIn K mainGlobals "tuple" = some none) (b4 : PySem.W.nsIn K mainGlobals "list" = some none) (b5 : PySem.W.nsIn K mainGlobals "len" = some none)
    (b6 : PySem.W.nsIn K mainGlobals "all" = some none) (b7 : PySem.W.nsIn K mainGlobals "any" = some none) (b8 : PySem.W.nsIn K mainGlobals "sum" = some none) (b9 : PySem.W.nsIn K mainGlobals "range" = some none) (b10 : PySem.W.nsIn K mainGlobals "enumerate" = some none) (b11 : PySem.W.nsIn K mainGlobals "min" = some none) (b12 : PySem.W.nsIn K mainGlobals "max" = some none) (b13 : PySem.W.nsIn K mainGlobals "sorted" = some none) (b14 : PySem.W.nsIn K mainGlobals "str" = some none)
    (b15 : PySem.W.nsIn K mainGlobals "ValueError" = some none) (b16 : PySem.W.nsIn K mainGlobals "set" = some none) (b17 : PySem.W.nsIn K mainGlobals "dict" = some none) (go : Bl mg → goal) : goal :=
  go ⟨PySem.W.mg_none_of X G b0, PySem.W.mg_none_of X G b1, PySem.W.mg_none_of X G b2, PySem.W.mg_none_of X G b3, PySem.W.mg_none_of X G b4, PySem.W.mg_none_of X G b5, PySem.W.mg_none_of X G b6, PySem.W.mg_none_of X G b7, PySem.W.mg_none_of X G b8, PySem.W.mg_none_of X G b9, PySem.W.mg_none_of X G b10, PySem.W.mg_none_of X G b11, PySem.W.mg_none_of X G b12, PySem.W.mg_none_of X G b13, PySem.W.mg_none_of X G b14, PySem.W.mg_none_of X G b15, PySem.W.mg_none_of X G b16, PySem.W.mg_none_of X G b17⟩
end Sr
set_option Elab.async false
set_option linter.all false
set_option maxRecDepth 100000
set_option maxHeartbeats 1000000
/-! Small words for the laws' bodies. -/
namespace Sr
open PySem PySem.Spec PyProof.Rows L2 Pd
section
variable {X : Cx} {ρ : List Sl} {c : Expr} {ta tb rest : List Stmt} {pos : Pos} {mid nx : List Sl → Prop} {rt : PyData → Prop}
theorem s_ifTT (hc : TV X c ρ true) (h : SXs X ta ρ mid rt) (k : ∀ ρ', mid ρ' → SXs X rest ρ' nx rt) : SXs X (.If c ta tb pos :: rest) ρ nx rt := s_if hc (fun _ => h) (fun z => nomatch z) k
theorem s_ifFF (hc : TV X c ρ false) (h : SXs X tb ρ mid rt) (k : ∀ ρ', mid ρ' → SXs X rest ρ' nx rt) : SXs X (.If c ta tb pos :: rest) ρ nx rt := s_if hc (fun z => nomatch z) (fun _ => h) k
/-- a != ("error", "NAME") -/
theorem tn_res {e : Expr} {nm : Str} {q : Ec} {j1 j2 k : Nat} {p1 p2 p3 : Pos} (hu : X.A.units + 64 < cLine) (h : XV X e ρ (res q)) (hn : q.nm = nm := by rfl) : TV X (.Compare e [.NotEq] [.Tuple [.Constant (.str "error") j1 p1, .Constant (.str nm) j2 p2] k p3] pos) ρ false := by
  subst hn
  exact tv_is (tx_cmp (op_neD hu) h (xv_is (x_tup (a_cons x_str (a_cons x_str a_nil))) (show _ = res q from rfl)) rd_neRes) (ndec rfl)
end
end Sr
namespace Sr
open PySem PySem.Spec PyProof.Rows L2 Pd
section
variable {X : Cx} {ρ : List Sl} {pos : Pos}
theorem xv_of {e : Expr} {φ : PyData → Prop} {d : PyData} (h : XE X e ρ φ) (k : ∀ z, φ z → z = d) : XV X e ρ d := XE.mono h k
/-- [a, b][_law_roll(dice, 2)] -/
theorem X_pick2 {a b : Int} {i1 i2 j : Nat} {p0 p1 p2 p3 p4 p5 p6 : Pos} (i : Nat) {y : Str} {k : Nat} (G : D_roll X.prog X.w X.K X.mg X.base) (hr : Room k X.A) (hj : 2 ≤ k := by decide) (hi : ρ[i]? = some .dice := by rfl) (hN : X.N[i]? = some y := by rfl) (hv : Vis X.env.scope y := by first | exact Or.inl rfl | exact Or.inr (Or.inl rfl) | exact Or.inr (Or.inr rfl)) (hg : Gl X "_law_roll" := by rfl)
    (hyb : (y == ("__debug__" : Str)) = false := by decide) (hyc : (y == ("__classdict__" : Str)) = false := by decide) :
    XE X (.Subscript (.List [.Constant (.int a) i1 p1, .Constant (.int b) i2 p2] p3) (.Call (.Name "_law_roll" p4) [.Name y p5, .Constant (.int 2) j p6] [] p0) pos) ρ (fun z => z = .int a ∨ z = .int b) := by
  refine X_ix ix_list (x_lst (ds := [.int a, .int b]) (a_cons x_int (a_cons x_int a_nil))) (x_fD i 2 G hr (a_cons x_int a_nil) ⟨by decide, by decide⟩ rfl hj hi hN hv hg (by decide) hyb hyc) fun d e hd he => ?_
  have hd : d = .list [.int a, .int b] := hd
  subst hd
  obtain ⟨r, r0, r1, rfl⟩ := he
  obtain ⟨m, rfl⟩ : ∃ m : Nat, r = (m : Int) := ⟨r.toNat, by omega⟩
  match m, r1 with
  | 0, _ => exact (rd_ixL (K := X.K) (ds := [.int a, .int b]) (j := 0) (ixN_nat rfl (show 0 < 2 by decide)) rfl).mono fun z hz => .inl hz
  | 1, _ => exact (rd_ixL (K := X.K) (ds := [.int a, .int b]) (j := 1) (ixN_nat rfl (show 1 < 2 by decide)) rfl).mono fun z hz => .inr hz
/-- xs[_law_roll(dice, len(xs))], xs a list of rows -/
theorem X_drawL {L : List (List Int)} {e e2 : Expr} {p0 p1 p2 p3 p4 : Pos} (i : Nat) {y : Str} {k : Nat} (G : D_roll X.prog X.w X.K X.mg X.base) (B : Bl X.mg) (hr : Room k X.A) (h : XV X e ρ (.list (L.map tI))) (h2 : XV X e2 ρ (.list (L.map tI))) (h0 : 0 < L.length) (h1 : L.length < 1000) (hj : 2 ≤ k := by decide) (hi : ρ[i]? = some .dice := by rfl) (hN : X.N[i]? = some y := by rfl) (hv : Vis X.env.scope y := by first | exact Or.inl rfl | exact Or.inr (Or.inl rfl) | exact Or.inr (Or.inr rfl)) (hg : Gl X "_law_roll" := by rfl) (hg2 : Gl X "len" := by rfl)
    (hyb : (y == ("__debug__" : Str)) = false := by decide) (hyc : (y == ("__classdict__" : Str)) = false := by decide) (hs : starEach [e2] X.env = (false, eval e2 X.env) :: starEach [] X.env := by rfl) :
    XE X (.Subscript e (.Call (.Name "_law_roll" p1) [.Name y p2, .Call (.Name "len" p3) [e2] [] p4] [] p0) pos) ρ (fun z => ∃ r, r ∈ L ∧ z = tI r) := by
  refine X_ix ix_list h (x_fD i (((L.map tI).length : Nat) : Int) G hr (a_cons (x_callB call_len_seq B.len (a_cons h2 a_nil hs) rc_lenL hg2 (he := hs)) a_nil) ⟨by rw [List.length_map]; omega, by rw [List.length_map]; omega⟩ rfl hj hi hN hv hg (by decide) hyb hyc) fun d e hd he => ?_
  have hd : d = .list (L.map tI) := hd
  subst hd
  obtain ⟨r, r0, r1, rfl⟩ := he
  obtain ⟨m, rfl⟩ : ∃ m : Nat, r = (m : Int) := ⟨r.toNat, by omega⟩
  have hm : m < L.length := by rw [List.length_map] at r1; omega
  exact (rd_ixL (K := X.K) (j := m) (ixN_nat rfl (by rw [List.length_map]; exact hm)) (by rw [List.getElem?_map, List.getElem?_eq_getElem hm]; rfl)).mono fun z hz => ⟨_, List.getElem_mem hm, hz⟩
/-- xs[_law_roll(dice, len(xs))], xs a tuple of rows -/
theorem X_drawT {L : List (List Int)} {e e2 : Expr} {p0 p1 p2 p3 p4 : Pos} (i : Nat) {y : Str} {k : Nat} (G : D_roll X.prog X.w X.K X.mg X.base) (B : Bl X.mg) (hr : Room k X.A) (h : XV X e ρ (.tuple (L.map tI))) (h2 : XV X e2 ρ (.tuple (L.map tI))) (h0 : 0 < L.length) (h1 : L.length < 1000) (hj : 2 ≤ k := by decide) (hi : ρ[i]? = some .dice := by rfl) (hN : X.N[i]? = some y := by rfl) (hv : Vis X.env.scope y := by first | exact Or.inl rfl | exact Or.inr (Or.inl rfl) | exact Or.inr (Or.inr rfl)) (hg : Gl X "_law_roll" := by rfl) (hg2 : Gl X "len" := by rfl)
    (hyb : (y == ("__debug__" : Str)) = false := by decide) (hyc : (y == ("__classdict__" : Str)) = false := by decide) (hs : starEach [e2] X.env = (false, eval e2 X.env) :: starEach [] X.env := by rfl) :
    XE X (.Subscript e (.Call (.Name "_law_roll" p1) [.Name y p2, .Call (.Name "len" p3) [e2] [] p4] [] p0) pos) ρ (fun z => ∃ r, r ∈ L ∧ z = tI r) := by
  refine X_ix ix_tup h (x_fD i (((L.map tI).length : Nat) : Int) G hr (a_cons (x_callB call_len_seq B.len (a_cons h2 a_nil hs) rc_lenT hg2 (he := hs)) a_nil) ⟨by rw [List.length_map]; omega, by rw [List.length_map]; omega⟩ rfl hj hi hN hv hg (by decide) hyb hyc) fun d e hd he => ?_
  have hd : d = .tuple (L.map tI) := hd
  subst hd
  obtain ⟨r, r0, r1, rfl⟩ := he
  obtain ⟨m, rfl⟩ : ∃ m : Nat, r = (m : Int) := ⟨r.toNat, by omega⟩
  have hm : m < L.length := by rw [List.length_map] at r1; omega
  exact (rd_ixT (K := X.K) (j := m) (ixN_nat rfl (by rw [List.length_map]; exact hm)) (by rw [List.getElem?_map, List.getElem?_eq_getElem hm]; rfl)).mono fun z hz => ⟨_, List.getElem_mem hm, hz⟩
end
end Sr
namespace Sr
open PySem PySem.Spec PyProof.Rows L2 Pd
/-- the law's own def, for the end of a law without a table -/
theorem end_N {l : PySem.W.OpenLaw} {w : World} {K : PySem.W.Frag} {h : Heap} {mg : Str → Option Value} {fa f : Addr} {k : Nat} {oc kV doc pm cdv ct : Value} {od an : Option Addr} {sl : Array (Option Value)} (X : K.In h) (G : h.Ns mainGlobals mg) (hfa : mg "law" = some (.ref fa))
    (a : PySem.W.nsIn K mainGlobals "law" = some (some (.ref f))) (lk : K.lookup f = some ⟨oc, od, .func (PySem.W.fnOf "law" "law" (defArgs s_law) (defBody s_law) (defScope s_law) .none kV doc pm an cdv ct), sl⟩) (c : PySem.W.codeIn K cdv "law" = true)
    (ok : K.lookup f = some ⟨oc, od, .func (PySem.W.fnOf "law" "law" (defArgs s_law) (defBody s_law) (defScope s_law) .none kV doc pm an cdv ct), sl⟩ → PySem.W.codeIn K cdv "law" = true → ∀ base : Heap, K.In base → base.Ns mainGlobals mg → FnOk l.prog w K mg base CX0 k f (PySem.W.fnOf "law" "law" (defArgs s_law) (defBody s_law) (defScope s_law) .none kV doc pm an cdv ct) ["script"] (spLaw K []))
    (hb : ∀ (s : Shared) (v : Value), BindsTo s (PySem.W.fnOf "law" "law" (defArgs s_law) (defBody s_law) (defScope s_law) .none kV doc pm an cdv ct) ⟨[v], []⟩ [("script", v)]) :
    ∃ fd : FuncData, (∀ (s : Shared) (v : Value), BindsTo s fd ⟨[v], []⟩ [("script", v)]) ∧ ∀ base : Heap, K.In base → base.Ns mainGlobals mg → FnOk l.prog w K mg base CX0 k fa fd ["script"] (spLaw K []) := by
  have e := hfa.symm.trans (PySem.W.mg_of X G a)
  cases e
  exact ⟨_, hb, fun base h1 h2 => ok lk c base h1 h2⟩
end Sr
set_option Elab.async false
set_option linter.all false
set_option maxRecDepth 100000
set_option maxHeartbeats 600000
namespace Sr
open PySem PySem.Spec PyProof.Rows L2 Pd
section
variable {P : Program} {w : World} {K : PySem.W.Frag} {mg : Str → Option Value} {base : Heap}
/-- the names of deeds -/
inductive Nm where
  | sl | pu | se | un | re
def Nm.s : Nm → Str
  | .sl => "slide" | .pu => "put" | .se => "settle" | .un => "undo" | .re => "redo"
def chg (t : Tst) (r : List Int) : Tst := ⟨t.st, r, t.er ++ [t.now], []⟩
def dnX (t : Tst) (n : Nm) (q : Nat) : Option Ec := match n with
  | .sl => slidX t.st t.now (.int ((q : Nat) : Int))
  | .pu => raisedX t.now (.int ((q : Nat) : Int))
  | .se => none
  | .un => if t.er = [] then some .un else none
  | .re => if t.un = [] then some .un else none
def dnT (t : Tst) (n : Nm) (q : Nat) : Tst := match n with
  | .sl => chg t (mv t.now q)
  | .pu => chg t (rsL t.now q)
  | .se => chg t (endL t.st t.now)
  | .un => ⟨t.st, t.er.getLastD [], t.er.dropLast, t.un ++ [t.now]⟩
  | .re => ⟨t.st, t.un.getLastD [], t.er ++ [t.now], t.un.dropLast⟩
/-- what a deed answers, what it leaves -/
def dnR (t : Tst) (n : Nm) (q : Nat) : PyData × Tst := match dnX t n q with
  | some c => (res c, t)
  | none => (tI (dnT t n q).now, dnT t n q)
theorem slid_free {s : Int} {ns : List Int} {q : Nat} (h : slidX s ns (.int ((q : Nat) : Int)) = none) : q ∈ freeN s ns := by
  unfold slidX at h
  split at h
  · split at h
    · rename_i h2
      exact mem_places.mp h2
    · cases h
  · cases h
theorem raised_can {ns : List Int} (hr : Row ns) {q : Nat} (h : raisedX ns (.int ((q : Nat) : Int)) = none) : CanPut ns q ∧ ns.sum < 18 := by
  unfold raisedX at h
  split at h
  · rename_i h1
    split at h
    · cases h
    · rename_i h2
      split at h
      · cases h
      · rename_i h3
        have hs := hr.sum
        have hq : q ≤ ns.length := by
          unfold isWhole at h1
          simp at h1
          omega
        refine ⟨⟨hq, ?_⟩, by omega⟩
        rcases Nat.eq_zero_or_pos q with z | z
        · exact .inl z
        · right
          have h4 : ¬ (ns.getD q 0 = ns.getD (q - 1) 0) := fun e => h3 ⟨by show (0 : Int) < (q : Int); omega, e⟩
          have := hr.falls (q - 1)
          rw [show q - 1 + 1 = q by omega] at this
          omega
  · cases h
theorem last_split {L : List (List Int)} (h : L ≠ []) : L = L.dropLast ++ [L.getLastD []] := by
  rw [List.getLastD_eq_getLast?, List.getLast?_eq_getLast h]
  exact (List.dropLast_concat_getLast h).symm
abbrev N_done : List Str := ["table", "name", "place", "."]
theorem sc_done : FnScope N_done ["table", "name", "place"] (defScope s_law_done) := ⟨rfl, rfl, rfl, by decide +kernel, rfl, by decide +kernel, by decide +kernel⟩
abbrev lamD : Str := (envOfC "_law_done" (defScope s_law_done) 0 0 .none).qual ++ "<lambda>"
abbrev D_done (P : Program) (w : World) (K : PySem.W.Frag) (mg : Str → Option Value) (base : Heap) (T : List (Addr × Str)) : Prop := Df P w K mg base 9 "_law_done" ["table", "name", "place"] (spTL (cT K) T (fun (a : Tst × Nm × Nat) => a.1) (fun a => [.str a.2.1.s, .int ((a.2.2 : Nat) : Int)]) (fun a => ((2 ≤ a.1.st ∧ a.1.st ≤ 4) ∧ Row a.1.now) ∧ a.1.er.length < 1000 ∧ a.1.un.length < 1000) fun a d t' => (d, t') = dnR a.1 a.2.1 a.2.2)
theorem asc_n (n : Nm) : n.s.cps.all (· < 128) = true := by cases n <;> decide +kernel
theorem ok_done {c Pt : Addr} {T : List (Addr × Str)} (Tt : TxC K mg "_law_done" s_law_done ["table", "name", "place"] c) (TB : LamX.TabB base mg c Pt) (hT : (Pt, lamD) ∈ T) (hu : ∀ p ∈ T, p.1 = Pt → p.2 = lamD) (TB0 : Tb K mg (cT K)) (GT : D_told P w K mg base)
    (GS : D_T_slide P w K mg base) (GP : D_T_put P w K mg base) (GE : D_T_settle P w K mg base) (GU : D_T_undo P w K mg base) (GR : D_T_redo P w K mg base) (RS : D_RT_slide P w K mg base) (RP : D_RT_put P w K mg base) (RU : D_RT_undo P w K mg base) (RR : D_RT_redo P w K mg base) : D_done P w K mg base T := by
  refine Df.mkTL 3 Tt sc_done (fun _ => rfl) (fun _ _ => rfl) fun a p hp f A outer s H E hr => ?_
  obtain ⟨t, n, q⟩ := a
  obtain ⟨⟨hst, hrow⟩, her, hun⟩ := hp
  have hst : 2 ≤ t.st ∧ t.st ≤ 4 := hst
  have hrow : Row t.now := hrow
  have her : t.er.length < 1000 := her
  have hun : t.un.length < 1000 := hun
  show PSs _ _ (tG [Sl.gn (tbG (cT K) p t) true false, .val (.str n.s), .val (.int ((q : Nat) : Int)), .tab T] (KT fun d ρ' => ∃ t', (d, t') = dnR t n q ∧ ρ'[0]? = some (.gn (tbG (cT K) p t') true false)))
  have yes : ∀ c0, dnX t n q = some c0 → ∀ d ρ', (d = res c0) ∧ ρ' = [Sl.gn (tbG (cT K) p t) true false, .val (.str n.s), .val (.int ((q : Nat) : Int)), .tab T] → ∃ t', (d, t') = dnR t n q ∧ ρ'[0]? = some (.gn (tbG (cT K) p t') true false) := fun c0 e d ρ' ⟨h1, h2⟩ => by
    subst h1 h2
    exact ⟨t, by unfold dnR; rw [e], rfl⟩
  have no : dnX t n q = none → ∀ d ρ' t', d = tI (dnT t n q).now → t' = dnT t n q → ρ' = [Sl.gn (tbG (cT K) p t') true false, .val (.str n.s), .val (.int ((q : Nat) : Int)), .tab T] → ∃ t', (d, t') = dnR t n q ∧ ρ'[0]? = some (.gn (tbG (cT K) p t') true false) := fun e d ρ' t' h1 h2 h3 => by
    subst h1 h2 h3
    exact ⟨_, by unfold dnR; rw [e], rfl⟩
  cases n with
  | sl =>
    refine g_if (k := true) (tv_is (tx_cmp (op_eqD hr.units) (xv 1 rfl) x_str (rd_eqS (asc_n .sl) (by decide +kernel))) (by decide +kernel)) (fun _ => ?_) (fun h => nomatch h)
    cases e : slidX t.st t.now (.int ((q : Nat) : Int)) with
    | some c0 => exact g_ret2 (PE.x2 (XE.x2 (x_toldE (T := T) (χ := fun z => z = res c0) (k := 6) (i0 := 3) GT TB rfl hT hu hr (LamX.lamS_by (sc := defScope s_law_done) (by decide +kernel)) c0 rfl (fun A' outer' s' H' E' f' c' hr' tk => r_meth (i := 0) (t, .int ((q : Nat) : Int)) tk RS TB0.cl hr' (a_cons (xv 2 rfl) a_nil) ⟨⟨hst, hrow⟩, by show (slidX _ _ _).isSome = true; rw [e]; rfl⟩ (by show cl K ((slidX _ _ _).getD .st) = _; rw [e]; rfl) rfl) (by decide) rfl)) (yes c0 e))
    | none =>
      refine g_ret2 (PE.x2 (ψ := fun d ρ' => ∃ t', (d = tI (mv t.now q) ∧ t' = ⟨t.st, mv t.now q, t.er ++ [t.now], []⟩) ∧ ρ' = ([Sl.gn (tbG (cT K) p t) true false, .val (.str Nm.sl.s), .val (.int ((q : Nat) : Int)), .tab T] : List Sl).set 0 (Sl.gn (tbG (cT K) p t') true false)) ?_ fun d ρ' ⟨t', ⟨h1, h2⟩, h3⟩ => no e d ρ' t' h1 h2 h3)
      refine x_told2 (T := T) (k := 6) (i0 := 3) GT TB rfl hT hu hr (LamX.lamS_by (sc := defScope s_law_done) (by decide +kernel)) ?_ (by decide) rfl
      intro A' outer' s' H' E' f' c' hr'
      exact PE.x2 (x_meth2 (i := 0) (t, q) GS TB0.cl hr' (a_cons (xv 2 rfl) a_nil) ⟨her, hst, hrow, slid_free e⟩ rfl) fun d ρ' ⟨t', h, h3⟩ => ⟨t', h, h3⟩
  | pu =>
    refine g_if (k := false) (tv_is (tx_cmp (op_eqD hr.units) (xv 1 rfl) x_str (rd_eqS (asc_n .pu) (by decide +kernel))) (by decide +kernel)) (fun h => nomatch h) (fun _ => ?_)
    refine g_if (k := true) (tv_is (tx_cmp (op_eqD hr.units) (xv 1 rfl) x_str (rd_eqS (asc_n .pu) (by decide +kernel))) (by decide +kernel)) (fun _ => ?_) (fun h => nomatch h)
    cases e : raisedX t.now (.int ((q : Nat) : Int)) with
    | some c0 => exact g_ret2 (PE.x2 (XE.x2 (x_toldE (T := T) (χ := fun z => z = res c0) (k := 6) (i0 := 3) GT TB rfl hT hu hr (LamX.lamS_by (sc := defScope s_law_done) (by decide +kernel)) c0 rfl (fun A' outer' s' H' E' f' c' hr' tk => r_meth (i := 0) (t, .int ((q : Nat) : Int)) tk RP TB0.cl hr' (a_cons (xv 2 rfl) a_nil) ⟨hrow, by show (raisedX _ _).isSome = true; rw [e]; rfl⟩ (by show cl K ((raisedX _ _).getD .st) = _; rw [e]; rfl) rfl) (by decide) rfl)) (yes c0 e))
    | none =>
      obtain ⟨cp, cs⟩ := raised_can hrow e
      refine g_ret2 (PE.x2 (ψ := fun d ρ' => ∃ t', (d = tI (rsL t.now q) ∧ t' = ⟨t.st, rsL t.now q, t.er ++ [t.now], []⟩) ∧ ρ' = ([Sl.gn (tbG (cT K) p t) true false, .val (.str Nm.pu.s), .val (.int ((q : Nat) : Int)), .tab T] : List Sl).set 0 (Sl.gn (tbG (cT K) p t') true false)) ?_ fun d ρ' ⟨t', ⟨h1, h2⟩, h3⟩ => no e d ρ' t' h1 h2 h3)
      refine x_told2 (T := T) (k := 6) (i0 := 3) GT TB rfl hT hu hr (LamX.lamS_by (sc := defScope s_law_done) (by decide +kernel)) ?_ (by decide) rfl
      intro A' outer' s' H' E' f' c' hr'
      exact PE.x2 (x_meth2 (i := 0) (t, q) GP TB0.cl hr' (a_cons (xv 2 rfl) a_nil) ⟨her, hrow, cp, cs⟩ rfl) fun d ρ' ⟨t', h, h3⟩ => ⟨t', h, h3⟩
  | se =>
    refine g_if (k := false) (tv_is (tx_cmp (op_eqD hr.units) (xv 1 rfl) x_str (rd_eqS (asc_n .se) (by decide +kernel))) (by decide +kernel)) (fun h => nomatch h) (fun _ => ?_)
    refine g_if (k := false) (tv_is (tx_cmp (op_eqD hr.units) (xv 1 rfl) x_str (rd_eqS (asc_n .se) (by decide +kernel))) (by decide +kernel)) (fun h => nomatch h) (fun _ => ?_)
    refine g_if (k := true) (tv_is (tx_cmp (op_eqD hr.units) (xv 1 rfl) x_str (rd_eqS (asc_n .se) (by decide +kernel))) (by decide +kernel)) (fun _ => ?_) (fun h => nomatch h)
    · have e : dnX t .se q = none := rfl
      refine g_ret2 (PE.x2 (ψ := fun d ρ' => ∃ t', (d = tI (endL t.st t.now) ∧ t' = ⟨t.st, endL t.st t.now, t.er ++ [t.now], []⟩) ∧ ρ' = ([Sl.gn (tbG (cT K) p t) true false, .val (.str Nm.se.s), .val (.int ((q : Nat) : Int)), .tab T] : List Sl).set 0 (Sl.gn (tbG (cT K) p t') true false)) ?_ fun d ρ' ⟨t', ⟨h1, h2⟩, h3⟩ => no e d ρ' t' h1 h2 h3)
      refine x_told2 (T := T) (k := 6) (i0 := 3) GT TB rfl hT hu hr (LamX.lamS_by (sc := defScope s_law_done) (by decide +kernel)) ?_ (by decide) rfl
      intro A' outer' s' H' E' f' c' hr'
      exact PE.x2 (x_meth20 (i := 0) t GE TB0.cl hr' rfl ⟨her, hst.1, hrow⟩ rfl) fun d ρ' ⟨t', h, h3⟩ => ⟨t', h, h3⟩
  | un =>
    refine g_if (k := false) (tv_is (tx_cmp (op_eqD hr.units) (xv 1 rfl) x_str (rd_eqS (asc_n .un) (by decide +kernel))) (by decide +kernel)) (fun h => nomatch h) (fun _ => ?_)
    refine g_if (k := false) (tv_is (tx_cmp (op_eqD hr.units) (xv 1 rfl) x_str (rd_eqS (asc_n .un) (by decide +kernel))) (by decide +kernel)) (fun h => nomatch h) (fun _ => ?_)
    refine g_if (k := false) (tv_is (tx_cmp (op_eqD hr.units) (xv 1 rfl) x_str (rd_eqS (asc_n .un) (by decide +kernel))) (by decide +kernel)) (fun h => nomatch h) (fun _ => ?_)
    refine g_if (k := true) (tv_is (tx_cmp (op_eqD hr.units) (xv 1 rfl) x_str (rd_eqS (asc_n .un) (by decide +kernel))) (by decide +kernel)) (fun _ => ?_) (fun h => nomatch h)
    by_cases h0 : t.er = []
    · have e : dnX t .un q = some .un := if_pos h0
      exact g_ret2 (PE.x2 (XE.x2 (x_toldE (T := T) (χ := fun z => z = res .un) (k := 6) (i0 := 3) GT TB rfl hT hu hr (LamX.lamS_by (sc := defScope s_law_done) (by decide +kernel)) .un rfl (fun A' outer' s' H' E' f' c' hr' tk => r_meth0 (i := 0) t tk RU TB0.cl hr' rfl h0 rfl rfl) (by decide) rfl)) (yes .un e))
    · have e : dnX t .un q = none := if_neg h0
      have ht : t = { t with er := t.er.dropLast ++ [t.er.getLastD []] } := by rw [← last_split h0]
      refine g_ret2 (PE.x2 (ψ := fun d ρ' => ∃ t', (d = tI (t.er.getLastD []) ∧ t' = ⟨t.st, t.er.getLastD [], t.er.dropLast, t.un ++ [t.now]⟩) ∧ ρ' = ([Sl.gn (tbG (cT K) p t) true false, .val (.str Nm.un.s), .val (.int ((q : Nat) : Int)), .tab T] : List Sl).set 0 (Sl.gn (tbG (cT K) p t') true false)) ?_ fun d ρ' ⟨t', ⟨h1, h2⟩, h3⟩ => no e d ρ' t' h1 h2 h3)
      refine x_told2 (T := T) (k := 6) (i0 := 3) GT TB rfl hT hu hr (LamX.lamS_by (sc := defScope s_law_done) (by decide +kernel)) ?_ (by decide) rfl
      intro A' outer' s' H' E' f' c' hr'
      exact PE.x2 (x_meth20 (i := 0) (({ t with er := t.er.dropLast } : Tst), t.er.getLastD []) GU TB0.cl hr' rfl hun (congrArg (fun z => some (Sl.gn (tbG (cT K) p z) true false)) ht)) fun d ρ' ⟨t', h, h3⟩ => ⟨t', h, h3⟩
  | re =>
    refine g_if (k := false) (tv_is (tx_cmp (op_eqD hr.units) (xv 1 rfl) x_str (rd_eqS (asc_n .re) (by decide +kernel))) (by decide +kernel)) (fun h => nomatch h) (fun _ => ?_)
    refine g_if (k := false) (tv_is (tx_cmp (op_eqD hr.units) (xv 1 rfl) x_str (rd_eqS (asc_n .re) (by decide +kernel))) (by decide +kernel)) (fun h => nomatch h) (fun _ => ?_)
    refine g_if (k := false) (tv_is (tx_cmp (op_eqD hr.units) (xv 1 rfl) x_str (rd_eqS (asc_n .re) (by decide +kernel))) (by decide +kernel)) (fun h => nomatch h) (fun _ => ?_)
    refine g_if (k := false) (tv_is (tx_cmp (op_eqD hr.units) (xv 1 rfl) x_str (rd_eqS (asc_n .re) (by decide +kernel))) (by decide +kernel)) (fun h => nomatch h) (fun _ => ?_)
    by_cases h0 : t.un = []
    · have e : dnX t .re q = some .un := if_pos h0
      exact g_ret2 (PE.x2 (XE.x2 (x_toldE (T := T) (χ := fun z => z = res .un) (k := 6) (i0 := 3) GT TB rfl hT hu hr (LamX.lamS_by (sc := defScope s_law_done) (by decide +kernel)) .un rfl (fun A' outer' s' H' E' f' c' hr' tk => r_meth0 (i := 0) t tk RR TB0.cl hr' rfl h0 rfl rfl) (by decide) rfl)) (yes .un e))
    · have e : dnX t .re q = none := if_neg h0
      have ht : t = { t with un := t.un.dropLast ++ [t.un.getLastD []] } := by rw [← last_split h0]
      refine g_ret2 (PE.x2 (ψ := fun d ρ' => ∃ t', (d = tI (t.un.getLastD []) ∧ t' = ⟨t.st, t.un.getLastD [], t.er ++ [t.now], t.un.dropLast⟩) ∧ ρ' = ([Sl.gn (tbG (cT K) p t) true false, .val (.str Nm.re.s), .val (.int ((q : Nat) : Int)), .tab T] : List Sl).set 0 (Sl.gn (tbG (cT K) p t') true false)) ?_ fun d ρ' ⟨t', ⟨h1, h2⟩, h3⟩ => no e d ρ' t' h1 h2 h3)
      refine x_told2 (T := T) (k := 6) (i0 := 3) GT TB rfl hT hu hr (LamX.lamS_by (sc := defScope s_law_done) (by decide +kernel)) ?_ (by decide) rfl
      intro A' outer' s' H' E' f' c' hr'
      exact PE.x2 (x_meth20 (i := 0) (({ t with un := t.un.dropLast } : Tst), t.un.getLastD []) GR TB0.cl hr' rfl her (congrArg (fun z => some (Sl.gn (tbG (cT K) p z) true false)) ht)) fun d ρ' ⟨t', h, h3⟩ => ⟨t', h, h3⟩
end
end Sr
set_option Elab.async false
set_option linter.all false
set_option maxRecDepth 100000
set_option maxHeartbeats 2000000
namespace Sr
open PySem PySem.Spec PyProof.Rows L2 Pd
section
variable {P : Program} {w : World} {K : PySem.W.Frag} {mg : Str → Option Value} {base : Heap}
/-- what the law says of a deed that changes -/
def nxR (st : Int) (row : List Int) (n : Nm) (q : Nat) : PyData := match dnX ⟨st, row, [], []⟩ n q with
  | some c => .str c.nm
  | none => tI (dnT ⟨st, row, [], []⟩ n q).now
def Nm.fwd : Nm → Bool
  | .sl => true | .pu => true | .se => true | _ => false
theorem whole_nat {q n : Nat} : isWhole (.int ((q : Nat) : Int)) 0 ((n : Nat) : Int) = decide (q ≤ n) := by
  unfold isWhole
  by_cases h : q ≤ n
  · rw [decide_eq_true h]; simp; omega
  · rw [decide_eq_false h]; simp; omega
theorem whole_nat1 {q n : Nat} : isWhole (.int ((q : Nat) : Int)) 0 (((n : Nat) : Int) - 1) = decide (q < n) := by
  unfold isWhole
  by_cases h : q < n
  · rw [decide_eq_true h]; simp; omega
  · rw [decide_eq_false h]; simp; omega
abbrev N_next : List Str := ["dice", "steep", "name", "row", "place", "some", "height"]
theorem sc_next : FnScope N_next ["dice", "steep", "name", "row", "place"] (defScope s_law_next) := ⟨rfl, rfl, rfl, by decide +kernel, rfl, by decide +kernel, by decide +kernel⟩
abbrev D_next (P : Program) (w : World) (K : PySem.W.Frag) (mg : Str → Option Value) (base : Heap) : Prop := Df P w K mg base 4 "_law_next" ["dice", "steep", "name", "row", "place"] (spD (fun (a : Int × Nm × List Int × Nat) => [.int a.1, .str a.2.1.s, tI a.2.2.1, .int ((a.2.2.2 : Nat) : Int)]) (fun a => 2 ≤ a.1 ∧ Row a.2.2.1 ∧ a.2.1.fwd = true) fun a z => z = nxR a.1 a.2.2.1 a.2.1 a.2.2.2)
theorem ok_next (T : Tx K mg "_law_next" s_law_next ["dice", "steep", "name", "row", "place"]) (B : Bl mg) (GE : D_law_end P w K mg base) (GF : D_law_free P w K mg base) (GM : D_law_moved P w K mg base) : D_next P w K mg base := by
  refine Df.mkD T sc_next (fun _ => rfl) fun a hp f cdv A outer s H E hr => ?_
  obtain ⟨st, n, ns, q⟩ := a
  obtain ⟨hs, hrow, hf⟩ := hp
  have hs : 2 ≤ st := hs
  have hrow : Row ns := hrow
  have hf : n.fwd = true := hf
  have hlen := hrow.len
  show SXs _ _ [.dice, .val (.int st), .val (.str n.s), .val (tI ns), .val (.int ((q : Nat) : Int)), .no, .no] _ _
  cases n with
  | se =>
    refine s_ifR (k := true) (tv_is (tx_cmp (op_eqD hr.units) (xv 2 rfl) x_str (rd_eqS (asc_n .se) (by decide +kernel))) (by decide +kernel)) (fun _ => ?_) (fun h => nomatch h)
    refine s_ret (d := tI (endL st ns)) (xv_of (X_ix (χ := fun z => z = tI (endL st ns)) ix_tup (x_fD 0 (st, ns) GE hr (a_cons (xv 1 rfl) (a_cons (xv 3 rfl) a_nil)) ⟨hs, hrow⟩ rfl) (x_int (i := 0)) fun d e hd he => ?_) fun z h => h) rfl
    obtain ⟨l, _, rfl⟩ := hd
    have he : e = .int 0 := he
    subst he
    exact rd_ixT (j := 0) rfl rfl
  | sl =>
    refine s_ifN (tv_is (tx_cmp (op_eqD hr.units) (xv 2 rfl) x_str (rd_eqS (asc_n .sl) (by decide +kernel))) (by decide +kernel)) ?_
    refine s_ifR (k := true) (tv_is (tx_cmp (op_eqD hr.units) (xv 2 rfl) x_str (rd_eqS (asc_n .sl) (by decide +kernel))) (by decide +kernel)) (fun _ => ?_) (fun h => nomatch h)
    refine s_ifR (k := decide (ns.length ≤ q)) (tv_is (tx_cmp op_ge (xv 4 rfl) (x_callB call_len_seq B.len (a_cons (xv 3 rfl) a_nil) rc_lenT) rd_ge) (by rw [List.length_map]; exact decide_eq_decide.mpr (by omega))) (fun h => ?_) (fun h => ?_)
    · have h := of_decide_eq_true h
      refine s_ret x_str ?_
      show _ = nxR st ns .sl q
      unfold nxR dnX slidX
      dsimp only
      rw [whole_nat1, decide_eq_false (by omega : ¬ q < ns.length)]
      rfl
    · have h := of_decide_eq_false h
      have hw : isWhole (.int ((q : Nat) : Int)) 0 (((ns.length : Nat) : Int) - 1) = true := by rw [whole_nat1]; exact decide_eq_true (by omega)
      refine s_ret (d := nxR st ns .sl q) (x_if (k := decide (((q : Nat) : Int) ∈ placesL st ns)) (tx_cmp (op_inD (Room.units65 hr)) (xv 4 rfl) (x_f (st, ns) GF hr (a_cons (xv 1 rfl) (a_cons (xv 3 rfl) a_nil)) hrow.len1000 rfl) rd_inLI) (fun k => ?_) (fun k => ?_)) rfl
      · refine xv_is (x_f (ns, q) GM hr (a_cons (xv 3 rfl) (a_cons (xv 4 rfl) a_nil)) ⟨hrow.len1000, by show q < ns.length; omega⟩ rfl) ?_
        unfold nxR dnX slidX
        dsimp only
        rw [if_pos hw, if_pos (show toI (.int ((q : Nat) : Int)) ∈ placesL st ns from of_decide_eq_true k)]
        rfl
      · refine xv_is x_str ?_
        unfold nxR dnX slidX
        dsimp only
        rw [if_pos hw, if_neg (show ¬ toI (.int ((q : Nat) : Int)) ∈ placesL st ns from of_decide_eq_false k)]
        rfl
  | pu =>
    refine s_ifN (tv_is (tx_cmp (op_eqD hr.units) (xv 2 rfl) x_str (rd_eqS (asc_n .pu) (by decide +kernel))) (by decide +kernel)) ?_
    refine s_ifN (tv_is (tx_cmp (op_eqD hr.units) (xv 2 rfl) x_str (rd_eqS (asc_n .pu) (by decide +kernel))) (by decide +kernel)) ?_
    refine s_ifR (k := decide (ns.length < q)) (tv_is (tx_cmp op_gt (xv 4 rfl) (x_callB call_len_seq B.len (a_cons (xv 3 rfl) a_nil) rc_lenT) rd_gt) (by rw [List.length_map]; exact decide_eq_decide.mpr (by omega))) (fun h => ?_) (fun h => ?_)
    · have h := of_decide_eq_true h
      refine s_ret x_str ?_
      show _ = nxR st ns .pu q
      unfold nxR dnX raisedX
      dsimp only
      rw [whole_nat, decide_eq_false (by omega : ¬ q ≤ ns.length)]
      rfl
    have h := of_decide_eq_false h
    have hw : isWhole (.int ((q : Nat) : Int)) 0 ((ns.length : Nat) : Int) = true := by rw [whole_nat]; exact decide_eq_true (by omega)
    refine s_ifR (k := decide (ns.sum = 18)) (tx_cmp (op_eqD hr.units) (x_callB (cr_sumT rfl) B.sum (a_cons (xv 3 rfl) a_nil) rc_sumT) x_int rd_eqI) (fun k => ?_) (fun k => ?_)
    · have k := of_decide_eq_true k
      refine s_ret x_str ?_
      show _ = nxR st ns .pu q
      unfold nxR dnX raisedX
      dsimp only
      rw [if_pos hw, if_pos k]
      rfl
    have k := of_decide_eq_false k
    have l18 : ns.length ≤ 1000 := hrow.len1000
    have l0 : (ns ++ [0]).length = ns.length + 1 := by rw [List.length_append]; rfl
    have l1 : q < (ns ++ [0]).length := by rw [l0]; omega
    refine s_asg 5 (s := .own ((ns ++ [0]).map .int)) (by rw [List.map_append]; exact s_cat (x_callT call_list_of B.list (a_cons (xv 3 rfl) a_nil) rc_listT) (x_lst (a_cons x_int a_nil)) (by rw [List.length_map]; show ns.length + 1 ≤ 100000; omega)) ?_ sc_next.nd
    have hdec : (decide ((0 : Int) < ((q : Nat) : Int)) && decide ((ns ++ [0]).getD q 0 = (ns ++ [0]).getD (q - 1) 0)) = decide ((0 : Int) < ((q : Nat) : Int) ∧ ns.getD q 0 = ns.getD (q - 1) 0) := by
      rw [getD_app0, getD_app0, Bool.decide_and]
    refine s_ifR (k := decide ((0 : Int) < ((q : Nat) : Int) ∧ ns.getD q 0 = ns.getD (q - 1) 0)) (t_frz (ds := (ns ++ [0]).map .int) 5 (tv_is (wv_pt (w_and (l := decide ((ns ++ [0]).getD q 0 = (ns ++ [0]).getD (q - 1) 0)) (tx_cmp op_gt (xv 4 rfl) x_int rd_gt) fun h => w_and1 ?_)) hdec)) (fun k2 => ?_) (fun k2 => ?_)
    · have h' : 0 < q := by have := of_decide_eq_true h; omega
      refine tx_cmp (op_eqD hr.units) (x_ix ix_list (xv 5 rfl) (xv 4 rfl) (rd_ixL (j := q) (ixN_nat rfl (by rw [List.length_map]; exact l1)) (getD_int l1))) (x_ix ix_list (xv 5 rfl) (x_op op_sub (xv 4 rfl) x_int rd_sub) (rd_ixL (j := q - 1) (ixN_nat (by omega) (by rw [List.length_map]; omega)) (getD_int (by omega)))) rd_eqI
    · have k2 := of_decide_eq_true k2
      refine s_ret x_str ?_
      show _ = nxR st ns .pu q
      unfold nxR dnX raisedX
      dsimp only
      rw [if_pos hw, if_neg k, if_pos (show 0 < toI (.int ((q : Nat) : Int)) ∧ ns.getD (toI (.int ((q : Nat) : Int))).toNat 0 = ns.getD ((toI (.int ((q : Nat) : Int))).toNat - 1) 0 from k2)]
      rfl
    have k2 := of_decide_eq_false k2
    refine s_setit (ds := (ns ++ [0]).map .int) (d := .int ((ns ++ [0]).getD q 0 + 1)) 5 (x_frz (ds := (ns ++ [0]).map .int) 5 (x_op op_add (x_ix ix_list (xv 5 rfl) (xv 4 rfl) (rd_ixL (j := q) (ixN_nat rfl (by rw [List.length_map]; exact l1)) (getD_int l1))) x_int rd_add)) (xv 4 rfl) (ixN_nat rfl (by rw [List.length_map]; exact l1)) ?_
    rw [set_int]
    refine s_frz (ds := ((ns ++ [0]).set q ((ns ++ [0]).getD q 0 + 1)).map .int) 5 (s_ret (x_callT call_tuple_of B.tuple (a_cons (x_lc1f (enc := PyData.int) 6 ((ns ++ [0]).set q ((ns ++ [0]).getD q 0 + 1)) (fun n => decide (0 < n)) PyData.int sc_next.nd (blkOk_by (N := N_next) (sc := defScope s_law_next) (by decide +kernel)) (i_list (xv 5 rfl)) ?_
      (fun _ _ _ _ _ => pg_name (i := 6) sc_next.nd rfl (Or.inl rfl)) (fun n hm _ _ _ _ _ => tx_cmp op_gt (xv 6 rfl) x_int rd_gt) (fun n hm _ _ _ _ _ _ => xv 6 rfl)) a_nil) rc_tuple) ?_)
    · rw [List.length_set, l0]; omega
    · show tI _ = nxR st ns .pu q
      rw [getD_app0, rs_filter (show q ≤ ns.length by omega) hrow.pos]
      unfold nxR dnX raisedX
      dsimp only
      rw [if_pos hw, if_neg k, if_neg (show ¬ (0 < toI (.int ((q : Nat) : Int)) ∧ ns.getD (toI (.int ((q : Nat) : Int))).toNat 0 = ns.getD ((toI (.int ((q : Nat) : Int))).toNat - 1) 0) from k2)]
      rfl
  | un => cases hf
  | re => cases hf
end
end Sr
set_option Elab.async false
set_option linter.all false
set_option maxRecDepth 100000
set_option maxHeartbeats 2000000
namespace Sr
open PySem PySem.Spec PyProof.Rows L2 Pd
/-! ### the plain law of deeds -/
structure TOk (n : Nat) (t : Tst) : Prop where
  st : 2 ≤ t.st ∧ t.st ≤ 4
  now : Row t.now
  er : ∀ r ∈ t.er, Row r
  un : ∀ r ∈ t.un, Row r
  el : t.er.length ≤ n
  ul : t.un.length ≤ n
theorem last_mem {L : List (List Int)} (h : L ≠ []) : L.getLastD [] ∈ L := by
  rw [List.getLastD_eq_getLast?, List.getLast?_eq_getLast h]
  exact List.getLast_mem h
theorem app_all {p : List Int → Prop} {L : List (List Int)} {r : List Int} (h : ∀ x ∈ L, p x) (hr : p r) : ∀ x ∈ L ++ [r], p x := fun x hx => by
  rcases List.mem_append.mp hx with z | z
  · exact h x z
  · rw [List.mem_singleton.mp z]; exact hr
theorem TOk.chg {n : Nat} {t : Tst} (h : TOk n t) {r : List Int} (hr : Row r) : TOk (n + 1) (chg t r) :=
  ⟨h.st, hr, app_all h.er h.now, fun _ z => (nomatch z), by show (t.er ++ [t.now]).length ≤ n + 1; rw [List.length_append]; exact Nat.succ_le_succ h.el, Nat.zero_le _⟩
theorem TOk.dn {n : Nat} {t : Tst} (h : TOk n t) (m : Nm) (q : Nat) : TOk (n + 1) (dnR t m q).2 := by
  unfold dnR
  cases e : dnX t m q with
  | some c => exact ⟨h.st, h.now, h.er, h.un, Nat.le_succ_of_le h.el, Nat.le_succ_of_le h.ul⟩
  | none =>
    show TOk (n + 1) (dnT t m q)
    cases m with
    | sl => exact h.chg (h.now.mv h.st.1 (slid_free e))
    | pu =>
      obtain ⟨cp, cs⟩ := raised_can h.now e
      exact h.chg (h.now.rs cp cs)
    | se => exact h.chg (h.now.end h.st.1)
    | un =>
      have h0 : t.er ≠ [] := fun z => by
        have : dnX t .un q = some .un := if_pos z
        rw [this] at e
        cases e
      refine ⟨h.st, h.er _ (last_mem h0), fun r hr => h.er r (List.dropLast_subset _ hr), app_all h.un h.now, ?_, ?_⟩
      · show t.er.dropLast.length ≤ n + 1
        rw [List.length_dropLast]
        have := h.el
        omega
      · show (t.un ++ [t.now]).length ≤ n + 1
        rw [List.length_append]
        exact Nat.succ_le_succ h.ul
    | re =>
      have h0 : t.un ≠ [] := fun z => by
        have : dnX t .re q = some .un := if_pos z
        rw [this] at e
        cases e
      refine ⟨h.st, h.un _ (last_mem h0), app_all h.er h.now, fun r hr => h.un r (List.dropLast_subset _ hr), ?_, ?_⟩
      · show (t.er ++ [t.now]).length ≤ n + 1
        rw [List.length_append]
        exact Nat.succ_le_succ h.el
      · show t.un.dropLast.length ≤ n + 1
        rw [List.length_dropLast]
        have := h.ul
        omega
theorem dn_st (t : Tst) (m : Nm) (q : Nat) : (dnR t m q).2.st = t.st := by
  unfold dnR
  cases dnX t m q with
  | some c => rfl
  | none => cases m <;> rfl
/-- what is told: an exception, or the row -/
theorem dn_made (t : Tst) (m : Nm) (q : Nat) : (∃ c, (dnR t m q).1 = res c) ∨ (dnR t m q).1 = tI (dnR t m q).2.now := by
  unfold dnR
  cases dnX t m q with
  | some c => exact .inl ⟨c, rfl⟩
  | none => exact .inr rfl
theorem nx_eq {t : Tst} {n : Nm} {q : Nat} (h : n.fwd = true) : nxR t.st t.now n q = match dnX t n q with
    | some c => .str c.nm
    | none => tI (dnT t n q).now := by
  cases n with
  | sl => rfl
  | pu => rfl
  | se => rfl
  | un => cases h
  | re => cases h
theorem dnT_fwd {t : Tst} {n : Nm} {q : Nat} (h : n.fwd = true) : dnT t n q = chg t (dnT t n q).now := by
  cases n with
  | sl => rfl
  | pu => rfl
  | se => rfl
  | un => cases h
  | re => cases h
section
variable {P : Program} {w : World} {K : PySem.W.Frag} {mg : Str → Option Value} {base : Heap}
abbrev N_turn : List Str := ["dice", "table", "steep", "row", "earlier", "undone", "name", "place", "made", "behind", "rest", "."]
theorem sc_turn : FnScope N_turn ["dice", "table", "steep", "row", "earlier", "undone"] (defScope s_law_turn) := ⟨rfl, rfl, rfl, by decide +kernel, rfl, by decide +kernel, by decide +kernel⟩
/-- what a turn hands out -/
def TurnR (t : Tst) (d : PyData) (t' : Tst) : Prop := ∃ (n : Nm) (q : Nat) (m : PyData), (m, t') = dnR t n q ∧ d = .tuple [m, m, tI t'.now, lT t'.er, lT t'.un]
abbrev D_turn (P : Program) (w : World) (K : PySem.W.Frag) (mg : Str → Option Value) (base : Heap) (T : List (Addr × Str)) : Prop := Df P w K mg base 10 "_law_turn" ["dice", "table", "steep", "row", "earlier", "undone"] (spDL (cT K) T (fun (a : Tst) => a) (fun a => [.int a.st, tI a.now, lT a.er, lT a.un]) (fun a => TOk 900 a) TurnR)
theorem shp_n (n : Nm) : Shp (.str n.s) := (sh_S (n := 0) (asc_n n)).shp
theorem ok_turn {T : List (Addr × Str)} (Tt : Tx K mg "_law_turn" s_law_turn ["dice", "table", "steep", "row", "earlier", "undone"]) (B : Bl mg) (GR : D_roll P w K mg base) (GD : D_done P w K mg base T) (GN : D_next P w K mg base) : D_turn P w K mg base T := by
  refine Df.mkDL 11 Tt sc_turn (fun _ => rfl) (fun _ _ => rfl) fun t p hp f cdv A outer s H E hr => ?_
  have hp : TOk 900 t := hp
  have hel := hp.el
  have hul := hp.ul
  show PSs _ _ (tG [.dice, Sl.gn (tbG (cT K) p t) true false, .val (.int t.st), .val (tI t.now), .val (lT t.er), .val (lT t.un), .no, .no, .no, .no, .no, .tab T] (KT fun d ρ' => ∃ t', TurnR t d t' ∧ ρ'[1]? = some (.gn (tbG (cT K) p t') true false)))
  refine g_seq (mid := fun ρ' => ∃ n : Nm, ρ' = [.dice, Sl.gn (tbG (cT K) p t) true false, .val (.int t.st), .val (tI t.now), .val (lT t.er), .val (lT t.un), .val (.str n.s), .no, .no, .no, .no, .tab T])
    (S_set 6 (XE.xs (X_ix (χ := fun z => ∃ n : Nm, z = .str n.s) ix_list (x_lst (ds := [.str "slide", .str "slide", .str "put", .str "put", .str "settle", .str "undo", .str "undo", .str "redo", .str "redo"]) (a_cons x_str (a_cons x_str (a_cons x_str (a_cons x_str (a_cons x_str (a_cons x_str (a_cons x_str (a_cons x_str (a_cons x_str a_nil)))))))))) (x_fD 0 9 GR hr (a_cons x_int a_nil) ⟨by decide, by decide⟩ rfl) fun d e hd he => ?_)) (fun s hs => ?_) sc_turn.nd) fun ρ' h => ?_
  · have hd : d = .list [.str "slide", .str "slide", .str "put", .str "put", .str "settle", .str "undo", .str "undo", .str "redo", .str "redo"] := hd
    subst hd
    obtain ⟨r, r0, r1, rfl⟩ := he
    obtain ⟨m, rfl⟩ : ∃ m : Nat, r = (m : Int) := ⟨r.toNat, by omega⟩
    have hm : m < 9 := by omega
    have key : ∀ m : Nat, m < 9 → ∃ n : Nm, ([.str "slide", .str "slide", .str "put", .str "put", .str "settle", .str "undo", .str "undo", .str "redo", .str "redo"] : List PyData)[m]? = some (.str n.s) := fun m hm => by
      match m, hm with
      | 0, _ => exact ⟨.sl, rfl⟩
      | 1, _ => exact ⟨.sl, rfl⟩
      | 2, _ => exact ⟨.pu, rfl⟩
      | 3, _ => exact ⟨.pu, rfl⟩
      | 4, _ => exact ⟨.se, rfl⟩
      | 5, _ => exact ⟨.un, rfl⟩
      | 6, _ => exact ⟨.un, rfl⟩
      | 7, _ => exact ⟨.re, rfl⟩
      | 8, _ => exact ⟨.re, rfl⟩
    obtain ⟨n, hn⟩ := key m hm
    exact (rd_ixL (K := K) (ds := [.str "slide", .str "slide", .str "put", .str "put", .str "settle", .str "undo", .str "undo", .str "redo", .str "redo"]) (j := m) (ixN_nat rfl hm) hn).mono fun z hz => ⟨n, hz⟩
  · obtain ⟨d, ⟨n, rfl⟩, rfl⟩ := hs
    exact ⟨n, rfl⟩
  obtain ⟨n, rfl⟩ := h
  refine g_seq (mid := fun ρ' => ∃ q : Nat, ρ' = [.dice, Sl.gn (tbG (cT K) p t) true false, .val (.int t.st), .val (tI t.now), .val (lT t.er), .val (lT t.un), .val (.str n.s), .val (.int ((q : Nat) : Int)), .no, .no, .no, .tab T])
    (S_set 7 (XE.xs (X_fD (χ := fun z => ∃ q : Nat, z = .int ((q : Nat) : Int)) 0 GR hr (X_cons (X_pick2 0 GR hr) a_nil (φ' := fun z => z = []) (χ' := fun z => z = [.int 2] ∨ z = [.int 6]) ?_) ?_)) (fun s hs => ?_) sc_turn.nd) fun ρ' h => ?_
  · rintro d ds (rfl | rfl) rfl
    · exact .inl rfl
    · exact .inr rfl
  · rintro ds (rfl | rfl)
    · refine ⟨2, rfl, ⟨by decide, by decide⟩, fun z hz => ?_⟩
      obtain ⟨r, r0, r1, rfl⟩ := hz
      exact ⟨r.toNat, by rw [Int.toNat_of_nonneg r0]⟩
    · refine ⟨6, rfl, ⟨by decide, by decide⟩, fun z hz => ?_⟩
      obtain ⟨r, r0, r1, rfl⟩ := hz
      exact ⟨r.toNat, by rw [Int.toNat_of_nonneg r0]⟩
  · obtain ⟨d, ⟨q, rfl⟩, rfl⟩ := hs
    exact ⟨q, rfl⟩
  obtain ⟨q, rfl⟩ := h
  refine g_seq (sx_set2 8 (x_callTL (i := 1) (i0 := 11) (t, n, q) GD hr (a_cons (xv 6 rfl) (a_cons (xv 7 rfl) a_nil)) ⟨⟨hp.st, hp.now⟩, by show t.er.length < 1000; omega, by show t.un.length < 1000; omega⟩ rfl rfl) sc_turn.nd (fun d ρ' h => ?_)) fun ρ' h => ?_
  · obtain ⟨t', _, rfl⟩ := h
    rfl
  obtain ⟨m, ρ1, ⟨t', hm, rfl⟩, rfl⟩ := h
  have hm : (m, t') = dnR t n q := hm
  show PSs _ _ (tG [.dice, Sl.gn (tbG (cT K) p t') true false, .val (.int t.st), .val (tI t.now), .val (lT t.er), .val (lT t.un), .val (.str n.s), .val (.int ((q : Nat) : Int)), .val m, .no, .no, .tab T] _)
  have catE : lT (t.er ++ [t.now]) = .list (t.er.map tI ++ [tI t.now]) := (lT_app _ _).symm
  have catU : lT (t.un ++ [t.now]) = .list (t.un.map tI ++ [tI t.now]) := (lT_app _ _).symm
  refine g_if (k := n.fwd) (tv_is (tx_cmp (op_inT (Room.units65 hr)) (xv 6 rfl) (x_tup (a_cons x_str (a_cons x_str (a_cons x_str a_nil)))) (rd_inT (shp_n n) (by show SeqAt.shaped _ = true; decide +kernel))) (by cases n <;> decide +kernel)) (fun hf => ?_) (fun hf => ?_)
  · refine g_seq (mid := fun ρ' => ρ' = [.dice, Sl.gn (tbG (cT K) p t') true false, .val (.int t.st), .val (tI t.now), .val (lT t.er), .val (lT t.un), .val (.str n.s), .val (.int ((q : Nat) : Int)), .val m, .val (nxR t.st t.now n q), .no, .tab T])
      (S_set 9 (sv_x (d := nxR t.st t.now n q) (x_fD 0 (t.st, n, t.now, q) GN hr (a_cons (xv 2 rfl) (a_cons (xv 6 rfl) (a_cons (xv 3 rfl) (a_cons (xv 7 rfl) a_nil)))) ⟨hp.st.1, hp.now, hf⟩ rfl)) (fun s hs => by subst hs; rfl) sc_turn.nd) fun ρ' h => ?_
    subst h
    rw [nx_eq hf]
    cases e : dnX t n q with
    | some c =>
      have e2 : dnR t n q = (res c, t) := by unfold dnR; rw [e]
      rw [e2] at hm
      cases hm
      exact g_if (k := true) (tx_val (x_isi "str" B.isinstance B.str (xv 9 rfl) kit_str_str)) (fun _ => g_retV (x_tup (a_cons (xv 8 rfl) (a_cons (x_tup (a_cons x_str (a_cons (xv 9 rfl) a_nil))) (a_cons (xv 3 rfl) (a_cons (xv 4 rfl) (a_cons (xv 5 rfl) a_nil)))))) ⟨t, ⟨n, q, res c, e2.symm, rfl⟩, rfl⟩) (fun h => nomatch h)
    | none =>
      have e2 : dnR t n q = (tI (dnT t n q).now, dnT t n q) := by unfold dnR; rw [e]
      rw [e2] at hm
      cases hm
      refine g_if (k := false) (tx_val (x_isi "str" B.isinstance B.str (xv 9 rfl) kit_tuple_str)) (fun h => nomatch h) (fun _ => ?_)
      refine g_retV (x_tup (a_cons (xv 8 rfl) (a_cons (xv 9 rfl) (a_cons (xv 9 rfl) (a_cons (x_op op_cat (xv 4 rfl) (x_lst (a_cons (xv 3 rfl) a_nil)) (rd_catL (by rw [List.length_map]; show t.er.length + 1 ≤ 100000; omega))) (a_cons (x_lst a_nil) a_nil)))))) ⟨dnT t n q, ⟨n, q, tI (dnT t n q).now, e2.symm, ?_⟩, rfl⟩
      have e3 := dnT_fwd (t := t) (q := q) hf
      have e4 : (dnT t n q).er = t.er ++ [t.now] := by rw [e3]; rfl
      have e5 : (dnT t n q).un = [] := by rw [e3]; rfl
      rw [e4, e5, catE]
      rfl
  · cases n with
    | sl => cases hf
    | pu => cases hf
    | se => cases hf
    | un =>
      refine g_seq (mid := fun ρ' => ρ' = [.dice, Sl.gn (tbG (cT K) p t') true false, .val (.int t.st), .val (tI t.now), .val (lT t.er), .val (lT t.un), .val (.str Nm.un.s), .val (.int ((q : Nat) : Int)), .val m, .no, .val (lT t.er), .tab T])
        (S_set 10 (sv_x (d := lT t.er) (x_if (k := true) (tv_is (tx_cmp (op_eqD hr.units) (xv 6 rfl) x_str (rd_eqS (asc_n .un) (by decide +kernel))) (by decide +kernel)) (fun _ => xv 4 rfl) (fun h => nomatch h))) (fun s hs => by subst hs; rfl) sc_turn.nd) fun ρ' h => ?_
      subst h
      by_cases h0 : t.er = []
      · have e2 : dnR t .un q = (res .un, t) := by unfold dnR; rw [show dnX t .un q = some .un from if_pos h0]
        rw [e2] at hm
        cases hm
        exact g_if (k := true) (tv_is (tx_cmp (op_eqD hr.units) (xv 10 rfl) (x_lst a_nil) (rd_eqLT (b := []))) (decide_eq_true h0)) (fun _ => g_retV (x_tup (a_cons (xv 8 rfl) (a_cons (x_tup (a_cons x_str (a_cons x_str a_nil))) (a_cons (xv 3 rfl) (a_cons (xv 4 rfl) (a_cons (xv 5 rfl) a_nil)))))) ⟨t, ⟨.un, q, res .un, e2.symm, rfl⟩, rfl⟩) (fun h => nomatch h)
      · have e2 : dnR t .un q = (tI (t.er.getLastD []), ⟨t.st, t.er.getLastD [], t.er.dropLast, t.un ++ [t.now]⟩) := by unfold dnR; rw [show dnX t .un q = none from if_neg h0]; rfl
        rw [e2] at hm
        cases hm
        have sp : lT t.er = .list ((t.er.dropLast ++ [t.er.getLastD []]).map tI) := by rw [← last_split h0]
        refine g_if (k := false) (tv_is (tx_cmp (op_eqD hr.units) (xv 10 rfl) (x_lst a_nil) (rd_eqLT (b := []))) (decide_eq_false h0)) (fun h => nomatch h) (fun _ => ?_)
        refine g_if (k := true) (tv_is (tx_cmp (op_eqD hr.units) (xv 6 rfl) x_str (rd_eqS (asc_n .un) (by decide +kernel))) (by decide +kernel)) (fun _ => ?_) (fun h => nomatch h)
        refine g_retV (x_tup (a_cons (xv 8 rfl) (a_cons (x_ix ix_list (xv_is (xv 10 rfl) sp) (x_un un_neg x_int ru_neg) (rd_ixL ix_end get_end)) (a_cons (x_ix ix_list (xv_is (xv 10 rfl) sp) (x_un un_neg x_int ru_neg) (rd_ixL ix_end get_end)) (a_cons (xv_is (x_slL (xv_is (xv 4 rfl) sp) xo_none (xo_some (x_un un_neg x_int ru_neg))) cut_lT) (a_cons (xv_is (x_op op_cat (xv 5 rfl) (x_lst (a_cons (xv 3 rfl) a_nil)) (rd_catL (by rw [List.length_map]; show t.un.length + 1 ≤ 100000; omega))) (lT_app _ _)) a_nil)))))) ⟨_, ⟨.un, q, _, e2.symm, rfl⟩, rfl⟩
    | re =>
      refine g_seq (mid := fun ρ' => ρ' = [.dice, Sl.gn (tbG (cT K) p t') true false, .val (.int t.st), .val (tI t.now), .val (lT t.er), .val (lT t.un), .val (.str Nm.re.s), .val (.int ((q : Nat) : Int)), .val m, .no, .val (lT t.un), .tab T])
        (S_set 10 (sv_x (d := lT t.un) (x_if (k := false) (tv_is (tx_cmp (op_eqD hr.units) (xv 6 rfl) x_str (rd_eqS (asc_n .re) (by decide +kernel))) (by decide +kernel)) (fun h => nomatch h) (fun _ => xv 5 rfl))) (fun s hs => by subst hs; rfl) sc_turn.nd) fun ρ' h => ?_
      subst h
      by_cases h0 : t.un = []
      · have e2 : dnR t .re q = (res .un, t) := by unfold dnR; rw [show dnX t .re q = some .un from if_pos h0]
        rw [e2] at hm
        cases hm
        exact g_if (k := true) (tv_is (tx_cmp (op_eqD hr.units) (xv 10 rfl) (x_lst a_nil) (rd_eqLT (b := []))) (decide_eq_true h0)) (fun _ => g_retV (x_tup (a_cons (xv 8 rfl) (a_cons (x_tup (a_cons x_str (a_cons x_str a_nil))) (a_cons (xv 3 rfl) (a_cons (xv 4 rfl) (a_cons (xv 5 rfl) a_nil)))))) ⟨t, ⟨.re, q, res .un, e2.symm, rfl⟩, rfl⟩) (fun h => nomatch h)
      · have e2 : dnR t .re q = (tI (t.un.getLastD []), ⟨t.st, t.un.getLastD [], t.er ++ [t.now], t.un.dropLast⟩) := by unfold dnR; rw [show dnX t .re q = none from if_neg h0]; rfl
        rw [e2] at hm
        cases hm
        have sp : lT t.un = .list ((t.un.dropLast ++ [t.un.getLastD []]).map tI) := by rw [← last_split h0]
        refine g_if (k := false) (tv_is (tx_cmp (op_eqD hr.units) (xv 10 rfl) (x_lst a_nil) (rd_eqLT (b := []))) (decide_eq_false h0)) (fun h => nomatch h) (fun _ => ?_)
        refine g_if (k := false) (tv_is (tx_cmp (op_eqD hr.units) (xv 6 rfl) x_str (rd_eqS (asc_n .re) (by decide +kernel))) (by decide +kernel)) (fun h => nomatch h) (fun _ => ?_)
        refine g_retV (x_tup (a_cons (xv 8 rfl) (a_cons (x_ix ix_list (xv_is (xv 10 rfl) sp) (x_un un_neg x_int ru_neg) (rd_ixL ix_end get_end)) (a_cons (x_ix ix_list (xv_is (xv 10 rfl) sp) (x_un un_neg x_int ru_neg) (rd_ixL ix_end get_end)) (a_cons (xv_is (x_op op_cat (xv 4 rfl) (x_lst (a_cons (xv 3 rfl) a_nil)) (rd_catL (by rw [List.length_map]; show t.er.length + 1 ≤ 100000; omega))) (lT_app _ _)) (a_cons (xv_is (x_slL (xv_is (xv 5 rfl) sp) xo_none (xo_some (x_un un_neg x_int ru_neg))) cut_lT) a_nil)))))) ⟨_, ⟨.re, q, _, e2.symm, rfl⟩, rfl⟩
end
end Sr
set_option Elab.async false
set_option linter.all false
set_option maxRecDepth 100000
set_option maxHeartbeats 4000000
namespace Sr
open PySem PySem.Spec PyProof.Rows L2 Pd
section
variable {X : Cx} {ρ : List Sl} {pos : Pos}
/-- five names = e, e may change slots -/
theorem sx_unp5 {ψ : PyData → List Sl → Prop} {e tg : Expr} {rt : PyData → Prop} (i1 i2 i3 i4 i5 : Nat) (he : PE X e (tX2 ρ ψ)) (hψ : ∀ d ρ', ψ d ρ' → (∃ a b c d' e', d = .tuple [a, b, c, d', e']) ∧ nd ρ' i1 = true ∧ nd ρ' i2 = true ∧ nd ρ' i3 = true ∧ nd ρ' i4 = true ∧ nd ρ' i5 = true)
    (hg : PG X tg (gTup X.K 5 (gCons (gName i1) (gCons (gName i2) (gCons (gName i3) (gCons (gName i4) (gCons (gName i5) gNil))))))) (hs : swapsWithSole [tg] e pos.line X.env = pure false := by rfl) (hw : swappedStores [tg] e X.env = pure none := by rfl)
    (h1 : (assignEach [tg] X.env).map (·.2) = [assign tg X.env] := by rfl) :
    SX X (.Assign [tg] e pos) ρ (fun ρ2 => ∃ a b c d e ρ', ψ (.tuple [a, b, c, d, e]) ρ' ∧ ρ2 = ((((ρ'.set i1 (.val a)).set i2 (.val b)).set i3 (.val c)).set i4 (.val d)).set i5 (.val e)) rt :=
  PS.imp (ps_asg he hg hs hw h1) fun D σ H ⟨W, O, g, k1, k2⟩ => ⟨W, O, g, fun d ρ' v H' hd g' is => by
    obtain ⟨⟨a, b, c, d', e', rfl⟩, n1, n2, n3, n4, n5⟩ := hψ d ρ' hd
    cases is with
    | tup nO hv r =>
      cases r with
      | cons r1 r =>
        cases r with
        | cons r2 r =>
          cases r with
          | cons r3 r =>
            cases r with
            | cons r4 r =>
              cases r with
              | cons r5 r =>
                cases r
                refine ⟨_, _, rfl, SqT.of hv, rfl, _, _, rfl, _, _, rfl, _, _, rfl, _, _, rfl, _, _, rfl, rfl, ?_⟩
                have g1 := g'.set (i := i1) (s := .val a) ⟨_, rfl, r1⟩ (fun z => nomatch z) (nd_of n1)
                have g2 := g1.set (i := i2) (s := .val b) ⟨_, rfl, r2⟩ (fun z => nomatch z) (nd_of (nd_set n2))
                have g3 := g2.set (i := i3) (s := .val c) ⟨_, rfl, r3⟩ (fun z => nomatch z) (nd_of (nd_set (nd_set n3)))
                have g4 := g3.set (i := i4) (s := .val d') ⟨_, rfl, r4⟩ (fun z => nomatch z) (nd_of (nd_set (nd_set (nd_set n4))))
                have g5 := g4.set (i := i5) (s := .val e') ⟨_, rfl, r5⟩ (fun z => nomatch z) (nd_of (nd_set (nd_set (nd_set (nd_set n5)))))
                exact k1 _ O _ H' ⟨a, b, c, d', e', ρ', hd, rfl⟩ g5⟩
/-- x, y, z = a, [], [] -/
theorem S_tab3 {φ : Sl → Prop} {a : Expr} {x y z : Str} {px py pz pt pt2 q1 q2 : Pos} {tk tk2 : Nat} {rest : List Stmt} {nx : List Sl → Prop} {rt : PyData → Prop} (i j l : Nat) (ha : XS X a ρ φ) (k : ∀ s, φ s → SXs X rest (((ρ.set i s).set j (.val (.list []))).set l (.val (.list []))) nx rt)
    (hg : PG X (.Tuple [.Name x px, .Name y py, .Name z pz] tk pt) (gTup X.K 3 (gCons (gName i) (gCons (gName j) (gCons (gName l) gNil))))) (hij : i ≠ j := by decide) (hil : i ≠ l := by decide)
    (hni : nd ρ i = true := by rfl) (hnj : nd ρ j = true := by rfl) (hnl : nd ρ l = true := by rfl) (hs : swapsWithSole [.Tuple [.Name x px, .Name y py, .Name z pz] tk pt] (.Tuple [a, .List [] q1, .List [] q2] tk2 pt2) pos.line X.env = pure false := by rfl) (hw : swappedStores [.Tuple [.Name x px, .Name y py, .Name z pz] tk pt] (.Tuple [a, .List [] q1, .List [] q2] tk2 pt2) X.env = pure none := by rfl)
    (h1 : starEach [a, .List [] q1, .List [] q2] X.env = (false, eval a X.env) :: starEach [.List [] q1, .List [] q2] X.env := by rfl) :
    SXs X (.Assign [.Tuple [.Name x px, .Name y py, .Name z pz] tk pt] (.Tuple [a, .List [] q1, .List [] q2] tk2 pt2) pos :: rest) ρ nx rt :=
  s_seq (mid := fun ρ' => ∃ s, φ s ∧ ρ' = ((ρ.set i s).set j (.val (.list []))).set l (.val (.list []))) (PS.imp (ps_asg (pe_tup (pa_cons ha (pa_cons (pe_lst pa_nil) (pa_cons (pe_lst pa_nil) pa_nil)) h1)) hg hs hw) fun D σ H ⟨W, O, g, k1, k2⟩ => by
    refine ⟨W, O, g, fun s v H1 O1 hφ g1 sub1 new1 ed1 ok1 fr1 => ⟨by show 0 ≤ sizeLine; exact Nat.zero_le _, fun p1 hp1 => ⟨by show 0 ≤ sizeLine; exact Nat.zero_le _, fun p2 hp2 => ⟨by show 3 ≤ sizeLine; decide, fun p hp => ?_⟩⟩⟩⟩
    refine ⟨p, [v, .ref p1, .ref p2], rfl, SqT.of upd_same, rfl, v, _, rfl, _, _, rfl, _, _, rfl, rfl, ?_⟩
    have x1 : Ext H1 (upd H1 p1 (.lst [])) := Ext.new hp1
    have x2 : Ext (upd H1 p1 (.lst [])) (upd (upd H1 p1 (.lst [])) p2 (.lst [])) := Ext.new hp2
    have x3 := Ext.new (o := HO.tup [v, .ref p1, .ref p2]) hp
    have n1 : ¬ O1 p1 := g1.al.fresh hp1
    have n2 : ¬ O1 p2 := g1.al.fresh (ext_none x1 hp2)
    have xx := (x1.trans x2).trans x3
    have ga := g.setNew (i := i) (g1.ext' xx) (ok1.imp xx) fr1 (nd_of hni)
    have gb := ga.set (i := j) (v := .ref p1) (s := .val (.list [])) ⟨_, rfl, .lst n1 (x3 _ _ (x2 _ _ upd_same)) .nil⟩ (fun z => nomatch z) (by rw [List.getElem?_set_ne hij]; exact nd_of hnj)
    have gc := gb.set (i := l) (v := .ref p2) (s := .val (.list [])) ⟨_, rfl, .lst n2 (x3 _ _ upd_same) .nil⟩ (fun z => nomatch z) (nd_of (nd_set (by unfold nd; rw [List.getElem?_set_ne hil]; exact hnl)))
    exact k1 _ O1 _ _ ⟨s, hφ, rfl⟩ gc) fun ρ' ⟨s, h1, e⟩ => by rw [e]; exact k s h1
/-- Table(a, b) -/
theorem xs_make {e1 e2 : Expr} {st : Int} {ns : List Int} {p1 : Pos} {k : Nat} (TB0 : Tb X.K X.mg (cT X.K)) (GI : D_T_init X.prog X.w X.K X.mg X.base) (hr : Room k X.A) (hk : 6 ≤ k) (ha : AV X [e1, e2] ρ [.int st, tI ns]) (hst : 2 ≤ st ∧ st ≤ 4) (hrow : Row ns) (hg : Gl X "Table" := by rfl)
    (hs : starEach [e1, e2] X.env = (false, eval e1 X.env) :: starEach [e2] X.env := by rfl) (hpl : (backTo pos (starEach [e2] X.env)).any (·.1) = false := by rfl) : XS X (.Call (.Name "Table" p1) [e1, e2] [] pos) ρ (fun s => ∃ p, s = .gn (tbG (cT X.K) p ⟨st, ns, [], []⟩) true true) := by
  obtain ⟨fI, fdI, MI, bI, FI⟩ := GI
  refine PE.imp (pe_make MI FI (hr.mono hk) hg TB0.gl bI .nil pass0 ha (by decide) hs hpl) fun σ H Q ⟨W, O, g, q⟩ => ⟨W, O, g, fun ds vs H1 hd g1 e1 i1 => ?_⟩
  subst hd
  obtain ⟨v1, v2, rfl, is1, is2⟩ := i1.two
  cases is1
  intro p dx hp hdx hne
  have x0 : Ext H1 (upd (upd H1 dx (.own p)) p (.ins (cT X.K) dx [])) := fun b o e => by
    rw [upd_ne (ne_of_none e hp), upd_ne (ne_of_none e hdx)]
    exact e
  show spTI (cT X.K) ([.ref p, .int st, v2] ++ []) _ _ E0
  refine ⟨p, dx, st, ns, v2, O, rfl, upd_same, g1.al.ext x0, is2.ext x0, hst, hrow, fun l1 l2 H2 k2 hp2 h1 h2 f1 f2 => ⟨rfl, ?_⟩⟩
  have x2 : Ext H1 H2 := fun b o e => k2 b o (ne_of_none e hp) (x0 b o e)
  have n1 : H1 l1 = none := ext_none x0 f1
  have n2 : H1 l2 = none := ext_none x0 f2
  have l1p : l1 ≠ p := fun z => by rw [z, upd_same] at f1; cases f1
  have l2p : l2 ≠ p := fun z => by rw [z, upd_same] at f2; cases f2
  have hpH : bl H p := fun o q' m => by
    by_cases hd : Dx σ ρ p
    · exact g1.al.fresh hp (g1.dxO hd)
    · rw [e1 p o hd m q'] at hp; cases hp
  obtain ⟨g2, mu, hoc⟩ := g1.own (o := .ins (cT X.K) dx (tfs (.int st) v2 (.ref l1) (.ref l2))) hp (kd.nw (.inr (.inr ⟨_, _, _, rfl⟩)))
  have x3 : Ext (upd H1 p (.ins (cT X.K) dx (tfs (.int st) v2 (.ref l1) (.ref l2)))) H2 := fun b o e => by
    by_cases hb : b = p
    · subst hb; rw [upd_same] at e; cases e; exact hp2
    · rw [upd_ne hb] at e; exact x2 b o e
  refine q _ (.ref p) H2 _ ⟨p, rfl⟩ (g2.ext' x3) (fun _ h => .inl h) (fun a h => h.imp id fun z => by rw [z]; exact hpH) (e1.trans x2.exd) ⟨p, _, rfl, .inr rfl, fun _ => hoc, fun _ => mu, hp2, rfl, dx, _, _, _, _, rfl, ?_⟩ (fun _ => ⟨p, rfl, hpH⟩)
  have al1 := g1.al
  exact ⟨.int st, is2.more (fun a h => h.imp id fun z => by rw [z]; exact bl_none hp) x2.ex, .lst (fun z => z.elim (al1.fresh n1) l1p) h1 .nil, .lst (fun z => z.elim (al1.fresh n2) l2p) h2 .nil⟩
/-- Table(a, b) raises -/
theorem r_make {E : XK} {e1 e2 : Expr} {d1 d2 : PyData} {c : Ec} {p1 : Pos} {k : Nat} (tk : L2N.Takes X (fun cls d _ H' => E cls d H')) (TB0 : Tb X.K X.mg (cT X.K)) (GI : D_R_T_init X.prog X.w X.K X.mg X.base) (hr : Room k X.A) (hk : 6 ≤ k) (ha : AV X [e1, e2] ρ [d1, d2]) (hx : bothX d1 d2 = some c) (hg : Gl X "Table" := by rfl)
    (hs : starEach [e1, e2] X.env = (false, eval e1 X.env) :: starEach [e2] X.env := by rfl) (hpl : (backTo pos (starEach [e2] X.env)).any (·.1) = false := by rfl) : XR X (fun cls d _ H' => E cls d H') (.Call (.Name "Table" p1) [e1, e2] [] pos) ρ (cl X.K c) := by
  obtain ⟨fI, fdI, MI, bI, FI⟩ := GI
  refine PE.imp (pe_make MI FI (hr.mono hk) hg TB0.gl bI .nil (L2N.passes_call tk fun cls d σ H h => h) ha (by decide) hs hpl) fun σ H Q ⟨Wf, O, g, q⟩ => ⟨Wf, O, g, fun ds vs H1 hd g1 e1 i1 => ?_⟩
  subst hd
  obtain ⟨v1, v2, rfl, is1, is2⟩ := i1.two
  intro p dx hp hdx hne
  have x0 : Ext H1 (upd (upd H1 dx (.own p)) p (.ins (cT X.K) dx [])) := fun b o e => by
    rw [upd_ne (ne_of_none e hp), upd_ne (ne_of_none e hdx)]
    exact e
  show spTJ X.K ([.ref p, v1, v2] ++ []) _ _ E
  exact ⟨p, d1, d2, v1, v2, O, rfl, g1.al.ext x0, is1.ext x0, is2.ext x0, by rw [hx]; rfl, fun H' x2 => by rw [hx]; exact q H' (g1.ext' (x0.trans x2)) (e1.trans (x0.trans x2).exd)⟩
end
theorem TOk.le {m n : Nat} {t : Tst} (h : TOk m t) (k : m ≤ n) : TOk n t := ⟨h.st, h.now, h.er, h.un, Nat.le_trans h.el k, Nat.le_trans h.ul k⟩
theorem made_ok {t t' : Tst} {n : Nm} {q : Nat} {m : PyData} (h : (m, t') = dnR t n q) : Shp m ∧ PyData.eqv m m = true := by
  have e1 : m = (dnR t n q).1 := by rw [← h]
  rcases dn_made t n q with ⟨c, hc⟩ | hc
  · rw [e1, hc]
    exact ⟨(sh_res c).shp, by rw [eqv_res]; exact decide_eq_true rfl⟩
  · rw [e1, hc]
    exact ⟨(sh_tI (n := 0) _).shp, by rw [eqv_tI]; exact decide_eq_true rfl⟩
section
variable {P : Program} {w : World} {K : PySem.W.Frag} {mg : Str → Option Value} {base : Heap}
abbrev N_law : List Str := ["script", "dice", "steep", "row", "table", "earlier", "undone", "turn", "made", "due", "bad"]
theorem sc_law : FnScope N_law ["script"] (defScope s_law) := ⟨rfl, rfl, rfl, by decide +kernel, rfl, by decide +kernel, by decide +kernel⟩
theorem ok_law {f c Pt Pt2 : Addr} {kV doc pm ct oc : Value} {an od : Option Addr} {osl : Array (Option Value)} (lk : K.lookup f = some ⟨oc, od, .func (PySem.W.fnOf "law" "law" (defArgs s_law) (defBody s_law) (defScope s_law) .none kV doc pm an (.ref c) ct), osl⟩) (hcd : PySem.W.codeIn K (.ref c) "law" = true) (TB : LamX.TabB base mg c Pt) (hne : Pt ≠ Pt2)
    (B : Bl mg) (TB0 : Tb K mg (cT K)) (G0 : D_rounds P w K mg base) (GA : D_any_row P w K mg base) (GS : D_steep P w K mg base) (GT : D_told P w K mg base) (GU : D_turn P w K mg base [(Pt, lamN), (Pt2, lamD)]) (TI : D_T_init P w K mg base) (TJ : D_R_T_init P w K mg base) (RS : D_RT_slide P w K mg base) (RP : D_RT_put P w K mg base) (TR : D_T_row P w K mg base) (TL : D_T_len P w K mg base) :
    FnOk P w K mg base CX0 11 f (PySem.W.fnOf "law" "law" (defArgs s_law) (defBody s_law) (defScope s_law) .none kV doc pm an (.ref c) ct) ["script"] (spLaw K [(Pt, lamN), (Pt2, lamD)]) := by
  refine law_ok (n := 9) (most := 3) (k := 10) lk hcd sc_law G0 rfl rfl rfl rfl (Or.inl rfl) (Or.inl rfl) rfl ⟨by decide, by decide⟩ (by decide) fun A outer s H hr => ?_
  have hT : (Pt, lamN) ∈ [(Pt, lamN), (Pt2, lamD)] := List.mem_cons_self
  have hu : ∀ p ∈ [(Pt, lamN), (Pt2, lamD)], p.1 = Pt → p.2 = lamN := fun p hp e => by
    rcases List.mem_cons.mp hp with rfl | hp
    · rfl
    · rw [List.mem_singleton.mp hp] at e
      exact absurd e.symm hne
  refine S_unp2 2 3 (x_fD 1 () GS hr a_nil trivial rfl) (x_fD 1 18 GA hr (a_cons x_int a_nil) ⟨by decide, by decide⟩ rfl) (fun a b ha hb => ?_) (pg_tup rfl (pgs_cons (pg_name (i := 2) sc_law.nd rfl (Or.inr rfl)) (pgs_cons (pg_name (i := 3) sc_law.nd rfl (Or.inr rfl)) pgs_nil)))
  obtain ⟨st, hst, rfl⟩ := ha
  obtain ⟨ns, ⟨hrow, _⟩, rfl⟩ := hb
  have hst : 2 ≤ st ∧ st ≤ 4 := hst
  refine S_tab3 4 5 6 (xs_make TB0 TI hr (by decide) (a_cons (xv 2 rfl) (a_cons (xv 3 rfl) a_nil)) hst hrow) (fun s hs => ?_) (pg_tup rfl (pgs_cons (pg_name (i := 4) sc_law.nd rfl (Or.inr rfl)) (pgs_cons (pg_name (i := 5) sc_law.nd rfl (Or.inl rfl)) (pgs_cons (pg_name (i := 6) sc_law.nd rfl (Or.inl rfl)) pgs_nil))))
  obtain ⟨p, rfl⟩ := hs
  refine s_for (asg := asg1 7) (i_rng1 (n := 16) B.range x_int ⟨by decide, by decide⟩) (pg_name (i := 7) sc_law.nd rfl (Or.inl rfl)) (tg1 7)
    (fun i ρ => ∃ (t : Tst) (s7 s8 s9 : Sl), TOk i t ∧ t.st = st ∧ nd [s7, s8, s9] 0 = true ∧ nd [s7, s8, s9] 1 = true ∧ nd [s7, s8, s9] 2 = true ∧ ρ = [.tab [(Pt, lamN), (Pt2, lamD)], .dice, .val (.int st), .val (tI t.now), .gn (tbG (cT K) p t) true true, .val (lT t.er), .val (lT t.un), s7, s8, s9, .no])
    ⟨⟨st, ns, [], []⟩, .no, .no, .no, ⟨hst, hrow, fun _ z => (nomatch z), fun _ z => (nomatch z), Nat.zero_le _, Nat.zero_le _⟩, rfl, rfl, rfl, rfl, rfl⟩ (fun i d ρ1 hd hI => ?_) (fun ρ1 hI => ?_) PassesOwn.never rfl
  · obtain ⟨t, s7, s8, s9, ht, hts, n7, n8, n9, rfl⟩ := hI
    subst hts
    have hi : i < 16 := by
      have := (List.getElem?_eq_some_iff.mp hd).1
      rw [List.length_map, rng_length] at this
      exact this
    refine ⟨[.tab [(Pt, lamN), (Pt2, lamD)], .dice, .val (.int t.st), .val (tI t.now), .gn (tbG (cT K) p t) true true, .val (lT t.er), .val (lT t.un), .val d, s8, s9, .no], if_pos n7, ?_⟩
    refine s_seq (sx_unp5 8 9 3 5 6 (x_callDL (i := 4) (i0 := 0) (id := 1) t GU hr (a_cons (xv 2 rfl) (a_cons (xv 3 rfl) (a_cons (xv 5 rfl) (a_cons (xv 6 rfl) a_nil)))) (ht.le (by omega)) rfl rfl rfl) (fun d ρ' h => ?_) (pg_tup rfl (pgs_cons (pg_name (i := 8) sc_law.nd rfl (Or.inl rfl)) (pgs_cons (pg_name (i := 9) sc_law.nd rfl (Or.inl rfl)) (pgs_cons (pg_name (i := 3) sc_law.nd rfl (Or.inr rfl)) (pgs_cons (pg_name (i := 5) sc_law.nd rfl (Or.inl rfl)) (pgs_cons (pg_name (i := 6) sc_law.nd rfl (Or.inl rfl)) pgs_nil))))))) fun ρ' h => ?_
    · obtain ⟨t', ⟨n, q, m, _, rfl⟩, rfl⟩ := h
      exact ⟨⟨_, _, _, _, _, rfl⟩, n8, n9, rfl, rfl, rfl⟩
    obtain ⟨a1, a2, a3, a4, a5, ρ3, ⟨t', ⟨n, q, m, hm, ha⟩, rfl⟩, rfl⟩ := h
    obtain ⟨rfl, rfl, rfl, rfl, rfl⟩ : m = a1 ∧ m = a2 ∧ tI t'.now = a3 ∧ lT t'.er = a4 ∧ lT t'.un = a5 := by
      cases ha
      exact ⟨rfl, rfl, rfl, rfl, rfl⟩
    have ht' : TOk (i + 1) t' := by
      have := ht.dn n q
      rw [← hm] at this
      exact this
    have hs' : t'.st = t.st := by
      have := dn_st t n q
      rw [← hm] at this
      exact this
    have hel := ht'.el
    obtain ⟨hsh, hrf⟩ := made_ok hm
    show SXs _ _ [.tab [(Pt, lamN), (Pt2, lamD)], .dice, .val (.int t.st), .val (tI t'.now), .gn (tbG (cT K) p t') true true, .val (lT t'.er), .val (lT t'.un), .val d, .val m, .val m, .no] _ _
    refine s_ifN (tv_is (wv_pt (w_or (tx_cmp (op_neD hr.units) (xv 8 rfl) (xv 9 rfl) (rd_neD hsh hsh)) fun _ => w_or (tx_cmp (op_neD hr.units) (xv_of (d := tI t'.now) (x_methV (i := 4) t' TR TB0.cl hr rfl trivial rfl) fun z h => h) (xv 3 rfl) rd_neTI) fun _ => w_or1 (tx_cmp (op_neD hr.units) (x_lenT (i := 4) (n := t'.er.length) t' TL hr rfl trivial rfl (by omega) rfl B.len) (x_callB call_len_seq B.len (a_cons (xv 5 rfl) a_nil) rc_lenL) rd_neI))) ?_) (s_nil ⟨t', .val d, .val m, .val m, ht', hs', rfl, rfl, rfl, rfl⟩)
    rw [hrf, ndec rfl, List.length_map, ndec rfl]
    rfl
  obtain ⟨t, s7, s8, s9, ht, hts, n7, n8, n9, rfl⟩ := hI
  subst hts
  have hrt := ht.now
  have hlen := hrt.len
  refine s_for (asg := asg1 10) (i_list (x_lst (ds := [.int (-1), .int 19, .bool true, .none]) (a_cons (x_un un_neg x_int ru_neg) (a_cons x_int (a_cons x_bl (a_cons x_non a_nil)))))) (pg_name (i := 10) sc_law.nd rfl (Or.inr rfl)) (tg1 10)
    (fun i ρ => ∃ s10, nd [s10] 0 = true ∧ ρ = [.tab [(Pt, lamN), (Pt2, lamD)], .dice, .val (.int t.st), .val (tI t.now), .gn (tbG (cT K) p t) true true, .val (lT t.er), .val (lT t.un), s7, s8, s9, s10]) ⟨.no, rfl, rfl⟩ (fun i d ρ1 hd hI => ?_) (fun ρ1 hI => ?_) PassesOwn.never rfl
  · obtain ⟨s10, n10, rfl⟩ := hI
    have hw : isWhole d 0 ((t.now.length : Nat) - 1) = false ∧ isWhole d 0 (t.now.length : Nat) = false := by
      have hm := List.mem_of_getElem? hd
      simp only [List.mem_cons, List.not_mem_nil, or_false] at hm
      rcases hm with rfl | rfl | rfl | rfl
      · exact ⟨by unfold isWhole; simp, by unfold isWhole; simp⟩
      · exact ⟨by unfold isWhole; simp; omega, by unfold isWhole; simp; omega⟩
      · exact ⟨rfl, rfl⟩
      · exact ⟨rfl, rfl⟩
    have hx : slidX t.st t.now d = some .pl := by unfold slidX; rw [if_neg (by rw [hw.1]; exact Bool.false_ne_true)]
    have hy : raisedX t.now d = some .pl := by unfold raisedX; rw [if_neg (by rw [hw.2]; exact Bool.false_ne_true)]
    refine ⟨[.tab [(Pt, lamN), (Pt2, lamD)], .dice, .val (.int t.st), .val (tI t.now), .gn (tbG (cT K) p t) true true, .val (lT t.er), .val (lT t.un), s7, s8, s9, .val d], if_pos n10, ?_⟩
    refine s_ifN (tn_res hr.units (x_toldE (T := [(Pt, lamN), (Pt2, lamD)]) (i0 := 0) (k := 8) (χ := fun z => z = res .pl) GT TB rfl hT hu hr (LamX.lamS_by (sc := defScope s_law) (by decide +kernel)) .pl rfl (fun A' outer' s' H' E' f' c' hr' tk => r_meth (i := 4) (t, d) tk RS TB0.cl hr' (a_cons (xv 10 rfl) a_nil) ⟨⟨hst, hrt⟩, by show (slidX _ _ _).isSome = true; rw [hx]; rfl⟩ (by show cl K ((slidX _ _ _).getD .st) = _; rw [hx]; rfl) rfl) (by decide) rfl)) ?_
    refine s_ifN (tn_res hr.units (x_toldE (T := [(Pt, lamN), (Pt2, lamD)]) (i0 := 0) (k := 8) (χ := fun z => z = res .pl) GT TB rfl hT hu hr (LamX.lamS_by (sc := defScope s_law) (by decide +kernel)) .pl rfl (fun A' outer' s' H' E' f' c' hr' tk => r_meth (i := 4) (t, d) tk RP TB0.cl hr' (a_cons (xv 10 rfl) a_nil) ⟨hrt, by show (raisedX _ _).isSome = true; rw [hy]; rfl⟩ (by show cl K ((raisedX _ _).getD .st) = _; rw [hy]; rfl) rfl) (by decide) rfl)) ?_
    exact s_nil ⟨.val d, rfl, rfl⟩
  obtain ⟨s10, n10, rfl⟩ := hI
  refine s_ifN (tv_is (wv_pt (w_or (k := false) (l := false) ?_ fun _ => w_or1 ?_)) rfl) ?_
  · exact tn_res hr.units (x_toldE (T := [(Pt, lamN), (Pt2, lamD)]) (i0 := 0) (k := 8) (χ := fun z => z = res .st) GT TB rfl hT hu hr (LamX.lamS_by (sc := defScope s_law) (by decide +kernel)) .st rfl (fun A' outer' s' H' E' f' c' hr' tk => r_make tk TB0 TJ hr' (by decide) (a_cons x_int (a_cons (xv 3 rfl) a_nil)) (both_st rfl)) (by decide) rfl)
  · exact tv_is (tx_cmp (op_neD hr.units) (xv_of (d := tI t.now) (x_methV (i := 4) t TR TB0.cl hr rfl trivial rfl) fun z h => h) (xv 3 rfl) rd_neTI) (ndec rfl)
  refine s_ifN (tn_res hr.units (x_toldE (T := [(Pt, lamN), (Pt2, lamD)]) (i0 := 0) (k := 8) (χ := fun z => z = res .row) GT TB rfl hT hu hr (LamX.lamS_by (sc := defScope s_law) (by decide +kernel)) .row rfl (fun A' outer' s' H' E' f' c' hr' tk => r_make tk TB0 TJ hr' (by decide) (a_cons (xv 2 rfl) (a_cons x_non a_nil)) (both_row (is_steep hst) rfl)) (by decide) rfl)) ?_
  exact s_nil rfl
end
/-- the law's own def and a helper with lambdas, for the end -/
theorem end_T2 {l : PySem.W.OpenLaw} {w : World} {K : PySem.W.Frag} {h : Heap} {mg mb : Str → Option Value} {q : Program} {loose : List Str} {mean : ExcName → Option Value} {fa f c Pt c2 Pt2 : Addr} {k : Nat} {oc kV doc pm ct o2 : Value} {od an d2 : Option Addr} {sl s2 : Array (Option Value)} {vs : Array Value} (X : K.In h) (T : Top q loose mean mg mb h) (hfa : mg "law" = some (.ref fa))
    (a : PySem.W.nsIn K mainGlobals "law" = some (some (.ref f))) (lk : K.lookup f = some ⟨oc, od, .func (PySem.W.fnOf "law" "law" (defArgs s_law) (defBody s_law) (defScope s_law) .none kV doc pm an (.ref c) ct), sl⟩) (cd : PySem.W.codeIn K (.ref c) "law" = true)
    (l2 : K.lookup c = some ⟨o2, d2, .fields vs, s2⟩) (hv : vs[11]? = some (.ref Pt)) (hr : ((recsOf q).find? (fun e => e.name == ("law" : Str))).isSome = true) (nT : K.lookup Pt = none)
    (tI2 : PySem.W.tabIn K "_law_done" = some (c2, Pt2)) (hr2 : ((recsOf q).find? (fun e => e.name == ("_law_done" : Str))).isSome = true) (nT2 : K.lookup Pt2 = none)
    (ok : K.lookup f = some ⟨oc, od, .func (PySem.W.fnOf "law" "law" (defArgs s_law) (defBody s_law) (defScope s_law) .none kV doc pm an (.ref c) ct), sl⟩ → PySem.W.codeIn K (.ref c) "law" = true → ∀ base : Heap, K.In base → base.Ns mainGlobals mg → LamX.TabB base mg c Pt → LamX.TabB base mg c2 Pt2 → FnOk l.prog w K mg base CX0 k f (PySem.W.fnOf "law" "law" (defArgs s_law) (defBody s_law) (defScope s_law) .none kV doc pm an (.ref c) ct) ["script"] (spLaw K [(Pt, lamN), (Pt2, lamD)]))
    (hb : ∀ (s : Shared) (v : Value), BindsTo s (PySem.W.fnOf "law" "law" (defArgs s_law) (defBody s_law) (defScope s_law) .none kV doc pm an (.ref c) ct) ⟨[v], []⟩ [("script", v)]) :
    LamX.LawAtS l w K CX0 k 63 "script" mg fa h := by
  have e := hfa.symm.trans (PySem.W.mg_of X T.g a)
  cases e
  obtain ⟨d, hr⟩ := Option.isSome_iff_exists.mp hr
  obtain ⟨d', hr2⟩ := Option.isSome_iff_exists.mp hr2
  obtain ⟨C, ht⟩ := PySem.W.tab_of T X hr (tabIn_of a lk rfl l2 hv)
  obtain ⟨C2, ht2⟩ := PySem.W.tab_of T X hr2 tI2
  have two : ∀ {A : Addr × Addr → Prop}, A (c, Pt) → A (c2, Pt2) → ∀ p ∈ [(c, Pt), (c2, Pt2)], A p := fun h1 h2 p hp => by
    rcases List.mem_cons.mp hp with rfl | hp
    · exact h1
    · rw [List.mem_singleton.mp hp]; exact h2
  refine ⟨_, [(c, Pt), (c2, Pt2)], spLaw K [(Pt, lamN), (Pt2, lamD)], two ht ht2, two nT nT2, two C C2, hb, fun H a ns hl _ hH hS => ⟨a, ns, rfl, hS, hl, fun p hp => ?_, fun _ => rfl⟩, fun base h1 h2 h3 => ok lk cd base h1 h2 (h3 (c, Pt) List.mem_cons_self) (h3 (c2, Pt2) (List.mem_cons_of_mem _ List.mem_cons_self))⟩
  rcases List.mem_cons.mp hp with rfl | hp
  · exact LamX.TabS.nil (hH (c, Pt) List.mem_cons_self)
  · rw [List.mem_singleton.mp hp]
    exact LamX.TabS.nil (hH (c2, Pt2) (List.mem_cons_of_mem _ List.mem_cons_self))
/-- a def with its code object, from the top -/
theorem txc_use {goal : Prop} {K : PySem.W.Frag} {mg : Str → Option Value} {h : Heap} (x : Str) (st : Stmt) (ps : List Str) {f c Pt : Addr} {oc kV doc pm ct o2 : Value} {od an d2 : Option Addr} {sl s2 : Array (Option Value)} {vs : Array Value} (X : K.In h) (G : h.Ns mainGlobals mg) (a : PySem.W.nsIn K mainGlobals x = some (some (.ref f)))
    (l : K.lookup f = some ⟨oc, od, .func (PySem.W.fnOf x x (defArgs st) (defBody st) (defScope st) .none kV doc pm an (.ref c) ct), sl⟩) (cc : PySem.W.codeIn K (.ref c) x = true) (k : PySem.W.keepIn K (.ref f) = true)
    (l2 : K.lookup c = some ⟨o2, d2, .fields vs, s2⟩) (hv : vs[11]? = some (.ref Pt)) (nT : K.lookup Pt = none)
    (hb : ∀ (kV doc pm : Value) (an : Option Addr) (cdv ct : Value) (us : List Value), us.length = ps.length → bindArgs (PySem.W.fnOf x x (defArgs st) (defBody st) (defScope st) .none kV doc pm an cdv ct) ⟨us, []⟩ = pure (ps.zip us)) (go : TxC K mg x st ps c → PySem.W.tabIn K x = some (c, Pt) → K.lookup Pt = none → goal) : goal :=
  go ⟨f, oc, od, kV, doc, pm, an, ct, sl, l, cc, ⟨PySem.W.mg_of X G a, k, (fun_mk (st := st) l cc k).binds hb⟩⟩ (tabIn_of a l rfl l2 hv) nT
end Sr
set_option Elab.async false
set_option linter.all false
namespace Sr
open PySem PySem.Spec PyProof.Rows L2 Pd
theorem txm_useX {goal : Prop} {K : PySem.W.Frag} {h : Heap} (X : K.In h) (m qual : Str) (st : Stmt) (ps : List Str) {C f : Addr} {oc kV doc pm cdv ct : Value} {od an : Option Addr} {sl : Array (Option Value)} (aC : PySem.W.nsIn K mainGlobals "Table" = some (some (.ref C))) (a : PySem.W.findIn K (.ref C) m = some (some (.ref f))) (i : PySem.W.isFn K (.ref f) = true)
    (l : K.lookup f = some ⟨oc, od, .func (PySem.W.fnOf m qual (defArgs st) (defBody st) (defScope st) .none kV doc pm an cdv ct), sl⟩) (c : PySem.W.codeIn K cdv qual = true) (k : PySem.W.keepIn K (.ref f) = true)
    (hb : ∀ (kV doc pm : Value) (an : Option Addr) (cdv ct : Value) (us : List Value), us.length = ps.length → bindArgs (PySem.W.fnOf m qual (defArgs st) (defBody st) (defScope st) .none kV doc pm an cdv ct) ⟨us, []⟩ = pure (ps.zip us)) (go : TxM K (adr K "Table") m qual st ps → goal) : goal :=
  Pd.txm_use m qual st ps aC a i l c k hb go
theorem txi_useX {goal : Prop} {K : PySem.W.Frag} {h : Heap} (X : K.In h) (qual : Str) (st : Stmt) (ps : List Str) {C f : Addr} {oc kV doc pm cdv ct : Value} {od an : Option Addr} {sl : Array (Option Value)} (aC : PySem.W.nsIn K mainGlobals "Table" = some (some (.ref C))) (a : PySem.W.findIn K (.ref C) "__init__" = some (some (.ref f))) (i : PySem.W.isFn K (.ref f) = true)
    (l : K.lookup f = some ⟨oc, od, .func (PySem.W.fnOf "__init__" qual (defArgs st) (defBody st) (defScope st) .none kV doc pm an cdv ct), sl⟩) (c : PySem.W.codeIn K cdv qual = true) (k : PySem.W.keepIn K (.ref f) = true) (mk : PySem.W.makesIn K C = true) (kc : PySem.W.keepIn K (.ref C) = true)
    (hb : ∀ (kV doc pm : Value) (an : Option Addr) (cdv ct : Value) (us : List Value), us.length = ps.length → bindArgs (PySem.W.fnOf "__init__" qual (defArgs st) (defBody st) (defScope st) .none kV doc pm an cdv ct) ⟨us, []⟩ = pure (ps.zip us)) (go : TxI K (adr K "Table") qual st ps → goal) : goal :=
  Pd.txi_use qual st ps aC a i l c k mk kc hb go
theorem all_ok {P : Program} {w : World} {K : PySem.W.Frag} {mg : Str → Option Value} {base : Heap} {f c Pt c2 Pt2 : Addr} {kV doc pm ct oc : Value} {an od : Option Addr} {osl : Array (Option Value)} (lk : K.lookup f = some ⟨oc, od, .func (PySem.W.fnOf "law" "law" (defArgs s_law) (defBody s_law) (defScope s_law) .none kV doc pm an (.ref c) ct), osl⟩) (hcd : PySem.W.codeIn K (.ref c) "law" = true) (TB : LamX.TabB base mg c Pt) (TBD : LamX.TabB base mg c2 Pt2) (hne : Pt ≠ Pt2) (B : Bl mg) (Z : Xf K mg) (TB0 : Tb K mg (adr K "Table")) (T_T_init : TxI K (adr K "Table") "Table.__init__" s_T_init ["self", "steep", "row"]) (T_T_change : TxM K (adr K "Table") "change" "Table.change" s_T_change ["self", "row"]) (T_T_slide : TxM K (adr K "Table") "slide" "Table.slide" s_T_slide ["self", "place"]) (T_T_put : TxM K (adr K "Table") "put" "Table.put" s_T_put ["self", "place"]) (T_T_settle : TxM K (adr K "Table") "settle" "Table.settle" s_T_settle ["self"]) (T_T_row : TxM K (adr K "Table") "row" "Table.row" s_T_row ["self"]) (T_T_undo : TxM K (adr K "Table") "undo" "Table.undo" s_T_undo ["self"]) (T_T_redo : TxM K (adr K "Table") "redo" "Table.redo" s_T_redo ["self"]) (T_T_len : TxM K (adr K "Table") "__len__" "Table.__len__" s_T_len ["self"]) (T_is_whole : Tx K mg "is_whole" s_is_whole ["value", "low", "high"]) (T_is_row : Tx K mg "is_row" s_is_row ["value"]) (T_need_row : Tx K mg "need_row" s_need_row ["row"]) (T_need_both : Tx K mg "need_both" s_need_both ["steep", "row"]) (T_steps_of : Tx K mg "steps_of" s_steps_of ["row"]) (T_raised : Tx K mg "raised" s_raised ["row", "place"]) (T_places_of : Tx K mg "places_of" s_places_of ["steep", "row"]) (T_moved : Tx K mg "moved" s_moved ["row", "place"]) (T_slid : Tx K mg "slid" s_slid ["steep", "row", "place"]) (T_course : Tx K mg "course" s_course ["steep", "row"]) (T_end_of : Tx K mg "end_of" s_end_of ["steep", "row"]) (T_law_cell : Tx K mg "_law_cell" s_law_cell ["script", "k"]) (T_law_drawn : Tx K mg "_law_drawn" s_law_drawn ["cell", "k"]) (T_law_roll : Tx K mg "_law_roll" s_law_roll ["dice", "many"]) (T_law_rounds : Tx K mg "_law_rounds" s_law_rounds ["script", "most"]) (T_law_term : Tx K mg "_law_term" s_law_term ["e"]) (T_law_told : Tx K mg "_law_told" s_law_told ["deed"]) (T_law_any_row : Tx K mg "_law_any_row" s_law_any_row ["dice", "limit"]) (T_law_steep : Tx K mg "_law_steep" s_law_steep ["dice"]) (T_law_free : Tx K mg "_law_free" s_law_free ["steep", "row"]) (T_law_moved : Tx K mg "_law_moved" s_law_moved ["row", "place"]) (T_law_end : Tx K mg "_law_end" s_law_end ["dice", "steep", "row"]) (T_law_done : TxC K mg "_law_done" s_law_done ["table", "name", "place"] c2) (T_law_next : Tx K mg "_law_next" s_law_next ["dice", "steep", "name", "row", "place"]) (T_law_turn : Tx K mg "_law_turn" s_law_turn ["dice", "table", "steep", "row", "earlier", "undone"]) : FnOk P w K mg base CX0 11 f (PySem.W.fnOf "law" "law" (defArgs s_law) (defBody s_law) (defScope s_law) .none kV doc pm an (.ref c) ct) ["script"] (spLaw K [(Pt, lamN), (Pt2, lamD)]) := by
  have G_is_whole : D_is_whole P w K mg base := ok_is_whole T_is_whole B
  have G_is_row : D_is_row P w K mg base := ok_is_row T_is_row B G_is_whole
  have G_need_row : D_need_row P w K mg base := ok_need_row T_need_row G_is_row
  have G_need_both : D_need_both P w K mg base := ok_need_both T_need_both G_is_whole G_need_row
  have G_steps_of : D_steps_of P w K mg base := ok_steps_of T_steps_of B
  have G_places_of : D_places_of P w K mg base := ok_places_of T_places_of B G_steps_of
  have G_moved : D_moved P w K mg base := ok_moved T_moved B
  have G_course : D_course P w K mg base := ok_course T_course B G_places_of G_moved
  have G_end_of : D_end_of P w K mg base := ok_end_of T_end_of G_course
  have G_raised : D_raised P w K mg base := ok_raised T_raised B G_is_whole
  have G_drawn : D_drawn P w K mg base := ok_drawn T_law_drawn
  have G_roll : D_roll P w K mg base := ok_roll T_law_roll G_drawn
  have G_steep : D_steep P w K mg base := ok_steep T_law_steep G_roll
  have G_cell : D_cell P w K mg base := ok_cell T_law_cell B
  have G_rounds : D_rounds P w K mg base := ok_rounds T_law_rounds B G_cell
  have G_term : D_term P w K mg base := ok_term T_law_term B Z
  have G_told : D_told P w K mg base := ok_told T_law_told Z G_term
  have G_any_row : D_any_row P w K mg base := ok_any_row T_law_any_row B G_roll
  have G_law_free : D_law_free P w K mg base := ok_law_free T_law_free B
  have G_law_moved : D_law_moved P w K mg base := ok_law_moved T_law_moved B
  have G_slid : D_slid P w K mg base := ok_slid T_slid B G_is_whole G_need_both G_places_of G_moved
  have G_R_need_row : D_R_need_row P w K mg base := ok_R_need_row T_need_row G_is_row Z
  have G_R_need_both : D_R_need_both P w K mg base := ok_R_need_both T_need_both G_is_whole G_R_need_row Z
  have G_R_slid : D_R_slid P w K mg base := ok_R_slid T_slid B G_is_whole G_need_both G_places_of Z
  have G_R_raised : D_R_raised P w K mg base := ok_R_raised T_raised B G_is_whole Z
  have G_law_end : D_law_end P w K mg base := ok_law_end T_law_end B G_roll G_law_free G_law_moved
  have G_T_init : D_T_init P w K mg base := ok_T_init T_T_init TB0 G_need_both
  have G_R_T_init : D_R_T_init P w K mg base := ok_R_T_init T_T_init G_R_need_both
  have G_R_redo : D_R_redo P w K mg base := ok_R_redo T_T_redo TB0 Z
  have G_T_change : D_T_change P w K mg base := ok_T_change T_T_change TB0
  have G_T_slide : D_T_slide P w K mg base := ok_T_slide T_T_slide TB0 G_slid G_T_change
  have G_T_put : D_T_put P w K mg base := ok_T_put T_T_put TB0 G_raised G_T_change
  have G_T_settle : D_T_settle P w K mg base := ok_T_settle T_T_settle TB0 G_end_of G_T_change
  have G_T_undo : D_T_undo P w K mg base := ok_T_undo T_T_undo TB0
  have G_T_redo : D_T_redo P w K mg base := ok_T_redo T_T_redo TB0
  have G_RT_slide : D_RT_slide P w K mg base := ok_RT_slide T_T_slide TB0 G_R_slid G_T_change
  have G_RT_put : D_RT_put P w K mg base := ok_RT_put T_T_put TB0 G_R_raised G_T_change
  have G_RT_undo : D_RT_undo P w K mg base := ok_RT_undo T_T_undo TB0 Z
  have G_RT_redo : D_RT_redo P w K mg base := ok_RT_redo T_T_redo TB0 Z
  have G_T_row : D_T_row P w K mg base := ok_T_row T_T_row TB0
  have G_T_len : D_T_len P w K mg base := ok_T_len T_T_len TB0 B
  have hT2 : (Pt2, lamD) ∈ [(Pt, lamN), (Pt2, lamD)] := List.mem_cons_of_mem _ List.mem_cons_self
  have hu2 : ∀ p ∈ [(Pt, lamN), (Pt2, lamD)], p.1 = Pt2 → p.2 = lamD := fun p hp e => by
    rcases List.mem_cons.mp hp with rfl | hp
    · exact absurd e hne
    · rw [List.mem_singleton.mp hp]
  have G_done : D_done P w K mg base [(Pt, lamN), (Pt2, lamD)] := ok_done T_law_done TBD hT2 hu2 TB0 G_told G_T_slide G_T_put G_T_settle G_T_undo G_T_redo G_RT_slide G_RT_put G_RT_undo G_RT_redo
  have G_next : D_next P w K mg base := ok_next T_law_next B G_law_end G_law_free G_law_moved
  have G_turn : D_turn P w K mg base [(Pt, lamN), (Pt2, lamD)] := ok_turn T_law_turn B G_roll G_done G_next
  exact ok_law lk hcd TB hne B TB0 G_rounds G_any_row G_steep G_told G_turn G_T_init G_R_T_init G_RT_slide G_RT_put G_T_row G_T_len
end Sr
open PySem PySem.W PyProof.Rows
set_option maxRecDepth 100000 in
set_option maxHeartbeats 0 in
theorem PySem.Challenge.cw_slidingrow_k19_whole_tables_holds : PySem.Challenge.rw_slidingrow_k19_whole_tables.Holds := by
  w_on; o_law; k_head; (case hw => w_witness2)
  k_fill
  refine Sr.walk_T (l := PySem.Challenge.rw_slidingrow_k19_whole_tables) (n := 63) (k := 11) (x := "script") (CX := fun _ => L2.CX0) rfl (by decide) rfl ⟨rfl, by decide, by decide⟩ (fun w h Y => PySem.W.km_in_of Y) ?F (fun _ _ _ _ _ h => h)
  case F =>
    intro w s0 mg mb fa h G0 KX hmg
    have G := G0.T.g
    refine' Sr.bl_use KX G ?b0 ?b1 ?b2 ?b3 ?b4 ?b5 ?b6 ?b7 ?b8 ?b9 ?b10 ?b11 ?b12 ?b13 ?b14 ?b15 ?b16 ?b17 fun B => ?_
    (case b0 => k_is); (case b1 => k_is); (case b2 => k_is); (case b3 => k_is); (case b4 => k_is); (case b5 => k_is); (case b6 => k_is); (case b7 => k_is); (case b8 => k_is); (case b9 => k_is); (case b10 => k_is); (case b11 => k_is); (case b12 => k_is); (case b13 => k_is); (case b14 => k_is); (case b15 => k_is); (case b16 => k_is); (case b17 => k_is)
    have Z := Pd.xf_of KX G (by kernel_rfl)
    refine' Pd.tb_use KX G ?aC ?pg ?hd ?po ?sa ?n1 ?n2 ?n3 ?n4 fun TB0 => ?_
    (case aC => k_is); (case pg => k_is); (case hd => k_is); (case po => k_is); (case sa => k_is); (case n1 => k_is); (case n2 => k_is); (case n3 => k_is); (case n4 => k_is)
    refine' Sr.txi_useX KX "Table.__init__" Sr.s_T_init ["self", "steep", "row"] ?aC ?a ?i ?l ?c ?k ?mk ?kc (fun _ _ _ _ _ _ us hl => match us, hl with | [_, _, _], _ => rfl) fun T_T_init => ?_
    (case aC => k_is); (case a => k_is); (case i => k_is); (case l => k_is); (case c => k_is); (case k => k_is); (case mk => k_is); (case kc => k_is)
    refine' Sr.txm_useX KX "change" "Table.change" Sr.s_T_change ["self", "row"] ?aC ?a ?i ?l ?c ?k (fun _ _ _ _ _ _ us hl => match us, hl with | [_, _], _ => rfl) fun T_T_change => ?_
    (case aC => k_is); (case a => k_is); (case i => k_is); (case l => k_is); (case c => k_is); (case k => k_is)
    refine' Sr.txm_useX KX "slide" "Table.slide" Sr.s_T_slide ["self", "place"] ?aC ?a ?i ?l ?c ?k (fun _ _ _ _ _ _ us hl => match us, hl with | [_, _], _ => rfl) fun T_T_slide => ?_
    (case aC => k_is); (case a => k_is); (case i => k_is); (case l => k_is); (case c => k_is); (case k => k_is)
    refine' Sr.txm_useX KX "put" "Table.put" Sr.s_T_put ["self", "place"] ?aC ?a ?i ?l ?c ?k (fun _ _ _ _ _ _ us hl => match us, hl with | [_, _], _ => rfl) fun T_T_put => ?_
    (case aC => k_is); (case a => k_is); (case i => k_is); (case l => k_is); (case c => k_is); (case k => k_is)
    refine' Sr.txm_useX KX "settle" "Table.settle" Sr.s_T_settle ["self"] ?aC ?a ?i ?l ?c ?k (fun _ _ _ _ _ _ us hl => match us, hl with | [_], _ => rfl) fun T_T_settle => ?_
    (case aC => k_is); (case a => k_is); (case i => k_is); (case l => k_is); (case c => k_is); (case k => k_is)
    refine' Sr.txm_useX KX "row" "Table.row" Sr.s_T_row ["self"] ?aC ?a ?i ?l ?c ?k (fun _ _ _ _ _ _ us hl => match us, hl with | [_], _ => rfl) fun T_T_row => ?_
    (case aC => k_is); (case a => k_is); (case i => k_is); (case l => k_is); (case c => k_is); (case k => k_is)
    refine' Sr.txm_useX KX "undo" "Table.undo" Sr.s_T_undo ["self"] ?aC ?a ?i ?l ?c ?k (fun _ _ _ _ _ _ us hl => match us, hl with | [_], _ => rfl) fun T_T_undo => ?_
    (case aC => k_is); (case a => k_is); (case i => k_is); (case l => k_is); (case c => k_is); (case k => k_is)
    refine' Sr.txm_useX KX "redo" "Table.redo" Sr.s_T_redo ["self"] ?aC ?a ?i ?l ?c ?k (fun _ _ _ _ _ _ us hl => match us, hl with | [_], _ => rfl) fun T_T_redo => ?_
    (case aC => k_is); (case a => k_is); (case i => k_is); (case l => k_is); (case c => k_is); (case k => k_is)
    refine' Sr.txm_useX KX "__len__" "Table.__len__" Sr.s_T_len ["self"] ?aC ?a ?i ?l ?c ?k (fun _ _ _ _ _ _ us hl => match us, hl with | [_], _ => rfl) fun T_T_len => ?_
    (case aC => k_is); (case a => k_is); (case i => k_is); (case l => k_is); (case c => k_is); (case k => k_is)
    refine' Sr.tx_use "is_whole" Sr.s_is_whole ["value", "low", "high"] KX G ?a ?l ?c ?k (fun _ _ _ _ _ _ us hl => match us, hl with | [_, _, _], _ => rfl) fun T_is_whole => ?_
    (case a => k_is); (case l => k_is); (case c => k_is); (case k => k_is)
    refine' Sr.tx_use "is_row" Sr.s_is_row ["value"] KX G ?a ?l ?c ?k (fun _ _ _ _ _ _ us hl => match us, hl with | [_], _ => rfl) fun T_is_row => ?_
    (case a => k_is); (case l => k_is); (case c => k_is); (case k => k_is)
    refine' Sr.tx_use "need_row" Sr.s_need_row ["row"] KX G ?a ?l ?c ?k (fun _ _ _ _ _ _ us hl => match us, hl with | [_], _ => rfl) fun T_need_row => ?_
    (case a => k_is); (case l => k_is); (case c => k_is); (case k => k_is)
    refine' Sr.tx_use "need_both" Sr.s_need_both ["steep", "row"] KX G ?a ?l ?c ?k (fun _ _ _ _ _ _ us hl => match us, hl with | [_, _], _ => rfl) fun T_need_both => ?_
    (case a => k_is); (case l => k_is); (case c => k_is); (case k => k_is)
    refine' Sr.tx_use "steps_of" Sr.s_steps_of ["row"] KX G ?a ?l ?c ?k (fun _ _ _ _ _ _ us hl => match us, hl with | [_], _ => rfl) fun T_steps_of => ?_
    (case a => k_is); (case l => k_is); (case c => k_is); (case k => k_is)
    refine' Sr.tx_use "raised" Sr.s_raised ["row", "place"] KX G ?a ?l ?c ?k (fun _ _ _ _ _ _ us hl => match us, hl with | [_, _], _ => rfl) fun T_raised => ?_
    (case a => k_is); (case l => k_is); (case c => k_is); (case k => k_is)
    refine' Sr.tx_use "places_of" Sr.s_places_of ["steep", "row"] KX G ?a ?l ?c ?k (fun _ _ _ _ _ _ us hl => match us, hl with | [_, _], _ => rfl) fun T_places_of => ?_
    (case a => k_is); (case l => k_is); (case c => k_is); (case k => k_is)
    refine' Sr.tx_use "moved" Sr.s_moved ["row", "place"] KX G ?a ?l ?c ?k (fun _ _ _ _ _ _ us hl => match us, hl with | [_, _], _ => rfl) fun T_moved => ?_
    (case a => k_is); (case l => k_is); (case c => k_is); (case k => k_is)
    refine' Sr.tx_use "slid" Sr.s_slid ["steep", "row", "place"] KX G ?a ?l ?c ?k (fun _ _ _ _ _ _ us hl => match us, hl with | [_, _, _], _ => rfl) fun T_slid => ?_
    (case a => k_is); (case l => k_is); (case c => k_is); (case k => k_is)
    refine' Sr.tx_use "course" Sr.s_course ["steep", "row"] KX G ?a ?l ?c ?k (fun _ _ _ _ _ _ us hl => match us, hl with | [_, _], _ => rfl) fun T_course => ?_
    (case a => k_is); (case l => k_is); (case c => k_is); (case k => k_is)
    refine' Sr.tx_use "end_of" Sr.s_end_of ["steep", "row"] KX G ?a ?l ?c ?k (fun _ _ _ _ _ _ us hl => match us, hl with | [_, _], _ => rfl) fun T_end_of => ?_
    (case a => k_is); (case l => k_is); (case c => k_is); (case k => k_is)
    refine' Sr.tx_use "_law_cell" Sr.s_law_cell ["script", "k"] KX G ?a ?l ?c ?k (fun _ _ _ _ _ _ us hl => match us, hl with | [_, _], _ => rfl) fun T_law_cell => ?_
    (case a => k_is); (case l => k_is); (case c => k_is); (case k => k_is)
    refine' Sr.tx_use "_law_drawn" Sr.s_law_drawn ["cell", "k"] KX G ?a ?l ?c ?k (fun _ _ _ _ _ _ us hl => match us, hl with | [_, _], _ => rfl) fun T_law_drawn => ?_
    (case a => k_is); (case l => k_is); (case c => k_is); (case k => k_is)
    refine' Sr.tx_use "_law_roll" Sr.s_law_roll ["dice", "many"] KX G ?a ?l ?c ?k (fun _ _ _ _ _ _ us hl => match us, hl with | [_, _], _ => rfl) fun T_law_roll => ?_
    (case a => k_is); (case l => k_is); (case c => k_is); (case k => k_is)
    refine' Sr.tx_use "_law_rounds" Sr.s_law_rounds ["script", "most"] KX G ?a ?l ?c ?k (fun _ _ _ _ _ _ us hl => match us, hl with | [_, _], _ => rfl) fun T_law_rounds => ?_
    (case a => k_is); (case l => k_is); (case c => k_is); (case k => k_is)
    refine' Sr.tx_use "_law_term" Sr.s_law_term ["e"] KX G ?a ?l ?c ?k (fun _ _ _ _ _ _ us hl => match us, hl with | [_], _ => rfl) fun T_law_term => ?_
    (case a => k_is); (case l => k_is); (case c => k_is); (case k => k_is)
    refine' Sr.tx_use "_law_told" Sr.s_law_told ["deed"] KX G ?a ?l ?c ?k (fun _ _ _ _ _ _ us hl => match us, hl with | [_], _ => rfl) fun T_law_told => ?_
    (case a => k_is); (case l => k_is); (case c => k_is); (case k => k_is)
    refine' Sr.tx_use "_law_any_row" Sr.s_law_any_row ["dice", "limit"] KX G ?a ?l ?c ?k (fun _ _ _ _ _ _ us hl => match us, hl with | [_, _], _ => rfl) fun T_law_any_row => ?_
    (case a => k_is); (case l => k_is); (case c => k_is); (case k => k_is)
    refine' Sr.tx_use "_law_steep" Sr.s_law_steep ["dice"] KX G ?a ?l ?c ?k (fun _ _ _ _ _ _ us hl => match us, hl with | [_], _ => rfl) fun T_law_steep => ?_
    (case a => k_is); (case l => k_is); (case c => k_is); (case k => k_is)
    refine' Sr.tx_use "_law_free" Sr.s_law_free ["steep", "row"] KX G ?a ?l ?c ?k (fun _ _ _ _ _ _ us hl => match us, hl with | [_, _], _ => rfl) fun T_law_free => ?_
    (case a => k_is); (case l => k_is); (case c => k_is); (case k => k_is)
    refine' Sr.tx_use "_law_moved" Sr.s_law_moved ["row", "place"] KX G ?a ?l ?c ?k (fun _ _ _ _ _ _ us hl => match us, hl with | [_, _], _ => rfl) fun T_law_moved => ?_
    (case a => k_is); (case l => k_is); (case c => k_is); (case k => k_is)
    refine' Sr.tx_use "_law_end" Sr.s_law_end ["dice", "steep", "row"] KX G ?a ?l ?c ?k (fun _ _ _ _ _ _ us hl => match us, hl with | [_, _, _], _ => rfl) fun T_law_end => ?_
    (case a => k_is); (case l => k_is); (case c => k_is); (case k => k_is)
    refine' Sr.txc_use "_law_done" Sr.s_law_done ["table", "name", "place"] KX G ?a ?l ?c ?k ?l2 ?v ?nT (fun _ _ _ _ _ _ us hl => match us, hl with | [_, _, _], _ => rfl) fun T_law_done tI2 nT2 => ?_
    (case a => k_is); (case l => k_is); (case c => k_is); (case k => k_is); (case l2 => k_is); (case v => rfl); (case nT => kernel_rfl)
    refine' Sr.tx_use "_law_next" Sr.s_law_next ["dice", "steep", "name", "row", "place"] KX G ?a ?l ?c ?k (fun _ _ _ _ _ _ us hl => match us, hl with | [_, _, _, _, _], _ => rfl) fun T_law_next => ?_
    (case a => k_is); (case l => k_is); (case c => k_is); (case k => k_is)
    refine' Sr.tx_use "_law_turn" Sr.s_law_turn ["dice", "table", "steep", "row", "earlier", "undone"] KX G ?a ?l ?c ?k (fun _ _ _ _ _ _ us hl => match us, hl with | [_, _, _, _, _, _], _ => rfl) fun T_law_turn => ?_
    (case a => k_is); (case l => k_is); (case c => k_is); (case k => k_is)
    refine' Sr.end_T2 KX G0.T hmg ?a ?l ?c ?l2 ?v ?r ?nT tI2 ?r2 nT2 (fun lk cd base hb1 hb2 TB TBD => ?_) (fun s v => .of_eq rfl)
    (case a => k_is); (case l => k_is); (case c => k_is); (case l2 => k_is); (case v => rfl); (case r => kernel_rfl); (case nT => kernel_rfl); (case r2 => kernel_rfl)
    exact Sr.all_ok lk cd TB TBD (by decide) B Z TB0 T_T_init T_T_change T_T_slide T_T_put T_T_settle T_T_row T_T_undo T_T_redo T_T_len T_is_whole T_is_row T_need_row T_need_both T_steps_of T_raised T_places_of T_moved T_slid T_course T_end_of T_law_cell T_law_drawn T_law_roll T_law_rounds T_law_term T_law_told T_law_any_row T_law_steep T_law_free T_law_moved T_law_end T_law_done T_law_next T_law_turn
