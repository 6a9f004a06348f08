import PyProof.Rows.All
import Wide.All
import OpenK.AllK
import Wide.FinOn
import HandS.ForMost
import HandS.Deep
import HandS.IsInst
import HandS.TupAny
import KE.SortData
import PyProof.ReprRoads
import KE.KDictKeyed
import HandS.Lambda
import HandS.ExcInit
import KE.KExcSuper
import HandS.ExcIs
import HandS.ExcField
import HandS.TupMul
import HandS.Conv
import HandS.Zip
import KE.GoesMore
import KE.DataCmp
import HandS.DictEq
import HandS.WideBits
import HandS.Style
import KE.KRevSl
import HandS.Dict
import HandS.TupLen
import KE.KEqDict
import HandS.Star
import HandS.TupSets
import HandS.SetFor
import KE.DataMinMax
import HandS.TupLe
import KE.KDictPairs
import KE.DataFind
import KE.KTupSum
import HandS.SortInts
import KE.KDictOf
import HandS.Strs
import HandS.Iter
import PyProof.StrBlock2
import KE.SortKeyHeap
import KE.KDictZip
import HandS.ExcValue
import HandS.GenYield
import HandS.GenList
import HandS.TryMany
import KE.KExcIs
import HandS.ExcOwn
import HandS.Defaults
import HandS.EndTab
import PySem.Challenge.RW_sixkeepers_k00_errors_and_bounds
set_option Elab.async false
set_option linter.all false
set_option maxRecDepth 100000
set_option maxHeartbeats 4000000
namespace DL
open PySem PySem.Spec PyProof.Rows L2
noncomputable def Ext (H H' : Hp) : Prop :=
  (∀ b xs, H b = some (.tup xs) → H' b = some (.tup xs)) ∧ ∀ b o u, H b = some (.frz o u) → H' b = some (.frz o u)
theorem Ext.refl {H : Hp} : Ext H H := ⟨fun _ _ h => h, fun _ _ _ h => h⟩
theorem Ext.trans {H H1 H2 : Hp} (a : Ext H H1) (b : Ext H1 H2) : Ext H H2 :=
  ⟨fun c xs h => b.1 c xs (a.1 c xs h), fun c o u h => b.2 c o u (a.2 c o u h)⟩
theorem Ext.new {H : Hp} {p : Addr} {o : HO} (h : H p = none) : Ext H (upd H p o) :=
  ⟨fun b xs e => by rw [upd_ne (ne_of_none e h)]; exact e, fun b ob u e => by rw [upd_ne (ne_of_none e h)]; exact e⟩
theorem Ext.mut {H : Hp} {p : Addr} {o : HO} (h : Mut (H p)) : Ext H (upd H p o) := by
  refine ⟨fun b xs e => ?_, fun b ob u e => ?_⟩
  · rw [upd_ne (fun z => by subst z; rw [e] at h; exact h)]; exact e
  · rw [upd_ne (fun z => by subst z; rw [e] at h; exact h)]; exact e
theorem SqT.ext {K : PySem.W.Frag} {H H' : Hp} {a : Addr} {xs : List V} (h : SqT K H a xs) (e : Ext H H') : SqT K H' a xs := by
  rcases h with (h | ⟨o, h⟩) | h
  · exact .inl (.inl (e.1 _ _ h))
  · exact .inl (.inr ⟨o, e.2 _ _ _ h⟩)
  · exact .inr h
noncomputable def tupO (its : Array Value) : Obj := { cls := .type "tuple", data := .seq its }
noncomputable def SqP (K : PySem.W.Frag) (H : Hp) (a : Addr) (xs : List V) : Prop :=
  (∃ o, H a = some (.frz o (.tup xs)) ∧ o.dict = none) ∨
    ∃ (o : Obj) (its : Array Value) (n : Nat), K.lookup a = some o ∧ o.cls = .type "tuple" ∧ o.dict = none ∧ o.data = .seq its n ∧ its.size ≤ sizeLine ∧ Vals xs its.toList
theorem SqP.sq {K : PySem.W.Frag} {H : Hp} {a : Addr} {xs : List V} (h : SqP K H a xs) : SqT K H a xs := by
  rcases h with ⟨o, h, _⟩ | ⟨o, its, n, h1, h2, _, h3⟩
  · exact .inl (.inr ⟨o, h⟩)
  · exact .inr ⟨o, its, n, h1, h2, h3⟩
theorem SqP.ext {K : PySem.W.Frag} {H H' : Hp} {a : Addr} {xs : List V} (h : SqP K H a xs) (e : Ext H H') : SqP K H' a xs := by
  rcases h with ⟨o, h, d⟩ | h
  · exact .inl ⟨o, e.2 _ _ _ h, d⟩
  · exact .inr h
theorem SqP.at {K : PySem.W.Frag} {H : Hp} {a : Addr} {o : Obj} {xs : List V} (d : o.dict = none) : SqP K (upd H a (.frz o (.tup xs))) a xs := .inl ⟨o, upd_same, d⟩
theorem frz_ok {P : Program} {w : World} {H : Hp} {h : Heap} {a : Addr} {its : List Value} {xs : List V} (z : xs.length ≤ sizeLine) (r : Vals xs its) (e : h.get? a = some (tupO its.toArray)) : ObjOk P w H h a (.frz (tupO its.toArray) (.tup xs)) :=
  ⟨e, z, its, r, _, e, rfl, 0, rfl⟩
noncomputable def kP : Key → PyData
  | .inl i => .int i
  | .inr x => .str x
mutual
inductive Fd (K : PySem.W.Frag) (H : Hp) : V → PyData → Prop
  | non : Fd K H .non .none
  | bl (b : Bool) : Fd K H (.bl b) (.bool b)
  | int (i : Int) : Fd K H (.int i) (.int i)
  | str (x : Str) : Fd K H (.str x) (.str x)
  | lst {a : Addr} {o : Obj} {xs : List V} {ds : List PyData} : H a = some (.frz o (.lst xs)) → FdAll K H xs ds → Fd K H (.ref a) (.list ds)
  | tup {a : Addr} {xs : List V} {ds : List PyData} : SqP K H a xs → FdAll K H xs ds → Fd K H (.ref a) (.tuple ds)
  | dct {a : Addr} {o : Obj} {kvs : List (Key × V)} {ds : List (PyData × PyData)} : H a = some (.frz o (.dK kvs)) → ds.map (·.1) = kvs.map (fun p => kP p.1) →
      FdAll K H (kvs.map (·.2)) (ds.map (·.2)) → Fd K H (.ref a) (.dict ds)
inductive FdAll (K : PySem.W.Frag) (H : Hp) : List V → List PyData → Prop
  | nil : FdAll K H [] []
  | cons {v : V} {vs : List V} {d : PyData} {ds : List PyData} : Fd K H v d → FdAll K H vs ds → FdAll K H (v :: vs) (d :: ds)
end
section
variable {K : PySem.W.Frag} {H H' : Hp}
mutual
theorem Fd.ext (e : Ext H H') : ∀ {v : V} {d : PyData}, Fd K H v d → Fd K H' v d
  | _, _, .non => .non
  | _, _, .bl b => .bl b
  | _, _, .int i => .int i
  | _, _, .str x => .str x
  | _, _, .lst h a => .lst (e.2 _ _ _ h) (FdAll.ext e a)
  | _, _, .tup h a => .tup (SqP.ext h e) (FdAll.ext e a)
  | _, _, .dct h k a => .dct (e.2 _ _ _ h) k (FdAll.ext e a)
theorem FdAll.ext (e : Ext H H') : ∀ {vs : List V} {ds : List PyData}, FdAll K H vs ds → FdAll K H' vs ds
  | _, _, .nil => .nil
  | _, _, .cons h t => .cons (Fd.ext e h) (FdAll.ext e t)
end
theorem FdAll.length : ∀ {vs : List V} {ds : List PyData}, FdAll K H vs ds → vs.length = ds.length
  | _, _, .nil => rfl
  | _, _, .cons _ t => congrArg (· + 1) (FdAll.length t)
theorem FdAll.get : ∀ {vs : List V} {ds : List PyData} {i : Nat} {v : V}, FdAll K H vs ds → vs[i]? = some v → ∃ d, ds[i]? = some d ∧ Fd K H v d
  | _, _, _, _, .nil, e => by simp at e
  | _, _, 0, _, .cons r _, e => by simp at e; subst e; exact ⟨_, rfl, r⟩
  | _, _, i + 1, v, .cons _ t, e => by
    obtain ⟨u, h1, h2⟩ := FdAll.get (i := i) (v := v) t (by simpa using e)
    exact ⟨u, by simpa using h1, h2⟩
theorem FdAll.append : ∀ {xs ys : List V} {us ws : List PyData}, FdAll K H xs us → FdAll K H ys ws → FdAll K H (xs ++ ys) (us ++ ws)
  | _, _, _, _, .nil, s => s
  | _, _, _, _, .cons r t, s => .cons r (FdAll.append t s)
theorem FdAll.take : ∀ {xs : List V} {us : List PyData} (n : Nat), FdAll K H xs us → FdAll K H (xs.take n) (us.take n)
  | _, _, 0, _ => .nil
  | _, _, _ + 1, .nil => .nil
  | _, _, n + 1, .cons r t => .cons r (FdAll.take n t)
theorem FdAll.drop : ∀ {xs : List V} {us : List PyData} (n : Nat), FdAll K H xs us → FdAll K H (xs.drop n) (us.drop n)
  | _, _, 0, r => r
  | _, _, _ + 1, .nil => .nil
  | _, _, n + 1, .cons _ t => FdAll.drop n t
end
noncomputable abbrev EO : Type := Str × Option (Str × PyData)
inductive EV where
  | one (p : EO)
  | lst (L : List EO)
noncomputable def XOne (K : PySem.W.Frag) (H : Hp) (v : V) (p : EO) : Prop := ∃ (a Ca : Addr) (o : Obj) (u : HO) (vs : Array Value), v = .ref a ∧ PySem.W.nsIn K mainGlobals p.1 = some (some (.ref Ca)) ∧ H a = some (.frz o u) ∧ o.cls = .ref Ca ∧ o.data = .fields vs ∧
  match p.2 with
  | none => o.dict = none
  | some (f, x) => ∃ (dx : Addr) (od : Obj) (w : V), o.dict = some dx ∧ H dx = some (.frz od (.xd [(f, w)])) ∧ Fd K H w x
noncomputable def XV (K : PySem.W.Frag) (H : Hp) (v : V) : EV → Prop
  | .one p => XOne K H v p
  | .lst L => ∃ (a : Addr) (o : Obj) (vs : List V), v = .ref a ∧ H a = some (.frz o (.lst vs)) ∧ Paired (fun v p => XOne K H v p) vs L
theorem XOne.ext {K : PySem.W.Frag} {H H' : Hp} (e : Ext H H') : ∀ {v : V} {p : EO}, XOne K H v p → XOne K H' v p
  | _, (_, none), ⟨a, Ca, o, u, vs, h1, h2, h3, h4, h5, h6⟩ => ⟨a, Ca, o, u, vs, h1, h2, e.2 _ _ _ h3, h4, h5, h6⟩
  | _, (_, some (_, _)), ⟨a, Ca, o, u, vs, h1, h2, h3, h4, h5, dx, od, w, h6, h7, h8⟩ => ⟨a, Ca, o, u, vs, h1, h2, e.2 _ _ _ h3, h4, h5, dx, od, w, h6, e.2 _ _ _ h7, h8.ext e⟩
theorem XV.ext {K : PySem.W.Frag} {H H' : Hp} (e : Ext H H') {v : V} : ∀ {E : EV}, XV K H v E → XV K H' v E
  | .one _, h => XOne.ext e h
  | .lst _, ⟨a, o, vs, h1, h2, h3⟩ => ⟨a, o, vs, h1, e.2 _ _ _ h2, Paired.mapP h3 fun _ _ => XOne.ext e⟩
theorem XV.ref {K : PySem.W.Frag} {H : Hp} {v : V} : ∀ {E : EV}, XV K H v E → ∃ a, v = .ref a
  | .one _, ⟨a, _, _, _, _, h, _⟩ => ⟨a, h⟩
  | .lst _, ⟨a, _, _, h, _⟩ => ⟨a, h⟩
inductive DV where
  | d (x : PyData)
  | r (a : Addr)
  | w (ns : List Int)
  | x (E : EV)
noncomputable def SqW (K : PySem.W.Frag) (H : Hp) (a : Addr) (xs : List V) : Prop :=
  (∃ o, H a = some (.frz o (.lst xs))) ∨ ((∃ o, K.lookup a = some o) ∧ ∀ H', SqL K H' a xs)
noncomputable def DatV (K : PySem.W.Frag) (H : Hp) (v : V) : DV → Prop
  | .d x => Fd K H v x
  | .r a => v = .ref a
  | .w ns => ∃ a, v = .ref a ∧ SqW K H a (ns.map V.int)
  | .x E => XV K H v E
theorem SqW.sq {K : PySem.W.Frag} {H : Hp} {a : Addr} {xs : List V} (h : SqW K H a xs) : SqL K H a xs := by
  rcases h with ⟨o, h⟩ | ⟨_, h⟩
  · exact .inl (.inr ⟨o, h⟩)
  · exact h H
theorem DatV.ext {K : PySem.W.Frag} {H H' : Hp} (e : Ext H H') : ∀ {v : V} {x : DV}, DatV K H v x → DatV K H' v x
  | _, .d _, h => Fd.ext e h
  | _, .r _, h => h
  | _, .w _, ⟨a, h1, h2⟩ => ⟨a, h1, h2.imp (fun ⟨o, h⟩ => ⟨o, e.2 _ _ _ h⟩) id⟩
  | _, .x _, h => XV.ext e h
noncomputable abbrev DatAll (K : PySem.W.Frag) (H : Hp) : List V → List DV → Prop := Paired (DatV K H)
theorem da_one {K : PySem.W.Frag} {H : Hp} {vs : List V} {d : DV} (h : DatAll K H vs [d]) : ∃ y, vs = [y] ∧ DatV K H y d := by
  cases h with
  | cons a t => cases t; exact ⟨_, rfl, a⟩
theorem DatAll.ext {K : PySem.W.Frag} {H H' : Hp} (e : Ext H H') {vs : List V} {xs : List DV} (h : DatAll K H vs xs) : DatAll K H' vs xs :=
  Paired.mapP h fun _ _ => DatV.ext e
theorem Paired.app {α β : Type} {F : α → β → Prop} : ∀ {a c : List α} {b d : List β}, Paired F a b → Paired F c d → Paired F (a ++ c) (b ++ d)
  | _, _, _, _, .nil, s => s
  | _, _, _, _, .cons r t, s => .cons r (Paired.app t s)
theorem Paired.get1 {α β : Type} {F : α → β → Prop} : ∀ {a : List α} {b : List β} {i : Nat} {x : α}, Paired F a b → a[i]? = some x → ∃ y, b[i]? = some y ∧ F x y
  | _, _, _, _, .nil, e => by simp at e
  | _, _, 0, _, .cons r _, e => by simp at e; subst e; exact ⟨_, rfl, r⟩
  | _, _, i + 1, x, .cons _ t, e => by
    obtain ⟨u, h1, h2⟩ := Paired.get1 (i := i) (x := x) t (by simpa using e)
    exact ⟨u, by simpa using h1, h2⟩
theorem Paired.get2 {α β : Type} {F : α → β → Prop} : ∀ {a : List α} {b : List β} {i : Nat} {y : β}, Paired F a b → b[i]? = some y → ∃ x, a[i]? = some x ∧ F x y
  | _, _, _, _, .nil, e => by simp at e
  | _, _, 0, _, .cons r _, e => by simp at e; subst e; exact ⟨_, rfl, r⟩
  | _, _, i + 1, x, .cons _ t, e => by
    obtain ⟨u, h1, h2⟩ := Paired.get2 (i := i) (y := x) t (by simpa using e)
    exact ⟨u, by simpa using h1, h2⟩
theorem Paired.set {α β : Type} {F : α → β → Prop} {x : α} {y : β} (r : F x y) : ∀ {a : List α} {b : List β} (i : Nat), Paired F a b → Paired F (a.set i x) (b.set i y)
  | _, _, _, .nil => .nil
  | _, _, 0, .cons _ t => .cons r t
  | _, _, i + 1, .cons q t => .cons q (Paired.set r i t)
theorem Paired.eraseIdx {α β : Type} {F : α → β → Prop} : ∀ {a : List α} {b : List β} (i : Nat), Paired F a b → Paired F (a.eraseIdx i) (b.eraseIdx i)
  | _, _, _, .nil => .nil
  | _, _, 0, .cons _ t => t
  | _, _, i + 1, .cons q t => .cons q (Paired.eraseIdx i t)
theorem Paired.drop {α β : Type} {F : α → β → Prop} : ∀ {a : List α} {b : List β} (i : Nat), Paired F a b → Paired F (a.drop i) (b.drop i)
  | _, _, 0, h => h
  | _, _, i + 1, .nil => by simpa using Paired.nil
  | _, _, i + 1, .cons q t => Paired.drop i t
theorem Paired.take {α β : Type} {F : α → β → Prop} : ∀ {a : List α} {b : List β} (i : Nat), Paired F a b → Paired F (a.take i) (b.take i)
  | _, _, 0, h => by simpa using Paired.nil
  | _, _, i + 1, .nil => by simpa using Paired.nil
  | _, _, i + 1, .cons q t => .cons q (Paired.take i t)
theorem FdAll.dat {K : PySem.W.Frag} {H : Hp} : ∀ {vs : List V} {ds : List PyData}, FdAll K H vs ds → DatAll K H vs (ds.map DV.d)
  | _, _, .nil => .nil
  | _, _, .cons h t => .cons h (FdAll.dat t)
noncomputable def dats : List DV → Option (List PyData)
  | [] => some []
  | .d x :: r => (dats r).map (x :: ·)
  | _ :: _ => none
theorem dats_map : ∀ ds : List PyData, dats (ds.map DV.d) = some ds
  | [] => rfl
  | d :: ds => by simp [dats, dats_map ds]
theorem dats_some : ∀ {xs : List DV} {ds : List PyData}, dats xs = some ds → xs = ds.map DV.d
  | [], ds, h => by simp [dats] at h; subst h; rfl
  | .d x :: r, ds, h => by
    simp only [dats, Option.map_eq_some_iff] at h
    obtain ⟨t, h1, rfl⟩ := h
    simp [dats_some h1]
  | .r a :: _, _, h => by simp [dats] at h
  | .w a :: _, _, h => by simp [dats] at h
  | .x _ :: _, _, h => by simp [dats] at h
theorem DatAll.fd {K : PySem.W.Frag} {H : Hp} : ∀ {vs : List V} {ds : List PyData}, DatAll K H vs (ds.map DV.d) → FdAll K H vs ds
  | _, [], .nil => .nil
  | _, d :: ds, .cons h t => .cons h (DatAll.fd t)
mutual
noncomputable def nk : PyData → NestedKey
  | .int i => .num i
  | .str x => .text x
  | .tuple xs => .tup (nks xs)
  | _ => .none
noncomputable def nks : List PyData → List NestedKey
  | [] => []
  | d :: r => nk d :: nks r
end
mutual
noncomputable def nkPure : PyData → Bool
  | .int _ => true
  | .tuple xs => nkPures xs
  | _ => false
noncomputable def nkPures : List PyData → Bool
  | [] => true
  | d :: r => nkPure d && nkPures r
end
noncomputable def isTupD : PyData → Bool
  | .tuple _ => true
  | _ => false
noncomputable def nkOk (d : PyData) : Bool := isTupD d && (nkPure d && decide ((nk d).depth ≤ 8))
noncomputable def keyP : PyData → Option Key
  | .int i => some (.inl i)
  | .str x => some (.inr x)
  | _ => none
inductive Cell where
  | lst (xs : List DV)
  | dct (t : Bool) (kvs : List (PyData × PyData))
  | obj (C : Addr) (fs : List (Str × DV))
  | tab (q : Str)
  | dlk (kvs : List (PyData × PyData))
noncomputable def Cell.isTab : Cell → Bool
  | .tab _ => true
  | .dlk _ => true
  | _ => false
noncomputable def TabF (H : Hp) (P : Addr) (q : Str) : Prop := ∃ ps : Array Value, H P = some (.tbl ps) ∧ TriplesOk ps.toList ∧ ∀ (pos : Pos) (cv : Value), codeAmong pos ps.toList = some cv → ∃ c o, cv = .ref c ∧ H c = some (.frz o (LamX.CodeO c q))
noncomputable def DictOn (p : Addr) (xs : List (NestedKey × Addr × Value)) : Heap → Prop := fun h => ∃ o es ep, h.get? p = some o ∧ o.ExactDict ∧ o.data = .dict es ep ∧ ∀ (P : Program) (w : World), es.toList = xs.map (entryOfKey (nestedKind P w))
noncomputable def KvR (K : PySem.W.Frag) (H : Hp) (kv : PyData × PyData) (x : NestedKey × Addr × Value) : Prop := nkOk kv.1 = true ∧ x.1 = nk kv.1 ∧ Fd K H (.ref x.2.1) kv.1 ∧ ∃ v, RelV v x.2.2 ∧ Fd K H v kv.2
noncomputable def KvK (K : PySem.W.Frag) (H : Hp) (kv : PyData × PyData) (x : Key × V) : Prop := kv.1 = kP x.1 ∧ Fd K H x.2 kv.2
noncomputable abbrev HDt := Addr → Option Cell
noncomputable def dset (HD : HDt) (p : Addr) (c : Cell) : HDt := fun b => if b = p then some c else HD b
noncomputable def ddel (HD : HDt) (p : Addr) : HDt := fun b => if b = p then none else HD b
theorem dset_same {HD : HDt} {p : Addr} {c : Cell} : dset HD p c p = some c := by unfold dset; rw [if_pos rfl]
theorem dset_ne {HD : HDt} {p q : Addr} {c : Cell} (h : q ≠ p) : dset HD p c q = HD q := by unfold dset; rw [if_neg h]
theorem dset_dset {HD : HDt} {p : Addr} {c c' : Cell} : dset (dset HD p c) p c' = dset HD p c' := by
  funext b; unfold dset; split <;> rfl
noncomputable def FldAll (K : PySem.W.Frag) (H : Hp) (vs : List (Str × V)) (fs : List (Str × DV)) : Prop := Paired (fun (a : Str × DV) (b : Str × V) => a.1 = b.1 ∧ DatV K H b.2 a.2) fs vs
theorem FldAll.ext {K : PySem.W.Frag} {H H' : Hp} {vs : List (Str × V)} {fs : List (Str × DV)} (h : FldAll K H vs fs) (e : Ext H H') : FldAll K H' vs fs := Paired.mapP h fun _ _ ⟨a, b⟩ => ⟨a, b.ext e⟩
noncomputable def RepC (K : PySem.W.Frag) (H : Hp) (p : Addr) : Cell → Prop
  | .lst xs => ∃ vs, H p = some (.lst vs) ∧ DatAll K H vs xs
  | .dct true kvs => ∃ xs, H p = some (.ext (DictOn p xs)) ∧ (p == sysModules) = false ∧ kvs.length ≤ sizeLine ∧ (xs.map (·.1)).Nodup ∧ Paired (KvR K H) kvs xs
  | .dct false kvs => ∃ vs, H p = some (.dK vs) ∧ Paired (KvK K H) kvs vs
  | .obj C fs => ∃ dx vs, H p = some (.ins C dx vs) ∧ FldAll K H vs fs
  | .tab q => TabF H p q
  | .dlk kvs => ∃ o xs, H p = some (.frz o (.ext (DictOn p xs))) ∧ (p == sysModules) = false ∧ kvs.length ≤ sizeLine ∧ (xs.map (·.1)).Nodup ∧ Paired (KvR K H) kvs xs
noncomputable def RepH (K : PySem.W.Frag) (H : Hp) (HD : HDt) : Prop := ∀ p c, HD p = some c → RepC K H p c
section
variable {K : PySem.W.Frag} {H H' : Hp} {HD : HDt} {p : Addr} {c : Cell}
theorem RepC.to (e : Ext H H') (s : H' p = H p) : ∀ {c : Cell}, RepC K H p c → RepC K H' p c
  | .lst _, ⟨vs, h, d⟩ => ⟨vs, s.trans h, d.ext e⟩
  | .dct true _, ⟨xs, h, a, b, c, d⟩ => ⟨xs, s.trans h, a, b, c, Paired.mapP d fun _ _ ⟨a, b, c, v, r, f⟩ => ⟨a, b, c.ext e, v, r, f.ext e⟩⟩
  | .dct false _, ⟨vs, h, d⟩ => ⟨vs, s.trans h, Paired.mapP d fun _ _ ⟨a, b⟩ => ⟨a, b.ext e⟩⟩
  | .obj _ _, ⟨dx, vs, h, d⟩ => ⟨dx, vs, s.trans h, d.ext e⟩
  | .tab _, ⟨ps, h, t, a⟩ => ⟨ps, s.trans h, t, fun pos cv q => let ⟨c, o, e1, e2⟩ := a pos cv q; ⟨c, o, e1, e.2 _ _ _ e2⟩⟩
  | .dlk _, ⟨o, xs, h, a, b, c, d⟩ => ⟨o, xs, s.trans h, a, b, c, Paired.mapP d fun _ _ ⟨a, b, c, v, r, f⟩ => ⟨a, b, c.ext e, v, r, f.ext e⟩⟩
theorem RepC.there : ∀ {c : Cell}, RepC K H p c → ∃ o, H p = some o ∧ (c.isTab = false → Mut (some o))
  | .lst _, ⟨vs, h, _⟩ => ⟨_, h, fun _ => trivial⟩
  | .dct true _, ⟨xs, h, _⟩ => ⟨_, h, fun _ => trivial⟩
  | .dct false _, ⟨xs, h, _⟩ => ⟨_, h, fun _ => trivial⟩
  | .obj _ _, ⟨dx, xs, h, _⟩ => ⟨_, h, fun _ => trivial⟩
  | .tab _, ⟨ps, h, _⟩ => ⟨_, h, nofun⟩
  | .dlk _, ⟨o, xs, h, _⟩ => ⟨_, h, nofun⟩
theorem RepH.to (R : RepH K H HD) (e : Ext H H') (s : ∀ p c, HD p = some c → H' p = H p) : RepH K H' HD := fun p c h => (R p c h).to e (s p c h)
theorem RepH.new {o : HO} (R : RepH K H HD) (h : H p = none) : RepH K (upd H p o) HD := R.to (Ext.new h) fun q c hq => by
  obtain ⟨u, hu, _⟩ := (R q c hq).there
  exact upd_ne (ne_of_none hu h)
theorem RepH.none (R : RepH K H HD) (h : H p = none) : HD p = none := by
  cases e : HD p with
  | none => rfl
  | some c =>
    obtain ⟨u, hu, _⟩ := (R p c e).there
    rw [h] at hu; cases hu
theorem RepH.put {o : HO} (R : RepH K H HD) (e : Ext H (upd H p o)) (h : RepC K (upd H p o) p c) : RepH K (upd H p o) (dset HD p c) := fun q c' hq => by
  by_cases z : q = p
  · subst z; rw [dset_same] at hq; cases hq; exact h
  · rw [dset_ne z] at hq; exact (R q c' hq).to e (upd_ne z)
theorem RepH.del {o : HO} (R : RepH K H HD) (e : Ext H (upd H p o)) : RepH K (upd H p o) (ddel HD p) := fun q c' hq => by
  by_cases z : q = p
  · subst z; unfold ddel at hq; rw [if_pos rfl] at hq; cases hq
  · unfold ddel at hq; rw [if_neg z] at hq; exact (R q c' hq).to e (upd_ne z)
theorem RepH.mutAt (R : RepH K H HD) (h : HD p = some c) (z : c.isTab = false := by rfl) : Mut (H p) := by
  obtain ⟨u, hu, m⟩ := (R p c h).there
  rw [hu]; exact m z
end
noncomputable abbrev DEnv := List (Option DV)
noncomputable abbrev DQ := DV → HDt → Prop
noncomputable abbrev GE := DEnv → HDt → DQ → Prop
noncomputable abbrev GT := DEnv → HDt → (Bool → HDt → Prop) → Prop
noncomputable abbrev GA := DEnv → HDt → (List DV → HDt → Prop) → Prop
structure DEnds where
  nx : DEnv → HDt → Prop
  rt : DQ
  bk : DEnv → HDt → Prop := fun _ _ => False
  ct : DEnv → HDt → Prop := fun _ _ => False
noncomputable abbrev GS := DEnds → DEnv → HDt → Prop
structure EnvR (K : PySem.W.Frag) (H : Hp) (σ : L2.St) (δ : DEnv) : Prop where
  len : δ.length = σ.length
  at' : ∀ (i : Nat) x, δ[i]? = some (some x) → ∃ v, σ[i]? = some (some v) ∧ DatV K H v x
section
variable {K : PySem.W.Frag} {H H' : Hp} {σ : L2.St} {δ : DEnv}
theorem EnvR.ext (E : EnvR K H σ δ) (e : Ext H H') : EnvR K H' σ δ := ⟨E.len, fun i x h => let ⟨v, h1, h2⟩ := E.at' i x h; ⟨v, h1, h2.ext e⟩⟩
theorem EnvR.set {v : V} {x : DV} (E : EnvR K H σ δ) (i : Nat) (h : DatV K H v x) : EnvR K H (σ.set i (some v)) (δ.set i (some x)) := by
  refine ⟨by simp [E.len], fun j y hj => ?_⟩
  by_cases z : i = j
  · subst z
    by_cases hl : i < δ.length
    · rw [List.getElem?_set_self hl] at hj
      cases hj
      exact ⟨v, by rw [List.getElem?_set_self (by rw [← E.len]; exact hl)], h⟩
    · rw [List.getElem?_eq_none (by simp; omega)] at hj; cases hj
  · rw [List.getElem?_set_ne z] at hj ⊢
    exact E.at' j y hj
theorem EnvR.unset (E : EnvR K H σ δ) (i : Nat) : EnvR K H (σ.set i none) (δ.set i none) := by
  refine ⟨by simp [E.len], fun j y hj => ?_⟩
  by_cases z : i = j
  · subst z
    by_cases hl : i < δ.length
    · rw [List.getElem?_set_self hl] at hj; cases hj
    · rw [List.getElem?_eq_none (by simp; omega)] at hj; cases hj
  · rw [List.getElem?_set_ne z] at hj ⊢
    exact E.at' j y hj
end
noncomputable def dwipe (δ : DEnv) : List Nat → DEnv
  | [] => δ
  | v :: vs => (dwipe δ vs).set v none
theorem EnvR.wipe {K : PySem.W.Frag} {H : Hp} {σ : L2.St} {δ : DEnv} (E : EnvR K H σ δ) : ∀ vs : List Nat, EnvR K H (wipe σ vs) (dwipe δ vs)
  | [] => E
  | v :: vs => (EnvR.wipe E vs).unset v
noncomputable def Frm (H : Hp) (HD : HDt) (H' : Hp) (HD' : HDt) : Prop :=
  Ext H H' ∧ (∀ p o, H p = some o → HD p = none → H' p = some o ∧ HD' p = none) ∧ ∀ p, H' p = none → H p = none
section
variable {H H1 H2 : Hp} {HD HD1 HD2 : HDt} {p : Addr} {o : HO} {c : Cell}
theorem upd_gone {q : Addr} (e : upd H p o q = none) : H q = none := by
  unfold upd at e
  split at e
  · cases e
  · exact e
theorem Frm.refl : Frm H HD H HD := ⟨Ext.refl, fun _ _ a b => ⟨a, b⟩, fun _ h => h⟩
theorem Frm.trans (a : Frm H HD H1 HD1) (b : Frm H1 HD1 H2 HD2) : Frm H HD H2 HD2 :=
  ⟨a.1.trans b.1, fun p o h h' => let ⟨x, y⟩ := a.2.1 p o h h'; b.2.1 p o x y, fun p h => a.2.2 p (b.2.2 p h)⟩
theorem Frm.new (h : H p = none) : Frm H HD (upd H p o) HD := ⟨Ext.new h, fun q u e n => ⟨(upd_ne (ne_of_none e h)).trans e, n⟩, fun _ => upd_gone⟩
theorem Frm.newC (h : H p = none) : Frm H HD (upd H p o) (dset HD p c) := ⟨Ext.new h, fun q u e n => ⟨(upd_ne (ne_of_none e h)).trans e, (dset_ne (ne_of_none e h)).trans n⟩, fun _ => upd_gone⟩
theorem Frm.put (m : Mut (H p)) (h : HD p ≠ none) : Frm H HD (upd H p o) (dset HD p c) := ⟨Ext.mut m, fun q u e n => by
  have z : q ≠ p := fun z => by subst z; exact h n
  exact ⟨(upd_ne z).trans e, (dset_ne z).trans n⟩, fun _ => upd_gone⟩
theorem Frm.del (m : Mut (H p)) (h : HD p ≠ none) : Frm H HD (upd H p o) (ddel HD p) := ⟨Ext.mut m, fun q u e n => by
  have z : q ≠ p := fun z => by subst z; exact h n
  exact ⟨(upd_ne z).trans e, by unfold ddel; rw [if_neg z]; exact n⟩, fun _ => upd_gone⟩
theorem Frm.over (a : Frm H HD H1 HD1) (hp : H p = none) (m : Mut (H1 p)) : Frm H HD (upd H1 p o) HD1 :=
  ⟨a.1.trans (Ext.mut m), fun q u e n => let ⟨x, y⟩ := a.2.1 q u e n; ⟨(upd_ne (ne_of_none e hp)).trans x, y⟩, fun q e => a.2.2 q (upd_gone e)⟩
end
noncomputable def Lk (K : PySem.W.Frag) (H : Hp) (HD : HDt) (Qd : DQ) (Q : VK) : Prop :=
  ∀ d HD' v H', Qd d HD' → DatV K H' v d → RepH K H' HD' → Frm H HD H' HD' → Q v H'
noncomputable def LkT (K : PySem.W.Frag) (H : Hp) (HD : HDt) (Qd : Bool → HDt → Prop) (Q : Bool → Hp → Prop) : Prop :=
  ∀ b HD' H', Qd b HD' → RepH K H' HD' → Frm H HD H' HD' → Q b H'
noncomputable def LkA (K : PySem.W.Frag) (H : Hp) (HD : HDt) (Qd : List DV → HDt → Prop) (Q : List V → Hp → Prop) : Prop :=
  ∀ ds HD' vs H', Qd ds HD' → DatAll K H' vs ds → RepH K H' HD' → Frm H HD H' HD' → Q vs H'
noncomputable def LkN (K : PySem.W.Frag) (H : Hp) (HD : HDt) (Qd : DEnv → HDt → Prop) (Q : L2.St → Hp → Prop) : Prop :=
  ∀ δ HD' σ H', Qd δ HD' → EnvR K H' σ δ → RepH K H' HD' → Frm H HD H' HD' → Q σ H'
structure LkS (K : PySem.W.Frag) (H : Hp) (HD : HDt) (Dd : DEnds) (D : Ends) : Prop where
  nx : LkN K H HD Dd.nx D.nx
  rt : Lk K H HD Dd.rt D.rt
  bk : LkN K H HD Dd.bk D.bk
  ct : LkN K H HD Dd.ct D.ct
section
variable {K : PySem.W.Frag} {H H1 : Hp} {HD HD1 : HDt}
theorem Lk.ext {Qd : DQ} {Q : VK} (l : Lk K H HD Qd Q) (e : Frm H HD H1 HD1) : Lk K H1 HD1 Qd Q := fun d HD' v H' q a b c => l d HD' v H' q a b (e.trans c)
theorem LkT.ext {Qd : Bool → HDt → Prop} {Q : Bool → Hp → Prop} (l : LkT K H HD Qd Q) (e : Frm H HD H1 HD1) : LkT K H1 HD1 Qd Q := fun d HD' H' q b c => l d HD' H' q b (e.trans c)
theorem LkA.ext {Qd : List DV → HDt → Prop} {Q : List V → Hp → Prop} (l : LkA K H HD Qd Q) (e : Frm H HD H1 HD1) : LkA K H1 HD1 Qd Q := fun d HD' v H' q a b c => l d HD' v H' q a b (e.trans c)
theorem LkN.ext {Qd : DEnv → HDt → Prop} {Q : L2.St → Hp → Prop} (l : LkN K H HD Qd Q) (e : Frm H HD H1 HD1) : LkN K H1 HD1 Qd Q := fun d HD' v H' q a b c => l d HD' v H' q a b (e.trans c)
theorem LkS.ext {Dd : DEnds} {D : Ends} (l : LkS K H HD Dd D) (e : Frm H HD H1 HD1) : LkS K H1 HD1 Dd D := ⟨l.nx.ext e, l.rt.ext e, l.bk.ext e, l.ct.ext e⟩
end
noncomputable def up (K : PySem.W.Frag) (g : GE) : TE := fun σ H Q => ∃ δ HD Qd, EnvR K H σ δ ∧ RepH K H HD ∧ g δ HD Qd ∧ Lk K H HD Qd Q
noncomputable def upT (K : PySem.W.Frag) (g : GT) : TT := fun σ H Q => ∃ δ HD Qd, EnvR K H σ δ ∧ RepH K H HD ∧ g δ HD Qd ∧ LkT K H HD Qd Q
noncomputable def upA (K : PySem.W.Frag) (g : GA) : TA := fun σ H Q => ∃ δ HD Qd, EnvR K H σ δ ∧ RepH K H HD ∧ g δ HD Qd ∧ LkA K H HD Qd Q
noncomputable def upS (K : PySem.W.Frag) (g : GS) : TS := fun D σ H => ∃ δ HD Dd, EnvR K H σ δ ∧ RepH K H HD ∧ g Dd δ HD ∧ LkS K H HD Dd D
noncomputable abbrev G2 := DV → DV → HDt → DQ → Prop
noncomputable abbrev GC := List DV → HDt → DQ → Prop
noncomputable def up2 (K : PySem.W.Frag) (g : G2) : R2 := fun x y H Q => ∃ dx dy HD Qd, DatV K H x dx ∧ DatV K H y dy ∧ RepH K H HD ∧ g dx dy HD Qd ∧ Lk K H HD Qd Q
noncomputable def upC (K : PySem.W.Frag) (g : GC) : List V → Hp → VK → Prop := fun xs H Q => ∃ ds HD Qd, DatAll K H xs ds ∧ RepH K H HD ∧ g ds HD Qd ∧ Lk K H HD Qd Q
section
variable {X : Cx}
theorem pe_imp {e : Expr} {t t' : TE} (h : PE X e t) (i : ∀ σ H Q, t' σ H Q → t σ H Q) : PE X e t' := ⟨fun pins s σ H Q I q => h.run pins s σ H Q I (i σ H Q q)⟩
theorem pt_imp {e : Expr} {t t' : TT} (h : PT X e t) (i : ∀ σ H Q, t' σ H Q → t σ H Q) : PT X e t' := ⟨fun pins s σ H Q I q => h.run pins s σ H Q I (i σ H Q q)⟩
theorem pw_imp {e : Expr} {t t' : TT} (h : PW X e t) (i : ∀ σ H Q, t' σ H Q → t σ H Q) : PW X e t' := ⟨fun wh pins s σ H Q I q => h.run wh pins s σ H Q I (i σ H Q q)⟩
theorem pa_imp {e : List Expr} {t t' : TA} (h : PA X e t) (i : ∀ σ H Q, t' σ H Q → t σ H Q) : PA X e t' := ⟨fun pos pins s σ H Q I q => h.run pos pins s σ H Q I (i σ H Q q)⟩
theorem ps_imp {e : Stmt} {t t' : TS} (h : PS X e t) (i : ∀ D σ H, t' D σ H → t D σ H) : PS X e t' := ⟨fun pins s σ H D I q => h.run pins s σ H D I (i D σ H q)⟩
theorem pss_imp {e : List Stmt} {t t' : TS} (h : PSs X e t) (i : ∀ D σ H, t' D σ H → t D σ H) : PSs X e t' := ⟨fun pins s σ H D I q => h.run pins s σ H D I (i D σ H q)⟩
noncomputable def gVar (i : Nat) : GE := fun δ HD Q => match δ[i]? with
  | some (some x) => Q x HD
  | _ => False
noncomputable def gC (x : PyData) : GE := fun _ HD Q => Q (.d x) HD
noncomputable def g2 (g : G2) (ga gb : GE) : GE := fun δ HD Q => ga δ HD fun x HD1 => gb δ HD1 fun y HD2 => g x y HD2 Q
noncomputable def gNil : GA := fun _ HD Q => Q [] HD
noncomputable def gCons (ga : GE) (gr : GA) : GA := fun δ HD Q => ga δ HD fun x HD1 => gr δ HD1 fun xs HD2 => Q (x :: xs) HD2
noncomputable def gCall (g : GC) (ga : GA) : GE := fun δ HD Q => ga δ HD fun xs HD1 => g xs HD1 Q
theorem de_var {i : Nat} {e : Expr} (h : PE X e (tVar i)) : PE X e (up X.K (gVar i)) := pe_imp h fun σ H Q ⟨δ, HD, Qd, E, R, g, l⟩ => by
  unfold gVar at g
  split at g
  · rename_i x hx
    obtain ⟨v, h1, h2⟩ := E.at' i x hx
    exact ⟨v, h1, l x HD v H g h2 R Frm.refl⟩
  · exact g.elim
theorem de_c {e : Expr} {v : V} {x : PyData} (h : PE X e (tC v)) (f : ∀ H, Fd X.K H v x) : PE X e (up X.K (gC x)) := pe_imp h fun σ H Q ⟨δ, HD, Qd, E, R, g, l⟩ =>
  l (.d x) HD v H g (f H) R Frm.refl
theorem up2_of {K : PySem.W.Frag} {g : G2} {ga gb : GE} {σ : L2.St} {H : Hp} {Q : VK} (h : up K (g2 g ga gb) σ H Q) : tOp (up2 K g) (up K ga) (up K gb) σ H Q := by
  obtain ⟨δ, HD, Qd, E, R, h, l⟩ := h
  refine ⟨δ, HD, _, E, R, h, fun d HD1 v H1 h1 d1 R1 e1 => ?_⟩
  refine ⟨δ, HD1, _, E.ext e1.1, R1, h1, fun d2 HD2 u H2 h2 dd2 R2 e2 => ?_⟩
  exact ⟨d, d2, HD2, Qd, d1.ext e2.1, dd2, R2, h2, l.ext (e1.trans e2)⟩
theorem da_nil : PA X [] (upA X.K gNil) := pa_imp pa_nil fun σ H Q ⟨δ, HD, Qd, E, R, g, l⟩ => l [] HD [] H g .nil R Frm.refl
theorem da_cons {e : Expr} {es : List Expr} {ga : GE} {gr : GA} (ha : PE X e (up X.K ga)) (hr : PA X es (upA X.K gr)) (hs : starEach (e :: es) X.env = (false, eval e X.env) :: starEach es X.env) : PA X (e :: es) (upA X.K (gCons ga gr)) :=
  pa_imp (pa_cons ha hr hs) fun σ H Q ⟨δ, HD, Qd, E, R, h, l⟩ => by
    refine ⟨δ, HD, _, E, R, h, fun d HD1 v H1 h1 d1 R1 e1 => ?_⟩
    refine ⟨δ, HD1, _, E.ext e1.1, R1, h1, fun ds HD2 vs H2 h2 dd2 R2 e2 => ?_⟩
    exact l (d :: ds) HD2 (v :: vs) H2 h2 (.cons (d1.ext e2.1) dd2) R2 (e1.trans e2)
theorem upC_of {K : PySem.W.Frag} {g : GC} {ga : GA} {σ : L2.St} {H : Hp} {Q : VK} (h : up K (gCall g ga) σ H Q) : tCB (upC K g) (upA K ga) σ H Q := by
  obtain ⟨δ, HD, Qd, E, R, h, l⟩ := h
  refine ⟨δ, HD, _, E, R, h, fun ds HD1 vs H1 h1 d1 R1 e1 => ?_⟩
  exact ⟨ds, HD1, Qd, d1, R1, h1, l.ext e1⟩
end
section
variable {X : Cx} {pins : List (Addr × Obj)} {σ : L2.St} {H : Hp} {s : Shared}
theorem ep_frz {p : Addr} {vs : List V} {Q : VK} (hp : H p = none) (I : Inv X pins σ (upd H p (.lst vs)) s) (q : ∀ o, Q (.ref p) (upd H p (.frz o (.lst vs)))) : EP X pins σ Q (.ref p) s := by
  obtain ⟨o, I1⟩ := Inv.lock I upd_same trivial
  rw [upd_upd] at I1
  exact ⟨.ref p, _, I1, rfl, q o⟩
end
end DL
namespace PySem
namespace HandSPX
open Builtin Builtin.ObjectAttr
section
variable {M : Model} {A : Around} {E : Value → Shared → Prop} {h : Heap} {g : Array GenState} {d : Drawn} {t : Nat} {os : OsState}
variable {nm q : Str} {C N : Addr} {bs bm bmB : List Value} {hdct : Bool} {sn : List Str} {sub : List Value} {ab : Bool} {col : Option Bool} {dd : Option Addr} {k0 k1 k2 k3 k5 : Option Value} {B newId initId : String} {kw : List (Str × Value)}
theorem check_new_kw (F : ExcBaseFacts B newId initId bmB) (hT : ∀ X : String, bm.contains (.type X) = bmB.contains (.type X)) {rest : List Value} {Q : Unit → Shared → Prop}
    (hC : h.get? C = some (excClassObj nm q C N bs bm hdct sn sub ab col dd k0 k1 k2 k3 k5 newId)) (hq : Q () ⟨h, g, d, t, os⟩) : wpAny M A (checkBuiltinCall newId ⟨.ref C :: rest, kw⟩) Q E ⟨h, g, d, t, os⟩ := by
  have hcont : (Value.ref C :: bm).contains (.type B) = true := by rw [List.contains_cons, hT, F.hasB, Bool.or_true]
  have hstar := F.noStar
  simp only [checkBuiltinCall, F.newKind, F.newSplit, F.newRow]
  repeat (first | refine wpAny_loadPart_at hC ?_ | (refine wpAny_isSubtype_exc hC ?_; rw [hcont]) | refine wpAny_staticBase_exc hC ?_ | refine wpAny_madeBy_exc hC ?_ | simp only [bne_self_eq_false, Bool.false_eq_true, if_false] | wp_step)
  exact hq
end
section
variable {prog : Program} {w : World} {A : Around} {E : Value → Shared → Prop} {R : Result → Shared → Prop} {h : Heap} {g : Array GenState} {d : Drawn} {t : Nat} {os : OsState}
variable {nm q : Str} {C N : Addr} {bs bm bmB : List Value} {hdct : Bool} {sn : List Str} {sub : List Value} {ab : Bool} {col : Option Bool} {dd : Option Addr} {k0 k1 k2 k3 k5 : Option Value} {B newId initId : String} {kw : List (Str × Value)}
theorem new_kw (F : ExcBaseFacts B newId initId bmB) (hT : ∀ X : String, bm.contains (.type X) = bmB.contains (.type X)) {rest : List Value}
    (hC : h.get? C = some (excClassObj nm q C N bs bm hdct sn sub ab col dd k0 k1 k2 k3 k5 newId))
    (hq : R (.ok (.ret (.ref (h.objs.size + 1)))) ⟨(h.push { cls := .type "tuple", data := .seq rest.toArray }).push
      { cls := .ref C, data := .fields #[.ref h.objs.size, .none, .none, .none, .bool false, .none] }, g, d, t, os⟩) (hrest : rest.length ≤ sizeLine) :
    codeAny (model prog w) A (.builtin newId ⟨.ref C :: rest, kw⟩) R ⟨h, g, d, t, os⟩ := by
  have hends := F.ends
  have hcB : (Value.ref C :: bm).contains (.type B) = true := by rw [List.contains_cons, hT, F.hasB, Bool.or_true]
  have hcA : (Value.ref C :: bm).contains (.type "AttributeError") = false := by rw [List.contains_cons, hT, F.noAttr]; rfl
  have hcN : (Value.ref C :: bm).contains (.type "NameError") = false := by rw [List.contains_cons, hT, F.noName]; rfl
  refine codeAny_builtinAt F.entry ?_
  unfold Builtin.«BaseException.__new__»
  refine wpAt_bind ?_
  show wpAt _ _ _ (stack >>= _) _ _ _
  refine wpAt_bind (wpAt_stack fun p below => wpAt_of_wpAny ?_)
  wp_walk
  refine wpAt_of_wpAny ?_
  rw [F.owner]
  repeat (first | with_reducible refine wpAny_madeHere_exc F.canon hC ?_ | with_reducible refine wpAny_loadPart_at hC ?_ | (with_reducible refine wpAny_isSubtype_exc hC ?_; first | rw [hcB] | rw [hcA] | rw [hcN]) | wp_step)
  show R _ _
  rw [Heap.size_push]
  exact hq
theorem type_call_kw (F : ExcBaseFacts B newId initId bmB) (hT : ∀ X : String, bm.contains (.type X) = bmB.contains (.type X)) {rest : List Value} {fI : Addr} {Q : Fin → Shared → Prop}
    (hC : h.get? C = some (excClassObj nm q C N bs bm hdct sn sub ab col dd k0 k1 k2 k3 k5 newId))
    (hi : W.Looks (model prog w) h (typeLookup (.ref C) "__init__") (some (.ref fI))) (hb : ∀ self, W.Looks (model prog w) h (bindSpecial (.ref fI) self) (.ref fI, [self])) (hrest : rest.length ≤ sizeLine)
    (hq : codeAny (model prog w) A (.call (.ref fI) ⟨.ref (h.objs.size + 1) :: rest, kw⟩)
      (fun r s' => match r with | .ok (.ret v) => v = .none ∧ Q (.done (.ret (.ref (h.objs.size + 1)))) s' | .ok _ => False | .error e => E e s')
      ⟨(h.push (W.kdv_tup rest)).push (excO C h.objs.size), g, d, t, os⟩) :
    wpAny (model prog w) A (Builtin.«type.__call__» ⟨.ref C :: rest, kw⟩) Q E ⟨h, g, d, t, os⟩ := by
  repeat (first | with_reducible refine wpAny_loadPart_at hC ?_ | with_reducible refine wpAny_madeBy_exc hC ?_ | wp_step)
  refine codeAny_call_builtin_code (Code.quiet_builtin _ F.quiet) (check_new_kw F hT hC ?_)
  refine new_kw F hT hC ?_ hrest
  show wpAny _ _ _ _ _ _
  have k : ∀ b o, h.get? b = some o → ((h.push (W.kdv_tup rest)).push (excO C h.objs.size)).get? b = some o := fun b o e => Heap.get?_push_of_some _ (Heap.get?_push_of_some _ e)
  have hC₁ := k _ _ hC
  have hget : ((h.push (W.kdv_tup rest)).push (excO C h.objs.size)).get? (h.objs.size + 1) = some (excO C h.objs.size) := by heap_get
  have hcC : (Value.ref C :: bm).contains (.ref C) = true := by simp
  have i1 := hi.keeps k
  have b1 := (hb (.ref (h.objs.size + 1))).keeps k
  unfold isInstance
  repeat (first | with_reducible refine wpAny_loadPart_at hget ?_ | (with_reducible refine wpAny_isSubtype_exc hC₁ ?_; rw [hcC]) | wp_step)
  show wpAny _ _ (typeLookup (.ref C) _) _ _ _
  refine i1.at ?_
  refine wpAny_holding (wpAny_bind (b1.at ?_))
  refine wpAny_bind (wpAny_call (codeAny_mono hq fun r s' z => ?_))
  rcases r with e | (v | _ | _ | _) <;> first | exact z | exact z.elim | skip
  obtain ⟨rfl, z⟩ := z
  first
    | exact wpAny_pure (wpAny_pure z)
    | (wp_walk; exact z)
theorem call_kw (F : ExcBaseFacts B newId initId bmB) (hT : ∀ X : String, bm.contains (.type X) = bmB.contains (.type X)) {rest : List Value} {fI : Addr}
    (hC : h.get? C = some (excClassObj nm q C N bs bm hdct sn sub ab col dd k0 k1 k2 k3 k5 newId))
    (hi : W.Looks (model prog w) h (typeLookup (.ref C) "__init__") (some (.ref fI))) (hb : ∀ self, W.Looks (model prog w) h (bindSpecial (.ref fI) self) (.ref fI, [self])) (hrest : rest.length ≤ sizeLine)
    (hq : codeAny (model prog w) (A.under (.builtin "type.__call__" ⟨.ref C :: rest, kw⟩)) (.call (.ref fI) ⟨.ref (h.objs.size + 1) :: rest, kw⟩) (W.InitBack (h.objs.size + 1) R)
      ⟨(h.push (W.kdv_tup rest)).push (excO C h.objs.size), g, d, t, os⟩) :
    codeAny (model prog w) A (.call (.ref C) ⟨rest, kw⟩) R ⟨h, g, d, t, os⟩ := by
  have f1 := tc_lookup
  have f2 := tc_bind (.ref C)
  have hTy : (⟨h, g, d, t, os⟩ : Shared).TypeIs (.ref C) "type" := ⟨_, hC, rfl⟩
  refine codeAny_of_tree ?_
  show wpAny _ _ (callAny (.ref C) _) _ _ _
  repeat (any_goals (first | assumption | with_reducible refine wpAny_loadPart_at hC ?_ | wp_step))
  refine ⟨rfl, ?_⟩
  refine codeAny_call_builtin_at (Code.quiet_builtin _ (by decide +kernel)) entry_typeCall (wpAny_check_type_call_sub hC (type_call_kw F hT hC hi hb hrest ?_))
  refine codeAny_mono hq fun r s' z => ?_
  rcases r with e | (v | _ | _ | _) <;> exact z
end
end HandSPX
end PySem
namespace DL
open PySem PySem.Calls PySem.Spec PyProof.Rows L2
noncomputable def supT (se x fld : Str) (st : Stmt) : Bool := match defBody st with
  | [.Expr (.Call (.Attribute (.Call (.Name su _) [] [] _) ini q3) [.Name x1 _] [] q5) _, .Assign [.Attribute (.Name se1 _) f1 _] (.Name x2 _) _] =>
    decide (su = "super") && decide (ini = "__init__") && decide (x1 = x) && decide (se1 = se) && decide (f1 = fld) && decide (x2 = x) && (q3.endLine == q5.line)
  | _ => false
structure SupS (se x : Str) (st : Stmt) : Prop where
  kind : (defScope st).kind = .function
  co : (defScope st).isCoroutine = false
  gen : (defScope st).isGenerator = false
  cell : ∀ x ∈ (defScope st).names, x.2 ≠ .cell
  ls : (defScope st).names.lookup se = some .local
  lx : (defScope st).names.lookup x = some .local
  su : (defScope st).names.lookup ("super" : Str) = some .globalImplicit
  fr : (defScope st).names.lookup ("__class__" : Str) = some .free
  ne : se ≠ x
  dse : (se == ("__debug__" : Str)) = false
  dx : (x == ("__debug__" : Str)) = false
  dsu : (("super" : Str) == ("__debug__" : Str)) = false
structure SupI (P : Program) (K : PySem.W.Frag) (C fI : Addr) (fld : Str) (st : Stmt) (se x : Str) : Prop where
  init : PySem.W.findIn K (.ref C) "__init__" = some (some (.ref fI))
  tI : PySem.W.typeIn K (.ref fI) = some (.type "function")
  fn : ∃ (name qual : Str) (oc : Value) (od : Option Addr) (kV doc pm : Value) (an : Option Addr) (cda cc : Addr) (ct : Value) (osl : Array (Option Value)) (ccl : Value) (cdd : Option Addr) (vs : Array Value) (ccs : Array (Option Value)) (file : Str) (tf : Tok) (cl : Value) (cld : Option Addr) (csl : Array (Option Value)),
    K.lookup fI = some ⟨oc, od, .func (PySem.W.ksFn name qual (defArgs st) (defBody st) (defScope st) .none kV doc pm an (.ref cda) ct cc), osl⟩ ∧ PySem.W.codeIn K (.ref cda) qual = true ∧
    K.lookup cda = some ⟨ccl, cdd, .fields vs, ccs⟩ ∧ vs[2]? = some (.str file tf) ∧ ((P.main.file : Str) == file) = true ∧ K.lookup cc = some ⟨cl, cld, .cell (some (.ref C)), csl⟩
  top : (P.main.scope.names.lookup ("super" : Str)).isSome = false
  tx : supT se x fld st = true
  sc : SupS se x st
  pl : (defArgs st).posonlyargs = [] ∧ (defArgs st).args.map (·.arg) = [se, x] ∧ (defArgs st).vararg = none ∧ (defArgs st).kwonlyargs = [] ∧ (defArgs st).kwarg = none
  sup : PySem.W.nsIn K mainGlobals "super" = some none
  ks : PySem.W.ks_superIn K C C "__init__" = some (some (.builtin "ValueError.__init__"))
  opq : PySem.W.nsIn K PySem.cStatics "thirdparty.any" = some none
  ve : PySem.W.subIn K (.ref C) (.type "ValueError") = some true
  mro : PySem.W.mroIn K C (.ref C) = some true
  oex : OexC K C
  no : PySem.W.findIn K (.ref C) fld = some none
structure EvC (P : Program) (K : PySem.W.Frag) (mg : Str → Option Value) (x : Str) (C : Addr) (fo : Option Str) : Prop where
  ns : PySem.W.nsIn K mainGlobals x = some (some (.ref C))
  gl : mg x = some (.ref C)
  kp : PySem.W.keepIn K (.ref C) = true
  ex : ExcC K C
  xf : XfC K C
  cl : (PySem.W.clsIn K C).isSome = true
  mkd : match fo with
    | none => PySem.W.excIn K C [.type "ValueError", .type "Exception", .type "BaseException", .type "object"] "ValueError.__new__" = true
    | some f => (∃ fI st se, SupI P K C fI f st se f) ∧ PySem.W.findIn K (.ref C) f = some none
noncomputable def EvAt (P : Program) (K : PySem.W.Frag) (mg : Str → Option Value) (x : Str) (fo : Option Str) : Prop := ∃ C, EvC P K mg x C fo
noncomputable def EisV (mg : Str → Option Value) (D : Str) (cv : V) (u : Value) : Prop := (∃ Da, cv = .ref Da ∧ u = .ref Da ∧ mg D = some (.ref Da)) ∨ ∃ T, cv = .ty T ∧ u = .type T ∧ mg D = none ∧ bootBuiltins D = some (.type T) ∧ D ≠ "__name__"
noncomputable def EisAt (K : PySem.W.Frag) (mg : Str → Option Value) (x D : Str) (b : Bool) : Prop := ∃ C cv u, PySem.W.nsIn K mainGlobals x = some (some (.ref C)) ∧ EisV mg D cv u ∧ PySem.W.kitOne K (.ref C) u = some b
end DL
namespace DL
open PySem PySem.Spec PyProof.Rows L2
section
variable {X : Cx} {pins : List (Addr × Obj)} {σ : L2.St} {H : Hp} {s : Shared}
theorem tup_laid (I : Inv X pins σ H s) {xs : List V} {its : List Value} {Q : VK} (z : xs.length ≤ sizeLine) (r : Vals xs its) (q : ∀ p o, H p = none → o.dict = none → Q (.ref p) (upd H p (.frz o (.tup xs)))) :
    EP X pins σ Q (.ref s.heap.objs.size) { s with heap := s.heap.push { cls := .type "tuple", data := .seq its.toArray } } :=
  ⟨.ref s.heap.objs.size, _, I.laid (t' := s.toks) (o := .frz (tupO its.toArray) (.tup xs)) (fun b ob q => Heap.get?_push_of_some _ q) (Nat.le_refl _) (frz_ok z r (Heap.get?_push_size _ rfl)), rfl,
    q _ _ (I.hok.fresh (Nat.le_refl _)) rfl⟩
end
section
variable {X : Cx}
noncomputable def tTupP (t : TA) : TE := fun σ H Q => t σ H fun xs H1 => xs.length ≤ sizeLine ∧ ∀ p o, H1 p = none → o.dict = none → Q (.ref p) (upd H1 p (.frz o (.tup xs)))
theorem pe_tupP {es : List Expr} {t : TA} {pos : Pos} {x1 : Nat} (h : PA X es t) : PE X (.Tuple es x1 pos) (tTupP t) :=
  ⟨fun pins s σ H Q I hq => wpAny_Tuple_spliced (thn (h.run pos pins s σ H _ I hq) fun us s1 ⟨xs, H1, I1, r, z, q⟩ => ⟨by rw [← r.length]; exact z, tup_laid I1 z r q⟩)⟩
theorem call_tupleP : CallR X (.type "tuple") (fun xs H Q => ∃ p ys, xs = [.ref p] ∧ ((SqL X.K H p ys ∧ ∀ l o, H l = none → o.dict = none → Q (.ref l) (upd H l (.frz o (.tup ys)))) ∨ (SqT X.K H p ys ∧ Q (.ref p) H))) := by
  intro pins s σ H xs us Q I r ⟨p, ys, ex, h⟩
  subst ex
  obtain ⟨u, eu, rx⟩ := vals1 r
  subst eu
  cases rx
  rcases h with ⟨hq, q⟩ | ⟨hq, q⟩
  · obtain ⟨its, rv, pl, hz⟩ := I.list hq
    have hl := rv.length
    refine call_tuple_list pl.isList (fun h' kp => ?_) (by simp only [List.size_toArray] <;> omega)
    exact tup_laid (I.kept (t' := s.toks) kp) hz rv q
  · obtain ⟨its, _, pl, _⟩ := I.tuple hq
    exact call_tuple_same pl ⟨.ref p, H, I, rfl, q⟩
noncomputable def rCatP (K : PySem.W.Frag) : R2 := fun x y H Q => ∃ a b xs ys, x = .ref a ∧ y = .ref b ∧ SqT K H a xs ∧ SqT K H b ys ∧ xs.length + ys.length ≤ sizeLine ∧
  (xs = [] → Q (.ref b) H) ∧ (xs ≠ [] → ys = [] → Q (.ref a) H) ∧ (xs ≠ [] → ys ≠ [] → ∀ p o, H p = none → o.dict = none → Q (.ref p) (upd H p (.frz o (.tup (xs ++ ys)))))
theorem op_catP : OpR X (binaryOp .Add) (rCatP X.K) := by
  intro pins s σ H x y v u Q I rx ry ⟨a, b, xs, ys, ex, ey, ha, hb, hz, q0, q1, q2⟩
  subst ex ey
  by_cases hx : xs = []
  · exact op_catA pins s σ H _ _ v u Q I rx ry ⟨a, b, xs, ys, rfl, rfl, ha, hb, hz, q0, fun n => absurd hx n, fun n => absurd hx n⟩
  · cases rx
    cases ry
    obtain ⟨i1, r1, p1, _⟩ := I.tuple ha
    obtain ⟨i2, r2, p2, _⟩ := I.tuple hb
    refine HT.cat_tup p1 p2 (fun z => hx (r1.nil_iff.mp z)) (fun z => ⟨.ref a, H, I, rfl, q1 hx (r2.nil_iff.mp z)⟩) (fun z => ?_) (by rw [← r1.length, ← r2.length]; exact hz)
    exact tup_laid I (by rw [List.length_append]; exact hz) (r1.append r2) (q2 hx fun w => z (r2.nil_iff.mpr w))
noncomputable def rSlP (K : PySem.W.Frag) : V → Option Int → Option Int → Hp → VK → Prop := fun x lo hi H Q => ∃ a xs, x = .ref a ∧ SqT K H a xs ∧
  (HT.sIx xs.length 0 lo = 0 ∧ HT.sIx xs.length xs.length hi = xs.length → Q (.ref a) H) ∧ (¬ (HT.sIx xs.length 0 lo = 0 ∧ HT.sIx xs.length xs.length hi = xs.length) → ∀ p o, H p = none → o.dict = none → Q (.ref p) (upd H p (.frz o (.tup (cutV xs lo hi)))))
theorem sl_tupP : SlR X (rSlP X.K) := by
  intro pins s σ H x v vl vu lo hi sl Q I rx hs pl pu ⟨a, xs, ex, hx, q1, q2⟩
  by_cases hw : HT.sIx xs.length 0 lo = 0 ∧ HT.sIx xs.length xs.length hi = xs.length
  · exact sl_tupA pins s σ H x v vl vu lo hi sl Q I rx hs pl pu ⟨a, xs, ex, hx, q1, fun n => absurd hw n⟩
  · subst ex
    cases rx
    obtain ⟨its, r, ht, hz⟩ := I.tuple hx
    have hl : its.toArray.size = xs.length := by rw [List.size_toArray]; exact r.length.symm
    refine ⟨"tuple", _, PyProof.Rows.slot_tuple_getitem.lookup, ht.typeIs, HT.getItem_tuple_cut ht hs pl pu (by rw [hl]; exact hw) ?_ (by rw [hl]; exact hz)⟩
    rw [hl]
    exact tup_laid I (Nat.le_trans (cutV_length xs lo hi) hz) ((r.drop (HT.sIx xs.length 0 lo)).take (HT.sIx xs.length xs.length hi - HT.sIx xs.length 0 lo)) (q2 hw)
noncomputable def rRepP (K : PySem.W.Frag) : R2 := fun x y H Q => ∃ l k xs, x = .ref l ∧ y = .int k ∧ SqT K H l xs ∧ xs ≠ [] ∧ 2 ≤ k ∧ k ≤ 1000 ∧ xs.length ≤ 1000 ∧ ∀ p o, H p = none → o.dict = none → Q (.ref p) (upd H p (.frz o (.tup (List.replicate k.toNat xs).flatten)))
theorem op_repP : OpR X (binaryOp .Mult) (rRepP X.K) := by
  intro pins s σ H x y v u Q I rx ry ⟨l, k, xs, ex, ey, hT, hne, h1, h2, hz, q⟩
  subst ex ey
  cases rx
  obtain ⟨t, et⟩ := ry
  subst et
  obtain ⟨its, r, ⟨⟨cls, dd, data, sl⟩, ho, hc, n, hd⟩, hs⟩ := I.tuple hT
  simp only at hc hd
  subst hc hd
  have hle : its.length = xs.length := r.length.symm
  have hn : its ≠ [] := fun e => hne (List.eq_nil_of_length_eq_zero (by rw [← hle, e]; rfl))
  have hi : its.toArray.isEmpty = false := by
    cases its with
    | nil => exact absurd rfl hn
    | cons _ _ => rfl
  have hs0 : its.toArray.size = xs.length := by rw [List.size_toArray, hle]
  have hm : ((its.toArray.size : Nat) : Int) * k ≤ 1000000 := by
    rw [hs0]
    have := Int.mul_le_mul_of_nonneg_right (a := ((xs.length : Nat) : Int)) (b := 1000) (c := k) (by omega) (by omega)
    omega
  have fz : (List.replicate k.toNat xs).flatten.length ≤ sizeLine := by
    rw [PyProof.Rows.lm_len_rep_flat, sizeLine_eq]
    have := Nat.mul_le_mul (show k.toNat ≤ 1000 by omega) hz
    omega
  have fl : (List.replicate k.toNat its).flatten.length ≤ sizeLine := by
    rw [PyProof.Rows.lm_len_rep_flat, hle, ← PyProof.Rows.lm_len_rep_flat]; exact fz
  have c0 : (decide (k < -(2 ^ 63)) || decide (k ≥ 2 ^ 63)) = false := by rw [decide_eq_false (by omega), decide_eq_false (by omega), Bool.false_or]
  have c1 : (its.toArray.isEmpty || k == 1) = false := by rw [hi, Bool.false_or]; exact beq_eq_false_iff_ne.mpr (by omega)
  have c2 : (decide (k ≤ 0) || its.toArray.isEmpty) = false := by rw [hi, Bool.or_false]; exact decide_eq_false (by omega)
  have c4 : Builtin.Tuple.tupleTooMany (((its.toArray.size : Nat) : Int) * k) = false := by
    unfold Builtin.Tuple.tupleTooMany
    rw [sizeLine_eq]
    exact decide_eq_false (by omega)
  refine wpAny_binaryOp_repeat_ref (U := "int") (T := "tuple") (by decide) ⟨_, ho, rfl⟩ (fun s' => typeIs_int s' k t) noFill_tuple_mul F.fills_int_mul F.slot_int_rmul repeat_tuple F.slot_int_index.lookup ?_
  refine call_meets F.slot_int_rmul (typeIs_int s k t) F.entry_int_rmul (F.args_int_rmul_2 _ _) (int_rmul_tuple k t l its.toArray n dd sl) ⟨ho, rfl, ⟨_, ho, rfl⟩, ?_⟩
  refine call_meets F.slot_tuple_mul ⟨_, ho, rfl⟩ F.entry_tuple_mul (F.args_tuple_mul_2 _ _) (tuple_mulW l its.toArray n dd sl k t c0 c1 c2 (by omega) c4 (by rw [size_rep, List.size_toArray]; exact fl)) ⟨ho, ?_⟩
  rw [size_rep]
  exact tup_laid I fz (r.rep k.toNat) q
end
end DL
namespace DL
open PySem PySem.Spec PyProof.Rows L2 RZ
noncomputable def IteP (K : PySem.W.Frag) (a : Addr) : It :=
  ⟨fun i H => ∃ (xs : List V) (x : V), SqL K H a xs ∧ xs[i]? = some x, fun i H v H' => ∃ T x o, v = .ref T ∧ H T = none ∧ o.dict = none ∧ H' = upd H T (.frz o (.tup [.int (i : Nat), x])) ∧ ∀ xs, SqL K H a xs → xs[i]? = some x, fun i H => ∃ xs : List V, SqL K H a xs ∧ xs.length ≤ i⟩
theorem turn_enumP {P : Program} {w : World} {K : PySem.W.Frag} {elts : List Expr} {kk : Nat} {tpos : Pos} (a e it : Addr) :
    Turn P w K (.Tuple elts kk tpos) (IteP K a) [e, it] e (fun i h => (∃ was, IsEnum h e it ((i : Nat) : Int) was) ∧ h.IsListIter it a i ∧ e ≠ it) where
  mem := by simp
  obj := fun i h tt b kb => by
    obtain ⟨⟨was, ke⟩, ⟨o, ho, gc, hd⟩, _⟩ := tt
    have ee : b = e ∨ b = it := by simpa using kb
    rcases ee with z | z
    · rw [z]; exact ⟨_, ke, fun v q => nomatch q⟩
    · rw [z]; exact ⟨o, ho, fun v q => by rw [hd] at q; cases q⟩
  keep := fun i h h' tt k => let ⟨⟨was, ke⟩, hi, kne⟩ := tt; ⟨⟨was, k e (by simp) _ ke⟩, hi.at fun o q => k it (by simp) o q, kne⟩
  item := by
    intro X gP gw gK gc i pins s σ H E I kf tt gg
    subst gP gw gK
    obtain ⟨⟨was, ke⟩, ki, kne⟩ := tt
    obtain ⟨xs, x, hq, ax⟩ := gg
    obtain ⟨ys1, rr1, p, kz⟩ := I.list hq
    obtain ⟨u, bu, qu⟩ := rr1.get ax
    have lel : e < s.heap.objs.size := Heap.lt_size ke
    have lil : it < s.heap.objs.size := by obtain ⟨_, q, _⟩ := ki; exact Heap.lt_size q
    refine wpAny_pyNext_enum_item ke ki p.isList (x := u) (by simpa using bu) kne fun h' ho hit' kT ksz hk => ?_
    refine ⟨_, rfl, wpAny_letOwnedTupleGo_enum (s := { s with heap := h', toks := s.toks + 1 }) ho fun h'' he' sB => ?_⟩
    have kT2 : h''.get? s.heap.objs.size = some { cls := .type "tuple", data := .seq #[.int i s.toks, u] } := (sB.2 _ (Nat.ne_of_gt lel)).trans kT
    have new : ObjOk X.prog X.w (upd H s.heap.objs.size (.frz (tupO #[.int i s.toks, u]) (.tup [.int (i : Nat), x]))) h'' s.heap.objs.size (.frz (tupO #[.int i s.toks, u]) (.tup [.int (i : Nat), x])) :=
      frz_ok (its := [.int i s.toks, u]) (by show 2 ≤ sizeLine; decide) (.cons ⟨_, rfl⟩ (.cons qu .nil)) kT2
    have J1 : Inv X pins σ (upd H s.heap.objs.size (.frz (tupO #[.int i s.toks, u]) (.tup [.int (i : Nat), x]))) { s with heap := h'', toks := s.toks + 1 } :=
      I.turnedNew (ch := [e, it]) (fun b ob kb q => (sB.2 b (fun z => kb (by simp [z]))).trans (hk b ob (fun z => kb (by simp [z])) (fun z => kb (by simp [z])) q)) kf (Nat.le_refl _) new
    refine ⟨.ref s.heap.objs.size, _, J1, rfl, ⟨_, x, _, rfl, I.hok.fresh (Nat.le_refl _), rfl, rfl, fun ys ay => by rw [I.list_inj ay hq]; exact ax⟩, ⟨⟨u, ?_⟩, hit'.at fun o q => (sB.2 it (Ne.symm kne)).trans q, kne⟩, fun b kb => ?_⟩
    · have e1 : ((i + 1 : Nat) : Int) = (i : Int) + 1 := by omega
      rw [e1]; exact he'
    · have kb' : b < s.heap.objs.size := by
        have ee : b = e ∨ b = it := by simpa using kb
        rcases ee with z | z
        · rw [z]; exact lel
        · rw [z]; exact lil
      rw [upd_ne (Nat.ne_of_lt kb')]
      exact (kf b kb).1
  done := by
    intro X gP gw gK gc i pins s σ H E I kf tt gg
    subst gP gw gK
    obtain ⟨⟨was, ke⟩, ki, kne⟩ := tt
    obtain ⟨xs, hq, ax⟩ := gg
    obtain ⟨ys1, rr1, p, kz⟩ := I.list hq
    obtain ⟨f0, f1, f2, f3, f4, f5⟩ := kf it (by simp)
    have hl := rr1.length
    exact wpAny_pyNext_enum_end (I.ok.hd gc) ke ki p.isList (by simp; omega) fun h' eb => ⟨rfl, I.turned (t' := s.toks) (fun b o kb q => eb b o kb q) f0 f1 f3 f4 f5⟩
  self := fun A i s Q E tt h => let ⟨⟨_, ke⟩, _⟩ := tt; wpAny_pyIter_enum ke h
noncomputable def ItzP (K : PySem.W.Frag) (a b : Addr) : It :=
  ⟨fun i H => ∃ (xs ys : List V) (x y : V), SqL K H a xs ∧ SqL K H b ys ∧ xs[i]? = some x ∧ ys[i]? = some y,
    fun i H v H' => ∃ T x y o, v = .ref T ∧ H T = none ∧ o.dict = none ∧ H' = upd H T (.frz o (.tup [x, y])) ∧ (∀ xs, SqL K H a xs → xs[i]? = some x) ∧ ∀ ys, SqL K H b ys → ys[i]? = some y,
    fun i H => ∃ xs ys : List V, SqL K H a xs ∧ SqL K H b ys ∧ (xs.length ≤ i ∨ ys.length ≤ i)⟩
theorem turn_zipP {P : Program} {w : World} {K : PySem.W.Frag} {elts : List Expr} {kk : Nat} {tpos : Pos} {a b z UI UO j1 j2 : Addr} (D : ZipApart z UI UO j1 j2 a b) :
    Turn P w K (.Tuple elts kk tpos) (ItzP K a b) [z, UI, UO, j1, j2] z (fun i h => IsZip h z UI UO .none ∧ IsPair h UI (.ref j1) (.ref j2) ∧ (∃ x y, IsPair h UO x y) ∧ h.IsListIter j1 a i ∧ h.IsListIter j2 b i) where
  mem := by simp
  obj := fun i h tt c gc => by
    obtain ⟨kz, kI, ⟨x, y, kO⟩, ⟨o1, e1, _, d1⟩, ⟨o2, e2, _, d2⟩⟩ := tt
    have ee : c = z ∨ c = UI ∨ c = UO ∨ c = j1 ∨ c = j2 := by simpa using gc
    rcases ee with q | q | q | q | q
    · rw [q]; exact ⟨_, kz, fun v q => nomatch q⟩
    · rw [q]; exact ⟨_, kI, fun v q => nomatch q⟩
    · rw [q]; exact ⟨_, kO, fun v q => nomatch q⟩
    · rw [q]; exact ⟨o1, e1, fun v q => by rw [d1] at q; cases q⟩
    · rw [q]; exact ⟨o2, e2, fun v q => by rw [d2] at q; cases q⟩
  keep := fun i h h' tt k => by
    obtain ⟨kz, kI, ⟨x, y, kO⟩, w1, w2⟩ := tt
    exact ⟨k z (by simp) _ kz, k UI (by simp) _ kI, ⟨x, y, k UO (by simp) _ kO⟩, w1.at fun o q => k j1 (by simp) o q, w2.at fun o q => k j2 (by simp) o q⟩
  item := by
    intro X gP gw gK gc i pins s σ H E I kf tt gg
    subst gP gw gK
    obtain ⟨kz, kI, ⟨x0, y0, kO⟩, w1, w2⟩ := tt
    obtain ⟨xs, ys, x, y, gx, gy, ax, ay⟩ := gg
    obtain ⟨ys1, rr1, p, _⟩ := I.list gx
    obtain ⟨ys2, rr2, p2, _⟩ := I.list gy
    obtain ⟨u, bu, qu⟩ := rr1.get ax
    obtain ⟨u2, bu2, qu2⟩ := rr2.get ay
    have lz : z < s.heap.objs.size := Heap.lt_size kz
    refine wpAny_pyNext_zip_item D kz kI kO w1 w2 p.isList p2.isList (x := u) (y := u2) (by simpa using bu) (by simpa using bu2) fun h' z' TO' h1' h2' kT ksz hk => ?_
    refine ⟨_, rfl, wpAny_letOwnedTupleGo_zip (s := { s with heap := h' }) z' fun h'' z'' sB => ?_⟩
    have kT2 : h''.get? s.heap.objs.size = some { cls := .type "tuple", data := .seq #[u, u2] } := (sB.2 _ (Nat.ne_of_gt lz)).trans kT
    have new : ObjOk X.prog X.w (upd H s.heap.objs.size (.frz (tupO #[u, u2]) (.tup [x, y]))) h'' s.heap.objs.size (.frz (tupO #[u, u2]) (.tup [x, y])) :=
      frz_ok (its := [u, u2]) (by show 2 ≤ sizeLine; decide) (.cons qu (.cons qu2 .nil)) kT2
    have J1 : Inv X pins σ (upd H s.heap.objs.size (.frz (tupO #[u, u2]) (.tup [x, y]))) { s with heap := h'' } :=
      I.turnedNew (t' := s.toks) (ch := [z, UI, UO, j1, j2]) (fun c o kb q => (sB.2 c (fun q' => kb (by simp [q']))).trans (hk c o (fun q' => kb (by simp [q'])) (fun q' => kb (by simp [q'])) (fun q' => kb (by simp [q'])) (fun q' => kb (by simp [q'])) q)) kf (Nat.le_refl _) new
    refine ⟨.ref s.heap.objs.size, _, J1, rfl, ⟨_, x, y, _, rfl, I.hok.fresh (Nat.le_refl _), rfl, rfl, fun l hl => by rw [I.list_inj hl gx]; exact ax, fun l hl => by rw [I.list_inj hl gy]; exact ay⟩, ⟨z'', ?_, ⟨u, u2, ?_⟩, ?_, ?_⟩, fun c kcm => ?_⟩
    · exact (sB.2 _ D.TIz).trans (hk _ _ D.TIz D.TITO D.TIi1 D.TIi2 kI)
    · exact (sB.2 _ D.TOz).trans TO'
    · exact h1'.at fun o q => (sB.2 _ D.i1z).trans q
    · exact h2'.at fun o q => (sB.2 _ D.i2z).trans q
    · have klt : c < s.heap.objs.size := by
        have ee : c = z ∨ c = UI ∨ c = UO ∨ c = j1 ∨ c = j2 := by simpa using kcm
        rcases ee with q | q | q | q | q
        · rw [q]; exact lz
        · rw [q]; exact Heap.lt_size kI
        · rw [q]; exact Heap.lt_size kO
        · rw [q]; obtain ⟨_, e1, _⟩ := w1; exact Heap.lt_size e1
        · rw [q]; obtain ⟨_, e2, _⟩ := w2; exact Heap.lt_size e2
      rw [upd_ne (Nat.ne_of_lt klt)]
      exact (kf c kcm).1
  done := by
    intro X gP gw gK gc i pins s σ H E I kf tt gg
    subst gP gw gK
    obtain ⟨kz, kI, ⟨x0, y0, kO⟩, w1, w2⟩ := tt
    obtain ⟨xs, ys, gx, gy, hend⟩ := gg
    obtain ⟨ys1, rr1, p, _⟩ := I.list gx
    obtain ⟨ys2, rr2, p2, _⟩ := I.list gy
    have l1 := rr1.length
    have l2 := rr2.length
    have ke : ys1.toArray[i]? = none ∨ ys2.toArray[i]? = none := by
      rcases hend with q | q
      · exact .inl (by simp; omega)
      · exact .inr (by simp; omega)
    exact wpAny_pyNext_zip_end (I.ok.hd gc) D kz kI kO w1 w2 p.isList p2.isList ke fun h' hk => ⟨rfl, I.turnedL (t' := s.toks) (ch := [z, UI, UO, j1, j2]) (fun c o kb q =>
      hk c o (fun q' => kb (by simp [q'])) (fun q' => kb (by simp [q'])) (fun q' => kb (by simp [q'])) (fun q' => kb (by simp [q'])) q) kf⟩
  self := fun A i s Q E tt h => wpAny_pyIter_zip tt.1 h
noncomputable def ItzQ (K : PySem.W.Frag) (a b : Addr) : It :=
  ⟨fun i H => ∃ (xs ys : List V) (x y : V), SqT K H a xs ∧ SqT K H b ys ∧ xs[i]? = some x ∧ ys[i]? = some y,
    fun i H v H' => ∃ T x y o, v = .ref T ∧ H T = none ∧ o.dict = none ∧ H' = upd H T (.frz o (.tup [x, y])) ∧ (∀ xs, SqT K H a xs → xs[i]? = some x) ∧ ∀ ys, SqT K H b ys → ys[i]? = some y,
    fun i H => ∃ xs ys : List V, SqT K H a xs ∧ SqT K H b ys ∧ (xs.length ≤ i ∨ ys.length ≤ i)⟩
theorem turn_zipQ {P : Program} {w : World} {K : PySem.W.Frag} {elts : List Expr} {kk : Nat} {tpos : Pos} {a b z UI UO j1 j2 : Addr} (D : ZipApart z UI UO j1 j2 a b) :
    Turn P w K (.Tuple elts kk tpos) (ItzQ K a b) [z, UI, UO, j1, j2] z (fun i h => IsZip h z UI UO .none ∧ IsPair h UI (.ref j1) (.ref j2) ∧ (∃ x y, IsPair h UO x y) ∧ h.IsTupleIter j1 a i ∧ h.IsTupleIter j2 b i) where
  mem := by simp
  obj := fun i h tt c gc => by
    obtain ⟨kz, kI, ⟨x, y, kO⟩, ⟨o1, e1, _, d1⟩, ⟨o2, e2, _, d2⟩⟩ := tt
    have ee : c = z ∨ c = UI ∨ c = UO ∨ c = j1 ∨ c = j2 := by simpa using gc
    rcases ee with q | q | q | q | q
    · rw [q]; exact ⟨_, kz, fun v q => nomatch q⟩
    · rw [q]; exact ⟨_, kI, fun v q => nomatch q⟩
    · rw [q]; exact ⟨_, kO, fun v q => nomatch q⟩
    · rw [q]; exact ⟨o1, e1, fun v q => by rw [d1] at q; cases q⟩
    · rw [q]; exact ⟨o2, e2, fun v q => by rw [d2] at q; cases q⟩
  keep := fun i h h' tt k => by
    obtain ⟨kz, kI, ⟨x, y, kO⟩, w1, w2⟩ := tt
    exact ⟨k z (by simp) _ kz, k UI (by simp) _ kI, ⟨x, y, k UO (by simp) _ kO⟩, w1.at fun o q => k j1 (by simp) o q, w2.at fun o q => k j2 (by simp) o q⟩
  item := by
    intro X gP gw gK gc i pins s σ H E I kf tt gg
    subst gP gw gK
    obtain ⟨kz, kI, ⟨x0, y0, kO⟩, w1, w2⟩ := tt
    obtain ⟨xs, ys, x, y, gx, gy, ax, ay⟩ := gg
    obtain ⟨ys1, rr1, p, _⟩ := I.tuple gx
    obtain ⟨ys2, rr2, p2, _⟩ := I.tuple gy
    obtain ⟨u, bu, qu⟩ := rr1.get ax
    obtain ⟨u2, bu2, qu2⟩ := rr2.get ay
    have lz : z < s.heap.objs.size := Heap.lt_size kz
    refine pyNext_zipT_item D kz kI kO w1 w2 p p2 (x := u) (y := u2) (by simpa using bu) (by simpa using bu2) fun h' z' TO' h1' h2' kT ksz hk => ?_
    refine ⟨_, rfl, wpAny_letOwnedTupleGo_zip (s := { s with heap := h' }) z' fun h'' z'' sB => ?_⟩
    have kT2 : h''.get? s.heap.objs.size = some { cls := .type "tuple", data := .seq #[u, u2] } := (sB.2 _ (Nat.ne_of_gt lz)).trans kT
    have new : ObjOk X.prog X.w (upd H s.heap.objs.size (.frz (tupO #[u, u2]) (.tup [x, y]))) h'' s.heap.objs.size (.frz (tupO #[u, u2]) (.tup [x, y])) :=
      frz_ok (its := [u, u2]) (by show 2 ≤ sizeLine; decide) (.cons qu (.cons qu2 .nil)) kT2
    have J1 : Inv X pins σ (upd H s.heap.objs.size (.frz (tupO #[u, u2]) (.tup [x, y]))) { s with heap := h'' } :=
      I.turnedNew (t' := s.toks) (ch := [z, UI, UO, j1, j2]) (fun c o kb q => (sB.2 c (fun q' => kb (by simp [q']))).trans (hk c o (fun q' => kb (by simp [q'])) (fun q' => kb (by simp [q'])) (fun q' => kb (by simp [q'])) (fun q' => kb (by simp [q'])) q)) kf (Nat.le_refl _) new
    refine ⟨.ref s.heap.objs.size, _, J1, rfl, ⟨_, x, y, _, rfl, I.hok.fresh (Nat.le_refl _), rfl, rfl, fun l hl => by rw [I.tuple_inj hl gx]; exact ax, fun l hl => by rw [I.tuple_inj hl gy]; exact ay⟩, ⟨z'', ?_, ⟨u, u2, ?_⟩, ?_, ?_⟩, fun c kcm => ?_⟩
    · exact (sB.2 _ D.TIz).trans (hk _ _ D.TIz D.TITO D.TIi1 D.TIi2 kI)
    · exact (sB.2 _ D.TOz).trans TO'
    · exact h1'.at fun o q => (sB.2 _ D.i1z).trans q
    · exact h2'.at fun o q => (sB.2 _ D.i2z).trans q
    · have klt : c < s.heap.objs.size := by
        have ee : c = z ∨ c = UI ∨ c = UO ∨ c = j1 ∨ c = j2 := by simpa using kcm
        rcases ee with q | q | q | q | q
        · rw [q]; exact lz
        · rw [q]; exact Heap.lt_size kI
        · rw [q]; exact Heap.lt_size kO
        · rw [q]; obtain ⟨_, e1, _⟩ := w1; exact Heap.lt_size e1
        · rw [q]; obtain ⟨_, e2, _⟩ := w2; exact Heap.lt_size e2
      rw [upd_ne (Nat.ne_of_lt klt)]
      exact (kf c kcm).1
  done := by
    intro X gP gw gK gc i pins s σ H E I kf tt gg
    subst gP gw gK
    obtain ⟨kz, kI, ⟨x0, y0, kO⟩, w1, w2⟩ := tt
    obtain ⟨xs, ys, gx, gy, hend⟩ := gg
    obtain ⟨ys1, rr1, p, _⟩ := I.tuple gx
    obtain ⟨ys2, rr2, p2, _⟩ := I.tuple gy
    have l1 := rr1.length
    have l2 := rr2.length
    have ke : ys1.toArray[i]? = none ∨ ys2.toArray[i]? = none := by
      rcases hend with q | q
      · exact .inl (by simp; omega)
      · exact .inr (by simp; omega)
    exact pyNext_zipT_end (I.ok.hd gc) D kz kI kO w1 w2 p p2 ke fun h' hk => ⟨rfl, I.turnedL (t' := s.toks) (ch := [z, UI, UO, j1, j2]) (fun c o kb q =>
      hk c o (fun q' => kb (by simp [q'])) (fun q' => kb (by simp [q'])) (fun q' => kb (by simp [q'])) (fun q' => kb (by simp [q'])) q) kf⟩
  self := fun A i s Q E tt h => wpAny_pyIter_zip tt.1 h
noncomputable def ItzR (K : PySem.W.Frag) (a b : Addr) (n1 n2 : Nat) : It :=
  ⟨fun i H => ∃ (xs ys : List V) (x y : V), SqT K H a xs ∧ SqL K H b ys ∧ xs.length = n1 ∧ ys.length = n2 ∧ xs[i]? = some x ∧ ys[i]? = some y,
    fun i H v H' => ∃ T x y o, v = .ref T ∧ H T = none ∧ o.dict = none ∧ H' = upd H T (.frz o (.tup [x, y])) ∧ (∀ xs, SqT K H a xs → xs[i]? = some x) ∧ ∀ ys, SqL K H b ys → ys[i]? = some y,
    fun i H => ∃ xs ys : List V, SqT K H a xs ∧ SqL K H b ys ∧ xs.length = n1 ∧ ys.length = n2 ∧ (xs.length ≤ i ∨ ys.length ≤ i)⟩
theorem turn_zipR {P : Program} {w : World} {K : PySem.W.Frag} {elts : List Expr} {kk : Nat} {tpos : Pos} {a b z UI UO j1 j2 : Addr} {n1 n2 : Nat} (D : ZipApart z UI UO j1 j2 a b) :
    Turn P w K (.Tuple elts kk tpos) (ItzR K a b n1 n2) [z, UI, UO, j1, j2] z (fun i h => IsZip h z UI UO .none ∧ IsPair h UI (.ref j1) (.ref j2) ∧ (∃ x y, IsPair h UO x y) ∧ h.IsTupleIter j1 a i ∧ h.IsListIter j2 b i ∧ i ≤ n1 ∧ i ≤ n2) where
  mem := by simp
  obj := fun i h tt c gc => by
    obtain ⟨kz, kI, ⟨x, y, kO⟩, ⟨o1, e1, _, d1⟩, ⟨o2, e2, _, d2⟩, _⟩ := tt
    have ee : c = z ∨ c = UI ∨ c = UO ∨ c = j1 ∨ c = j2 := by simpa using gc
    rcases ee with q | q | q | q | q
    · rw [q]; exact ⟨_, kz, fun v q => nomatch q⟩
    · rw [q]; exact ⟨_, kI, fun v q => nomatch q⟩
    · rw [q]; exact ⟨_, kO, fun v q => nomatch q⟩
    · rw [q]; exact ⟨o1, e1, fun v q => by rw [d1] at q; cases q⟩
    · rw [q]; exact ⟨o2, e2, fun v q => by rw [d2] at q; cases q⟩
  keep := fun i h h' tt k => by
    obtain ⟨kz, kI, ⟨x, y, kO⟩, w1, w2, le1, le2⟩ := tt
    exact ⟨k z (by simp) _ kz, k UI (by simp) _ kI, ⟨x, y, k UO (by simp) _ kO⟩, w1.at fun o q => k j1 (by simp) o q, w2.at fun o q => k j2 (by simp) o q, le1, le2⟩
  item := by
    intro X gP gw gK gc i pins s σ H E I kf tt gg
    subst gP gw gK
    obtain ⟨kz, kI, ⟨x0, y0, kO⟩, w1, w2, le1, le2⟩ := tt
    obtain ⟨xs, ys, x, y, gx, gy, m1, m2, ax, ay⟩ := gg
    obtain ⟨ys1, rr1, p, _⟩ := I.tuple gx
    obtain ⟨ys2, rr2, p2, _⟩ := I.list gy
    obtain ⟨u, bu, qu⟩ := rr1.get ax
    obtain ⟨u2, bu2, qu2⟩ := rr2.get ay
    have lz : z < s.heap.objs.size := Heap.lt_size kz
    have l1 := rr1.length
    have l2 := rr2.length
    have lx : i < xs.length := by
      rcases Nat.lt_or_ge i xs.length with z | z
      · exact z
      · rw [List.getElem?_eq_none z] at ax; cases ax
    have ly : i < ys.length := by
      rcases Nat.lt_or_ge i ys.length with z | z
      · exact z
      · rw [List.getElem?_eq_none z] at ay; cases ay
    have hh := I.ok.hd gc
    have S : ZipSep2 z UI UO j1 j2 [j1, a] [j2, b] := ⟨D.TIz, D.TOz, D.TITO, D.TIi1, by simp, by simp [D.i1z.symm, D.l1z.symm], by simp [D.TOi1, D.l1TO.symm], D.TIi2, by simp, by simp [D.i2z.symm, D.l2z.symm], by simp [D.TOi2, D.l2TO.symm], by simp [D.i12, D.l2i1.symm], by simp [D.i12.symm, D.l1i2.symm]⟩
    refine wpAny_pyNext_zipD2_item (i := i) S (Draws.tuple (A := X.A.in1) hh j1 a D.l1i1 ys1.toArray) (Draws.list (A := X.A.in1) hh j2 b D.l2i2 ys2.toArray) kz kI kO ⟨w1, p⟩ ⟨w2, p2.isList⟩ (by simp; omega) (by simp; omega) fun u' u2' h' tk e1 e2 z' TO' h1' h2' kT ksz hk => ?_
    have e1' : ys1[i]? = some u' := by simpa using e1
    have e2' : ys2[i]? = some u2' := by simpa using e2
    rw [bu] at e1'
    rw [bu2] at e2'
    cases e1'
    cases e2'
    refine ⟨_, rfl, wpAny_letOwnedTupleGo_zip (s := { s with heap := h', toks := tk }) z' fun h'' z'' sB => ?_⟩
    have kT2 : h''.get? s.heap.objs.size = some { cls := .type "tuple", data := .seq #[u, u2] } := (sB.2 _ (Nat.ne_of_gt lz)).trans kT
    have new : ObjOk X.prog X.w (upd H s.heap.objs.size (.frz (tupO #[u, u2]) (.tup [x, y]))) h'' s.heap.objs.size (.frz (tupO #[u, u2]) (.tup [x, y])) :=
      frz_ok (its := [u, u2]) (by show 2 ≤ sizeLine; decide) (.cons qu (.cons qu2 .nil)) kT2
    have J1 : Inv X pins σ (upd H s.heap.objs.size (.frz (tupO #[u, u2]) (.tup [x, y]))) { s with heap := h'', toks := tk } :=
      I.turnedNew (t' := tk) (ch := [z, UI, UO, j1, j2]) (fun c o kb q => (sB.2 c (fun q' => kb (by simp [q']))).trans (hk c o (fun q' => kb (by simp [q'])) (fun q' => kb (by simp [q'])) (fun q' => kb (by simp [q'])) (fun q' => kb (by simp [q'])) q)) kf (Nat.le_refl _) new
    refine ⟨.ref s.heap.objs.size, _, J1, rfl, ⟨_, x, y, _, rfl, I.hok.fresh (Nat.le_refl _), rfl, rfl, fun l hl => by rw [I.tuple_inj hl gx]; exact ax, fun l hl => by rw [I.list_inj hl gy]; exact ay⟩, ⟨z'', ?_, ⟨u, u2, ?_⟩, ?_, ?_, ?_, ?_⟩, fun c kcm => ?_⟩
    · exact (sB.2 _ D.TIz).trans (hk _ _ D.TIz D.TITO D.TIi1 D.TIi2 kI)
    · exact (sB.2 _ D.TOz).trans TO'
    · exact h1'.1.at fun o q => (sB.2 _ D.i1z).trans q
    · exact h2'.1.at fun o q => (sB.2 _ D.i2z).trans q
    · omega
    · omega
    · have klt : c < s.heap.objs.size := by
        have ee : c = z ∨ c = UI ∨ c = UO ∨ c = j1 ∨ c = j2 := by simpa using kcm
        rcases ee with q | q | q | q | q
        · rw [q]; exact lz
        · rw [q]; exact Heap.lt_size kI
        · rw [q]; exact Heap.lt_size kO
        · rw [q]; obtain ⟨_, e1, _⟩ := w1; exact Heap.lt_size e1
        · rw [q]; obtain ⟨_, e2, _⟩ := w2; exact Heap.lt_size e2
      rw [upd_ne (Nat.ne_of_lt klt)]
      exact (kf c kcm).1
  done := by
    intro X gP gw gK gc i pins s σ H E I kf tt gg
    subst gP gw gK
    obtain ⟨kz, kI, ⟨x0, y0, kO⟩, w1, w2, le1, le2⟩ := tt
    obtain ⟨xs, ys, gx, gy, m1, m2, hend⟩ := gg
    obtain ⟨ys1, rr1, p, _⟩ := I.tuple gx
    obtain ⟨ys2, rr2, p2, _⟩ := I.list gy
    have l1 := rr1.length
    have l2 := rr2.length
    have hh := I.ok.hd gc
    have S : ZipSep2 z UI UO j1 j2 [j1, a] [j2, b] := ⟨D.TIz, D.TOz, D.TITO, D.TIi1, by simp, by simp [D.i1z.symm, D.l1z.symm], by simp [D.TOi1, D.l1TO.symm], D.TIi2, by simp, by simp [D.i2z.symm, D.l2z.symm], by simp [D.TOi2, D.l2TO.symm], by simp [D.i12, D.l2i1.symm], by simp [D.i12.symm, D.l1i2.symm]⟩
    exact wpAny_pyNext_zipD2_end (i := i) S (Draws.tuple (A := X.A.in1) hh j1 a D.l1i1 ys1.toArray) (Draws.list (A := X.A.in1) hh j2 b D.l2i2 ys2.toArray) kz kI kO ⟨w1, p⟩ ⟨w2, p2.isList⟩ (by simp; omega) (by simp; omega) (by simp; omega) fun h' tk hk => ⟨rfl, I.turnedL (t' := tk) (ch := [z, UI, UO, j1, j2]) (fun c o kb q =>
      hk c o (fun q' => kb (by simp [q'])) (fun q' => kb (by simp [q'])) (fun q' => kb (by simp [q'])) (fun q' => kb (by simp [q'])) q) kf⟩
  self := fun A i s Q E tt h => wpAny_pyIter_zip tt.1 h
noncomputable def iZipP (K : PySem.W.Frag) (ta : TA) : L2.TI := fun σ H R => ta σ H fun vs H1 => ∃ a b xs ys, vs = [.ref a, .ref b] ∧ ((SqL K H1 a xs ∧ SqL K H1 b ys ∧ R (ItzP K a b) H1) ∨ (SqT K H1 a xs ∧ SqT K H1 b ys ∧ R (ItzQ K a b) H1) ∨ (SqT K H1 a xs ∧ SqL K H1 b ys ∧ R (ItzR K a b xs.length ys.length) H1))
theorem pi_zipP {X : Cx} {e e2 : Expr} {ta : TA} {p pos tpos : Pos} {elts : List Expr} {kk : Nat} (gg : Gl X "zip") (hm : X.mg "zip" = none) (ha : PA X [e, e2] ta)
    (hs : starEach [e, e2] X.env = (false, eval e X.env) :: starEach [e2] X.env := by rfl) (hpl : (backTo pos (starEach [e2] X.env)).any (·.1) = false := by rfl) :
    PI X (.Tuple elts kk tpos) (.Call (.Name "zip" p) [e, e2] [] pos) (iZipP X.K ta) := by
  refine ⟨fun pins s σ H R I h => ?_⟩
  refine Call_ (ld_blt I gg hm PyProof.Rows.boot_zip (PyProof.Rows.callWith_type1 (thn (ha.run pos pins s σ H _ I h) fun us s1 ⟨vs, H1, J1, r1, q1⟩ => ?_) hs hpl))
  obtain ⟨a, b, xs, ys, ex, q1⟩ := q1
  subst ex
  cases r1 with
  | cons r rr =>
    cases rr with
    | cons r' rr =>
      cases rr
      cases r
      cases r'
      have new5 : ∀ c, c ∈ [s1.heap.objs.size + 4, s1.heap.objs.size + 2, s1.heap.objs.size + 3, s1.heap.objs.size, s1.heap.objs.size + 1] → FpOk X pins H1 c := fun c kcm => by
        have ee : c = s1.heap.objs.size + 4 ∨ c = s1.heap.objs.size + 2 ∨ c = s1.heap.objs.size + 3 ∨ c = s1.heap.objs.size ∨ c = s1.heap.objs.size + 1 := by simpa using kcm
        have hle : s1.heap.objs.size ≤ c := by
          rcases ee with z | z | z | z | z
          · rw [z]; exact Nat.le_add_right _ _
          · rw [z]; exact Nat.le_add_right _ _
          · rw [z]; exact Nat.le_add_right _ _
          · rw [z]; exact Nat.le_refl _
          · rw [z]; exact Nat.le_add_right _ _
        exact J1.fpOk hle (J1.hok.fresh hle)
      rcases q1 with ⟨gx, gy, q⟩ | ⟨gx, gy, q⟩ | ⟨gx, gy, q⟩
      · obtain ⟨ys1, rr1, p1, _⟩ := J1.list gx
        obtain ⟨ys2, rr2, p2, _⟩ := J1.list gy
        refine call_zip_2 p1.isList p2.isList fun h' kz kI kO w1 w2 ksz hk => wpAny_pyIter_zip kz ?_
        have J2 : Inv X pins σ H1 { s1 with heap := h' } := J1.kept (t' := s1.toks) hk
        exact ⟨s1.heap.objs.size + 4, [s1.heap.objs.size + 4, s1.heap.objs.size + 2, s1.heap.objs.size + 3, s1.heap.objs.size, s1.heap.objs.size + 1], _, _, H1, rfl, J2, turn_zipP (PySem.W.ktu_apart s1.heap.objs.size a b p1.lt p2.lt), ⟨kz, kI, ⟨_, _, kO⟩, w1, w2⟩, new5, q⟩
      · obtain ⟨ys1, rr1, p1, _⟩ := J1.tuple gx
        obtain ⟨ys2, rr2, p2, _⟩ := J1.tuple gy
        obtain ⟨o1, ho1, _⟩ := id p1
        obtain ⟨o2, ho2, _⟩ := id p2
        refine call_zipT (show s1.heap.IsTuple a ys1.toArray from p1) (show s1.heap.IsTuple b ys2.toArray from p2) fun h' kz kI kO w1 w2 ksz hk => wpAny_pyIter_zip kz ?_
        have J2 : Inv X pins σ H1 { s1 with heap := h' } := J1.kept (t' := s1.toks) hk
        exact ⟨s1.heap.objs.size + 4, [s1.heap.objs.size + 4, s1.heap.objs.size + 2, s1.heap.objs.size + 3, s1.heap.objs.size, s1.heap.objs.size + 1], _, _, H1, rfl, J2, turn_zipQ (PySem.W.ktu_apart s1.heap.objs.size a b (Heap.lt_size ho1) (Heap.lt_size ho2)), ⟨kz, kI, ⟨_, _, kO⟩, w1, w2⟩, new5, q⟩
      · obtain ⟨ys1, rr1, p1, _⟩ := J1.tuple gx
        obtain ⟨ys2, rr2, p2, _⟩ := J1.list gy
        obtain ⟨o1, ho1, _⟩ := id p1
        refine zip_begins2 (begins_tuple a ys1.toArray) (begins_list b ys2.toArray) p1 p2.isList fun h' kz kI kO w1 w2 ksz hk => wpAny_pyIter_zip kz ?_
        have J2 : Inv X pins σ H1 { s1 with heap := h' } := J1.kept (t' := s1.toks) hk
        exact ⟨s1.heap.objs.size + 4, [s1.heap.objs.size + 4, s1.heap.objs.size + 2, s1.heap.objs.size + 3, s1.heap.objs.size, s1.heap.objs.size + 1], _, _, H1, rfl, J2, turn_zipR (PySem.W.ktu_apart s1.heap.objs.size a b (Heap.lt_size ho1) p2.lt), ⟨kz, kI, ⟨_, _, kO⟩, ⟨_, w1, rfl, rfl⟩, ⟨_, w2, rfl, rfl⟩, Nat.zero_le _, Nat.zero_le _⟩, new5, q⟩
end DL
namespace PySem.SeqAt
open AutoSeq1 (wpAny_loadPart')
open MeetsSeq
theorem dict_eq_declines_str (l : Addr) (es : Array DictEntry) (n : Nat) (dd : Option Addr) (sl : Array (Option Value)) (b : Str) (u : Tok) :
    Meets (Builtin.«dict.__eq__» ⟨[.ref l, .str b u], []⟩) (fun _ R s => s.heap.get? l = some { cls := .type "dict", dict := dd, data := .dict es n, slots := sl } ∧ R (.ok (.ret .notImplemented)) s) :=
  .of_wp fun prog w A R s h => by obtain ⟨hp, g, d, tk, os⟩ := s; obtain ⟨hl, h⟩ := h; have f1 := F.sub_str_dict; wp_walk using wpAny_loadPart' hl; exact ⟨_, rfl, h⟩
theorem dict_ne_declines_str (l : Addr) (es : Array DictEntry) (n : Nat) (dd : Option Addr) (sl : Array (Option Value)) (b : Str) (u : Tok) :
    Meets (Builtin.«dict.__ne__» ⟨[.ref l, .str b u], []⟩) (fun _ R s => s.heap.get? l = some { cls := .type "dict", dict := dd, data := .dict es n, slots := sl } ∧ R (.ok (.ret .notImplemented)) s) :=
  .of_wp fun prog w A R s h => by obtain ⟨hp, g, d, tk, os⟩ := s; obtain ⟨hl, h⟩ := h; have f1 := F.sub_str_dict; wp_walk using wpAny_loadPart' hl; exact ⟨_, rfl, h⟩
theorem str_eq_declines_dict (b : Str) (u : Tok) (l : Addr) (c : Value) (es : Array DictEntry) (n : Nat) (dd : Option Addr) (sl : Array (Option Value)) :
    Meets (Builtin.«str.__eq__» ⟨[.str b u, .ref l], []⟩) (fun _ R s => s.heap.get? l = some { cls := c, dict := dd, data := .dict es n, slots := sl } ∧ R (.ok (.ret .notImplemented)) s) :=
  .of_wp fun prog w A R s h => by obtain ⟨hp, g, d, tk, os⟩ := s; obtain ⟨hl, h⟩ := h; wp_walk using wpAny_loadPart' hl, wpAny_load hl; exact ⟨_, rfl, h⟩
theorem str_ne_declines_dict (b : Str) (u : Tok) (l : Addr) (c : Value) (es : Array DictEntry) (n : Nat) (dd : Option Addr) (sl : Array (Option Value)) :
    Meets (Builtin.«str.__ne__» ⟨[.str b u, .ref l], []⟩) (fun _ R s => s.heap.get? l = some { cls := c, dict := dd, data := .dict es n, slots := sl } ∧ R (.ok (.ret .notImplemented)) s) :=
  .of_wp fun prog w A R s h => by obtain ⟨hp, g, d, tk, os⟩ := s; obtain ⟨hl, h⟩ := h; wp_walk using wpAny_loadPart' hl, wpAny_load hl; exact ⟨_, rfl, h⟩
section
variable {A : Around} {s : Shared}
theorem rcDict_str {l : Addr} {o : Obj} {es : Array DictEntry} {n : Nat} (b : Str) (u : Tok) (ho : s.heap.get? l = some o) (hc : o.cls = .type "dict") (hd : o.data = .dict es n) (hu : A.units < cLine) : RcAt A s (.ref l) (.str b u) false := fun prog w E Q h => by
  obtain ⟨cls, dd, data, sl⟩ := o
  simp only at hc hd
  subst hc hd
  exact rc_eq_decline_or (k := false) ⟨_, ho, rfl⟩ (typeIs_str s b u) (by decide) F.sub_str_dict F.slot_dict_eq F.slot_str_eq_refl
    (fun _ hq => call_meets F.slot_dict_eq ⟨_, ho, rfl⟩ F.entry_dict_eq (F.args_dict_eq_2 _ _) (dict_eq_declines_str l es n dd sl b u) ⟨ho, hq⟩)
    (fun _ hq => call_meets F.slot_str_eq_refl (typeIs_str s b u) F.entry_str_eq (F.args_str_eq_2 _ _) (str_eq_declines_dict b u l (.type "dict") es n dd sl) ⟨ho, hq⟩)
    (fun _ hq => wpAny_of_eq (rfl : isSame (.ref l) (.str b u) = pure false) hq) (.inr hu) h
theorem rcNeDict_str {l : Addr} {o : Obj} {es : Array DictEntry} {n : Nat} (b : Str) (u : Tok) (ho : s.heap.get? l = some o) (hc : o.cls = .type "dict") (hd : o.data = .dict es n) (hu : A.units < cLine) : RcNeAt A s (.ref l) (.str b u) true := fun prog w E Q h => by
  obtain ⟨cls, dd, data, sl⟩ := o
  simp only at hc hd
  subst hc hd
  exact rc_ne_decline_or (k := false) ⟨_, ho, rfl⟩ (typeIs_str s b u) (by decide) F.sub_str_dict F.slot_dict_ne F.slot_str_ne_refl
    (fun _ hq => call_meets F.slot_dict_ne ⟨_, ho, rfl⟩ F.entry_dict_ne (F.args_dict_ne_2 _ _) (dict_ne_declines_str l es n dd sl b u) ⟨ho, hq⟩)
    (fun _ hq => call_meets F.slot_str_ne_refl (typeIs_str s b u) F.entry_str_ne (F.args_str_ne_2 _ _) (str_ne_declines_dict b u l (.type "dict") es n dd sl) ⟨ho, hq⟩)
    (fun _ hq => wpAny_of_eq (rfl : isSame (.ref l) (.str b u) = pure false) hq) (.inr hu) h
theorem rcAny_str {a : Value} {d : PyData} {as : List Addr} (ra : Reads s.heap a d as) (y : Str) (u : Tok) (hu : A.units < cLine) : RcAt A s a (.str y u) (PyData.eqv d (.str y)) := by
  cases ra with
  | none => exact RcAt.none_str y u
  | bool x => exact RcAt.bool_str x y u
  | int x t => exact RcAt.int_str x t y u
  | str x t => exact RcAt.str_str x t y u
  | list h1 h2 h3 h4 => exact RcAt.list_str y u ⟨_, h1, h2, _, h3⟩ hu
  | tuple h1 h2 h3 h4 => exact RcAt.tuple_str y u ⟨_, h1, h2, _, h3⟩ hu
  | dict h1 h2 h3 h4 h5 => exact rcDict_str y u h1 h2 h3 hu
theorem rcNeAny_str {a : Value} {d : PyData} {as : List Addr} (ra : Reads s.heap a d as) (y : Str) (u : Tok) (hu : A.units < cLine) : RcNeAt A s a (.str y u) (!PyData.eqv d (.str y)) := by
  cases ra with
  | none => exact RcNeAt.none_str y u
  | bool x => exact RcNeAt.bool_str x y u
  | int x t => exact RcNeAt.int_str x t y u
  | str x t => exact RcNeAt.str_str x t y u
  | list h1 h2 h3 h4 => exact RcNeAt.list_str y u ⟨_, h1, h2, _, h3⟩ hu
  | tuple h1 h2 h3 h4 => exact RcNeAt.tuple_str y u ⟨_, h1, h2, _, h3⟩ hu
  | dict h1 h2 h3 h4 h5 => exact rcNeDict_str y u h1 h2 h3 hu
end
end PySem.SeqAt
namespace DL
open PySem PySem.Spec PyProof.Rows L2
section
variable {X : Cx} {pins : List (Addr × Obj)} {σ : L2.St} {H : Hp} {s : Shared}
theorem keysAre {P : Program} {w : World} {h : Heap} : ∀ {kvs : List (Key × V)} {vs : List (Key × Value)} {es : List DictEntry} {ds : List (PyData × PyData)}, KV kvs vs → Pairs (mixKind P w) es vs → ds.map (·.1) = kvs.map (fun p => kP p.1) →
    ReadsAll h (es.map (·.key)) (ds.map (·.1)) [] ∧ Vals (kvs.map (·.2)) (es.map (·.val)) := by
  intro kvs
  induction kvs with
  | nil =>
    intro vs es ds h1 h2 hk
    cases h1
    cases h2
    cases ds with
    | nil => exact ⟨.nil, .nil⟩
    | cons d ds => cases hk
  | cons p kvs ih =>
    intro vs es ds h1 h2 hk
    cases h1 with
    | cons rr r =>
      cases h2 with
      | cons i1 i2 i =>
        cases ds with
        | nil => cases hk
        | cons d ds =>
          simp only [List.map_cons, List.cons.injEq] at hk
          obtain ⟨a, b⟩ := ih r i hk.2
          obtain ⟨r1, r2⟩ := rr
          have e1 : p.1 = _ := r1
          rw [← e1] at i1
          refine ⟨?_, ?_⟩
          · refine ReadsAll.cons (as := []) (bs := []) ?_ a
            show Reads h (DictEntry.key _) d.1 []
            rw [hk.1]
            rcases keyIs_shape i1 with ⟨i, t, e1, e2⟩ | ⟨x, t, e1, e2⟩
            · rw [e2, e1]; exact .int i t
            · rw [e2, e1]; exact .str x t
          · exact .cons (by show L2.RelV p.2 (DictEntry.val _); rw [i2]; exact r2) b
mutual
noncomputable def noList : PyData → Bool
  | .list _ => false
  | .tuple ds => noLists ds
  | .dict ds => noListKv ds
  | _ => true
noncomputable def noLists : List PyData → Bool
  | [] => true
  | d :: ds => noList d && noLists ds
noncomputable def noListKv : List (PyData × PyData) → Bool
  | [] => true
  | (_, d) :: ds => noList d && noListKv ds
end
mutual
theorem Fd.reads (I : Inv X pins σ H s) : ∀ (d : PyData) (v : V) (u : Value), Fd X.K H v d → RelV v u → ∃ as, Reads s.heap u d as ∧ (noList d = true → sysModules ∉ as)
  | .none, _, _, h, r => by cases h; cases r; exact ⟨_, Reads.none, by simp⟩
  | .bool b, _, _, h, r => by cases h; cases r; exact ⟨_, Reads.bool b, by simp⟩
  | .int i, _, _, h, r => by cases h; obtain ⟨t, rfl⟩ := r; exact ⟨_, Reads.int i t, by simp⟩
  | .str x, _, _, h, r => by cases h; obtain ⟨t, rfl⟩ := r; exact ⟨_, Reads.str x t, by simp⟩
  | .list ds, _, _, h, r => by
    cases h with
    | lst hs ha =>
      cases r
      obtain ⟨its, rv, ⟨o, n, ho, hc, _, hd⟩, _⟩ := I.list (.inl (.inr ⟨_, hs⟩))
      obtain ⟨as, hr, hm⟩ := Fd.readsAll I ds _ its ha rv
      exact ⟨_, Reads.list ho hc hd hr, fun z => by simp [noList] at z⟩
  | .tuple ds, _, _, h, r => by
    cases h with
    | tup hs ha =>
      cases r
      obtain ⟨its, rv, ⟨o, ho, hc, n, hd⟩, _⟩ := I.tuple hs.sq
      obtain ⟨as, hr, hm⟩ := Fd.readsAll I ds _ its ha rv
      exact ⟨_, Reads.tuple ho hc hd hr, fun z => hm (by simpa [noList] using z)⟩
  | .dict ds, _, _, h, r => by
    cases h with
    | dct hs hk ha =>
      cases r
      obtain ⟨_, _, hsy, vs, kv, o, es, ep, ho, hx, hd, _, hp, _⟩ := I.hok _ _ hs
      obtain ⟨q1, q2⟩ := keysAre (h := s.heap) kv hp hk
      obtain ⟨as, hr, hm⟩ := Fd.readsKv I ds _ _ ha q2
      refine ⟨_, Reads.dict (as := []) ho hx.1 hd q1 hr, fun nl z => ?_⟩
      rcases List.mem_cons.mp z with z | z
      · rw [← z] at hsy
        simp at hsy
      · exact hm (by simpa [noList] using nl) (by simpa using z)
theorem Fd.readsAll (I : Inv X pins σ H s) : ∀ (ds : List PyData) (vs : List V) (us : List Value), FdAll X.K H vs ds → Vals vs us → ∃ as, ReadsAll s.heap us ds as ∧ (noLists ds = true → sysModules ∉ as)
  | [], _, _, h, r => by cases h; cases r; exact ⟨_, ReadsAll.nil, by simp⟩
  | d :: ds, _, _, h, r => by
    cases h with
    | cons h1' h2 =>
      cases r with
      | cons r1 r2 =>
        obtain ⟨as, q1, m1⟩ := Fd.reads I d _ _ h1' r1
        obtain ⟨bs, q2, m2⟩ := Fd.readsAll I ds _ _ h2 r2
        refine ⟨_, ReadsAll.cons q1 q2, fun nl z => ?_⟩
        simp only [noLists, Bool.and_eq_true] at nl
        rcases List.mem_append.mp z with z | z
        · exact m1 nl.1 z
        · exact m2 nl.2 z
theorem Fd.readsKv (I : Inv X pins σ H s) : ∀ (ds : List (PyData × PyData)) (vs : List V) (us : List Value), FdAll X.K H vs (ds.map (·.2)) → Vals vs us → ∃ as, ReadsAll s.heap us (ds.map (·.2)) as ∧ (noListKv ds = true → sysModules ∉ as)
  | [], _, _, h, r => by cases h; cases r; exact ⟨_, ReadsAll.nil, by simp⟩
  | (k, d) :: ds, _, _, h, r => by
    cases h with
    | cons h1' h2 =>
      cases r with
      | cons r1 r2 =>
        obtain ⟨as, q1, m1⟩ := Fd.reads I d _ _ h1' r1
        obtain ⟨bs, q2, m2⟩ := Fd.readsKv I ds _ _ h2 r2
        refine ⟨_, ReadsAll.cons q1 q2, fun nl z => ?_⟩
        simp only [noListKv, Bool.and_eq_true] at nl
        rcases List.mem_append.mp z with z | z
        · exact m1 nl.1 z
        · exact m2 nl.2 z
end
end
noncomputable def listD (HD : HDt) : DV → Option (List DV)
  | .d (.list xs) => some (xs.map .d)
  | .r a => match HD a with
    | some (.lst xs) => some xs
    | _ => none
  | _ => none
noncomputable def seqD (HD : HDt) : DV → Option (List DV)
  | .d (.tuple xs) => some (xs.map .d)
  | .w ns => some (ns.map fun i => .d (.int i))
  | x => listD HD x
noncomputable def dv (HD : HDt) : DV → Option PyData
  | .d x => some x
  | .w ns => some (.list (ns.map .int))
  | .r a => (match HD a with
    | some (.lst xs) => (dats xs).map .list
    | _ => none)
  | .x _ => none
noncomputable def LsAt (H : Hp) (p : Addr) (vs : List V) : Prop := H p = some (.lst vs) ∨ ∃ o, H p = some (.frz o (.lst vs))
section
variable {K : PySem.W.Frag} {H : Hp} {HD : HDt} {v : V} {x : DV}
theorem LsAt.sq {p : Addr} {vs : List V} (h : LsAt H p vs) : SqL K H p vs := by
  rcases h with h | ⟨o, h⟩
  · exact .inl (.inl h)
  · exact .inl (.inr ⟨o, h⟩)
theorem ints_dat (ns : List Int) : DatAll K H (ns.map V.int) (ns.map fun i => DV.d (.int i)) := by
  induction ns with
  | nil => exact .nil
  | cons i ns ih => exact .cons (Fd.int i) ih
theorem listD_at {xs : List DV} (h : DatV K H v x) (R : RepH K H HD) (e : listD HD x = some xs) : ∃ p vs, v = .ref p ∧ LsAt H p vs ∧ DatAll K H vs xs := by
  cases x with
  | d x =>
    cases x <;> simp [listD] at e
    subst e
    cases h with
    | lst hs ha => exact ⟨_, _, rfl, .inr ⟨_, hs⟩, ha.dat⟩
  | r a =>
    simp only [listD] at e
    split at e
    · rename_i ys hy
      cases e
      obtain ⟨vs, h1, h2⟩ := R a _ hy
      exact ⟨a, vs, h, .inl h1, h2⟩
    · cases e
  | w ns => simp [listD] at e
  | x E => simp [listD] at e
theorem seqD_atP {xs : List DV} (h : DatV K H v x) (R : RepH K H HD) (e : seqD HD x = some xs) : ∃ p vs, v = .ref p ∧ (SqL K H p vs ∨ SqP K H p vs) ∧ DatAll K H vs xs := by
  have gen : listD HD x = some xs → ∃ p vs, v = .ref p ∧ (SqL K H p vs ∨ SqP K H p vs) ∧ DatAll K H vs xs := fun e => by
    obtain ⟨p, vs, h1, h2, h3⟩ := listD_at h R e
    exact ⟨p, vs, h1, .inl h2.sq, h3⟩
  cases x with
  | d y =>
    cases y with
    | tuple ds =>
      simp [seqD] at e
      subst e
      cases h with
      | tup hs ha => exact ⟨_, _, rfl, .inr hs, ha.dat⟩
    | _ => exact gen (by simpa [seqD] using e)
  | r a => exact gen (by simpa [seqD] using e)
  | w ns =>
    simp [seqD] at e
    subst e
    obtain ⟨a, h1, h2⟩ := h
    exact ⟨a, _, h1, .inl h2.sq, ints_dat ns⟩
  | x E => exact gen (by simpa [seqD] using e)
theorem seqD_at {xs : List DV} (h : DatV K H v x) (R : RepH K H HD) (e : seqD HD x = some xs) : ∃ p vs, v = .ref p ∧ (SqL K H p vs ∨ SqT K H p vs) ∧ DatAll K H vs xs := by
  obtain ⟨p, vs, h1, h2, h3⟩ := seqD_atP h R e
  exact ⟨p, vs, h1, h2.imp id SqP.sq, h3⟩
theorem FdAll.ints : ∀ ns : List Int, FdAll K H (ns.map V.int) (ns.map PyData.int)
  | [] => .nil
  | i :: ns => .cons (.int i) (FdAll.ints ns)
end
section
variable {X : Cx} {pins : List (Addr × Obj)} {σ : L2.St} {H : Hp} {s : Shared} {HD : HDt} {v : V} {u : Value} {x : DV}
theorem dv_reads (I : Inv X pins σ H s) {d : PyData} (h : DatV X.K H v x) (R : RepH X.K H HD) (e : dv HD x = some d) (r : RelV v u) : ∃ as, Reads s.heap u d as ∧ (noList d = true → sysModules ∉ as) := by
  cases x with
  | d y =>
    cases e
    exact Fd.reads I _ v u h r
  | x E => cases e
  | w ns =>
    cases e
    obtain ⟨a, rfl, hs⟩ := h
    cases r
    obtain ⟨its, rv, ⟨o, n, ho, hc, _, hd⟩, _⟩ := I.list hs.sq
    obtain ⟨as, hr, _⟩ := Fd.readsAll I _ _ its (FdAll.ints ns) rv
    exact ⟨_, Reads.list ho hc hd hr, fun z => by simp [noList] at z⟩
  | r a =>
    simp only [dv] at e
    split at e
    · rename_i ys hy
      simp only [Option.map_eq_some_iff] at e
      obtain ⟨ds, e1, rfl⟩ := e
      obtain ⟨vs, q1, q2⟩ := R a _ hy
      have e2 := dats_some e1
      subst e2
      subst h
      cases r
      obtain ⟨its, rv, ⟨o, n, ho, hc, _, hd⟩, _⟩ := I.list (.inl (.inl q1))
      obtain ⟨as, hr, hm⟩ := Fd.readsAll I ds _ its q2.fd rv
      exact ⟨_, Reads.list ho hc hd hr, fun z => by simp [noList] at z⟩
    · cases e
end
noncomputable def mkL (own : Bool) (xs : List DV) (HD : HDt) (Q : DQ) : Prop :=
  if own = true then ∀ p, HD p = none → Q (.r p) (dset HD p (.lst xs)) else match dats xs with
    | some ds => Q (.d (.list ds)) HD
    | none => False
theorem mkL_ep {X : Cx} {pins : List (Addr × Obj)} {σ : L2.St} {H : Hp} {s : Shared} {own : Bool} {xs : List DV} {vs : List V} {HD : HDt} {Qd : DQ} {Q : VK} {p : Addr} (hp : H p = none) (I : Inv X pins σ (upd H p (.lst vs)) s) (D : DatAll X.K H vs xs) (R : RepH X.K H HD)
    (h : mkL own xs HD Qd) (l : Lk X.K H HD Qd Q) : EP X pins σ Q (.ref p) s := by
  unfold mkL at h
  split at h
  · refine ⟨.ref p, _, I, rfl, l _ _ _ _ (h p (R.none hp)) rfl (R.put (Ext.new hp) ⟨vs, upd_same, D.ext (Ext.new hp)⟩) (Frm.newC hp)⟩
  · split at h
    · rename_i ds hd
      have e := dats_some hd
      subst e
      refine ep_frz hp I fun o => l _ _ _ _ h (Fd.lst upd_same (D.fd.ext (Ext.new hp))) (R.new hp) (Frm.new hp)
    · exact h.elim
noncomputable def dAdd (own : Bool) : G2 := fun x y HD Q => match x, y with
  | .d (.int i), .d (.int j) => Q (.d (.int (i + j))) HD
  | .d (.str a), .d (.str b) => a.length + b.length ≤ sizeLine ∧ Q (.d (.str (a ++ b))) HD
  | .d (.tuple a), .d (.tuple b) => a.length + b.length ≤ sizeLine ∧ Q (.d (.tuple (a ++ b))) HD
  | x, y => match listD HD x, listD HD y with
    | some a, some b => a.length + b.length ≤ sizeLine ∧ mkL own (a ++ b) HD Q
    | _, _ => False
section
variable {X : Cx}
theorem lsAt_obj {pins : List (Addr × Obj)} {σ : L2.St} {H : Hp} {s : Shared} {p : Addr} {vs : List V} (I : Inv X pins σ H s) (h : LsAt H p vs) :
    vs.length ≤ sizeLine ∧ ∃ (its : List Value) (n : Nat), Vals vs its ∧ s.heap.get? p = some { cls := .type "list", data := .seq its.toArray n } := by
  rcases h with h | ⟨o, h⟩
  · obtain ⟨z, its, n, r, e⟩ := I.hok p _ h
    exact ⟨z, its, n, r, e⟩
  · obtain ⟨e0, z, its, n, r, e⟩ := I.hok p _ h
    exact ⟨z, its, n, r, e⟩
theorem op_dAdd (own : Bool) : OpR X (binaryOp .Add) (up2 X.K (dAdd own)) := by
  intro pins s σ H x y v u Q I rx ry h
  obtain ⟨dx, dy, HD, Qd, hx, hy, R, h, l⟩ := h
  have gen : (match listD HD dx, listD HD dy with
    | some a, some b => a.length + b.length ≤ sizeLine ∧ mkL own (a ++ b) HD Qd
    | _, _ => False) → wpAny (model X.prog X.w) X.A (binaryOp .Add v u) (EP X pins σ Q) X.xe s := fun h => by
    split at h
    · rename_i a b ha hb
      obtain ⟨p, vs, rfl, h1, h2⟩ := listD_at hx R ha
      obtain ⟨q, ws, rfl, h3, h4⟩ := listD_at hy R hb
      cases rx
      cases ry
      obtain ⟨z1, its, n, r1, e1⟩ := lsAt_obj I h1
      obtain ⟨z2, its2, n2, r2, e2⟩ := lsAt_obj I h3
      have l1 := Paired.length h2
      have l2 := Paired.length h4
      have l3 := r1.length
      have l4 := r2.length
      refine PySem.P.add_list e1 e2 ?_ (by rw [List.size_toArray, List.size_toArray]; omega)
      have ea : its.toArray ++ its2.toArray = (its ++ its2).toArray := by simp
      rw [ea]
      exact mkL_ep I.fresh (I.lnew (t' := s.toks) (r1.append r2) (by rw [List.length_append]; omega)) (Paired.app h2 h4) R h.2 l
    · exact h.elim
  unfold dAdd at h
  split at h
  · cases hx; cases hy
    exact op_add pins s σ H _ _ v u Q I rx ry ⟨_, _, rfl, rfl, l _ _ _ _ h (Fd.int _) R Frm.refl⟩
  · cases hx; cases hy
    exact op_add_str pins s σ H _ _ v u Q I rx ry ⟨_, _, rfl, rfl, h.1, l _ _ _ _ h.2 (Fd.str _) R Frm.refl⟩
  · cases hx with
    | tup s1 a1 =>
      cases hy with
      | tup s2 a2 =>
        have l1 := a1.length
        have l2 := a2.length
        refine op_catP pins s σ H _ _ v u Q I rx ry ⟨_, _, _, _, rfl, rfl, s1.sq, s2.sq, by omega, fun z => ?_, fun _ z => ?_, fun _ _ p o hp ho => ?_⟩
        · subst z
          cases a1
          exact l _ _ _ _ h.2 (Fd.tup s2 a2) R Frm.refl
        · subst z
          cases a2
          refine l _ _ _ _ h.2 (Fd.tup s1 (by simpa using a1)) R Frm.refl
        · exact l _ _ _ _ h.2 (Fd.tup (.at ho) ((a1.append a2).ext (Ext.new hp))) (R.new hp) (Frm.new hp)
  · exact gen h
theorem noPylong_wide {i j : Int} (h : j.natAbs < 170141183460469231731687303715884105728) : Builtin.divisionGoesByPylong i j = false := by
  have k : (if j == 0 then 0 else j.natAbs.log2 / 30 + 1) ≤ 300 := by
    split
    · omega
    · have h0 : j.natAbs ≠ 0 := by
        rename_i z
        simpa using z
      have := (Nat.log2_lt (k := 127) h0).mpr (by rw [show (2 : Nat) ^ 127 = 170141183460469231731687303715884105728 by decide]; exact h)
      omega
  show (decide ((if j == 0 then 0 else j.natAbs.log2 / 30 + 1) > 300) && _) = false
  rw [show decide ((if j == 0 then 0 else j.natAbs.log2 / 30 + 1) > 300) = false by simpa using k, Bool.false_and]
theorem op_fdivX : OpR X (binaryOp .FloorDiv) (rI (fun _ j => j ≠ 0 ∧ j.natAbs < 170141183460469231731687303715884105728) fun i j => .int (i.fdiv j)) := opI fun _ _ _ _ _ _ _ hc q => floordiv_int hc.1 q (.inl (noPylong_wide hc.2))
theorem shl_wide {i j : Int} (h : 0 ≤ j ∧ j ≤ 1000000 ∧ i.natAbs.log2 ≤ 1000000) : CShl i j := by
  refine ⟨h.1, ?_⟩
  have e : (2 : Int) ^ 27 = 134217728 := by decide
  rw [e]
  have : Builtin.Int.intBits i ≤ 1000001 := by
    unfold Builtin.Int.intBits
    split <;> omega
  omega
noncomputable def dArith (op : Operator) : G2 := fun x y HD Q => match x, y with
  | .d (.int i), .d (.int j) => (match op with
    | .Sub => Q (.d (.int (i - j))) HD
    | .FloorDiv => (j ≠ 0 ∧ j.natAbs < 170141183460469231731687303715884105728) ∧ Q (.d (.int (i.fdiv j))) HD
    | .Mod => j ≠ 0 ∧ Q (.d (.int (i.fmod j))) HD
    | .Pow => (0 ≤ j ∧ j ≤ 1000000 ∧ i.natAbs < 2 ^ 64) ∧ Q (.d (.int (i ^ j.toNat))) HD
    | .BitAnd => Q (.d (.int (Builtin.bitAnd i j))) HD
    | .BitOr => Q (.d (.int (Builtin.bitOr i j))) HD
    | .BitXor => Q (.d (.int (Builtin.bitXor i j))) HD
    | .LShift => (0 ≤ j ∧ j ≤ 1000000 ∧ i.natAbs.log2 ≤ 1000000) ∧ Q (.d (.int (i * 2 ^ j.toNat))) HD
    | .RShift => 0 ≤ j ∧ Q (.d (.int (i / 2 ^ j.toNat))) HD
    | _ => False)
  | _, _ => False
theorem op_dArith (op : Operator) : OpR X (binaryOp op) (up2 X.K (dArith op)) := by
  intro pins s σ H x y v u Q I rx ry h
  obtain ⟨dx, dy, HD, Qd, hx, hy, R, h, l⟩ := h
  unfold dArith at h
  split at h
  · cases hx; cases hy
    cases op with
    | Sub => exact op_sub pins s σ H _ _ v u Q I rx ry ⟨_, _, rfl, rfl, l _ _ _ _ h (Fd.int _) R Frm.refl⟩
    | FloorDiv => exact op_fdivX pins s σ H _ _ v u Q I rx ry ⟨_, _, rfl, rfl, h.1, l _ _ _ _ h.2 (Fd.int _) R Frm.refl⟩
    | Mod => exact op_modN pins s σ H _ _ v u Q I rx ry ⟨_, _, rfl, rfl, h.1, l _ _ _ _ h.2 (Fd.int _) R Frm.refl⟩
    | Pow => exact op_pow pins s σ H _ _ v u Q I rx ry ⟨_, _, rfl, rfl, h.1, l _ _ _ _ h.2 (Fd.int _) R Frm.refl⟩
    | BitAnd => exact op_and pins s σ H _ _ v u Q I rx ry ⟨_, _, rfl, rfl, l _ _ _ _ h (Fd.int _) R Frm.refl⟩
    | BitOr => exact op_or pins s σ H _ _ v u Q I rx ry ⟨_, _, rfl, rfl, l _ _ _ _ h (Fd.int _) R Frm.refl⟩
    | BitXor => exact op_xor pins s σ H _ _ v u Q I rx ry ⟨_, _, rfl, rfl, l _ _ _ _ h (Fd.int _) R Frm.refl⟩
    | LShift => exact op_shlW pins s σ H _ _ v u Q I rx ry ⟨_, _, rfl, rfl, shl_wide h.1, l _ _ _ _ h.2 (Fd.int _) R Frm.refl⟩
    | RShift => exact op_shr pins s σ H _ _ v u Q I rx ry ⟨_, _, rfl, rfl, h.1, l _ _ _ _ h.2 (Fd.int _) R Frm.refl⟩
    | _ => exact h.elim
  · exact h.elim
noncomputable def dMul : G2 := fun x y HD Q => match x, y with
  | .d (.int i), .d (.int j) => CMul i j ∧ Q (.d (.int (i * j))) HD
  | .d (.tuple xs), .d (.int k) => (1 ≤ k ∧ k ≤ 1000 ∧ xs.length ≤ 1000) ∧ Q (.d (.tuple (List.replicate k.toNat xs).flatten)) HD
  | _, _ => False
theorem tupTimesSame (l : Addr) (items : Array Value) (n : Nat) (dd : Option Addr) (sl : Array (Option Value)) (x : Int) (u : Tok)
    (c0 : (decide (x < -(2 ^ 63)) || decide (x ≥ 2 ^ 63)) = false) (c1 : (items.isEmpty || x == 1) = true) :
    Meets (Builtin.«tuple.__mul__» ⟨[.ref l, .int x u], []⟩) (fun _ R s => s.heap.get? l = some { cls := .type "tuple", dict := dd, data := .seq items n, slots := sl } ∧ R (.ok (.ret (Value.ref l))) s) :=
  .of_wp fun prog w A R s h => by
    obtain ⟨hp, g, d, tk, os⟩ := s
    obtain ⟨hl, h⟩ := h
    have f1 := AutoSeq1.idx_int
    wp_walk using AutoSeq1.wpAny_loadPart' hl
    repeat (first
      | (refine wpAny_ite_false (decide_eq_false (by rw [c0]; simp)) ?_; wp_walk using AutoSeq1.wpAny_loadPart' hl)
      | (refine wpAny_ite_true (decide_eq_true c1) ?_; wp_walk using AutoSeq1.wpAny_loadPart' hl))
    exact ⟨_, rfl, h⟩
theorem fd_flat {K : PySem.W.Frag} {H : Hp} {vs : List V} {ds : List PyData} (h : FdAll K H vs ds) : ∀ n, FdAll K H (List.replicate n vs).flatten (List.replicate n ds).flatten
  | 0 => .nil
  | n + 1 => by
    simp only [List.replicate_succ, List.flatten_cons]
    exact h.append (fd_flat h n)
theorem op_dMul : OpR X (binaryOp .Mult) (up2 X.K dMul) := by
  intro pins s σ H x y v u Q I rx ry h
  obtain ⟨dx, dy, HD, Qd, hx, hy, R, h, l⟩ := h
  unfold dMul at h
  split at h
  · cases hx; cases hy
    exact op_mul pins s σ H _ _ v u Q I rx ry ⟨_, _, rfl, rfl, h.1, l _ _ _ _ h.2 (Fd.int _) R Frm.refl⟩
  · rename_i xs k
    cases hx with
    | tup h1 h2 =>
    cases hy
    obtain ⟨⟨k1, k2, k3⟩, q⟩ := h
    have hl := h2.length
    rename_i a vs
    by_cases hone : k = 1 ∨ xs = []
    · cases rx
      obtain ⟨t, rfl⟩ := ry
      obtain ⟨its, r, ⟨⟨cls, dd, data, sl⟩, ho, hc, n, hd⟩, hs⟩ := I.tuple h1.sq
      simp only at hc hd
      subst hc hd
      have hr := r.length
      have c1 : (its.toArray.isEmpty || k == 1) = true := by
        rcases hone with e | e
        · subst e; simp
        · subst e
          have : its = [] := List.eq_nil_of_length_eq_zero (by simp at hl; rw [← hr, hl]; rfl)
          subst this
          rfl
      have c0 : (decide (k < -(2 ^ 63)) || decide (k ≥ 2 ^ 63)) = false := by
        rw [decide_eq_false (by omega), decide_eq_false (by omega)]; rfl
      refine wpAny_binaryOp_repeat_ref (T := "tuple") (U := "int") (by decide) ⟨_, ho, rfl⟩ (fun s' => typeIs_int s' k t) noFill_tuple_mul F.fills_int_mul F.slot_int_rmul repeat_tuple F.slot_int_index.lookup
        (call_meets F.slot_int_rmul (typeIs_int s k t) F.entry_int_rmul (F.args_int_rmul_2 _ _) (int_rmul_tuple k t _ its.toArray n dd sl)
          ⟨ho, rfl, ⟨_, ho, rfl⟩, call_meets F.slot_tuple_mul ⟨_, ho, rfl⟩ F.entry_tuple_mul (F.args_tuple_mul_2 _ _) (tupTimesSame _ its.toArray n dd sl k t c0 c1) ⟨ho, ?_⟩⟩)
      refine ⟨.ref _, H, I.tok s.toks, rfl, l _ _ _ _ q (Fd.tup h1 ?_) R Frm.refl⟩
      rcases hone with e | e
      · subst e; simpa using h2
      · subst e
        have : vs = [] := List.eq_nil_of_length_eq_zero (by simpa using hl)
        subst this
        simpa using FdAll.nil
    · have hne : vs ≠ [] := fun e => hone (.inr (by subst e; simp at hl; exact List.eq_nil_of_length_eq_zero hl.symm))
      refine op_repP pins s σ H _ _ v u Q I rx ry ⟨a, k, vs, rfl, rfl, h1.sq, hne, by omega, k2, by omega, fun p o hp ho => ?_⟩
      exact l _ _ _ _ q (Fd.tup (.at ho) (FdAll.ext (Ext.new hp) (fd_flat h2 _))) (R.new hp) (Frm.new hp)
  · exact h.elim
noncomputable def GdOk (rp : Bool) (A : Around) : Prop := rp = true → A.guards = some []
structure Ok (X : Cx) : Prop where
  nd : X.N.Nodup
  calm : X.calm = true
  un : X.A.units + 200 < cLine
noncomputable def eqOk : PyData → PyData → Prop
  | _, .str _ => True
  | d, e => SeqAt.shaped d = true ∧ SeqAt.shaped e = true
theorem eqOk_or {d e : PyData} (h : eqOk d e) : (∃ b, e = .str b) ∨ (SeqAt.shaped d = true ∧ SeqAt.shaped e = true) := by
  unfold eqOk at h
  split at h
  · exact .inl ⟨_, rfl⟩
  · exact .inr h
theorem dv_str {HD : HDt} {x : DV} {a : Str} (h : dv HD x = some (.str a)) : x = .d (.str a) := by
  cases x with
  | d y => cases h; rfl
  | x E => cases h
  | w ns => cases h
  | r p =>
    simp only [dv] at h
    split at h
    · simp at h
    · cases h
noncomputable def flatD : PyData → Bool
  | .none => true
  | .bool _ => true
  | .int _ => true
  | .str _ => true
  | _ => false
noncomputable def fV : PyData → V
  | .bool b => .bl b
  | .int i => .int i
  | .str s => .str s
  | _ => .non
theorem fV_flat (d : PyData) : flatV (fV d) = true := by cases d <;> rfl
theorem fV_all (es : List PyData) : (es.map fV).all flatV = true := List.all_eq_true.mpr fun x hx => by
  obtain ⟨d, _, rfl⟩ := List.mem_map.mp hx
  exact fV_flat d
theorem fd_flat1 {K : PySem.W.Frag} {H : Hp} {v : V} {d : PyData} (h : Fd K H v d) (f : flatD d = true) : v = fV d := by
  cases d <;> first | (cases h; rfl) | cases f
theorem fd_flats {K : PySem.W.Frag} {H : Hp} : ∀ {vs : List V} {ds : List PyData}, FdAll K H vs ds → ds.all flatD = true → vs = ds.map fV
  | _, [], .nil, _ => rfl
  | _, d :: ds, .cons h t, f => by
    rw [List.all_cons, Bool.and_eq_true] at f
    rw [fd_flat1 h f.1, fd_flats t f.2]
    rfl
theorem eqV_flat : ∀ {a b : PyData}, flatD a = true → flatD b = true → eqV (fV a) (fV b) = PyData.eqv a b := by
  intro a b ha hb
  cases a <;> cases b <;> first | (simp [flatD] at ha hb; done) | (simp [flatD] at hb; done) | (simp [flatD] at ha; done) | (simp [fV, eqV, PyData.eqv]; done)
theorem inV_flat {d : PyData} (hd : flatD d = true) : ∀ {es : List PyData}, es.all flatD = true → inV (fV d) (es.map fV) = es.any fun z => PyData.eqv z d
  | [], _ => rfl
  | e :: es, h => by
    rw [List.all_cons, Bool.and_eq_true] at h
    have ih := inV_flat hd h.2
    unfold inV at ih ⊢
    rw [List.map_cons, List.any_cons, List.any_cons, ih, eqV_flat h.1 hd]
theorem seqD_dv {HD : HDt} {x : DV} {es : List PyData} (h : dv HD x = some (.list es)) : seqD HD x = some (es.map .d) := by
  cases x with
  | d y => cases h; rfl
  | x E => cases h
  | w ns => cases h; simp [seqD]
  | r p =>
    simp only [dv] at h
    split at h
    · rename_i xs hx
      simp only [Option.map_eq_some_iff] at h
      obtain ⟨ds, h1, h2⟩ := h
      cases h2
      have := dats_some h1
      subst this
      simp only [seqD, listD, hx]
    · cases h
theorem dv_tup {HD : HDt} {x : DV} {es : List PyData} (h : dv HD x = some (.tuple es)) : x = .d (.tuple es) := by
  cases x with
  | d y => cases h; rfl
  | x E => cases h
  | w ns => cases h
  | r p =>
    simp only [dv] at h
    split at h
    · simp at h
    · cases h
noncomputable def inOk (d : PyData) (es : List PyData) : Prop := (SeqAt.shaped d = true ∧ PyData.canLayAll0 es = true) ∨ (flatD d = true ∧ es.all flatD = true)
theorem dv_flat {HD : HDt} {x : DV} {d : PyData} (h : dv HD x = some d) (f : flatD d = true) : x = .d d := by
  cases x with
  | d y => cases h; rfl
  | x E => cases h
  | w ns => cases h; cases f
  | r p =>
    simp only [dv] at h
    split at h
    · simp only [Option.map_eq_some_iff] at h
      obtain ⟨_, _, rfl⟩ := h
      cases f
    · cases h
noncomputable def dCmp (op : CmpOp) : G2 := fun x y HD Q => match dv HD x, dv HD y with
  | some d, some e => (match op with
    | .Eq => eqOk d e ∧ Q (.d (.bool (PyData.eqv d e))) HD
    | .NotEq => eqOk d e ∧ Q (.d (.bool (!PyData.eqv d e))) HD
    | .Lt => (PySem.W.alike d e = true ∧ d ≠ .none ∧ d.depth ≤ 64) ∧ Q (.d (.bool (PySem.W.dataLt d e))) HD
    | .LtE => (PySem.W.alike d e = true ∧ d ≠ .none ∧ d.depth ≤ 64) ∧ Q (.d (.bool (!PySem.W.dataLt e d))) HD
    | .Gt => (PySem.W.alike d e = true ∧ d ≠ .none ∧ d.depth ≤ 64) ∧ Q (.d (.bool (PySem.W.dataLt e d))) HD
    | .GtE => (PySem.W.alike d e = true ∧ d ≠ .none ∧ d.depth ≤ 64) ∧ Q (.d (.bool (!PySem.W.dataLt d e))) HD
    | .In => (match e with
      | .list es => inOk d es ∧ Q (.d (.bool (es.any fun z => PyData.eqv z d))) HD
      | .tuple es => inOk d es ∧ Q (.d (.bool (es.any fun z => PyData.eqv z d))) HD
      | _ => False)
    | .NotIn => (match e with
      | .list es => inOk d es ∧ Q (.d (.bool (!es.any fun z => PyData.eqv z d))) HD
      | .tuple es => inOk d es ∧ Q (.d (.bool (!es.any fun z => PyData.eqv z d))) HD
      | _ => False)
    | _ => False)
  | _, _ => False
theorem op_dCmp (ok : Ok X) (op : CmpOp) : OpR X (compareOp op) (up2 X.K (dCmp op)) := by
  intro pins s σ H x y v u Q I rx ry h
  obtain ⟨dx, dy, HD, Qd, hx, hy, R, h, l⟩ := h
  have un := ok.un
  unfold dCmp at h
  split at h
  · rename_i d e hd he
    obtain ⟨as, r1, -⟩ := dv_reads I hx R hd rx
    obtain ⟨bs, r2, -⟩ := dv_reads I hy R he ry
    have fin : ∀ b : Bool, Qd (.d (.bool b)) HD → EP X pins σ Q (.bool b) s := fun b q => ⟨.bl b, H, I, rfl, l _ _ _ _ q (Fd.bl b) R Frm.refl⟩
    have room : ∀ {a b : PyData}, a.depth ≤ 64 → X.A.units + min a.depth b.depth < cLine := fun {a b} z => by
      have := Nat.min_le_left a.depth b.depth
      omega
    cases op with
    | Eq =>
      rcases eqOk_or h.1 with ⟨b, rfl⟩ | z
      · obtain rfl := dv_str he
        cases hy
        cases r2
        exact SeqAt.rcAny_str r1 b _ (by omega) _ _ _ _ (fin _ h.2)
      · exact SeqAt.compareEq_shaped r1 r2 z.1 z.2 (by omega) (fin _ h.2)
    | NotEq =>
      rcases eqOk_or h.1 with ⟨b, rfl⟩ | z
      · obtain rfl := dv_str he
        cases hy
        cases r2
        exact SeqAt.rcNeAny_str r1 b _ (by omega) _ _ _ _ (fin _ h.2)
      · exact SeqAt.compareNe_shaped r1 r2 z.1 z.2 (by omega) (fin _ h.2)
    | Lt => exact PySem.W.lt_data r1 r2 h.1.1 h.1.2.1 (room h.1.2.2) (fin _ h.2)
    | LtE => exact PySem.W.le_data r1 r2 h.1.1 h.1.2.1 (room h.1.2.2) (fin _ h.2)
    | Gt => exact PySem.W.gt_data r1 r2 h.1.1 h.1.2.1 (room h.1.2.2) (fin _ h.2)
    | GtE => exact PySem.W.ge_data r1 r2 h.1.1 h.1.2.1 (room h.1.2.2) (fin _ h.2)
    | In =>
      simp only at h
      split at h
      · rename_i es
        rcases h.1 with z | ⟨z1, z2⟩
        · exact SeqAt.in_list_reads r2 r1 z.2 (SeqAt.canLay_of_shaped z.1) (room_in_shaped z.1 (by omega)) (fin _ h.2)
        · obtain rfl := dv_flat hd z1
          have hL := seqD_dv he
          obtain ⟨p, ws, rfl, h1, h2⟩ := seqD_at hy R hL
          have e1 := fd_flat1 hx z1
          have e2 := fd_flats h2.fd z2
          subst e1 e2
          refine op_in_seq pins s σ H _ _ v u Q I rx ry ⟨p, es.map fV, rfl, h1, fV_flat _, fV_all _, ?_⟩
          rw [inV_flat z1 z2]
          exact l _ _ _ _ h.2 (Fd.bl _) R Frm.refl
      · rename_i es
        rcases h.1 with z | ⟨z1, z2⟩
        · exact SeqAt.in_tuple_reads r2 r1 z.2 (SeqAt.canLay_of_shaped z.1) (room_in_shaped z.1 (by omega)) (fin _ h.2)
        · obtain rfl := dv_flat hd z1
          obtain rfl := dv_tup he
          cases hy with
          | tup h1 h2 =>
            have e1 := fd_flat1 hx z1
            have e2 := fd_flats h2 z2
            subst e1 e2
            refine op_in_seq pins s σ H _ _ v u Q I rx ry ⟨_, es.map fV, rfl, .inr h1.sq, fV_flat _, fV_all _, ?_⟩
            rw [inV_flat z1 z2]
            exact l _ _ _ _ h.2 (Fd.bl _) R Frm.refl
      · exact h.elim
    | NotIn =>
      simp only at h
      split at h
      · rename_i es
        rcases h.1 with z | ⟨z1, z2⟩
        · exact SeqAt.notIn_list_reads r2 r1 z.2 (SeqAt.canLay_of_shaped z.1) (room_in_shaped z.1 (by omega)) (fin _ h.2)
        · obtain rfl := dv_flat hd z1
          have hL := seqD_dv he
          obtain ⟨p, ws, rfl, h1, h2⟩ := seqD_at hy R hL
          have e1 := fd_flat1 hx z1
          have e2 := fd_flats h2.fd z2
          subst e1 e2
          refine op_notIn_seq pins s σ H _ _ v u Q I rx ry ⟨p, es.map fV, rfl, h1, fV_flat _, fV_all _, ?_⟩
          rw [inV_flat z1 z2]
          exact l _ _ _ _ h.2 (Fd.bl _) R Frm.refl
      · rename_i es
        rcases h.1 with z | ⟨z1, z2⟩
        · exact SeqAt.notIn_tuple_reads r2 r1 z.2 (SeqAt.canLay_of_shaped z.1) (room_in_shaped z.1 (by omega)) (fin _ h.2)
        · obtain rfl := dv_flat hd z1
          obtain rfl := dv_tup he
          cases hy with
          | tup h1 h2 =>
            have e1 := fd_flat1 hx z1
            have e2 := fd_flats h2 z2
            subst e1 e2
            refine op_notIn_seq pins s σ H _ _ v u Q I rx ry ⟨_, es.map fV, rfl, .inr h1.sq, fV_flat _, fV_all _, ?_⟩
            rw [inV_flat z1 z2]
            exact l _ _ _ _ h.2 (Fd.bl _) R Frm.refl
      · exact h.elim
    | _ => exact h.elim
  · exact h.elim
noncomputable def isNone : DV → Bool
  | .d .none => true
  | _ => false
noncomputable def dIsN (neg : Bool) : G2 := fun x y HD Q => match y with
  | .d .none => Q (.d (.bool (if neg then !isNone x else isNone x))) HD
  | _ => False
noncomputable def dIx : G2 := fun x y HD Q => match y with
  | .d (.int i) => (match seqD HD x with
    | some xs => (match atI xs i with
      | some z => Q z HD
      | none => False)
    | none => False)
  | _ => False
theorem atI_pair {α β : Type} {F : α → β → Prop} {a : List α} {b : List β} (h : Paired F a b) {i : Int} {y : β} (e : atI b i = some y) : ∃ x, atI a i = some x ∧ F x y := by
  unfold atI at e ⊢
  rw [Paired.length h]
  cases hn : ixN b.length i with
  | none => rw [hn] at e; cases e
  | some j =>
    rw [hn] at e
    exact Paired.get2 h e
theorem ix_d : IxR X (up2 X.K dIx) := by
  intro value slice pins s σ H x y v u Q I rx ry h hsub
  obtain ⟨dx, dy, HD, Qd, hx, hy, R, h, l⟩ := h
  unfold dIx at h
  split at h
  · split at h
    · rename_i xs hs
      split at h
      · rename_i z hz
        cases hy
        obtain ⟨p, vs, rfl, h1, h2⟩ := seqD_at hx R hs
        obtain ⟨w', hw, dw⟩ := atI_pair h2 hz
        have q := l _ _ _ _ h dw R Frm.refl
        rcases h1 with h1 | h1
        · exact ix_list value slice pins s σ H _ _ v u Q I rx ry ⟨p, vs, _, w', rfl, rfl, h1, hw, q⟩ hsub
        · exact ix_tup value slice pins s σ H _ _ v u Q I rx ry ⟨p, vs, _, w', rfl, rfl, h1, hw, q⟩ hsub
      · exact h.elim
    · exact h.elim
  · exact h.elim
noncomputable def cutD {α : Type} (xs : List α) (lo hi : Option Int) : List α := (xs.drop (HT.sIx xs.length 0 lo)).take (HT.sIx xs.length xs.length hi - HT.sIx xs.length 0 lo)
noncomputable def dSl (own : Bool) (x : DV) (lo hi : Option Int) (HD : HDt) (Q : DQ) : Prop := match x with
  | .d (.tuple xs) => Q (.d (.tuple (cutD xs lo hi))) HD
  | .w ns => mkL own (cutD (ns.map fun i => DV.d (.int i)) lo hi) HD Q
  | x => match listD HD x with
    | some xs => mkL own (cutD xs lo hi) HD Q
    | none => False
noncomputable def upSl (K : PySem.W.Frag) (g : DV → Option Int → Option Int → HDt → DQ → Prop) : V → Option Int → Option Int → Hp → VK → Prop := fun x lo hi H Q => ∃ dx HD Qd, DatV K H x dx ∧ RepH K H HD ∧ g dx lo hi HD Qd ∧ Lk K H HD Qd Q
theorem cutD_pair {α β : Type} {F : α → β → Prop} {a : List α} {b : List β} (h : Paired F a b) (lo hi : Option Int) : Paired F (cutD a lo hi) (cutD b lo hi) := by
  unfold cutD
  rw [Paired.length h]
  exact Paired.take _ (Paired.drop _ h)
theorem ep_mkL {pins : List (Addr × Obj)} {σ : L2.St} {H : Hp} {s' : Shared} {own : Bool} {xs : List DV} {vs : List V} {HD : HDt} {Qd : DQ} {Q : VK} {u : Value} (D : DatAll X.K H vs xs) (R : RepH X.K H HD) (h : mkL own xs HD Qd) (l : Lk X.K H HD Qd Q)
    (e : EP X pins σ (fun v H' => ∃ p, v = .ref p ∧ H p = none ∧ H' = upd H p (.lst vs)) u s') : EP X pins σ Q u s' := by
  obtain ⟨v, H', I, r, p, rfl, hp, rfl⟩ := e
  cases r
  exact mkL_ep hp I D R h l
theorem sl_d (own : Bool) : SlR X (upSl X.K (dSl own)) := by
  intro pins s σ H x v vl vu lo hi sl Q I rx hs pl pu h
  obtain ⟨dx, HD, Qd, hx, R, h, l⟩ := h
  have gen : ∀ {p : Addr} {vs : List V} {xs : List DV}, x = .ref p → SqL X.K H p vs → DatAll X.K H vs xs → mkL own (cutD xs lo hi) HD Qd →
      ∃ T id, typeLookup (.type T) "__getitem__" = pure (some (.builtin id)) ∧ s.TypeIs v T ∧ wpAny (model X.prog X.w) X.A (getItem v (.ref sl)) (EP X pins σ Q) X.xe s := fun {p vs xs} e h1 h2 h => by
    subst e
    obtain ⟨T, f, a, b, c⟩ := sl_list pins s σ H _ v vl vu lo hi sl (fun v H' => ∃ q, v = .ref q ∧ H q = none ∧ H' = upd H q (.lst (cutV vs lo hi))) I rx hs pl pu ⟨p, vs, rfl, h1, fun q hq => ⟨q, rfl, hq, rfl⟩⟩
    exact ⟨T, f, a, b, thn c fun u s' e => ep_mkL (vs := cutV vs lo hi) (cutD_pair h2 lo hi) R h l e⟩
  unfold dSl at h
  split at h
  · cases hx with
    | tup h1 h2 =>
      refine sl_tupP pins s σ H _ v vl vu lo hi sl Q I rx hs pl pu ⟨_, _, rfl, h1.sq, fun z => ?_, fun _ p o hp ho => ?_⟩
      · have hl := h2.length
        refine l _ _ _ _ h (Fd.tup h1 ?_) R Frm.refl
        unfold cutD
        rw [← hl, z.1, z.2]
        simpa [hl] using h2
      · refine l _ _ _ _ h (Fd.tup (.at ho) ?_) (R.new hp) (Frm.new hp)
        refine FdAll.ext (Ext.new hp) ?_
        have := h2.length
        unfold cutV cutD
        rw [this]
        exact (h2.drop _).take _
  · obtain ⟨a, rfl, hq⟩ := hx
    exact gen rfl hq.sq (ints_dat _) h
  · split at h
    · rename_i xs hxs
      obtain ⟨p, vs, rfl, h1, h2⟩ := listD_at hx R hxs
      exact gen rfl h1.sq h2 h
    · exact h.elim
end
section
variable {prog : Program} {w : World} {h : Heap} {a : Addr} {o : Obj} {n : Nat} {ds : List PyData} {its : List Value} {as : List Addr}
theorem shw_list (ho : h.get? a = some o) (hc : o.cls = .type "list") (hd : o.data = .seq its.toArray n) (r : Reads h (.ref a) (.list ds) as)
    (k : ∃ bs, ReadAtMost h (PyData.depthAll ds) bs ∧ ReprAllK prog w bs h (PyData.depthAll ds) its (PyData.shownAll ds)) :
    ∃ bs, ReadAtMost h (PyData.list ds).depth bs ∧ ReprK prog w bs h (PyData.list ds).depth (.ref a) (PyData.list ds).shown := by
  obtain ⟨bs, hb, hk⟩ := k
  have e1 : (PyData.list ds).depth = PyData.depthAll ds + 1 := by simp only [PyData.depth]
  have e2 : (PyData.list ds).shown = listText (PyData.shownAll ds) := by simp only [PyData.shown]
  have no : a ∉ bs := not_mem_of_deeper r (by omega) hb
  have at1 := ReadAtMost.cons r (Nat.le_of_lt (by omega)) hb
  refine ⟨_, at1, ?_⟩
  rw [e1, e2]
  cases its with
  | nil =>
    have l0 := hk.length_eq
    rw [List.eq_nil_of_length_eq_zero l0, listText_nil]
    exact .listEmpty ho hc hd
  | cons x l => exact .list ho hc hd no (by rw [hk.length_eq]; rfl) fun i y e => hk.item i y (by simpa using e)
theorem shw_tuple (ho : h.get? a = some o) (hc : o.cls = .type "tuple") (hd : o.data = .seq its.toArray n) (r : Reads h (.ref a) (.tuple ds) as)
    (k : ∃ bs, ReadAtMost h (PyData.depthAll ds) bs ∧ ReprAllK prog w bs h (PyData.depthAll ds) its (PyData.shownAll ds)) :
    ∃ bs, ReadAtMost h (PyData.tuple ds).depth bs ∧ ReprK prog w bs h (PyData.tuple ds).depth (.ref a) (PyData.tuple ds).shown := by
  obtain ⟨bs, hb, hk⟩ := k
  have e1 : (PyData.tuple ds).depth = PyData.depthAll ds + 1 := by simp only [PyData.depth]
  have e2 : (PyData.tuple ds).shown = tupleText (PyData.shownAll ds) := by simp only [PyData.shown]
  have no : a ∉ bs := not_mem_of_deeper r (by omega) hb
  have at1 := ReadAtMost.cons r (Nat.le_of_lt (by omega)) hb
  refine ⟨_, at1, ?_⟩
  rw [e1, e2]
  exact .tuple ho hc hd no hk
end
section
variable {X : Cx} {pins : List (Addr × Obj)} {σ : L2.St} {H : Hp} {s : Shared}
theorem shw_keys {h : Heap} {vs : List Value} : ∀ {ds : List PyData}, ReadsAll h vs ds [] → PyData.showableAll ds = true → (∀ t ∈ PyData.shownAll ds, t.length ≤ sizeLine) →
    ∃ bs, ReadAtMost h (PyData.depthAll ds) bs ∧ ReprAllK X.prog X.w bs h (PyData.depthAll ds) vs (PyData.shownAll ds) :=
  fun r hs hz => ReprAllK.of_readsAll r hs (fun _ z => nomatch z) hz
mutual
theorem Fd.shw (I : Inv X pins σ H s) : ∀ (d : PyData) (v : V) (u : Value), Fd X.K H v d → RelV v u → d.showable = true → d.shown.length ≤ sizeLine → ∃ bs, ReadAtMost s.heap d.depth bs ∧ ReprK X.prog X.w bs s.heap d.depth u d.shown
  | .none, _, _, h, r, hs, hz => by cases h; cases r; exact ReprK.of_reads Reads.none hs (PyData.noDict_hsm (by simp [PyData.hasDict])) hz
  | .bool b, _, _, h, r, hs, hz => by cases h; cases r; exact ReprK.of_reads (Reads.bool b) hs (PyData.noDict_hsm (by simp [PyData.hasDict])) hz
  | .int i, _, _, h, r, hs, hz => by cases h; obtain ⟨t, rfl⟩ := r; exact ReprK.of_reads (Reads.int i t) hs (PyData.noDict_hsm (by simp [PyData.hasDict])) hz
  | .str x, _, _, h, r, hs, hz => by cases h; obtain ⟨t, rfl⟩ := r; exact ReprK.of_reads (Reads.str x t) hs (PyData.noDict_hsm (by simp [PyData.hasDict])) hz
  | .list ds, _, _, h, r, hs, hz => by
    obtain ⟨as, hr, _⟩ := Fd.reads I (.list ds) _ _ h r
    cases h with
    | lst hl ha =>
      cases r
      obtain ⟨its, rv, ⟨o, n, ho, hc, _, hd⟩, _⟩ := I.list (.inl (.inr ⟨_, hl⟩))
      simp only [PyData.shown] at hz
      exact shw_list ho hc hd hr (Fd.shwAll I ds _ its ha rv (by simpa only [PyData.showable] using hs) fun t q => Nat.le_trans (listText_mem_le q) hz)
  | .tuple ds, _, _, h, r, hs, hz => by
    obtain ⟨as, hr, _⟩ := Fd.reads I (.tuple ds) _ _ h r
    cases h with
    | tup hl ha =>
      cases r
      obtain ⟨its, rv, ⟨o, ho, hc, n, hd⟩, _⟩ := I.tuple hl.sq
      simp only [PyData.shown] at hz
      exact shw_tuple ho hc hd hr (Fd.shwAll I ds _ its ha rv (by simpa only [PyData.showable] using hs) fun t q => Nat.le_trans (tupleText_mem_le q) hz)
  | .dict ds, _, _, h, r, hs, hz => by
    obtain ⟨as, hr, _⟩ := Fd.reads I (.dict ds) _ _ h r
    cases h with
    | dct hl hk ha =>
      cases r
      obtain ⟨_, _, hsy, vs, kv, o, es, ep, ho, hx, hd, _, hp, _⟩ := I.hok _ _ hl
      obtain ⟨q1, q2⟩ := keysAre (h := s.heap) kv hp hk
      obtain ⟨y1, y2⟩ := PyData.showableKv_split ds (by simpa only [PyData.showable] using hs)
      have e2 : (PyData.dict ds).shown = dictText (PyData.shownKv ds) := by simp only [PyData.shown]
      have e1 : (PyData.dict ds).depth = PyData.depthKv ds + 1 := by simp only [PyData.depth]
      rw [e2] at hz
      obtain ⟨b1, m1, k1⟩ := shw_keys (X := X) q1 y1 fun t q => by
        obtain ⟨p, hp, hl⟩ := PyData.shownKv_key_le ds t q
        exact Nat.le_trans (Nat.le_trans hl (dictText_mem_le hp)) hz
      obtain ⟨b2, m2, k2⟩ := Fd.shwKv I ds _ _ ha q2 y2 fun t q => by
        obtain ⟨p, hp, hl⟩ := PyData.shownKv_val_le ds t q
        exact Nat.le_trans (Nat.le_trans hl (dictText_mem_le hp)) hz
      have mb := ReadAtMost.append (m1.mono (PyData.depthAll_keys_le ds)) (m2.mono (PyData.depthAll_vals_le ds))
      have no := not_mem_of_deeper hr (by omega) mb
      have at1 := ReadAtMost.cons hr (Nat.le_of_lt (by omega)) mb
      refine ⟨_, at1, ?_⟩
      rw [e1, e2, PyData.shownKv_eq]
      exact .dict ho hx.1 hd hsy no (.of_two _ _ _ (k1.more_le (fun _ z => List.mem_append.mpr (.inl z)) (PyData.depthAll_keys_le ds)) (k2.more_le (fun _ z => List.mem_append.mpr (.inr z)) (PyData.depthAll_vals_le ds)))
theorem Fd.shwAll (I : Inv X pins σ H s) : ∀ (ds : List PyData) (vs : List V) (us : List Value), FdAll X.K H vs ds → Vals vs us → PyData.showableAll ds = true → (∀ t ∈ PyData.shownAll ds, t.length ≤ sizeLine) →
    ∃ bs, ReadAtMost s.heap (PyData.depthAll ds) bs ∧ ReprAllK X.prog X.w bs s.heap (PyData.depthAll ds) us (PyData.shownAll ds)
  | [], _, _, h, r, _, _ => by cases h; cases r; simp only [PyData.shownAll]; exact ⟨[], (fun _ z => nomatch z), .nil⟩
  | d :: ds, _, _, h, r, hs, hz => by
    cases h with
    | cons g1 g2 =>
      cases r with
      | cons r1 r2 =>
        simp only [PyData.showableAll, Bool.and_eq_true] at hs
        simp only [PyData.shownAll, List.forall_mem_cons] at hz
        obtain ⟨b1, m1, k1⟩ := Fd.shw I d _ _ g1 r1 hs.1 hz.1
        obtain ⟨b2, m2, k2⟩ := Fd.shwAll I ds _ _ g2 r2 hs.2 hz.2
        have l1 := Nat.le_max_left d.depth (PyData.depthAll ds)
        have l2 := Nat.le_max_right d.depth (PyData.depthAll ds)
        simp only [PyData.shownAll, PyData.depthAll]
        exact ⟨b1 ++ b2, (m1.mono l1).append (m2.mono l2), .cons ((k1.more fun _ z => List.mem_append.mpr (.inl z)).level_le l1) (k2.more_le (fun _ z => List.mem_append.mpr (.inr z)) l2)⟩
theorem Fd.shwKv (I : Inv X pins σ H s) : ∀ (ds : List (PyData × PyData)) (vs : List V) (us : List Value), FdAll X.K H vs (ds.map (·.2)) → Vals vs us → PyData.showableAll (ds.map (·.2)) = true → (∀ t ∈ PyData.shownAll (ds.map (·.2)), t.length ≤ sizeLine) →
    ∃ bs, ReadAtMost s.heap (PyData.depthAll (ds.map (·.2))) bs ∧ ReprAllK X.prog X.w bs s.heap (PyData.depthAll (ds.map (·.2))) us (PyData.shownAll (ds.map (·.2)))
  | [], _, _, h, r, _, _ => by cases h; cases r; simp only [List.map_nil, PyData.shownAll]; exact ⟨[], (fun _ z => nomatch z), .nil⟩
  | (k, d) :: ds, _, _, h, r, hs, hz => by
    cases h with
    | cons g1 g2 =>
      cases r with
      | cons r1 r2 =>
        simp only [List.map_cons, PyData.showableAll, Bool.and_eq_true] at hs
        simp only [List.map_cons, PyData.shownAll, List.forall_mem_cons] at hz
        obtain ⟨b1, m1, k1⟩ := Fd.shw I d _ _ g1 r1 hs.1 hz.1
        obtain ⟨b2, m2, k2⟩ := Fd.shwKv I ds _ _ g2 r2 hs.2 hz.2
        have l1 := Nat.le_max_left d.depth (PyData.depthAll (ds.map (·.2)))
        have l2 := Nat.le_max_right d.depth (PyData.depthAll (ds.map (·.2)))
        simp only [List.map_cons, PyData.shownAll, PyData.depthAll]
        exact ⟨b1 ++ b2, (m1.mono l1).append (m2.mono l2), .cons ((k1.more fun _ z => List.mem_append.mpr (.inl z)).level_le l1) (k2.more_le (fun _ z => List.mem_append.mpr (.inr z)) l2)⟩
end
section
variable {prog : Program} {w : World} {A : Around} {E : Value → Shared → Prop} {s : Shared} {a : Addr} {o : Obj} {n : Nat} {ds : List PyData} {its : List Value} {as : List Addr} {Q : Value → Shared → Prop}
theorem rp_list (ho : s.heap.get? a = some o) (hc : o.cls = .type "list") (hd : o.data = .seq its.toArray n) (r : Reads s.heap (.ref a) (.list ds) as)
    (k : ∃ bs, ReadAtMost s.heap (PyData.depthAll ds) bs ∧ ReprAllK prog w bs s.heap (PyData.depthAll ds) its (PyData.shownAll ds)) (hg : A.guards = some []) (hu : A.units + ((PyData.list ds).depth + 1) < cLine)
    (hQ : ∀ h' t tk, (∀ b o, s.heap.get? b = some o → h'.get? b = some o) → Q (.str (PyData.list ds).shown t) { s with heap := h', toks := tk }) (hz : (PyData.list ds).shown.length ≤ sizeLine) :
    wpAny (model prog w) A (call (.builtin "repr") [.ref a]) Q E s := by
  obtain ⟨bs, hb, hk⟩ := k
  have e1 : (PyData.list ds).depth = PyData.depthAll ds + 1 := by simp only [PyData.depth]
  have e2 : (PyData.list ds).shown = listText (PyData.shownAll ds) := by simp only [PyData.shown]
  have no : a ∉ bs := not_mem_of_deeper r (by omega) hb
  have hu1 : A.in1.units + (PyData.depthAll ds + 1) < cLine := by show A.units + 1 + _ < cLine; omega
  rw [e2] at hz hQ
  refine call_repr_slot (by omega) ⟨o, ho, hc⟩ F.slot_list_repr.toG ?_
  cases its with
  | nil =>
    have l0 := hk.length_eq
    rw [List.eq_nil_of_length_eq_zero l0, listText_nil] at hQ
    exact call_list_repr_empty ⟨o, ho, hc⟩ ho hd ⟨_, _, rfl, hQ s.heap _ _ fun _ _ e => e⟩
  | cons x l => exact call_list_reprK ho hc hd no (by rw [hk.length_eq]; rfl) (fun i y e => hk.item i y (by simpa using e)) hg (fun b _ => Clear.nil b) hu1 (fun _ _ e => e) (fun h' t tk z => ⟨_, _, rfl, hQ h' t tk z⟩) hz
theorem rp_tuple (ho : s.heap.get? a = some o) (hc : o.cls = .type "tuple") (hd : o.data = .seq its.toArray n) (r : Reads s.heap (.ref a) (.tuple ds) as)
    (k : ∃ bs, ReadAtMost s.heap (PyData.depthAll ds) bs ∧ ReprAllK prog w bs s.heap (PyData.depthAll ds) its (PyData.shownAll ds)) (hg : A.guards = some []) (hu : A.units + ((PyData.tuple ds).depth + 1) < cLine)
    (hQ : ∀ h' t tk, (∀ b o, s.heap.get? b = some o → h'.get? b = some o) → Q (.str (PyData.tuple ds).shown t) { s with heap := h', toks := tk }) (hz : (PyData.tuple ds).shown.length ≤ sizeLine) :
    wpAny (model prog w) A (call (.builtin "repr") [.ref a]) Q E s := by
  obtain ⟨bs, hb, hk⟩ := k
  have e1 : (PyData.tuple ds).depth = PyData.depthAll ds + 1 := by simp only [PyData.depth]
  have e2 : (PyData.tuple ds).shown = tupleText (PyData.shownAll ds) := by simp only [PyData.shown]
  have no : a ∉ bs := not_mem_of_deeper r (by omega) hb
  have hu1 : A.in1.units + (PyData.depthAll ds + 1) < cLine := by show A.units + 1 + _ < cLine; omega
  rw [e2] at hz hQ
  refine call_repr_slot (by omega) ⟨o, ho, hc⟩ F.slot_tuple_repr ?_
  exact call_tuple_reprK ho hc hd no hk hg (fun b _ => Clear.nil b) hu1 (fun _ _ e => e) (fun h' t tk z => ⟨_, _, rfl, hQ h' t tk z⟩) hz
theorem rp_dict {es : Array DictEntry} {kvs : List (PyData × PyData)} (ho : s.heap.get? a = some o) (hc : o.cls = .type "dict") (hd : o.data = .dict es n) (hsy : (a == sysModules) = false) (r : Reads s.heap (.ref a) (.dict kvs) as)
    (k1 : ∃ bs, ReadAtMost s.heap (PyData.depthAll (kvs.map (·.1))) bs ∧ ReprAllK prog w bs s.heap (PyData.depthAll (kvs.map (·.1))) (es.toList.map (·.key)) (PyData.shownAll (kvs.map (·.1))))
    (k2 : ∃ bs, ReadAtMost s.heap (PyData.depthAll (kvs.map (·.2))) bs ∧ ReprAllK prog w bs s.heap (PyData.depthAll (kvs.map (·.2))) (es.toList.map (·.val)) (PyData.shownAll (kvs.map (·.2))))
    (hg : A.guards = some []) (hu : A.units + ((PyData.dict kvs).depth + 1) < cLine)
    (hQ : ∀ h' t tk, (∀ b o, s.heap.get? b = some o → h'.get? b = some o) → Q (.str (PyData.dict kvs).shown t) { s with heap := h', toks := tk }) (hz : (PyData.dict kvs).shown.length ≤ sizeLine) :
    wpAny (model prog w) A (call (.builtin "repr") [.ref a]) Q E s := by
  obtain ⟨b1, m1, k1⟩ := k1
  obtain ⟨b2, m2, k2⟩ := k2
  have e1 : (PyData.dict kvs).depth = PyData.depthKv kvs + 1 := by simp only [PyData.depth]
  have e2 : (PyData.dict kvs).shown = dictText (PyData.shownKv kvs) := by simp only [PyData.shown]
  have mb := ReadAtMost.append (m1.mono (PyData.depthAll_keys_le kvs)) (m2.mono (PyData.depthAll_vals_le kvs))
  have no := not_mem_of_deeper r (by omega) mb
  have hu1 : A.in1.units + (PyData.depthKv kvs + 1) < cLine := by show A.units + 1 + _ < cLine; omega
  rw [e2, PyData.shownKv_eq] at hz hQ
  refine call_repr_slot (by omega) ⟨o, ho, hc⟩ F.slot_dict_repr ?_
  exact call_dict_reprK ho hc hd hsy no (.of_two _ _ _ (k1.more_le (fun _ z => List.mem_append.mpr (.inl z)) (PyData.depthAll_keys_le kvs)) (k2.more_le (fun _ z => List.mem_append.mpr (.inr z)) (PyData.depthAll_vals_le kvs)))
    hg (fun b _ => Clear.nil b) hu1 (fun _ _ e => e) (fun h' t tk z => ⟨_, _, rfl, hQ h' t tk z⟩) hz
end
theorem rp_fd (I : Inv X pins σ H s) {A : Around} {E : Value → Shared → Prop} {Q : Value → Shared → Prop} : ∀ {d : PyData} {v : V} {u : Value}, Fd X.K H v d → RelV v u → d.showable = true → d.shown.length ≤ sizeLine → A.guards = some [] → A.units + (d.depth + 1) < cLine →
    (∀ h' t tk, (∀ b o, s.heap.get? b = some o → h'.get? b = some o) → Q (.str d.shown t) { s with heap := h', toks := tk }) → wpAny (model X.prog X.w) A (call (.builtin "repr") [u]) Q E s
  | .none, _, _, h, r, hs, hz, hg, hu, hQ => by cases h; cases r; exact PySem.P.repr_of_none (hQ s.heap _ _ fun _ _ e => e)
  | .bool b, _, _, h, r, hs, hz, hg, hu, hQ => by cases h; cases r; exact PySem.P.repr_of_bool (hQ s.heap _ _ fun _ _ e => e)
  | .int i, _, _, h, r, hs, hz, hg, hu, hQ => by cases h; obtain ⟨t, rfl⟩ := r; exact PySem.P.repr_of_int (by simpa [PyData.showable] using hs) (hQ s.heap _ _ fun _ _ e => e)
  | .str x, _, _, h, r, hs, hz, hg, hu, hQ => by cases h; obtain ⟨t, rfl⟩ := r; exact PySem.P.repr_of_str (hQ s.heap _ _ fun _ _ e => e) hz
  | .list ds, _, _, h, r, hs, hz, hg, hu, hQ => by
    obtain ⟨as, hr, _⟩ := Fd.reads I (.list ds) _ _ h r
    cases h with
    | lst hl ha =>
      cases r
      obtain ⟨its, rv, ⟨o, n, ho, hc, _, hd⟩, _⟩ := I.list (.inl (.inr ⟨_, hl⟩))
      refine rp_list ho hc hd hr (Fd.shwAll I ds _ its ha rv (by simpa only [PyData.showable] using hs) fun t q => ?_) hg hu hQ hz
      simp only [PyData.shown] at hz
      exact Nat.le_trans (listText_mem_le q) hz
  | .tuple ds, _, _, h, r, hs, hz, hg, hu, hQ => by
    obtain ⟨as, hr, _⟩ := Fd.reads I (.tuple ds) _ _ h r
    cases h with
    | tup hl ha =>
      cases r
      obtain ⟨its, rv, ⟨o, ho, hc, n, hd⟩, _⟩ := I.tuple hl.sq
      refine rp_tuple ho hc hd hr (Fd.shwAll I ds _ its ha rv (by simpa only [PyData.showable] using hs) fun t q => ?_) hg hu hQ hz
      simp only [PyData.shown] at hz
      exact Nat.le_trans (tupleText_mem_le q) hz
  | .dict ds, _, _, h, r, hs, hz, hg, hu, hQ => by
    obtain ⟨as, hr, _⟩ := Fd.reads I (.dict ds) _ _ h r
    cases h with
    | dct hl hk ha =>
      cases r
      obtain ⟨_, _, hsy, vs, kv, o, es, ep, ho, hx, hd, _, hp, _⟩ := I.hok _ _ hl
      obtain ⟨q1, q2⟩ := keysAre (h := s.heap) kv hp hk
      obtain ⟨y1, y2⟩ := PyData.showableKv_split ds (by simpa only [PyData.showable] using hs)
      refine rp_dict ho hx.1 hd hsy hr (shw_keys (X := X) q1 y1 fun t q => ?_) (Fd.shwKv I ds _ _ ha q2 y2 fun t q => ?_) hg hu hQ hz
      · obtain ⟨p, hp, hl⟩ := PyData.shownKv_key_le ds t q
        simp only [PyData.shown] at hz
        exact Nat.le_trans (Nat.le_trans hl (dictText_mem_le hp)) hz
      · obtain ⟨p, hp, hl⟩ := PyData.shownKv_val_le ds t q
        simp only [PyData.shown] at hz
        exact Nat.le_trans (Nat.le_trans hl (dictText_mem_le hp)) hz
theorem rp_dv {HD : HDt} {v : V} {u : Value} {x : DV} (I : Inv X pins σ H s) {d : PyData} (h : DatV X.K H v x) (R : RepH X.K H HD) (e : dv HD x = some d) (r : RelV v u) {A : Around} {E : Value → Shared → Prop} {Q : Value → Shared → Prop} (hs : d.showable = true) (hz : d.shown.length ≤ sizeLine) (hg : A.guards = some [])
    (hu : A.units + (d.depth + 1) < cLine) (hQ : ∀ h' t tk, (∀ b o, s.heap.get? b = some o → h'.get? b = some o) → Q (.str d.shown t) { s with heap := h', toks := tk }) : wpAny (model X.prog X.w) A (call (.builtin "repr") [u]) Q E s := by
  have lst : ∀ {a : Addr} {vs : List V} {ds : List PyData} {as : List Addr}, SqL X.K H a vs → FdAll X.K H vs ds → u = .ref a → d = .list ds → Reads s.heap u d as → wpAny (model X.prog X.w) A (call (.builtin "repr") [u]) Q E s := by
    intro a vs ds as hl ha eu ed hr
    subst eu
    subst ed
    obtain ⟨its, rv, ⟨o, n, ho, hc, _, hd⟩, _⟩ := I.list hl
    refine rp_list ho hc hd hr (Fd.shwAll I ds _ its ha rv (by simpa only [PyData.showable] using hs) fun t q => ?_) hg hu hQ hz
    simp only [PyData.shown] at hz
    exact Nat.le_trans (listText_mem_le q) hz
  obtain ⟨as, hr, _⟩ := dv_reads I h R e r
  cases x with
  | d y =>
    cases e
    exact rp_fd I h r hs hz hg hu hQ
  | x E => cases e
  | w ns =>
    cases e
    obtain ⟨a, rfl, hl⟩ := h
    cases r
    exact lst hl.sq (FdAll.ints ns) rfl rfl hr
  | r a =>
    simp only [dv] at e
    split at e
    · rename_i ys hy
      simp only [Option.map_eq_some_iff] at e
      obtain ⟨ds, e1, rfl⟩ := e
      obtain ⟨vs, q1, q2⟩ := R a _ hy
      have e2 := dats_some e1
      subst e2
      subst h
      cases r
      exact lst (.inl (.inl q1)) q2.fd rfl rfl hr
    · cases e
end
inductive Bi where
  | len | tuple | list (own : Bool) | int | abs | bool | str | repr | all | any | sum | sorted (own : Bool)
  deriving DecidableEq
noncomputable def boolsOf : List DV → Option (List Bool)
  | [] => some []
  | .d (.bool b) :: r => (boolsOf r).map (b :: ·)
  | _ :: _ => none
noncomputable def intsOf : List DV → Option (List Int)
  | [] => some []
  | .d (.int b) :: r => (intsOf r).map (b :: ·)
  | _ :: _ => none
noncomputable def dBi (f : Bi) : GC := fun ds HD Q => match ds with
  | [x] => (match f with
    | .len => (match seqD HD x with
      | some xs => Q (.d (.int (xs.length : Nat))) HD
      | none => match x with
        | .d (.str z) => z.length ≤ sizeLine ∧ Q (.d (.int (z.length : Nat))) HD
        | _ => False)
    | .tuple => (match seqD HD x with
      | some xs => (match dats xs with
        | some ds => Q (.d (.tuple ds)) HD
        | none => False)
      | none => False)
    | .list own => (match seqD HD x with
      | some xs => mkL own xs HD Q
      | none => False)
    | .int => (match x with
      | .d (.int i) => Q (.d (.int i)) HD
      | .d (.bool b) => Q (.d (.int (if b then 1 else 0))) HD
      | _ => False)
    | .abs => (match x with
      | .d (.int i) => Q (.d (.int (if i < 0 then -i else i))) HD
      | _ => False)
    | .bool => (match x with
      | .d (.int i) => Q (.d (.bool (i != 0))) HD
      | .d (.bool b) => Q (.d (.bool b)) HD
      | _ => False)
    | .str => (match x with
      | .d (.int i) => i.natAbs.log2 < 1920 ∧ Q (.d (.str (toString i))) HD
      | .d (.bool b) => Q (.d (.str (if b then "True" else "False"))) HD
      | _ => False)
    | .repr => (match dv HD x with
      | some d => (d.showable = true ∧ d.shown.length ≤ sizeLine ∧ d.depth ≤ 64) ∧ Q (.d (.str d.shown)) HD
      | none => False)
    | .all => (match listD HD x with
      | some xs => (match boolsOf xs with
        | some bs => Q (.d (.bool (bs.all id))) HD
        | none => False)
      | none => False)
    | .any => (match listD HD x with
      | some xs => (match boolsOf xs with
        | some bs => Q (.d (.bool (bs.any id))) HD
        | none => False)
      | none => False)
    | .sum => (match listD HD x with
      | some xs => (match intsOf xs with
        | some ns => Q (.d (.int ns.sum)) HD
        | none => False)
      | none => False)
    | .sorted own => (match listD HD x with
      | some xs => (match dats xs with
        | some ds => (PySem.W.AllAlike ds ∧ PySem.W.Sortable ds ∧ ∀ d ∈ ds, d.depth ≤ 64) ∧ mkL own ((ds.mergeSort (PySem.W.dataLe false id)).map .d) HD Q
        | none => False)
      | none => False))
  | _ => False
theorem boolsOf_some : ∀ {xs : List DV} {bs : List Bool}, boolsOf xs = some bs → xs = bs.map fun b => .d (.bool b)
  | [], bs, h => by simp [boolsOf] at h; subst h; rfl
  | .d (.bool b) :: r, bs, h => by
    simp only [boolsOf, Option.map_eq_some_iff] at h
    obtain ⟨t, h1, rfl⟩ := h
    simp [boolsOf_some h1]
  | .d .none :: _, _, h | .d (.int _) :: _, _, h | .d (.str _) :: _, _, h | .d (.list _) :: _, _, h | .d (.tuple _) :: _, _, h | .d (.dict _) :: _, _, h | .r _ :: _, _, h | .w _ :: _, _, h | .x _ :: _, _, h => by simp [boolsOf] at h
theorem intsOf_some : ∀ {xs : List DV} {bs : List Int}, intsOf xs = some bs → xs = bs.map fun b => .d (.int b)
  | [], bs, h => by simp [intsOf] at h; subst h; rfl
  | .d (.int b) :: r, bs, h => by
    simp only [intsOf, Option.map_eq_some_iff] at h
    obtain ⟨t, h1, rfl⟩ := h
    simp [intsOf_some h1]
  | .d .none :: _, _, h | .d (.bool _) :: _, _, h | .d (.str _) :: _, _, h | .d (.list _) :: _, _, h | .d (.tuple _) :: _, _, h | .d (.dict _) :: _, _, h | .r _ :: _, _, h | .w _ :: _, _, h | .x _ :: _, _, h => by simp [intsOf] at h
section
variable {K : PySem.W.Frag} {H : Hp}
theorem DatAll.one {xs : List V} {x : DV} (h : DatAll K H xs [x]) : ∃ v, xs = [v] ∧ DatV K H v x := by
  match xs, h with
  | [v], .cons h .nil => exact ⟨v, rfl, h⟩
theorem dat_bools : ∀ {vs : List V} {bs : List Bool}, DatAll K H vs (bs.map fun b => DV.d (.bool b)) → vs = bs.map V.bl
  | _, [], .nil => rfl
  | _, b :: bs, .cons h t => by cases h; simp [dat_bools t]
theorem dat_ints : ∀ {vs : List V} {bs : List Int}, DatAll K H vs (bs.map fun b => DV.d (.int b)) → vs = bs.map V.int
  | _, [], .nil => rfl
  | _, b :: bs, .cons h t => by cases h; simp [dat_ints t]
end
noncomputable def biVal : Bi → Value
  | .len => .builtin "len"
  | .tuple => .type "tuple"
  | .list _ => .type "list"
  | .int => .type "int"
  | .abs => .builtin "abs"
  | .bool => .type "bool"
  | .str => .type "str"
  | .repr => .builtin "repr"
  | .all => .builtin "all"
  | .any => .builtin "any"
  | .sum => .builtin "sum"
  | .sorted _ => .builtin "sorted"
section
variable {X : Cx} {pins : List (Addr × Obj)} {σ : L2.St} {H : Hp} {s : Shared}
theorem each_of {K : PySem.W.Frag} : ∀ {vs : List V} {us : List Value} {ds : List PyData}, Vals vs us → FdAll K H vs ds → PySem.W.EachIs (fun u d => ∃ x, RelV x u ∧ Fd K H x d) us ds
  | _, _, _, .nil, .nil => .nil
  | _, _, _, .cons r t, .cons f g => .cons ⟨_, r, f⟩ (each_of t g)
theorem each_reads (I : Inv X pins σ H s) : ∀ {vs : List V} {us : List Value} {ds : List PyData}, Vals vs us → FdAll X.K H vs ds → PySem.W.EachIs (fun u d => ∃ as, Reads s.heap u (id d) as) us ds
  | _, _, _, .nil, .nil => .nil
  | _, _, _, .cons r t, .cons f g => .cons (let ⟨as, q, _⟩ := Fd.reads I _ _ _ f r; ⟨as, q⟩) (each_reads I t g)
theorem each_back {K : PySem.W.Frag} : ∀ {us : List Value} {ds : List PyData}, PySem.W.EachIs (fun u d => ∃ x, RelV x u ∧ Fd K H x d) us ds → ∃ vs, Vals vs us ∧ FdAll K H vs ds
  | _, _, .nil => ⟨[], .nil, .nil⟩
  | _, _, .cons ⟨x, r, f⟩ t => let ⟨vs, a, b⟩ := each_back t; ⟨x :: vs, .cons r a, .cons f b⟩
end
section
variable {X : Cx}
theorem call_dBi (ok : Ok X) (f : Bi) (gd : f = .repr → X.A.guards = some []) : CallR X (biVal f) (upC X.K (dBi f)) := by
  intro pins s σ H xs us Q I r h
  obtain ⟨ds, HD, Qd, hx, R, h, l⟩ := h
  have un := ok.un
  unfold dBi at h
  split at h
  rotate_left
  · exact h.elim
  rename_i ds x
  replace hx := DatAll.one hx
  obtain ⟨v, rfl, hx⟩ := hx
  cases f with
  | len =>
    simp only at h
    split at h
    · rename_i ys hs
      obtain ⟨p, vs, rfl, h1, h2⟩ := seqD_at hx R hs
      refine call_len_seq pins s σ H _ us Q I r ⟨p, vs, rfl, h1, ?_⟩
      rw [Paired.length h2]
      exact l _ _ _ _ h (Fd.int _) R Frm.refl
    · split at h
      · cases hx
        exact call_len_str pins s σ H _ us Q I r ⟨_, rfl, h.1, l _ _ _ _ h.2 (Fd.int _) R Frm.refl⟩
      · exact h.elim
  | tuple =>
    simp only at h
    split at h
    · rename_i ys hs
      split at h
      · rename_i zs hz
        have e := dats_some hz
        subst e
        obtain ⟨p, vs, rfl, h1, h2⟩ := seqD_atP hx R hs
        refine call_tupleP pins s σ H _ us Q I r ⟨p, vs, rfl, ?_⟩
        rcases h1 with h1 | h1
        · exact .inl ⟨h1, fun q o hq ho => l _ _ _ _ h (Fd.tup (.at ho) (h2.fd.ext (Ext.new hq))) (R.new hq) (Frm.new hq)⟩
        · exact .inr ⟨h1.sq, l _ _ _ _ h (Fd.tup h1 h2.fd) R Frm.refl⟩
      · exact h.elim
    · exact h.elim
  | list own =>
    simp only at h
    split at h
    · rename_i ys hs
      obtain ⟨p, vs, rfl, h1, h2⟩ := seqD_at hx R hs
      exact thn (call_list_of pins s σ H _ us (fun v H' => ∃ q, v = .ref q ∧ H q = none ∧ H' = upd H q (.lst vs)) I r ⟨p, vs, rfl, h1, fun q hq => ⟨q, rfl, hq, rfl⟩⟩) fun u s' e => ep_mkL h2 R h l e
    · exact h.elim
  | int =>
    simp only at h
    split at h
    · cases hx
      exact call_int1 pins s σ H _ us Q I r (.inl ⟨_, rfl, l _ _ _ _ h (Fd.int _) R Frm.refl⟩)
    · cases hx
      exact call_int1 pins s σ H _ us Q I r (.inr ⟨_, rfl, l _ _ _ _ h (Fd.int _) R Frm.refl⟩)
    · exact h.elim
  | abs =>
    simp only at h
    split at h
    · cases hx
      exact call_abs pins s σ H _ us Q I r ⟨_, rfl, l _ _ _ _ h (Fd.int _) R Frm.refl⟩
    · exact h.elim
  | bool =>
    simp only at h
    split at h
    · cases hx
      exact call_bool1 pins s σ H _ us Q I r (.inl ⟨_, rfl, l _ _ _ _ h (Fd.bl _) R Frm.refl⟩)
    · cases hx
      exact call_bool1 pins s σ H _ us Q I r (.inr ⟨_, rfl, l _ _ _ _ h (Fd.bl _) R Frm.refl⟩)
    · exact h.elim
  | str =>
    simp only at h
    split at h
    · cases hx
      exact call_str_int pins s σ H _ us Q I r ⟨_, rfl, h.1, l _ _ _ _ h.2 (Fd.str _) R Frm.refl⟩
    · cases hx
      obtain ⟨u, rfl, rx⟩ := vals1 r
      cases rx
      exact PySem.P.str_of_bool ⟨.str _, H, I.tok _, ⟨_, rfl⟩, l _ _ _ _ h (Fd.str _) R Frm.refl⟩
    · exact h.elim
  | repr =>
    simp only at h
    split at h
    · rename_i d hd
      obtain ⟨u, rfl, rx⟩ := vals1 r
      refine rp_dv I hx R hd rx h.1.1 h.1.2.1 (gd rfl) (by have := h.1.2.2; omega) fun h' t tk kp => ?_
      exact ⟨.str _, H, I.kept (t' := tk) kp, ⟨t, rfl⟩, l _ _ _ _ h.2 (Fd.str _) R Frm.refl⟩
    · exact h.elim
  | all =>
    simp only at h
    split at h
    · rename_i ys hs
      split at h
      · rename_i bs hb
        have e := boolsOf_some hb
        subst e
        obtain ⟨p, vs, rfl, h1, h2⟩ := listD_at hx R hs
        have e2 := dat_bools h2
        subst e2
        exact cr_all ok.calm pins s σ H _ us Q I r ⟨p, bs, rfl, h1.sq, l _ _ _ _ h (Fd.bl _) R Frm.refl⟩
      · exact h.elim
    · exact h.elim
  | any =>
    simp only at h
    split at h
    · rename_i ys hs
      split at h
      · rename_i bs hb
        have e := boolsOf_some hb
        subst e
        obtain ⟨p, vs, rfl, h1, h2⟩ := listD_at hx R hs
        have e2 := dat_bools h2
        subst e2
        exact cr_any ok.calm pins s σ H _ us Q I r ⟨p, bs, rfl, h1.sq, l _ _ _ _ h (Fd.bl _) R Frm.refl⟩
      · exact h.elim
    · exact h.elim
  | sum =>
    simp only at h
    split at h
    · rename_i ys hs
      split at h
      · rename_i bs hb
        have e := intsOf_some hb
        subst e
        obtain ⟨p, vs, rfl, h1, h2⟩ := listD_at hx R hs
        have e2 := dat_ints h2
        subst e2
        exact cr_sum ok.calm pins s σ H _ us Q I r ⟨p, bs, rfl, h1.sq, l _ _ _ _ h (Fd.int _) R Frm.refl⟩
      · exact h.elim
    · exact h.elim
  | sorted own =>
    simp only at h
    split at h
    · rename_i ys hs
      split at h
      · rename_i ds hz
        have e := dats_some hz
        subst e
        obtain ⟨p, vs, rfl, h1, h2⟩ := listD_at hx R hs
        obtain ⟨u, rfl, rx⟩ := vals1 r
        cases rx
        obtain ⟨its, rv, pl, hz⟩ := I.list h1.sq
        have el := h2.fd.length
        refine PySem.W.sorted_data (enc := id) (R := fun u d => ∃ x, RelV x u ∧ Fd X.K H x d) pl.isList (each_of rv h2.fd) (each_reads I rv h2.fd) (by simpa using h.1.1) (by simpa using h.1.2.1) (by omega)
          (fun d hd => by have := h.1.2.2 d hd; show X.A.units + 2 + d.depth < cLine; omega) fun out hl hE => ?_
        obtain ⟨ws, w1, w2⟩ := each_back hE
        obtain ⟨ce, hce⟩ := sortedAll_at s.heap its out.toArray
        have kp : ∀ b o, s.heap.get? b = some o → (sortedAll s.heap its out.toArray).get? b = some o := fun b o e => sortedAll_old e
        have hf : H (s.heap.objs.size + 1) = none := I.hok.fresh (Nat.le_succ _)
        have hw : ws.length ≤ sizeLine := by
          have := w2.length
          simp at this
          omega
        have I2 : Inv X pins σ (upd H (s.heap.objs.size + 1) (.lst ws)) { s with heap := sortedAll s.heap its out.toArray, toks := s.toks } :=
          I.laid kp (Nat.le_succ _) ⟨hw, out, ce, w1, hce⟩
        exact mkL_ep hf I2 w2.dat R h.2 l
      · exact h.elim
    · exact h.elim
end
section
variable {prog : Program} {w : World} {A : Around} {E : Value → Shared → Prop}
theorem draw_list {it l : Addr} {items : Array Value} (hne : l ≠ it) : ∀ (n i : Nat) (s : Shared) (Q : List Value → Shared → Prop), s.heap.IsListIter it l i → s.heap.IsList l items → i + n ≤ items.size →
    (∀ h', h'.IsListIter it l (i + n) → Heap.SameBut it s.heap h' → Q ((items.toList.drop i).take n) { s with heap := h' }) → wpAny (model prog w) A (draw (.ref it) n) Q E s
  | 0, i, s, Q, hit, _, _, hQ => by
    show wpAny _ _ (pure []) Q E s
    exact wpAny_pure (by simpa using hQ s.heap hit (Heap.SameBut.refl ..))
  | n + 1, i, s, Q, hit, ht, hle, hQ => by
    have hlt : i < items.size := by omega
    show wpAny _ _ (pyNext (.ref it) >>= _) Q E s
    refine wpAny_bind (wpAny_pyNext_list_item hit ht (x := items[i]) (by simp [hlt]) fun h₁ hit₁ hs₁ => ?_)
    refine wpAny_bind (wpAny_holding (draw_list hne n (i + 1) _ _ hit₁ (ht.extBut hs₁.extBut hne) (by omega) fun h₂ hit₂ hs₂ => wpAny_pure ?_))
    have hd : items.toList.drop i = items[i] :: items.toList.drop (i + 1) := by simp [List.drop_eq_getElem_cons, hlt]
    have := hQ h₂ (by rw [show i + (n + 1) = i + 1 + n by omega]; exact hit₂) (hs₁.trans hs₂)
    rw [hd, List.take_succ_cons] at this
    exact this
theorem unpackItems_list {s : Shared} {l : Addr} {items : Array Value} {Q : List Value → Shared → Prop} (hh : A.handled = none) (hl : s.heap.IsList l items)
    (hQ : ∀ h', Heap.ExtBut s.heap.objs.size s.heap h' → Q items.toList { s with heap := h' }) : wpAny (model prog w) A (unpackItems (.ref l) items.size none) Q E s := by
  have hlt : l ≠ s.heap.objs.size := by obtain ⟨o, ho, _⟩ := hl; exact Nat.ne_of_lt (Heap.lt_size ho)
  have hp : ∀ o, (s.heap.push o).IsList l items := fun o => by
    obtain ⟨ob, ho, r⟩ := hl
    exact ⟨ob, Heap.get?_push_of_some _ ho, r⟩
  unfold unpackItems
  refine wpAny_bind ?_
  unfold notIterableAtAll
  refine wpAny_bind (wpAny_specialOf hl.typeIs slot_list_iter.lookup ?_)
  refine wpAny_pure ?_
  simp only [Bool.false_eq_true, if_false]
  refine wpAny_bind (wpAny_holding (wpAny_pyIter_list hl ?_))
  refine wpAny_bind (wpAny_holding (draw_list hlt items.size 0 _ _ ⟨_, Heap.get?_push_size _ rfl, rfl, rfl⟩ (hp _) (by omega) fun h₁ hit₁ hs₁ => ?_))
  have hall : List.take items.size (List.drop 0 items.toList) = items.toList := by
    rw [List.drop_zero]; exact List.take_of_length_le (by simp)
  rw [hall]
  rw [if_neg (by simp)]
  have ht₁ : h₁.IsList l items := (hp _).extBut hs₁.extBut hlt
  refine wpAny_bind (wpAny_holding (wpAny_pyNext_list_end hh hit₁ ht₁ (by simp) fun h₂ he₂ => ?_))
  simp only [Option.isSome_none, Bool.false_eq_true, if_false]
  exact wpAny_pure (hQ h₂ fun b o hb e => he₂ b o hb (hs₁.extBut b o hb (Heap.get?_push_of_some _ e)))
theorem assign_Tuple_list {s : Shared} {env : PySem.Env} {elts : List Expr} {x1} {pos : Pos} {l : Addr} {items : Array Value} {Q : Unit → Shared → Prop} (hh : A.handled = none) (hl : s.heap.IsList l items)
    (hn : (assignEach elts env).length = items.size) (hstar : (assignEach elts env).findIdx? (·.1) = none)
    (h : ∀ h', Heap.ExtBut s.heap.objs.size s.heap h' → wpAny (model prog w) A (assignInOrder ((assignEach elts env).map (·.2)) items.toList) Q E { s with heap := h' }) :
    wpAny (model prog w) A (assign (.Tuple elts x1 pos) env (.ref l)) Q E s := by
  rw [assign_Tuple]
  refine wpAny_bind (wpAny_standAt ?_)
  unfold unpack
  rw [hn, hstar]
  exact wpAny_bind (wpAny_holding (unpackItems_list hh hl h))
end
noncomputable def gTupL (K : PySem.W.Frag) (n : Nat) (t : TGs) : TG := fun v σ H Q => ∃ a xs, v = .ref a ∧ (SqT K H a xs ∨ SqL K H a xs) ∧ xs.length = n ∧ t xs σ H Q
theorem pg_tupL {X : Cx} {es : List Expr} {k : Nat} {t : TGs} {n : Nat} {pos : Pos} (hc : X.calm = true) (h : PGs X es t)
    (hn : (assignEach es X.env).length = n := by rfl) (hst : (assignEach es X.env).findIdx? (·.1) = none := by rfl) : PG X (.Tuple es k pos) (gTupL X.K n t) := by
  refine ⟨fun pins s σ H v u Q I r hw => ?_⟩
  obtain ⟨a, xs, e1, hq, hl, hw⟩ := hw
  subst e1
  cases r
  rcases hq with hq | hq
  · obtain ⟨its, rv, ht, hz⟩ := I.tuple hq
    refine assign_Tuple_tuple (I.ok.hd hc) ht (by simp [hn, ← hl, rv.length]) hst fun h' hx => ?_
    have I1 : Inv X pins σ H { s with heap := h' } := I.kept (t' := s.toks) fun b o e => hx b o (Nat.ne_of_lt (Heap.lt_size e)) e
    exact h.run pins _ σ H xs _ Q I1 (by simpa using rv) hw
  · obtain ⟨its, rv, pl, hz⟩ := I.list hq
    refine assign_Tuple_list (I.ok.hd hc) pl.isList (by simp [hn, ← hl, rv.length]) hst fun h' hx => ?_
    have I1 : Inv X pins σ H { s with heap := h' } := I.kept (t' := s.toks) fun b o e => hx b o (Nat.ne_of_lt (Heap.lt_size e)) e
    exact h.run pins _ σ H xs _ Q I1 (by simpa using rv) hw
inductive RP where
  | nm (i : Nat)
  | tp (ps : List RP)
mutual
noncomputable def gP (K : PySem.W.Frag) : RP → TG
  | .nm i => gName i
  | .tp ps => gTupL K ps.length (gPs K ps)
noncomputable def gPs (K : PySem.W.Frag) : List RP → TGs
  | [] => L2.gNil
  | p :: ps => L2.gCons (gP K p) (gPs K ps)
end
mutual
noncomputable def bindP : RP → DV → DEnv → Option DEnv
  | .nm i, x, δ => some (δ.set i (some x))
  | .tp ps, x, δ => match x with
    | .d (.tuple ds) => bindPs ps ds δ
    | .d (.list ds) => bindPs ps ds δ
    | _ => none
noncomputable def bindPs : List RP → List PyData → DEnv → Option DEnv
  | [], [], δ => some δ
  | p :: ps, d :: ds, δ => match bindP p (.d d) δ with
    | some δ' => bindPs ps ds δ'
    | none => none
  | _, _, _ => none
end
mutual
noncomputable def slotsP : RP → List Nat
  | .nm i => [i]
  | .tp ps => slotsPs ps
noncomputable def slotsPs : List RP → List Nat
  | [] => []
  | p :: ps => slotsP p ++ slotsPs ps
end
theorem wipe_set {σ : L2.St} {x : Option V} {i : Nat} : ∀ {vs : List Nat}, i ∈ vs → wipe (σ.set i x) vs = wipe σ vs
  | v :: vs, h => by
    unfold wipe
    by_cases e : i = v
    · subst e
      by_cases h' : i ∈ vs
      · rw [wipe_set h']
      · have : ∀ vs : List Nat, (wipe (σ.set i x) vs) = (wipe σ vs) ∨ ∃ y, wipe (σ.set i x) vs = (wipe σ vs).set i y := by
          intro vs
          induction vs with
          | nil => exact .inr ⟨x, rfl⟩
          | cons u us ih =>
            unfold wipe
            rcases ih with ih | ⟨y, ih⟩
            · exact .inl (by rw [ih])
            · rw [ih]
              by_cases z : i = u
              · subst z; exact .inl (by simp)
              · exact .inr ⟨y, List.set_comm _ _ z⟩
        rcases this vs with q | ⟨y, q⟩
        · rw [q]
        · rw [q]; simp
    · have h' : i ∈ vs := by simpa [e] using h
      rw [wipe_set h']
mutual
theorem gP_bind {K : PySem.W.Frag} {H : Hp} : ∀ (p : RP) {x : DV} {v : V} {σ : L2.St} {δ δ' : DEnv}, bindP p x δ = some δ' → DatV K H v x → EnvR K H σ δ →
    ∃ σ2, EnvR K H σ2 δ' ∧ (∀ vs, (∀ i ∈ slotsP p, i ∈ vs) → wipe σ2 vs = wipe σ vs) ∧ ∀ Q, Q σ2 H → gP K p v σ H Q
  | .nm i, x, v, σ, δ, δ', h, D, E => by
    simp only [bindP, Option.some.injEq] at h
    subst h
    exact ⟨_, E.set i D, fun vs hv => wipe_set (hv i (by simp [slotsP])), fun Q q => q⟩
  | .tp ps, x, v, σ, δ, δ', h, D, E => by
    simp only [bindP] at h
    split at h
    · rename_i ds
      cases D with
      | tup hs ha =>
        obtain ⟨σ2, a, b, c, d⟩ := gPs_bind ps h ha E
        exact ⟨σ2, a, fun vs hv => b vs (by simpa [slotsP] using hv), fun Q q => ⟨_, _, rfl, .inl hs.sq, by rw [ha.length, d], c Q q⟩⟩
    · rename_i ds
      cases D with
      | lst hs ha =>
        obtain ⟨σ2, a, b, c, d⟩ := gPs_bind ps h ha E
        exact ⟨σ2, a, fun vs hv => b vs (by simpa [slotsP] using hv), fun Q q => ⟨_, _, rfl, .inr (.inl (.inr ⟨_, hs⟩)), by rw [ha.length, d], c Q q⟩⟩
    · cases h
theorem gPs_bind {K : PySem.W.Frag} {H : Hp} : ∀ (ps : List RP) {ds : List PyData} {vs : List V} {σ : L2.St} {δ δ' : DEnv}, bindPs ps ds δ = some δ' → FdAll K H vs ds → EnvR K H σ δ →
    ∃ σ2, EnvR K H σ2 δ' ∧ (∀ us, (∀ i ∈ slotsPs ps, i ∈ us) → wipe σ2 us = wipe σ us) ∧ (∀ Q, Q σ2 H → gPs K ps vs σ H Q) ∧ ds.length = ps.length
  | [], ds, vs, σ, δ, δ', h, D, E => by
    cases ds with
    | nil =>
      simp only [bindPs, Option.some.injEq] at h
      subst h
      cases D
      exact ⟨σ, E, fun _ _ => rfl, fun Q q => ⟨rfl, q⟩, rfl⟩
    | cons d ds => simp [bindPs] at h
  | p :: ps, ds, vs, σ, δ, δ', h, D, E => by
    cases ds with
    | nil => simp [bindPs] at h
    | cons d ds =>
      simp only [bindPs] at h
      split at h
      · rename_i δ1 h1
        cases D with
        | cons D1 D2 =>
          obtain ⟨σ1, a1, b1, c1⟩ := gP_bind p h1 (show DatV K H _ (.d d) from D1) E
          obtain ⟨σ2, a2, b2, c2, d2⟩ := gPs_bind ps h D2 a1
          refine ⟨σ2, a2, fun us hu => ?_, fun Q q => ⟨_, _, rfl, c1 _ (c2 Q q)⟩, by simp [d2]⟩
          rw [b2 us fun i hi => hu i (by simp [slotsPs, hi]), b1 us fun i hi => hu i (by simp [slotsPs, hi])]
      · cases h
end
noncomputable abbrev Src := Option (Addr × Option (List DV))
noncomputable def srcOk (src : Src) (xs : List DV) (HD : HDt) : Prop := match src with
  | none => True
  | some (a, none) => HD a = some (.lst xs)
  | some (a, some ys) => HD a = some (.lst ys)
structure ItOk (K : PySem.W.Frag) (J : It) (H0 : Hp) (src : Src) (xs : List DV) : Prop where
  go : ∀ (i : Nat) HD H, Ext H0 H → RepH K H HD → srcOk src xs HD → i < xs.length → J.go i H
  yld : ∀ (i : Nat) HD H x H', Ext H0 H → RepH K H HD → srcOk src xs HD → i < xs.length → J.yld i H x H' → ∃ y, xs[i]? = some y ∧ DatV K H' x y ∧ RepH K H' HD ∧ Frm H HD H' HD
  stop : ∀ (i : Nat) HD H, Ext H0 H → RepH K H HD → srcOk src xs HD → xs.length ≤ i → J.stop i H
theorem ItOk.ext {K : PySem.W.Frag} {J : It} {H0 H1 : Hp} {src : Src} {xs : List DV} (a : ItOk K J H0 src xs) (e : Ext H0 H1) : ItOk K J H1 src xs :=
  ⟨fun i HD H e' => a.go i HD H (e.trans e'), fun i HD H x H' e' => a.yld i HD H x H' (e.trans e'), fun i HD H e' => a.stop i HD H (e.trans e')⟩
noncomputable abbrev GI := DEnv → HDt → (Src → List DV → HDt → Prop) → Prop
noncomputable def upI (K : PySem.W.Frag) (g : GI) : TI := fun σ H R => ∃ δ HD Qd, EnvR K H σ δ ∧ RepH K H HD ∧ g δ HD Qd ∧
  ∀ src xs HD' J H', Qd src xs HD' → ItOk K J H' src xs → srcOk src xs HD' → RepH K H' HD' → Frm H HD H' HD' → R J H'
noncomputable def forW (src : Src) (bd : DV → DEnv → Option DEnv) (body : GS) (D : DEnds) (all : List DV) : List DV → DEnv → HDt → Prop
  | [], δ, HD => srcOk src all HD ∧ D.nx δ HD
  | x :: xs, δ, HD => srcOk src all HD ∧ match bd x δ with
    | some δ' => body ⟨forW src bd body D all xs, D.rt, D.nx, forW src bd body D all xs⟩ δ' HD
    | none => False
noncomputable def gFor (gi : GI) (bd : DV → DEnv → Option DEnv) (body : GS) : GS := fun D δ HD => gi δ HD fun src xs HD1 => forW src bd body D xs xs δ HD1
theorem drop_at {α : Type} {xs : List α} {i : Nat} (h : i < xs.length) : ∃ y, xs[i]? = some y ∧ xs.drop i = y :: xs.drop (i + 1) :=
  ⟨xs[i], List.getElem?_eq_getElem h, List.drop_eq_getElem_cons h⟩
section
variable {X : Cx}
theorem ds_for {tg iter : Expr} {body : List Stmt} {gi : GI} {p : RP} {gb : GS} {pos : Pos} (hx : X.xe = fun _ _ => False) (hc : X.calm = true) (hi : PI X tg iter (upI X.K gi)) (hg : PG X tg (gP X.K p)) (hb : PSs X body (upS X.K gb))
    (hs : ∀ x, foldedSetIterable iter X.env x = pure x) : PS X (.For tg iter body [] pos) (upS X.K (gFor gi (bindP p) gb)) := by
  refine ps_imp (ps_for (by rw [hx]; exact PassesOwn.never) hc hi hg hb hs) fun D σ H ⟨δ, HD, Dd, E, R, h, l⟩ => ?_
  refine ⟨δ, HD, _, E, R, h, fun src xs HD1 J H1 hq it so R1 fr => ?_⟩
  refine ⟨fun i m σ' H' => ∃ δ' HD', EnvR X.K H' σ' δ' ∧ RepH X.K H' HD' ∧ forW src (bindP p) gb Dd xs (xs.drop i) δ' HD' ∧ Frm H1 HD1 H' HD' ∧ m = xs.length - i ∧ i ≤ xs.length,
    ⟨xs.length, δ, HD1, E.ext fr.1, R1, hq, Frm.refl, by simp, Nat.zero_le _⟩, ?_⟩
  rintro i m σ2 H2 ⟨δ2, HD2, E2, R2, f2, fr2, em, il⟩
  by_cases hlt : i < xs.length
  · right
    obtain ⟨y, hy, hdr⟩ := drop_at hlt
    rw [hdr] at f2
    obtain ⟨so2, f2⟩ := f2
    refine ⟨it.go i HD2 H2 fr2.1 R2 so2 hlt, fun σ' H' => ∃ δ' HD', EnvR X.K H' σ' δ' ∧ RepH X.K H' HD' ∧ forW src (bindP p) gb Dd xs (xs.drop (i + 1)) δ' HD' ∧ Frm H1 HD1 H' HD',
      fun σ' H' ⟨δ', HD', a, b, c, d⟩ => ⟨xs.length - (i + 1), by omega, δ', HD', a, b, c, d, rfl, hlt⟩, fun x H3 hyl => ?_⟩
    obtain ⟨y', hy', dy, R3, fr3⟩ := it.yld i HD2 H2 x H3 fr2.1 R2 so2 hlt hyl
    rw [hy] at hy'
    cases hy'
    split at f2
    · rename_i δ3 hb3
      obtain ⟨σ3, E3, _, c⟩ := gP_bind p hb3 dy (E2.ext fr3.1)
      refine c _ ⟨δ3, HD2, _, E3, R3, f2, ?_⟩
      have frA := fr.trans (fr2.trans fr3)
      exact ⟨fun δ4 HD4 σ4 H4 q E4 R4 fr4 => ⟨δ4, HD4, E4, R4, q, fr2.trans (fr3.trans fr4)⟩, l.rt.ext frA, l.nx.ext frA, fun δ4 HD4 σ4 H4 q E4 R4 fr4 => ⟨δ4, HD4, E4, R4, q, fr2.trans (fr3.trans fr4)⟩⟩
    · exact f2.elim
  · left
    have hdr : xs.drop i = [] := List.drop_eq_nil_of_le (by omega)
    rw [hdr] at f2
    exact ⟨it.stop i HD2 H2 fr2.1 R2 f2.1 (by omega), l.nx _ _ _ _ f2.2 E2 R2 (fr.trans fr2)⟩
end
noncomputable def compW (src : Src) (bd : DV → DEnv → Option DEnv) (gt : GT) (ge : GE) (δ0 : DEnv) (all : List DV) : List DV → HDt → (List DV → HDt → Prop) → Prop
  | [], HD, Q => srcOk src all HD ∧ Q [] HD
  | x :: xs, HD, Q => srcOk src all HD ∧ match bd x δ0 with
    | some δ' => gt δ' HD fun b HD1 => if b = true then ge δ' HD1 fun y HD2 => compW src bd gt ge δ0 all xs HD2 fun ys HD3 => Q (y :: ys) HD3 else compW src bd gt ge δ0 all xs HD1 Q
    | none => False
noncomputable def gComp (own : Bool) (vs : List Nat) (gi : GI) (bd : DV → DEnv → Option DEnv) (gt : GT) (ge : GE) : GE := fun δ HD Q =>
  gi δ HD fun src xs HD1 => xs.length ≤ sizeLine ∧ compW src bd gt ge (dwipe δ vs) xs xs HD1 fun ys HD2 => mkL own ys HD2 Q
noncomputable def tNew (own : Bool) (t : TE) : TE := fun σ H Q => t σ H fun v H1 => if own = true then Q v H1 else ∃ p vs, v = .ref p ∧ H1 p = some (.lst vs) ∧ ∀ o, Q v (upd H1 p (.frz o (.lst vs)))
section
variable {X : Cx}
theorem pe_new {e : Expr} {t : TE} (own : Bool) (h : PE X e t) : PE X e (tNew own t) := by
  refine ⟨fun pins s σ H Q I q => thn (h.run pins s σ H _ I q) fun u s' ⟨v, H', I', r, q'⟩ => ?_⟩
  split at q'
  · exact ⟨v, H', I', r, q'⟩
  · obtain ⟨p, vs, rfl, hp, q'⟩ := q'
    obtain ⟨o, I1⟩ := Inv.lock I' hp trivial
    exact ⟨_, _, I1, r, q' o⟩
theorem mkL_new {K : PySem.W.Frag} {H H' : Hp} {HD HD' : HDt} {own : Bool} {xs : List DV} {vs : List V} {Qd : DQ} {Q : VK} {p : Addr} (hp : H p = none) (hp' : H' p = some (.lst vs)) (hd : HD' p = none) (D : DatAll K H' vs xs) (R : RepH K H' HD') (fr : Frm H HD H' HD')
    (h : mkL own xs HD' Qd) (l : Lk K H HD Qd Q) : if own = true then Q (.ref p) H' else ∃ q ws, V.ref p = .ref q ∧ H' q = some (.lst ws) ∧ ∀ o, Q (.ref p) (upd H' q (.frz o (.lst ws))) := by
  have m : Mut (H' p) := by rw [hp']; trivial
  have ne : ∀ {q : Addr} {o : HO}, H q = some o → q ≠ p := fun e => ne_of_none e hp
  unfold mkL at h
  split
  · rename_i eo
    rw [if_pos eo] at h
    refine l _ _ _ _ (h p hd) rfl (fun q c hq => ?_) ⟨fr.1, fun q o e n => ?_, fr.2.2⟩
    · by_cases z : q = p
      · subst z
        rw [dset_same] at hq
        cases hq
        exact ⟨vs, hp', D⟩
      · rw [dset_ne z] at hq
        exact R q c hq
    · obtain ⟨a, b⟩ := fr.2.1 q o e n
      exact ⟨a, (dset_ne (ne e)).trans b⟩
  · rename_i eo
    rw [if_neg eo] at h
    refine ⟨p, vs, rfl, hp', fun o => ?_⟩
    split at h
    · rename_i ds hds
      have e := dats_some hds
      subst e
      refine l _ _ _ _ h (Fd.lst upd_same (D.fd.ext (Ext.mut m))) (R.to (Ext.mut m) fun q c hq => upd_ne fun z => ?_) (fr.over hp m)
      subst z; rw [hd] at hq; cases hq
    · exact h.elim
theorem wipe_wipe {σ : L2.St} : ∀ {vs us : List Nat}, (∀ i ∈ us, i ∈ vs) → wipe (wipe σ us) vs = wipe σ vs
  | vs, [], _ => rfl
  | vs, u :: us, h => by
    show wipe ((wipe σ us).set u none) vs = _
    rw [wipe_set (h u (by simp)), wipe_wipe fun i hi => h i (by simp [hi])]
theorem comp_read {K : PySem.W.Frag} {gi : GI} {p : RP} {gt : GT} {ge : GE} {own : Bool} {vs : List Nat} {σ : L2.St} {H : Hp} {Q : VK} (hv : ∀ i ∈ slotsP p, i ∈ vs) (h : up K (gComp own vs gi (bindP p) gt ge) σ H Q) :
    tNew own (tLc (upI K gi) (gP K p) (upT K gt) (up K ge) vs) σ H Q := by
  obtain ⟨δ, HD, Qd, E, R, h, l⟩ := h
  refine ⟨δ, HD, _, E, R, h, fun src xs HD1 J H1 hq it so R1 fr P hP => ?_⟩
  obtain ⟨hsz, hq⟩ := hq
  have hPH : H P = none := fr.2.2 P hP
  refine ⟨fun i m H' => ∃ HD' acc accv, H' P = some (.lst accv) ∧ HD' P = none ∧ RepH K H' HD' ∧ DatAll K H' accv acc ∧ compW src (bindP p) gt ge (dwipe δ vs) xs (xs.drop i) HD' (fun ys HD3 => mkL own (acc ++ ys) HD3 Qd) ∧
      Frm H1 HD1 H' HD' ∧ acc.length ≤ i ∧ i ≤ xs.length ∧ m = xs.length - i,
    ⟨xs.length, HD1, [], [], upd_same, R1.none hP, R1.new hP, .nil, hq, Frm.new hP, Nat.le_refl _, Nat.zero_le _, by simp⟩, ?_⟩
  rintro i m H2 ⟨HD2, acc, accv, hacc, hnone, R2, D2, f2, fr2, hai, il, em⟩
  have hal := Paired.length D2
  by_cases hlt : i < xs.length
  · right
    obtain ⟨y, hy, hdr⟩ := drop_at hlt
    rw [hdr] at f2
    obtain ⟨so2, f2⟩ := f2
    refine ⟨it.go i HD2 H2 fr2.1 R2 so2 hlt, fun H' => ∃ HD' acc accv, H' P = some (.lst accv) ∧ HD' P = none ∧ RepH K H' HD' ∧ DatAll K H' accv acc ∧ compW src (bindP p) gt ge (dwipe δ vs) xs (xs.drop (i + 1)) HD' (fun ys HD3 => mkL own (acc ++ ys) HD3 Qd) ∧
        Frm H1 HD1 H' HD' ∧ acc.length ≤ i + 1,
      fun H' ⟨HD', acc, accv, a1, a2, a3, a4, a5, a6, a7⟩ => ⟨xs.length - (i + 1), by omega, HD', acc, accv, a1, a2, a3, a4, a5, a6, a7, hlt, rfl⟩, fun x H3 hyl => ?_⟩
    obtain ⟨y', hy', dy, R3, fr3⟩ := it.yld i HD2 H2 x H3 fr2.1 R2 so2 hlt hyl
    rw [hy] at hy'
    cases hy'
    split at f2
    · rename_i δ3 hb3
      obtain ⟨σ3, E3, wp, c⟩ := gP_bind p hb3 dy ((E.wipe vs).ext (fr.1.trans (fr2.1.trans fr3.1)))
      refine c _ ⟨(wp vs hv).trans (wipe_wipe fun i h => h), δ3, HD2, _, E3, R3, f2, fun b HD4 H4 q R4 fr4 => ?_⟩
      obtain ⟨p3, n3⟩ := fr3.2.1 P _ hacc hnone
      obtain ⟨p4, n4⟩ := fr4.2.1 P _ p3 n3
      cases b with
      | true =>
        rw [if_pos rfl] at q ⊢
        refine ⟨δ3, HD4, _, E3.ext fr4.1, R4, q, fun z HD5 v H5 q5 d5 R5 fr5 => ?_⟩
        obtain ⟨p5, n5⟩ := fr5.2.1 P _ p4 n4
        have m5 : Mut (H5 P) := by rw [p5]; trivial
        refine ⟨accv, p5, by omega, HD5, acc ++ [z], accv ++ [v], upd_same, n5, R5.to (Ext.mut m5) fun q c hq => upd_ne fun e => ?_, ?_, ?_, ?_, by simp; omega⟩
        · subst e; rw [n5] at hq; cases hq
        · exact Paired.app (D2.ext (fr3.1.trans (fr4.1.trans (fr5.1.trans (Ext.mut m5))))) (.cons (d5.ext (Ext.mut m5)) .nil)
        · have e : (fun (ys : List DV) HD3 => mkL own (acc ++ [z] ++ ys) HD3 Qd) = fun ys HD3 => mkL own (acc ++ z :: ys) HD3 Qd := by
            funext ys HD3
            simp
          rw [e]
          exact q5
        · exact Frm.over (fr2.trans (fr3.trans (fr4.trans fr5))) hP m5
      | false =>
        rw [if_neg (by simp)] at q ⊢
        exact ⟨HD4, acc, accv, p4, n4, R4, D2.ext (fr3.1.trans fr4.1), q, fr2.trans (fr3.trans fr4), by omega⟩
    · exact f2.elim
  · left
    have hdr : xs.drop i = [] := List.drop_eq_nil_of_le (by omega)
    rw [hdr] at f2
    refine ⟨it.stop i HD2 H2 fr2.1 R2 f2.1 (by omega), ?_⟩
    have q : mkL own (acc ++ []) HD2 Qd := f2.2
    rw [List.append_nil] at q
    exact mkL_new hPH hacc hnone D2 R2 (fr.trans fr2) q l
end
noncomputable def srcOf : DV → Src
  | .r a => some (a, none)
  | _ => none
noncomputable def gSeq (ge : GE) : GI := fun δ HD Q => ge δ HD fun x HD1 => match seqD HD1 x with
  | some xs => xs.length ≤ sizeLine → Q (srcOf x) xs HD1
  | none => False
noncomputable def rngQ1 (Q : Src → List DV → HDt → Prop) : List DV → HDt → Prop := fun ds HD => match ds with
  | [.d (.int j)] => (-(2 ^ 62) ≤ j ∧ j < 2 ^ 62) ∧ Q none ((List.range j.toNat).map fun (i : Nat) => .d (.int (0 + (i : Int)))) HD
  | _ => False
noncomputable def rngQ2 (Q : Src → List DV → HDt → Prop) : List DV → HDt → Prop := fun ds HD => match ds with
  | [.d (.int i), .d (.int j)] => (-(2 ^ 62) ≤ i ∧ i < 2 ^ 62 ∧ -(2 ^ 62) ≤ j ∧ j < 2 ^ 62) ∧ Q none ((List.range (j - i).toNat).map fun (k : Nat) => .d (.int (i + (k : Int)))) HD
  | _ => False
noncomputable def gRng1 (ga : GE) : GI := fun δ HD Q => ga δ HD fun x HD1 => rngQ1 Q [x] HD1
noncomputable def gRng2 (ga gb : GE) : GI := fun δ HD Q => ga δ HD fun x HD1 => gb δ HD1 fun y HD2 => rngQ2 Q [x, y] HD2
section
variable {K : PySem.W.Frag} {H : Hp}
theorem itl_ok {p : Addr} {vs : List V} {xs : List DV} {H0 : Hp} {src : Src} (hs : ∀ HD H, Ext H0 H → RepH K H HD → srcOk src xs HD → ∃ ws, SqL K H p ws ∧ DatAll K H ws xs) : ItOk K (Itl K p) H0 src xs := by
  refine ⟨fun i HD H e R so hi => ?_, fun i HD H x H' e R so hi hy => ?_, fun i HD H e R so hi => ?_⟩
  · obtain ⟨ws, h1, h2⟩ := hs HD H e R so
    obtain ⟨y, hy, _⟩ := drop_at hi
    obtain ⟨x, hx, _⟩ := Paired.get2 h2 hy
    exact ⟨ws, x, h1, hx⟩
  · obtain ⟨rfl, hx⟩ := hy
    obtain ⟨ws, h1, h2⟩ := hs HD _ e R so
    obtain ⟨y, hy, d⟩ := Paired.get1 h2 (hx ws h1)
    exact ⟨y, hy, d, R, Frm.refl⟩
  · obtain ⟨ws, h1, h2⟩ := hs HD H e R so
    exact ⟨ws, h1, by rw [Paired.length h2]; exact hi⟩
theorem itt_ok {p : Addr} {xs : List DV} {H0 : Hp} (hs : ∀ H, Ext H0 H → ∃ ws, SqT K H p ws ∧ DatAll K H ws xs) : ItOk K (Itt K p) H0 none xs := by
  refine ⟨fun i HD H e R so hi => ?_, fun i HD H x H' e R so hi hy => ?_, fun i HD H e R so hi => ?_⟩
  · obtain ⟨ws, h1, h2⟩ := hs H e
    obtain ⟨y, hy, _⟩ := drop_at hi
    obtain ⟨x, hx, _⟩ := Paired.get2 h2 hy
    exact ⟨ws, x, h1, hx⟩
  · obtain ⟨rfl, hx⟩ := hy
    obtain ⟨ws, h1, h2⟩ := hs _ e
    obtain ⟨y, hy, d⟩ := Paired.get1 h2 (hx ws h1)
    exact ⟨y, hy, d, R, Frm.refl⟩
  · obtain ⟨ws, h1, h2⟩ := hs H e
    exact ⟨ws, h1, by rw [Paired.length h2]; exact hi⟩
theorem itr_ok {lo : Int} {n : Nat} {H0 : Hp} : ItOk K (Itr lo n) H0 none ((List.range n).map fun (i : Nat) => DV.d (.int (lo + (i : Int)))) := by
  refine ⟨fun i HD H e R so hi => by simpa [Itr] using hi, fun i HD H x H' e R so hi hy => ?_, fun i HD H e R so hi => by simpa [Itr] using hi⟩
  obtain ⟨rfl, rfl⟩ := hy
  have hi' : i < n := by simpa using hi
  exact ⟨.d (.int (lo + (i : Int))), by simp [hi'], Fd.int _, R, Frm.refl⟩
theorem seq_later {HD : HDt} {v : V} {x : DV} {xs : List DV} (h : DatV K H v x) (R : RepH K H HD) (e : seqD HD x = some xs) :
    ∃ p, v = .ref p ∧ srcOk (srcOf x) xs HD ∧ ((∃ ws, SqL K H p ws) ∧ (∀ HD' H', Ext H H' → RepH K H' HD' → srcOk (srcOf x) xs HD' → ∃ ws, SqL K H' p ws ∧ DatAll K H' ws xs) ∨
      (srcOf x = none ∧ (∃ ws, SqT K H p ws) ∧ ∀ H', Ext H H' → ∃ ws, SqT K H' p ws ∧ DatAll K H' ws xs)) := by
  cases x with
  | d y =>
    cases y <;> simp [seqD, listD] at e
    · subst e
      cases h with
      | lst hs ha => exact ⟨_, rfl, trivial, .inl ⟨⟨_, .inl (.inr ⟨_, hs⟩)⟩, fun HD' H' e _ _ => ⟨_, .inl (.inr ⟨_, e.2 _ _ _ hs⟩), (ha.ext e).dat⟩⟩⟩
    · subst e
      cases h with
      | tup hs ha => exact ⟨_, rfl, trivial, .inr ⟨rfl, ⟨_, hs.sq⟩, fun H' e => ⟨_, SqT.ext hs.sq e, (ha.ext e).dat⟩⟩⟩
  | r a =>
    simp only [seqD, listD] at e
    split at e
    · rename_i ys hy
      cases e
      obtain ⟨vs, h1, h2⟩ := R a _ hy
      refine ⟨a, h, hy, .inl ⟨⟨vs, .inl (.inl h1)⟩, fun HD' H' e R' so => ?_⟩⟩
      obtain ⟨ws, q1, q2⟩ := R' a _ (show HD' a = some (.lst xs) from so)
      exact ⟨ws, .inl (.inl q1), q2⟩
    · cases e
  | x E => simp [seqD, listD] at e
  | w ns =>
    simp [seqD] at e
    subst e
    obtain ⟨a, rfl, hq⟩ := h
    refine ⟨a, rfl, trivial, .inl ⟨⟨_, hq.sq⟩, fun HD' H' e _ _ => ⟨_, ?_, ints_dat ns⟩⟩⟩
    have : SqW K H' a (ns.map V.int) := hq.imp (fun ⟨o, h⟩ => ⟨o, e.2 _ _ _ h⟩) id
    exact this.sq
end
section
variable {X : Cx} {tg : Expr}
theorem pi_len {it : Expr} {wi : TI} (h : PI X tg it wi) : PI X tg it (fun σ H R => wi σ H fun J H' => ∃ (a : Addr) (xs : List V), (SqL X.K H' a xs ∨ SqT X.K H' a xs) ∧ (xs.length ≤ sizeLine → R J H')) := by
  refine ⟨fun pins s σ H R I q => thn (h.run pins s σ H _ I q) fun v s1 h1 => thn h1 fun itv s2 h2 => ?_⟩
  obtain ⟨it, fp, tn, J, H', e, I2, T, st, fk, a, xs, hx, q⟩ := h2
  refine ⟨it, fp, tn, J, H', e, I2, T, st, fk, q ?_⟩
  rcases hx with hx | hx
  · obtain ⟨_, _, _, z⟩ := I2.list hx; exact z
  · obtain ⟨_, _, _, z⟩ := I2.tuple hx; exact z
theorem pi_seq2 {l : Expr} {tl : TE} (hl : PE X l tl) : PI X tg l (fun σ H R => tl σ H fun x H1 => ∃ a, x = .ref a ∧ (((∃ xs, SqL X.K H1 a xs) ∧ R (Itl X.K a) H1) ∨ ((∃ xs, SqT X.K H1 a xs) ∧ R (Itt X.K a) H1))) := by
  refine ⟨fun pins s σ H R I h => thn (hl.run pins s σ H _ I h) fun v s1 ⟨x, H1, I1, r1, a, hxa, q1⟩ => ?_⟩
  subst hxa
  cases r1
  have fresh : ∀ b ∈ [s1.heap.objs.size], FpOk X pins H1 b := fun b hb => by
    cases List.mem_singleton.mp hb
    exact I1.fpOk (Nat.le_refl _) I1.fresh
  have I2 : ∀ o, Inv X pins σ H1 { s1 with heap := s1.heap.push o } := fun o => I1.kept (t' := s1.toks) fun b ob e => Heap.get?_push_of_some _ e
  rcases q1 with ⟨⟨xs, hq⟩, q⟩ | ⟨⟨xs, hq⟩, q⟩
  · obtain ⟨its, rv, pl, hz⟩ := I1.list hq
    exact wpAny_pyIter_list pl.isList
      ⟨s1.heap.objs.size, [s1.heap.objs.size], _, _, H1, rfl, I2 _, turn_list a _, ⟨_, Heap.get?_push_size _ rfl, rfl, rfl⟩, fresh, q⟩
  · obtain ⟨its, rv, pl, hz⟩ := I1.tuple hq
    exact wpAny_pyIter_tuple (show s1.heap.IsTuple a its.toArray from pl)
      ⟨s1.heap.objs.size, [s1.heap.objs.size], _, _, H1, rfl, I2 _, turn_tuple a _, ⟨_, Heap.get?_push_size _ rfl, rfl, rfl⟩, fresh, q⟩
theorem di_seq {l : Expr} {ge : GE} (hl : PE X l (up X.K ge)) : PI X tg l (upI X.K (gSeq ge)) := by
  refine ⟨fun pins s σ H R I h => (pi_len (pi_seq2 hl)).run pins s σ H R I ?_⟩
  obtain ⟨δ, HD, Qd, E, Rp, h, l⟩ := h
  refine ⟨δ, HD, _, E, Rp, h, fun d HD1 v H1 q dv R1 fr => ?_⟩
  split at q
  · rename_i xs hxs
    obtain ⟨p, rfl, so, hl⟩ := seq_later dv R1 hxs
    refine ⟨p, rfl, ?_⟩
    rcases hl with ⟨⟨ws, hw⟩, hl⟩ | ⟨hn, ⟨ws, hw⟩, hl⟩
    · obtain ⟨us, u1, u2⟩ := hl HD1 H1 Ext.refl R1 so
      exact .inl ⟨⟨ws, hw⟩, p, us, .inl u1, fun z => l _ _ _ _ _ (q (by rw [← Paired.length u2]; exact z)) (itl_ok (vs := us) hl) so R1 fr⟩
    · obtain ⟨us, u1, u2⟩ := hl H1 Ext.refl
      rw [hn] at q
      exact .inr ⟨⟨ws, hw⟩, p, us, .inr u1, fun z => l _ _ _ _ _ (q (by rw [← Paired.length u2]; exact z)) (itt_ok hl) trivial R1 fr⟩
  · exact q.elim
theorem di_rng1 {a : Expr} {ga : GE} {p pos : Pos} (hg : Gl X "range") (hm : X.mg "range" = none) (ha : PE X a (up X.K ga)) (hs : starEach [a] X.env = [(false, eval a X.env)]) : PI X tg (.Call (.Name "range" p) [a] [] pos) (upI X.K (gRng1 ga)) := by
  refine ⟨fun pins s σ H R I h => (pi_range1 hg hm (da_cons ha da_nil hs) hs).run pins s σ H R I ?_⟩
  obtain ⟨δ, HD, Qd, E, Rp, h, l⟩ := h
  refine ⟨δ, HD, rngQ1 Qd, E, Rp, h, fun ds HD1 vs H1 q dv R1 fr => ?_⟩
  unfold rngQ1 at q
  split at q
  · match vs, dv with
    | [v], .cons d .nil =>
      cases d
      exact ⟨_, rfl, q.1.1, q.1.2, l _ _ _ _ _ q.2 itr_ok trivial R1 fr⟩
  · exact q.elim
theorem di_rng2 {a b : Expr} {ga gb : GE} {p pos : Pos} (hg : Gl X "range") (hm : X.mg "range" = none) (ha : PE X a (up X.K ga)) (hb : PE X b (up X.K gb)) (hs : starEach [a, b] X.env = [(false, eval a X.env), (false, eval b X.env)]) (hs2 : starEach [b] X.env = [(false, eval b X.env)]) :
    PI X tg (.Call (.Name "range" p) [a, b] [] pos) (upI X.K (gRng2 ga gb)) := by
  refine ⟨fun pins s σ H R I h => (pi_range2 hg hm (da_cons ha (da_cons hb da_nil hs2) (by rw [hs, hs2])) hs hs2).run pins s σ H R I ?_⟩
  obtain ⟨δ, HD, Qd, E, Rp, h, l⟩ := h
  refine ⟨δ, HD, rngQ2 Qd, E, Rp, h, fun ds HD1 vs H1 q dv R1 fr => ?_⟩
  unfold rngQ2 at q
  split at q
  · match vs, dv with
    | [v, w'], .cons d (.cons d' .nil) =>
      cases d
      cases d'
      exact ⟨_, _, rfl, q.1, l _ _ _ _ _ q.2 itr_ok trivial R1 fr⟩
  · exact q.elim
end
noncomputable def gAndV (ga gb : GE) : GE := fun δ HD Q => ga δ HD fun x HD1 => match x with
  | .d (.bool c) => if c = true then gb δ HD1 Q else Q (.d (.bool false)) HD1
  | _ => False
noncomputable def gOrV (ga gb : GE) : GE := fun δ HD Q => ga δ HD fun x HD1 => match x with
  | .d (.bool c) => if c = true then Q (.d (.bool true)) HD1 else gb δ HD1 Q
  | _ => False
noncomputable def gNotV (ga : GE) : GE := fun δ HD Q => ga δ HD fun x HD1 => match x with
  | .d (.bool c) => Q (.d (.bool (!c))) HD1
  | _ => False
noncomputable def gNeg (ga : GE) : GE := fun δ HD Q => ga δ HD fun x HD1 => match x with
  | .d (.int i) => Q (.d (.int (-i))) HD1
  | _ => False
noncomputable def gBool (Q : Bool → HDt → Prop) : DQ := fun x HD1 => match x with
  | .d (.bool c) => Q c HD1
  | _ => False
noncomputable def gVal (ga : GE) : GT := fun δ HD Q => ga δ HD (gBool Q)
noncomputable def gTru (Q : Bool → HDt → Prop) : DQ := fun x HD1 => match x with
  | .d (.bool c) => Q c HD1
  | .d (.int i) => Q (i != 0) HD1
  | _ => False
noncomputable def gValI (ga : GE) : GT := fun δ HD Q => ga δ HD (gTru Q)
noncomputable def gNotT (ga : GT) : GT := fun δ HD Q => ga δ HD fun c HD1 => Q (!c) HD1
noncomputable def gAndT (ga gb : GT) : GT := fun δ HD Q => ga δ HD fun c HD1 => if c = true then gb δ HD1 Q else Q false HD1
noncomputable def gOrT (ga gb : GT) : GT := fun δ HD Q => ga δ HD fun c HD1 => if c = true then Q true HD1 else gb δ HD1 Q
noncomputable def gIfE (gt : GT) (ga gb : GE) : GE := fun δ HD Q => gt δ HD fun c HD1 => if c = true then ga δ HD1 Q else gb δ HD1 Q
noncomputable def gTup (ga : GA) : GE := fun δ HD Q => ga δ HD fun xs HD1 => match dats xs with
  | some ds => ds.length ≤ sizeLine ∧ Q (.d (.tuple ds)) HD1
  | none => False
noncomputable def gLst (own : Bool) (ga : GA) : GE := fun δ HD Q => ga δ HD fun xs HD1 => xs.length ≤ sizeLine ∧ mkL own xs HD1 Q
noncomputable def gChain (g g' : G2) (ga gb gc : GE) : GE := fun δ HD Q => ga δ HD fun x HD1 => gb δ HD1 fun y HD2 => g x y HD2 fun z HD3 => match z with
  | .d (.bool c) => if c = true then gc δ HD3 fun u HD4 => g' y u HD4 Q else Q (.d (.bool false)) HD3
  | _ => False
noncomputable abbrev GO := DEnv → HDt → (Option Int → HDt → Prop) → Prop
noncomputable def gNoPart : GO := fun _ HD Q => Q none HD
noncomputable def gPart (ge : GE) : GO := fun δ HD Q => ge δ HD fun x HD1 => match x with
  | .d (.int i) => Q (some i) HD1
  | _ => False
noncomputable def upO (K : PySem.W.Frag) (g : GO) : TO := fun σ H Q => ∃ δ HD Qd, EnvR K H σ δ ∧ RepH K H HD ∧ g δ HD Qd ∧ ∀ o HD' H', Qd o HD' → RepH K H' HD' → Frm H HD H' HD' → Q o H'
noncomputable def gSl (own : Bool) (ge : GE) (gl gh : GO) : GE := fun δ HD Q => ge δ HD fun x HD1 => gl δ HD1 fun l HD2 => gh δ HD2 fun u HD3 => dSl own x l u HD3 Q
section
variable {X : Cx} {a b c : Expr} {rest : List Expr} {ga gb gc : GE} {ta tb : GT} {pos : Pos}
theorem fd_bool {K : PySem.W.Frag} {H : Hp} {v : V} {b : Bool} (h : DatV K H v (.d (.bool b))) : v = .bl b := by cases h; rfl
theorem fd_int {K : PySem.W.Frag} {H : Hp} {v : V} {i : Int} (h : DatV K H v (.d (.int i))) : v = .int i := by cases h; rfl
theorem de_neg (ha : PE X a (up X.K ga)) : PE X (.UnaryOp .USub a pos) (up X.K (gNeg ga)) :=
  pe_imp (pe_un un_neg ha) fun σ H Q ⟨δ, HD, Qd, E, R, h, l⟩ => by
    refine ⟨δ, HD, _, E, R, h, fun d HD1 v H1 q dv R1 fr => ?_⟩
    split at q
    · exact ⟨_, fd_int dv, l _ _ _ _ q (Fd.int _) R1 fr⟩
    · exact q.elim
theorem gBool_lk {K : PySem.W.Frag} {H : Hp} {HD : HDt} {Qd : Bool → HDt → Prop} {Q : Bool → Hp → Prop} (l : LkT K H HD Qd Q) : Lk K H HD (gBool Qd) fun x H1 => ∃ c, x = .bl c ∧ Q c H1 := fun d HD1 v H1 q dv R1 fr => by
  unfold gBool at q
  split at q
  · exact ⟨_, fd_bool dv, l _ _ _ q R1 fr⟩
  · exact q.elim
theorem pt_valI {e : Expr} {t : TE} (h : PE X e t) (he : ∀ whole, isTrue e X.env whole = (do let v ← whole; standAt e.pos; holding [v] (truthy v))) : PT X e fun σ H Q => t σ H fun x H1 => (∃ c, x = .bl c ∧ Q c H1) ∨ (∃ i : Int, x = .int i ∧ Q (i != 0) H1) := by
  refine ⟨fun pins s σ H Q I hw => ?_⟩
  refine isTrue_plain (thn (h.run pins s σ H _ I hw) fun v s1 ⟨x, H1, I1, r1, q1⟩ => ?_) (he _)
  rcases q1 with ⟨d, rfl, q⟩ | ⟨d, rfl, q⟩
  · cases r1
    exact wpAny_truthy_bool ⟨H1, I1, q⟩
  · obtain ⟨t, rfl⟩ := r1
    exact truthy_int ⟨H1, I1, q⟩
theorem gTru_lk {K : PySem.W.Frag} {H : Hp} {HD : HDt} {Qd : Bool → HDt → Prop} {Q : Bool → Hp → Prop} (l : LkT K H HD Qd Q) : Lk K H HD (gTru Qd) fun x H1 => (∃ c, x = .bl c ∧ Q c H1) ∨ (∃ i : Int, x = .int i ∧ Q (i != 0) H1) := fun d HD1 v H1 q dv R1 fr => by
  unfold gTru at q
  split at q
  · exact .inl ⟨_, fd_bool dv, l _ _ _ q R1 fr⟩
  · exact .inr ⟨_, fd_int dv, l _ _ _ q R1 fr⟩
  · exact q.elim
theorem dt_valI (ha : PE X a (up X.K ga)) (he : ∀ whole, isTrue a X.env whole = (do let v ← whole; standAt a.pos; holding [v] (truthy v))) : PT X a (upT X.K (gValI ga)) :=
  pt_imp (pt_valI ha he) fun σ H Q ⟨δ, HD, Qd, E, R, h, l⟩ => ⟨δ, HD, _, E, R, h, gTru_lk l⟩
theorem dt_not (ha : PT X a (upT X.K ta)) : PT X (.UnaryOp .Not a pos) (upT X.K (gNotT ta)) :=
  pt_imp (pt_not ha) fun σ H Q ⟨δ, HD, Qd, E, R, h, l⟩ => ⟨δ, HD, _, E, R, h, fun c HD1 H1 q R1 fr => l _ _ _ q R1 fr⟩
theorem dw_and (ha : PT X a (upT X.K ta)) (hb : PW X (.BoolOp .And (b :: rest) pos) (upT X.K tb)) : PW X (.BoolOp .And (a :: b :: rest) pos) (upT X.K (gAndT ta tb)) :=
  pw_imp (pw_and ha hb) fun σ H Q ⟨δ, HD, Qd, E, R, h, l⟩ => by
    refine ⟨δ, HD, _, E, R, h, fun c HD1 H1 q R1 fr => ?_⟩
    split at q
    · rename_i hc
      rw [if_pos hc]
      exact ⟨δ, HD1, Qd, E.ext fr.1, R1, q, l.ext fr⟩
    · rename_i hc
      rw [if_neg hc]
      exact l _ _ _ q R1 fr
theorem dw_or (ha : PT X a (upT X.K ta)) (hb : PW X (.BoolOp .Or (b :: rest) pos) (upT X.K tb)) : PW X (.BoolOp .Or (a :: b :: rest) pos) (upT X.K (gOrT ta tb)) :=
  pw_imp (pw_or ha hb) fun σ H Q ⟨δ, HD, Qd, E, R, h, l⟩ => by
    refine ⟨δ, HD, _, E, R, h, fun c HD1 H1 q R1 fr => ?_⟩
    split at q
    · rename_i hc
      rw [if_pos hc]
      exact l _ _ _ q R1 fr
    · rename_i hc
      rw [if_neg hc]
      exact ⟨δ, HD1, Qd, E.ext fr.1, R1, q, l.ext fr⟩
theorem de_op {op : Operator} {g : G2} (ho : OpR X (binaryOp op) (up2 X.K g)) (ha : PE X a (up X.K ga)) (hb : PE X b (up X.K gb)) : PE X (.BinOp a op b pos) (up X.K (g2 g ga gb)) := pe_imp (pe_op ho ha hb) fun _ _ _ h => up2_of h
theorem de_cmp {op : CmpOp} {g : G2} (ho : OpR X (compareOp op) (up2 X.K g)) (ha : PE X a (up X.K ga)) (hb : PE X b (up X.K gb)) (hm : behindInMarks op b = false) : PE X (.Compare a [op] [b] pos) (up X.K (g2 g ga gb)) := pe_imp (pe_cmpR ho ha hb hm) fun _ _ _ h => up2_of h
theorem dt_cmp {op : CmpOp} {g : G2} (ho : OpR X (compareOp op) (up2 X.K g)) (ha : PE X a (up X.K ga)) (hb : PE X b (up X.K gb)) (hm : behindInMarks op b = false) : PT X (.Compare a [op] [b] pos) (upT X.K (gVal (g2 g ga gb))) :=
  pt_imp (pt_cmpR ho ha hb hm) fun σ H Q ⟨δ, HD, Qd, E, R, h, l⟩ => up2_of ⟨δ, HD, _, E, R, h, gBool_lk l⟩
theorem de_tup {es : List Expr} {x1 : Nat} {g : GA} (h : PA X es (upA X.K g)) : PE X (.Tuple es x1 pos) (up X.K (gTup g)) :=
  pe_imp (pe_tupP h) fun σ H Q ⟨δ, HD, Qd, E, R, h, l⟩ => by
    refine ⟨δ, HD, _, E, R, h, fun ds HD1 vs H1 q dv R1 fr => ?_⟩
    split at q
    · rename_i es he
      have e := dats_some he
      subst e
      refine ⟨by rw [dv.fd.length]; exact q.1, fun p o hp ho => l _ _ _ _ q.2 (Fd.tup (.at ho) (dv.fd.ext (Ext.new hp))) (R1.new hp) (fr.trans (Frm.new hp))⟩
    · exact q.elim
theorem de_lst {es : List Expr} {g : GA} (own : Bool) (h : PA X es (upA X.K g)) : PE X (.List es pos) (up X.K (gLst own g)) :=
  pe_imp (pe_new own (pe_lst h)) fun σ H Q ⟨δ, HD, Qd, E, R, h, l⟩ => by
    refine ⟨δ, HD, _, E, R, h, fun ds HD1 vs H1 q dv R1 fr => ?_⟩
    refine ⟨by rw [Paired.length dv]; exact q.1, fun p hp => ?_⟩
    exact mkL_new (fr.2.2 p hp) upd_same (R1.none hp) (dv.ext (Ext.new hp)) (R1.new hp) (fr.trans (Frm.new hp)) q.2 l
theorem de_ix {i : Expr} (ha : PE X a (up X.K ga)) (hb : PE X i (up X.K gb)) (hs : PlainIx i) : PE X (.Subscript a i pos) (up X.K (g2 dIx ga gb)) := pe_imp (pe_ix ix_d ha hb hs) fun _ _ _ h => up2_of h
theorem de_bi {x : Str} {id : String} {g : GC} {p pos : Pos} (hc : CallR X (.builtin id) (upC X.K g)) (hg : Gl X x) (hm : X.mg x = none) (hv : bootBuiltins x = some (.builtin id)) (ha : PE X a (up X.K ga)) (hn : x ≠ "__name__") (hdb : (x == ("__debug__" : Str)) = false)
    (he : starEach [a] X.env = [(false, eval a X.env)]) : PE X (.Call (.Name x p) [a] [] pos) (up X.K (gCall g (gCons ga gNil))) :=
  pe_imp (pe_callB hc hg hm hv (da_cons ha da_nil he) hn hdb he (by rfl)) fun _ _ _ h => upC_of h
theorem de_ty {x : Str} {T : String} {g : GC} {p pos : Pos} (hc : CallR X (.type T) (upC X.K g)) (hg : Gl X x) (hm : X.mg x = none) (hv : bootBuiltins x = some (.type T)) (ha : PE X a (up X.K ga)) (hn : x ≠ "__name__") (hdb : (x == ("__debug__" : Str)) = false)
    (he : starEach [a] X.env = [(false, eval a X.env)]) : PE X (.Call (.Name x p) [a] [] pos) (up X.K (gCall g (gCons ga gNil))) :=
  pe_imp (pe_callTy hc hg hm hv (da_cons ha da_nil he) hn hdb he (by rfl)) fun _ _ _ h => upC_of h
theorem po_imp {e : Option Expr} {t t' : TO} (h : PO X e t) (i : ∀ σ H Q, t' σ H Q → t σ H Q) : PO X e t' := ⟨fun pins s σ H Q I q => h.run pins s σ H Q I (i σ H Q q)⟩
theorem do_none : PO X none (upO X.K gNoPart) := po_imp po_none fun σ H Q ⟨δ, HD, Qd, E, R, h, l⟩ => l _ _ _ h R Frm.refl
theorem do_some (ha : PE X a (up X.K ga)) : PO X (some a) (upO X.K (gPart ga)) := po_imp (po_some ha) fun σ H Q ⟨δ, HD, Qd, E, R, h, l⟩ => by
  refine ⟨δ, HD, _, E, R, h, fun d HD1 v H1 q dv R1 fr => ?_⟩
  split at q
  · exact ⟨_, fd_int dv, l _ _ _ q R1 fr⟩
  · exact q.elim
theorem de_sl {own : Bool} {lo hi : Option Expr} {gl gh : GO} {p2 : Pos} (ha : PE X a (up X.K ga)) (hl : PO X lo (upO X.K gl)) (hh : PO X hi (upO X.K gh)) : PE X (.Subscript a (.Slice lo hi none p2) pos) (up X.K (gSl own ga gl gh)) :=
  pe_imp (pe_slice (sl_d own) ha hl hh) fun σ H Q ⟨δ, HD, Qd, E, R, h, l⟩ => by
    refine ⟨δ, HD, _, E, R, h, fun d HD1 v H1 h1 d1 R1 f1 => ?_⟩
    refine ⟨δ, HD1, _, E.ext f1.1, R1, h1, fun o HD2 H2 h2 R2 f2 => ?_⟩
    refine ⟨δ, HD2, _, E.ext (f1.1.trans f2.1), R2, h2, fun o2 HD3 H3 h3 R3 f3 => ?_⟩
    exact ⟨d, HD3, Qd, d1.ext (f2.1.trans f3.1), R3, h3, l.ext (f1.trans (f2.trans f3))⟩
end
inductive Ty where
  | non | bool | int | str | list | tuple | dict
  deriving DecidableEq
noncomputable def Ty.name : Ty → String
  | .non => "NoneType"
  | .bool => "bool"
  | .int => "int"
  | .str => "str"
  | .list => "list"
  | .tuple => "tuple"
  | .dict => "dict"
noncomputable def Ty.sub : Ty → Ty → Bool
  | .bool, .int => true
  | a, b => a = b
noncomputable def tyP : PyData → Ty
  | .none => .non
  | .bool _ => .bool
  | .int _ => .int
  | .str _ => .str
  | .list _ => .list
  | .tuple _ => .tuple
  | .dict _ => .dict
noncomputable def tyD (HD : HDt) : DV → Option Ty
  | .d x => some (tyP x)
  | .r a => match HD a with
    | some (.lst _) => some .list
    | _ => none
  | .w _ => none
  | .x _ => none
noncomputable def gIsi (T : Ty) (ge : GE) : GE := fun δ HD Q => ge δ HD fun x HD1 => match tyD HD1 x with
  | some t => Q (.d (.bool (t.sub T))) HD1
  | none => False
section
variable {X : Cx} {a b c : Expr} {ga gb gc : GE} {gt : GT} {pos : Pos}
noncomputable def gNext : GS := fun D δ HD => D.nx δ HD
noncomputable def gSeq2 (ga gb : GS) : GS := fun D δ HD => ga ⟨gb D, D.rt, D.bk, D.ct⟩ δ HD
noncomputable def gRet (ge : GE) : GS := fun D δ HD => ge δ HD D.rt
noncomputable def gRetN : GS := fun D _ HD => D.rt (.d .none) HD
noncomputable def gDrop (ge : GE) : GS := fun D δ HD => ge δ HD fun _ HD1 => D.nx δ HD1
noncomputable def gIfS (gt : GT) (ga gb : GS) : GS := fun D δ HD => gt δ HD fun c HD1 => if c = true then ga D δ HD1 else gb D δ HD1
noncomputable def gAsg (p : RP) (ge : GE) : GS := fun D δ HD => ge δ HD fun x HD1 => match bindP p x δ with
  | some δ' => D.nx δ' HD1
  | none => False
noncomputable def parQ (i j : Nat) (D : DEnds) (δ : DEnv) : List DV → HDt → Prop := fun ds HD => match ds with
  | [x, y] => D.nx ((δ.set i (some x)).set j (some y)) HD
  | _ => False
noncomputable def gPar2 (i j : Nat) (ga gb : GE) : GS := fun D δ HD => ga δ HD fun x HD1 => gb δ HD1 fun y HD2 => parQ i j D δ [x, y] HD2
noncomputable def dSet : DV → DV → DV → HDt → (HDt → Prop) → Prop := fun o i x HD Q => match o, i with
  | .r a, .d (.int k) => (match HD a with
    | some (.lst xs) => (match ixN xs.length k with
      | some j => Q (dset HD a (.lst (xs.set j x)))
      | none => False)
    | _ => False)
  | _, _ => False
noncomputable def gSetS (go gi ge : GE) : GS := fun D δ HD => ge δ HD fun x HD1 => go δ HD1 fun o HD2 => gi δ HD2 fun i HD3 => dSet o i x HD3 fun HD4 => D.nx δ HD4
variable {st : Stmt} {rest : List Stmt} {gs gs' : GS}
theorem dss_nil : PSs X [] (upS X.K gNext) := pss_imp pss_nil fun D σ H ⟨δ, HD, Dd, E, R, h, l⟩ => l.nx _ _ _ _ h E R Frm.refl
theorem dss_cons (h1 : PS X st (upS X.K gs)) (h2 : PSs X rest (upS X.K gs')) : PSs X (st :: rest) (upS X.K (gSeq2 gs gs')) := pss_imp (pss_cons h1 h2) fun D σ H ⟨δ, HD, Dd, E, R, h, l⟩ =>
  ⟨δ, HD, _, E, R, h, fun δ1 HD1 σ1 H1 q E1 R1 fr => ⟨δ1, HD1, Dd, E1, R1, q, l.ext fr⟩, l.rt, l.bk, l.ct⟩
theorem ds_ret (ha : PE X a (up X.K ga)) : PS X (.Return (some a) pos) (upS X.K (gRet ga)) := ps_imp (ps_ret ha) fun D σ H ⟨δ, HD, Dd, E, R, h, l⟩ => ⟨δ, HD, _, E, R, h, l.rt⟩
theorem ds_drop (ha : PE X a (up X.K ga)) (hs : swapsWith a none pos.line X.env = pure false) : PS X (.Expr a pos) (upS X.K (gDrop ga)) := ps_imp (ps_expr ha hs) fun D σ H ⟨δ, HD, Dd, E, R, h, l⟩ =>
  ⟨δ, HD, _, E, R, h, fun d HD1 v H1 q dv R1 fr => l.nx _ _ _ _ q (E.ext fr.1) R1 fr⟩
theorem ds_if {xs ys : List Stmt} (ht : PT X c (upT X.K gt)) (ha : PSs X xs (upS X.K gs)) (hb : PSs X ys (upS X.K gs')) : PS X (.If c xs ys pos) (upS X.K (gIfS gt gs gs')) := ps_imp (ps_if ht ha hb) fun D σ H ⟨δ, HD, Dd, E, R, h, l⟩ => by
  refine ⟨δ, HD, _, E, R, h, fun c HD1 H1 q R1 fr => ?_⟩
  split at q
  · rename_i hc
    rw [if_pos hc]
    exact ⟨δ, HD1, Dd, E.ext fr.1, R1, q, l.ext fr⟩
  · rename_i hc
    rw [if_neg hc]
    exact ⟨δ, HD1, Dd, E.ext fr.1, R1, q, l.ext fr⟩
theorem asg_of {K : PySem.W.Frag} {p : RP} {D : Ends} {σ : L2.St} {H : Hp} (h : upS K (gAsg p ga) D σ H) : tAsg (up K ga) (gP K p) D σ H := by
  obtain ⟨δ, HD, Dd, E, R, h, l⟩ := h
  refine ⟨δ, HD, _, E, R, h, fun d HD1 v H1 q dv R1 fr => ?_⟩
  split at q
  · rename_i δ' hb
    obtain ⟨σ2, E2, _, k⟩ := gP_bind p hb dv (E.ext fr.1)
    exact k _ (l.nx _ _ _ _ q E2 R1 fr)
  · exact q.elim
theorem ds_asg {tg : Expr} {p : RP} (ha : PE X a (up X.K ga)) (hg : PG X tg (gP X.K p)) (hs : swapsWithSole [tg] a pos.line X.env = pure false) (hw : swappedStores [tg] a X.env = pure none) (h1 : (assignEach [tg] X.env).map (·.2) = [assign tg X.env]) : PS X (.Assign [tg] a pos) (upS X.K (gAsg p ga)) :=
  ps_imp (ps_asg ha hg hs hw h1) fun _ _ _ h => asg_of h
theorem set_d {o i x : V} {ov iv u : Value} {pins : List (Addr × Obj)} {s : Shared} {σ : L2.St} {H : Hp} {HD : HDt} {do' di dx : DV} {Q : Hp → Prop} {Qd : HDt → Prop} (I : Inv X pins σ H s) (ro : RelV o ov) (ri : RelV i iv) (rx : RelV x u)
    (ho : DatV X.K H o do') (hi : DatV X.K H i di) (hx : DatV X.K H x dx) (R : RepH X.K H HD) (h : dSet do' di dx HD Qd) (l : ∀ HD' H', Qd HD' → RepH X.K H' HD' → Frm H HD H' HD' → Q H') :
    wpAny (model X.prog X.w) X.A (setItem ov iv u) (fun _ s' => ∃ H', Inv X pins σ H' s' ∧ Q H') X.xe s := by
  unfold dSet at h
  split at h
  · split at h
    · rename_i xs hxs
      split at h
      · rename_i j hj
        obtain ⟨vs, h1, h2⟩ := R _ _ hxs
        have hi' := fd_int hi
        have ho' : o = .ref _ := ho
        subst hi'
        subst ho'
        refine set_list pins s σ H _ _ x ov iv u Q I ro ri rx ⟨_, vs, _, j, rfl, rfl, h1, by rw [Paired.length h2]; exact hj, ?_⟩
        have m : Mut (H _) := R.mutAt hxs
        exact l _ _ h (R.put (Ext.mut m) ⟨_, upd_same, Paired.set (hx.ext (Ext.mut m)) j (h2.ext (Ext.mut m))⟩) (Frm.put m (by rw [hxs]; simp))
      · exact h.elim
    · exact h.elim
  · exact h.elim
end
noncomputable def gRev (own : Bool) (ge : GE) : GE := fun δ HD Q => ge δ HD fun x HD1 => match x with
  | .d (.tuple xs) => Q (.d (.tuple xs.reverse)) HD1
  | x => match listD HD1 x with
    | some xs => mkL own xs.reverse HD1 Q
    | none => False
noncomputable def gFrz (ge : GE) : GE := fun δ HD Q => ge δ HD fun x HD1 => match x with
  | .r a => (match HD1 a with
    | some (.lst xs) => (match dats xs with
      | some ds => Q (.d (.list ds)) (ddel HD1 a)
      | none => False)
    | _ => False)
  | x => Q x HD1
section
variable {X : Cx}
theorem de_dct0 {pos : Pos} : PE X (.Dict [] [] pos) (up X.K (gC (.dict []))) := by
  refine ⟨fun pins s σ H Q I h => ?_⟩
  obtain ⟨δ, HD, Qd, E, R, h, l⟩ := h
  refine thn (pe_dnewK.run pins s σ H (fun v H1 => ∃ p, v = .ref p ∧ H p = none ∧ H1 = upd H p (.dK [])) I fun p hp => ⟨p, rfl, hp, rfl⟩) fun u s' ⟨v, H', I', r, p, e, hp, e2⟩ => ?_
  subst e e2
  obtain ⟨o, I1⟩ := Inv.lock I' upd_same trivial
  rw [upd_upd] at I1
  exact ⟨_, _, I1, r, l _ _ _ _ h (Fd.dct upd_same rfl .nil) (R.new hp) (Frm.new hp)⟩
end
section
variable {prog : Program} {w : World} {A : Around} {E : Value → Shared → Prop} {s : Shared}
open AutoSeq1 (wpAny_loadPart')
theorem meets_enumerate_newT (l : Addr) (items : Array Value) (n : Nat) (dct : Option Addr) (sl : Array (Option Value)) :
    Meets (Builtin.«enumerate.__new__» ⟨[.type "enumerate", .ref l], []⟩) (fun _ R s => s.heap.get? l = some { cls := .type "tuple", dict := dct, data := .seq items n, slots := sl } ∧
      R (.ok (.ret (.ref (s.heap.push { cls := .type "tuple_iterator", data := .fields #[.ref l, .int 0 0] }).objs.size)))
        { s with heap := (s.heap.push { cls := .type "tuple_iterator", data := .fields #[.ref l, .int 0 0] }).push { cls := .type "enumerate", data := .fields #[.none, .bool false, .ref s.heap.objs.size, rawInt 0, .none, .none] } }) :=
  .of_wp fun prog w A R s h => by
    obtain ⟨hp, g, d, tk, os⟩ := s
    obtain ⟨hl, h⟩ := h
    have hsub := sub_enumerate
    have hT : Heap.IsTuple (Shared.heap ⟨hp, g, d, tk, os⟩) l items := ⟨_, hl, rfl, n, rfl⟩
    wp_walk using wpAny_loadPart' hl
    refine wpAny_stack_any fun st => wpAny_pure ?_
    split
    · rename_i c _ _ _ _ _
      cases (c == Value.type "enumerate")
      · wp_walk using wpAny_loadPart' hl, wpAny_pyIter_tuple hT
        exact ⟨_, rfl, h⟩
      · wp_walk using wpAny_loadPart' hl, wpAny_pyIter_tuple hT
        exact ⟨_, rfl, h⟩
    · wp_walk using wpAny_loadPart' hl, wpAny_pyIter_tuple hT
      exact ⟨_, rfl, h⟩
theorem call_enumerate_tuple {l : Addr} {items : Array Value} {Q : Value → Shared → Prop} (hL : s.heap.IsTuple l items)
    (h : ∀ h', IsEnum h' (s.heap.objs.size + 1) s.heap.objs.size 0 .none → h'.IsTupleIter s.heap.objs.size l 0 →
      (∀ b o, s.heap.get? b = some o → h'.get? b = some o) → Q (.ref (s.heap.objs.size + 1)) { s with heap := h' }) :
    wpAny (model prog w) A (call (.type "enumerate") [.ref l]) Q E s := by
  obtain ⟨⟨c, dct, dt, sl⟩, hl, hc, n, hd⟩ := hL
  replace hc : c = .type "tuple" := hc
  replace hd : dt = .seq items n := hd
  subst hc hd
  refine callType_new F.called_enumerate (by decide) (F.typeCall_enumerate_1 _) (F.newCall_enumerate_1 _) (fun obj => F.args_object_init_2 obj _) F.entry_enumerate_new
    (meets_enumerate_newT l items n dct sl) ⟨hl, ?_⟩
  have hz : (s.heap.push { cls := .type "tuple_iterator", data := .fields #[.ref l, .int 0 0] }).objs.size = s.heap.objs.size + 1 := Heap.size_push ..
  show _ ∧ _
  rw [hz]
  have he : IsEnum ((s.heap.push { cls := .type "tuple_iterator", data := .fields #[.ref l, .int 0 0] }).push
      { cls := .type "enumerate", data := .fields #[.none, .bool false, .ref s.heap.objs.size, rawInt 0, .none, .none] }) (s.heap.objs.size + 1) s.heap.objs.size 0 .none := by
    have := Heap.get?_push_size (s.heap.push { cls := .type "tuple_iterator", data := .fields #[.ref l, .int 0 0] })
      (o := { cls := .type "enumerate", data := .fields #[.none, .bool false, .ref s.heap.objs.size, rawInt 0, .none, .none] }) rfl
    rw [hz] at this
    exact this
  exact ⟨⟨_, he, rfl⟩, h _ he ⟨_, Heap.get?_push_of_some _ (Heap.get?_push_size _ rfl), rfl, rfl⟩ fun b o x => Heap.get?_push_of_some _ (Heap.get?_push_of_some _ x)⟩
end
noncomputable def IteT (K : PySem.W.Frag) (a : Addr) : It :=
  ⟨fun i H => ∃ (xs : List V) (x : V), SqT K H a xs ∧ xs[i]? = some x, fun i H v H' => ∃ T x o, v = .ref T ∧ H T = none ∧ o.dict = none ∧ H' = upd H T (.frz o (.tup [.int (i : Nat), x])) ∧ ∀ xs, SqT K H a xs → xs[i]? = some x,
    fun i H => ∃ xs : List V, SqT K H a xs ∧ xs.length ≤ i⟩
theorem turn_enumT {P : Program} {w : World} {K : PySem.W.Frag} {elts : List Expr} {kk : Nat} {tpos : Pos} (a e it : Addr) :
    Turn P w K (.Tuple elts kk tpos) (IteT K a) [e, it] e (fun i h => (∃ old, IsEnum h e it ((i : Nat) : Int) old) ∧ h.IsTupleIter it a i ∧ e ≠ it) where
  mem := by simp
  obj := fun i h st b hb => by
    obtain ⟨⟨old, he⟩, ⟨o, ho, hc, hd⟩, _⟩ := st
    have e' : b = e ∨ b = it := by simpa using hb
    rcases e' with z | z
    · rw [z]
      exact ⟨_, he, fun v q => nomatch q⟩
    · rw [z]
      exact ⟨o, ho, fun v q => by rw [hd] at q; cases q⟩
  keep := fun i h h' st k => let ⟨⟨old, he⟩, hi, hne⟩ := st
    ⟨⟨old, k e (by simp) _ he⟩, hi.at fun o q => k it (by simp) o q, hne⟩
  item := by
    intro X hP hw hK hc i pins s σ H E I hf st hg
    subst hP hw hK
    obtain ⟨⟨old, he⟩, hit, hne⟩ := st
    obtain ⟨xs, x, hq, hx⟩ := hg
    obtain ⟨its, rv, p, hz⟩ := I.tuple hq
    obtain ⟨u, hu, ru⟩ := rv.get hx
    have hel : e < s.heap.objs.size := Heap.lt_size he
    have hil : it < s.heap.objs.size := by
      obtain ⟨_, q, _⟩ := hit
      exact Heap.lt_size q
    have hae : a ≠ e := fun z => by
      obtain ⟨o, ho, hc, _⟩ := p
      rw [z, he] at ho
      cases ho
      exact absurd hc (by simp)
    have hai : a ≠ it := fun z => by
      obtain ⟨o, ho, hc, _⟩ := p
      obtain ⟨o2, ho2, hc2, _⟩ := hit
      rw [z, ho2] at ho
      cases ho
      rw [hc] at hc2
      exact absurd hc2 (by simp)
    have D := Draws.tuple (prog := X.prog) (w := X.w) (A := X.A.in1) (I.ok.hd hc) it a hai its.toArray
    have hlt : i < its.toArray.size := by
      rw [List.size_toArray]
      exact (List.getElem?_eq_some_iff.mp hu).1
    refine wpAny_pyNext_enum_itemD D he ⟨hit, p⟩ hlt hne (by simp only [List.mem_cons, List.not_mem_nil, or_false, not_or]; exact ⟨hne, fun z => hae z.symm⟩) fun y h' tk hy ho hs' hT hsz hk => ?_
    have hy' : its[i]? = some y := by simpa using hy
    rw [hu] at hy'
    cases hy'
    refine ⟨_, rfl, wpAny_letOwnedTupleGo_enum (s := { s with heap := h', toks := tk + 1 }) ho fun h'' he' sb => ?_⟩
    have hT2 : h''.get? s.heap.objs.size = some { cls := .type "tuple", data := .seq #[.int i tk, u] } := (sb.2 _ (Nat.ne_of_gt hel)).trans hT
    have new : ObjOk X.prog X.w (upd H s.heap.objs.size (.frz (tupO #[.int i tk, u]) (.tup [.int (i : Nat), x]))) h'' s.heap.objs.size (.frz (tupO #[.int i tk, u]) (.tup [.int (i : Nat), x])) :=
      frz_ok (its := [.int i tk, u]) (by show 2 ≤ sizeLine; decide) (.cons ⟨_, rfl⟩ (.cons ru .nil)) hT2
    have I1 : Inv X pins σ (upd H s.heap.objs.size (.frz (tupO #[.int i tk, u]) (.tup [.int (i : Nat), x]))) { s with heap := h'', toks := tk + 1 } :=
      I.turnedNew (ch := [e, it]) (fun b ob hb q => (sb.2 b (fun z => hb (by simp [z]))).trans (hk b ob (fun z => hb (by simp [z])) (fun z => hb (by simp [z])) q)) hf (Nat.le_refl _) new
    refine ⟨.ref s.heap.objs.size, _, I1, rfl, ⟨_, x, _, rfl, I.hok.fresh (Nat.le_refl _), rfl, rfl, fun ys hy => by rw [I.tuple_inj hy hq]; exact hx⟩, ⟨⟨u, ?_⟩, hs'.1.at fun o q => (sb.2 it (Ne.symm hne)).trans q, hne⟩, fun b hb => ?_⟩
    · have e1 : ((i + 1 : Nat) : Int) = (i : Int) + 1 := by omega
      rw [e1]
      exact he'
    · have hb' : b < s.heap.objs.size := by
        have e' : b = e ∨ b = it := by simpa using hb
        rcases e' with z | z
        · rw [z]
          exact hel
        · rw [z]
          exact hil
      rw [upd_ne (Nat.ne_of_lt hb')]
      exact (hf b hb).1
  done := by
    intro X hP hw hK hc i pins s σ H E I hf st hg
    subst hP hw hK
    obtain ⟨⟨old, he⟩, hit, hne⟩ := st
    obtain ⟨xs, hq, hx⟩ := hg
    obtain ⟨its, rv, p, hz⟩ := I.tuple hq
    obtain ⟨f0, f1, f2, f3, f4, f5⟩ := hf it (by simp)
    have hl := rv.length
    have hai : a ≠ it := fun z => by
      obtain ⟨o, ho, hc, _⟩ := p
      obtain ⟨o2, ho2, hc2, _⟩ := hit
      rw [z, ho2] at ho
      cases ho
      rw [hc] at hc2
      exact absurd hc2 (by simp)
    have hT : s.TypeIs (.ref e) "enumerate" := ⟨_, he, rfl⟩
    unfold pyNext
    refine wpAny_bind (wpAny_attempt (wpAny_callSpecial?_slot (name := Str.ofString "__next__") hT F.slot_enumerate_next
      (wpAny_call_entry F.slot_enumerate_next hT F.entry_enumerate_next ?_ (F.args_enumerate_next_1 _))))
    show wpAny _ _ (field (.ref e) 2 >>= _) _ _ _
    refine wpAny_bind (wpAny_field he rfl (x := .ref it) rfl ?_)
    refine wpAny_bind (wpAny_nextOf_tuple_end (I.ok.hd hc) hit p (by simp; omega) fun h' x eb hx' => ?_)
    obtain ⟨o, ho, hcx⟩ := hx'
    refine wpAny_bind (wpAny_isInstance (T := "StopIteration") (b := true) ⟨o, ho, hcx⟩ isSubtype_stop ?_)
    exact wpAny_pure ⟨rfl, I.turned (t' := s.toks) (fun b o hb q => eb b o hb q) f0 f1 f3 f4 f5⟩
  self := fun A i s Q E st h => let ⟨⟨_, he⟩, _⟩ := st
    wpAny_pyIter_enum he h
theorem iteT_ok {K : PySem.W.Frag} {p : Addr} {ds : List PyData} {H0 : Hp} (hs : ∀ H, Ext H0 H → ∃ ws, SqT K H p ws ∧ FdAll K H ws ds) : ItOk K (IteT K p) H0 none (ds.mapIdx fun i d => DV.d (.tuple [.int (i : Nat), d])) := by
  refine ⟨fun i HD H e R so hi => ?_, fun i HD H x H' e R so hi hy => ?_, fun i HD H e R so hi => ?_⟩
  · obtain ⟨ws, h1, h2⟩ := hs H e
    have : i < ws.length := by rw [h2.length]; simpa using hi
    exact ⟨ws, ws[i], h1, List.getElem?_eq_getElem this⟩
  · obtain ⟨T, y, o, rfl, hT, ho, rfl, hx⟩ := hy
    obtain ⟨ws, h1, h2⟩ := hs H e
    obtain ⟨d, hd, fd⟩ := h2.get (hx ws h1)
    refine ⟨.d (.tuple [.int (i : Nat), d]), by simp [hd], Fd.tup (.at ho) (.cons (.int _) (.cons (fd.ext (Ext.new hT)) .nil)), R.new hT, Frm.new hT⟩
  · obtain ⟨ws, h1, h2⟩ := hs H e
    exact ⟨ws, h1, by rw [h2.length]; simpa using hi⟩
theorem ite_ok {K : PySem.W.Frag} {p : Addr} {ds : List PyData} {H0 : Hp} {src : Src} (hs : ∀ HD H, Ext H0 H → RepH K H HD → srcOk src (ds.map .d) HD → ∃ ws, SqL K H p ws ∧ FdAll K H ws ds) :
    ∀ (h0 : src = none), ItOk K (IteP K p) H0 none (ds.mapIdx fun i d => DV.d (.tuple [.int (i : Nat), d])) := by
  intro h0
  subst h0
  refine ⟨fun i HD H e R so hi => ?_, fun i HD H x H' e R so hi hy => ?_, fun i HD H e R so hi => ?_⟩
  · obtain ⟨ws, h1, h2⟩ := hs HD H e R trivial
    have : i < ws.length := by rw [h2.length]; simpa using hi
    exact ⟨ws, ws[i], h1, List.getElem?_eq_getElem this⟩
  · obtain ⟨T, y, o, rfl, hT, ho, rfl, hx⟩ := hy
    obtain ⟨ws, h1, h2⟩ := hs HD H e R trivial
    obtain ⟨d, hd, fd⟩ := h2.get (hx ws h1)
    refine ⟨.d (.tuple [.int (i : Nat), d]), by simp [hd], Fd.tup (.at ho) (.cons (.int _) (.cons (fd.ext (Ext.new hT)) .nil)), R.new hT, Frm.new hT⟩
  · obtain ⟨ws, h1, h2⟩ := hs HD H e R trivial
    exact ⟨ws, h1, by rw [h2.length]; simpa using hi⟩
noncomputable def enumQ (Q : Src → List DV → HDt → Prop) : List DV → HDt → Prop := fun ds HD => match ds with
  | [.d (.tuple ds)] => ds.length ≤ sizeLine → Q none (ds.mapIdx fun i d => DV.d (.tuple [.int (i : Nat), d])) HD
  | [.d (.list ds)] => ds.length ≤ sizeLine → Q none (ds.mapIdx fun i d => DV.d (.tuple [.int (i : Nat), d])) HD
  | [.r a] => ∃ ds : List PyData, HD a = some (.lst (ds.map .d)) ∧ (ds.length ≤ sizeLine → Q (some (a, some (ds.map .d))) (ds.mapIdx fun i d => DV.d (.tuple [.int (i : Nat), d])) HD)
  | _ => False
theorem dat_fds {K : PySem.W.Frag} {H : Hp} : ∀ {vs : List V} {ds : List PyData}, DatAll K H vs (ds.map .d) → FdAll K H vs ds
  | [], [], _ => .nil
  | _ :: _, _ :: _, .cons h t => .cons h (dat_fds t)
theorem iteC_ok {K : PySem.W.Frag} {p : Addr} {ds : List PyData} {H0 : Hp} : ItOk K (IteP K p) H0 (some (p, some (ds.map .d))) (ds.mapIdx fun i d => DV.d (.tuple [.int (i : Nat), d])) := by
  have hs : ∀ (HD : HDt) (H : Hp), RepH K H HD → srcOk (some (p, some (ds.map .d))) (ds.mapIdx fun i d => DV.d (.tuple [.int (i : Nat), d])) HD → ∃ ws, SqL K H p ws ∧ FdAll K H ws ds := fun HD H R so => by
    obtain ⟨ws, q1, q2⟩ := R p _ (show HD p = some (.lst (ds.map .d)) from so)
    exact ⟨ws, .inl (.inl q1), dat_fds q2⟩
  refine ⟨fun i HD H e R so hi => ?_, fun i HD H x H' e R so hi hy => ?_, fun i HD H e R so hi => ?_⟩
  · obtain ⟨ws, h1, h2⟩ := hs HD H R so
    have : i < ws.length := by rw [h2.length]; simpa using hi
    exact ⟨ws, ws[i], h1, List.getElem?_eq_getElem this⟩
  · obtain ⟨T, y, o, rfl, hT, ho, rfl, hx⟩ := hy
    obtain ⟨ws, h1, h2⟩ := hs HD H R so
    obtain ⟨d, hd, fd⟩ := h2.get (hx ws h1)
    refine ⟨.d (.tuple [.int (i : Nat), d]), by simp [hd], Fd.tup (.at ho) (.cons (.int _) (.cons (fd.ext (Ext.new hT)) .nil)), R.new hT, Frm.new hT⟩
  · obtain ⟨ws, h1, h2⟩ := hs HD H R so
    exact ⟨ws, h1, by rw [h2.length]; simpa using hi⟩
noncomputable def gEnum (ge : GE) : GI := fun δ HD Q => ge δ HD fun x HD1 => enumQ Q [x] HD1
theorem pi_enum2 {X : Cx} {e : Expr} {ta : TA} {p pos tpos : Pos} {elts : List Expr} {kk : Nat} (hg : Gl X "enumerate") (hm : X.mg "enumerate" = none) (ha : PA X [e] ta) (hs : starEach [e] X.env = [(false, eval e X.env)]) :
    PI X (.Tuple elts kk tpos) (.Call (.Name "enumerate" p) [e] [] pos) (fun σ H R => ta σ H fun vs H1 => ∃ a, vs = [.ref a] ∧ ((∃ xs, SqL X.K H1 a xs ∧ (xs.length ≤ sizeLine → R (IteP X.K a) H1)) ∨ ∃ xs, SqT X.K H1 a xs ∧ (xs.length ≤ sizeLine → R (IteT X.K a) H1))) := by
  refine ⟨fun pins s σ H R I h => ?_⟩
  refine Call_ (ld_blt I hg hm boot_enumerate (PyProof.Rows.callWith_type1 (thn (ha.run pos pins s σ H _ I h) fun us s1 ⟨vs, H1, I1, r1, q1⟩ => ?_) hs rfl))
  obtain ⟨a, ex, q⟩ := q1
  subst ex
  have fp : ∀ b ∈ [s1.heap.objs.size + 1, s1.heap.objs.size], FpOk X pins H1 b := fun b hb => by
    have e' : b = s1.heap.objs.size + 1 ∨ b = s1.heap.objs.size := by simpa using hb
    have hle : s1.heap.objs.size ≤ b := by
      rcases e' with z | z
      · rw [z]
        exact Nat.le_add_right _ _
      · rw [z]
        exact Nat.le_refl _
    exact I1.fpOk hle (I1.hok.fresh hle)
  cases r1 with
  | cons r rr =>
    cases rr
    cases r
    rcases q with ⟨xs, hq, q⟩ | ⟨xs, hq, q⟩
    · obtain ⟨its, rv, p', hz⟩ := I1.list hq
      refine call_enumerate_list p'.isList fun h' he hit hsz hk => wpAny_pyIter_enum he ?_
      have I2 : Inv X pins σ H1 { s1 with heap := h' } := I1.kept (t' := s1.toks) hk
      exact ⟨s1.heap.objs.size + 1, [s1.heap.objs.size + 1, s1.heap.objs.size], _, _, H1, rfl, I2, turn_enumP a (s1.heap.objs.size + 1) s1.heap.objs.size, ⟨⟨.none, he⟩, hit, Nat.succ_ne_self _⟩, fp, q hz⟩
    · obtain ⟨its, rv, p', hz⟩ := I1.tuple hq
      refine call_enumerate_tuple p' fun h' he hit hk => wpAny_pyIter_enum he ?_
      have I2 : Inv X pins σ H1 { s1 with heap := h' } := I1.kept (t' := s1.toks) hk
      exact ⟨s1.heap.objs.size + 1, [s1.heap.objs.size + 1, s1.heap.objs.size], _, _, H1, rfl, I2, turn_enumT a (s1.heap.objs.size + 1) s1.heap.objs.size, ⟨⟨.none, he⟩, hit, Nat.succ_ne_self _⟩, fp, q hz⟩
theorem di_enum {X : Cx} {e : Expr} {ge : GE} {p pos tpos : Pos} {elts : List Expr} {kk : Nat} (hg : Gl X "enumerate") (hm : X.mg "enumerate" = none) (ha : PE X e (up X.K ge)) (hs : starEach [e] X.env = [(false, eval e X.env)]) :
    PI X (.Tuple elts kk tpos) (.Call (.Name "enumerate" p) [e] [] pos) (upI X.K (gEnum ge)) := by
  refine ⟨fun pins s σ H R I h => (pi_enum2 hg hm (da_cons ha da_nil hs) hs).run pins s σ H R I ?_⟩
  obtain ⟨δ, HD, Qd, E, Rp, h, l⟩ := h
  refine ⟨δ, HD, enumQ Qd, E, Rp, h, fun ds HD1 vs H1 q dv R1 fr => ?_⟩
  unfold enumQ at q
  · split at q
    · match vs, dv with
      | [v], .cons d .nil =>
        cases d with
        | tup h1 h2 => exact ⟨_, rfl, .inr ⟨_, h1.sq, fun z => l _ _ _ _ _ (q (by rw [← h2.length]; exact z)) (iteT_ok fun H e => ⟨_, SqT.ext h1.sq e, h2.ext e⟩) trivial R1 fr⟩⟩
    · match vs, dv with
      | [v], .cons d .nil =>
        cases d with
        | lst h1 h2 => exact ⟨_, rfl, .inl ⟨_, .inl (.inr ⟨_, h1⟩), fun z => l _ _ _ _ _ (q (by rw [← h2.length]; exact z)) (ite_ok (src := none) (fun HD H e _ _ => ⟨_, .inl (.inr ⟨_, e.2 _ _ _ h1⟩), h2.ext e⟩) rfl) trivial R1 fr⟩⟩
    · match vs, dv with
      | [v], .cons d .nil =>
        have d : v = .ref _ := d
        subst d
        obtain ⟨ds, hc, q⟩ := q
        obtain ⟨ws, h1, h2⟩ := R1 _ _ hc
        exact ⟨_, rfl, .inl ⟨_, .inl (.inl h1), fun z => l _ _ _ _ _ (q (by rw [← (dat_fds h2).length]; exact z)) iteC_ok hc R1 fr⟩⟩
    · exact q.elim
section
variable {X : Cx}
noncomputable abbrev GD := DEnv → HDt → (List (PyData × PyData) → HDt → Prop) → Prop
noncomputable def gD0 : GD := fun _ HD Q => Q [] HD
noncomputable def gDc (gk gv : GE) (r : GD) : GD := fun δ HD Q => gk δ HD fun x HD1 => gv δ HD1 fun y HD2 => match x, y with
  | .d k, .d d => (keyP k).isSome = true ∧ r δ HD2 fun ps HD3 => Q ((k, d) :: ps) HD3
  | _, _ => False
noncomputable def upD (K : PySem.W.Frag) (g : GD) : L2.St → Hp → (List (V × V) → Hp → Prop) → Prop := fun σ H Q => ∃ δ HD Qd, EnvR K H σ δ ∧ RepH K H HD ∧ g δ HD Qd ∧
  ∀ ps HD' H' vs, Qd ps HD' → Paired (fun (p : PyData × PyData) (v : V × V) => (keyP p.1).isSome = true ∧ Fd K H' v.1 p.1 ∧ Fd K H' v.2 p.2) ps vs → RepH K H' HD' → Frm H HD H' HD' → Q vs H'
theorem Frm.cell {H H' : Hp} {HD HD' : HDt} {p : Addr} {c : Cell} (hp : H p = none) (a : Frm H HD H' HD') : Frm H HD H' (dset HD' p c) :=
  ⟨a.1, fun q o e n => let ⟨x, y⟩ := a.2.1 q o e n; ⟨x, (dset_ne (ne_of_none e hp)).trans y⟩, a.2.2⟩
end
section
variable {prog : Program} {w : World} {A : Around} {E : Value → Shared → Prop} {s : Shared}
noncomputable abbrev ZP := List (Addr × Addr × Array Value)
noncomputable def IsZ (h : Heap) (z TI TO : Addr) (f0 f1 : Value) : Prop := h.get? z = some { cls := .type "zip", dict := none, data := .fields #[f0, f1, .bool false, .ref TI, .ref TO], slots := #[] }
noncomputable def zRefs (ps : ZP) : List Value := ps.map fun p => .ref p.1
noncomputable def zFp (z TO : Addr) (ps : ZP) : List Addr := z :: TO :: ps.map (·.1)
structure ZAp (z TI TO : Addr) (ps : ZP) : Prop where
  nd : (z :: TO :: ps.map (·.1)).Nodup
  ti : TI ∉ zFp z TO ps
  ap : ∀ p ∈ ps, p.2.1 ∉ zFp z TO ps
structure ZSt (h : Heap) (z TI TO : Addr) (ps : ZP) (k : Nat) : Prop where
  zp : ∃ f0 f1, IsZ h z TI TO f0 f1 ∧ (f0 = .none ∨ ∃ a t, f0 = .int a t)
  ti : h.get? TI = some { cls := .type "tuple", data := .seq (zRefs ps).toArray }
  to : ∃ arr, h.get? TO = some { cls := .type "tuple", data := .seq arr } ∧ arr.size = ps.length
  it : ∀ p ∈ ps, h.IsTupleIter p.1 p.2.1 k
noncomputable def colZ (ps : ZP) (k : Nat) : List Value := ps.map fun p => p.2.2.getD k .none
noncomputable def ItZ (h : Heap) (ps : ZP) (k m : Nat) : Prop := ∀ (j : Nat) (p : Addr × Addr × Array Value), ps[j]? = some p → h.IsTupleIter p.1 p.2.1 (if j < m then k + 1 else k)
variable {z TI TO : Addr} {ps : ZP} {k : Nat}
theorem ZAp.zi (D : ZAp z TI TO ps) {p : Addr × Addr × Array Value} (hp : p ∈ ps) : p.1 ≠ z ∧ p.1 ≠ TO := by
  have h := D.nd
  rw [List.nodup_cons, List.nodup_cons] at h
  have hm : p.1 ∈ ps.map (·.1) := List.mem_map.mpr ⟨p, hp, rfl⟩
  exact ⟨fun e => h.1 (e ▸ List.mem_cons_of_mem _ hm), fun e => h.2.1 (e ▸ hm)⟩
theorem ZAp.zt (D : ZAp z TI TO ps) : TO ≠ z := fun e => by
  have h := D.nd
  rw [List.nodup_cons] at h
  exact h.1 (by rw [e]; exact List.mem_cons_self)
theorem ZAp.ij (D : ZAp z TI TO ps) {i j : Nat} {p q : Addr × Addr × Array Value} (hp : ps[i]? = some p) (hq : ps[j]? = some q) (h : i ≠ j) : p.1 ≠ q.1 := fun e => by
  have hn := D.nd
  rw [List.nodup_cons, List.nodup_cons] at hn
  have h1 : (ps.map (·.1))[i]? = some p.1 := by rw [List.getElem?_map, hp]; rfl
  have h2 : (ps.map (·.1))[j]? = some p.1 := by rw [List.getElem?_map, hq, e]; rfl
  exact h ((List.getElem?_inj (List.getElem?_eq_some_iff.mp h1).1 hn.2.2).mp (h1.trans h2.symm))
theorem ItZ.step {h h' : Heap} {m : Nat} {p : Addr × Addr × Array Value} (D : ZAp z TI TO ps) (I : ItZ h ps k m) (hp : ps[m]? = some p) (g : h'.IsTupleIter p.1 p.2.1 (k + 1)) (sb : Heap.SameBut p.1 h h') : ItZ h' ps k (m + 1) := by
  intro j q hq
  by_cases e : j = m
  · subst e
    rw [hp] at hq
    cases hq
    rw [if_pos (Nat.lt_succ_self j)]
    exact g
  · have := (I j q hq).extBut sb.extBut (D.ij hq hp e)
    by_cases c : j < m
    · rw [if_pos c] at this
      rw [if_pos (by omega)]
      exact this
    · rw [if_neg c] at this
      rw [if_neg (by omega)]
      exact this
theorem ItZ.keep {h h' : Heap} {m : Nat} {a : Addr} (I : ItZ h ps k m) (ha : ∀ p ∈ ps, p.1 ≠ a) (sb : Heap.SameBut a h h') : ItZ h' ps k m :=
  fun j q hq => (I j q hq).extBut sb.extBut (ha q (List.mem_of_getElem? hq))
theorem drop_zip {α : Type} {l : List α} {m : Nat} {x : α × Nat} {rest : List (α × Nat)} (e : x :: rest = l.zipIdx.drop m) : l[m]? = some x.1 ∧ x.2 = m ∧ rest = l.zipIdx.drop (m + 1) ∧ m < l.length := by
  have h0 : (l.zipIdx.drop m)[0]? = some x := by rw [← e]; rfl
  rw [List.getElem?_drop, Nat.add_zero, List.getElem?_zipIdx] at h0
  cases hl : l[m]? with
  | none => rw [hl] at h0; cases h0
  | some y =>
    rw [hl] at h0
    simp only [Option.map_some, Option.some.injEq, Nat.zero_add] at h0
    subst h0
    refine ⟨rfl, rfl, ?_, (List.getElem?_eq_some_iff.mp hl).1⟩
    have := congrArg List.tail e
    simpa using this
theorem fp_z : z ∈ zFp z TO ps := List.mem_cons_self
theorem fp_TO : TO ∈ zFp z TO ps := List.mem_cons_of_mem _ List.mem_cons_self
theorem fp_i {p : Addr × Addr × Array Value} (hp : p ∈ ps) : p.1 ∈ zFp z TO ps := List.mem_cons_of_mem _ (List.mem_cons_of_mem _ (List.mem_map.mpr ⟨p, hp, rfl⟩))
theorem refs_at {j : Nat} {v : Value} (h : (zRefs ps)[j]? = some v) : ∃ p, ps[j]? = some p ∧ v = .ref p.1 := by
  unfold zRefs at h
  rw [List.getElem?_map] at h
  cases e : ps[j]? with
  | none => rw [e] at h; cases h
  | some p => rw [e] at h; exact ⟨p, rfl, (Option.some.inj h).symm⟩
theorem wpAny_lia {M : Model} {a : Addr} {Q : Option Obj → Shared → Prop} (h : Q (s.heap.get? a) s) : wpAny M A (loadIfAlive a) Q E s := fun Γ p hΓ => by
  unfold loadIfAlive
  rw [Sem.wp_loadIfAlive]
  exact wpAny_pure (M := M) (A := A) (E := E) h Γ p hΓ
theorem free_any {f0 f1 : Value} (hz : IsZ s.heap z TI TO f0 f1) (hf : f0 = .none ∨ ∃ a t, f0 = .int a t) :
    wpAny (model prog w) A (Builtin.SmallTypes.ownedTupleIsFree (.ref z)) (fun b s' => ∃ h' f1', s' = { s with heap := h' } ∧ IsZ h' z TI TO f0 f1' ∧ Heap.SameBut z s.heap h') E s := by
  have same : Heap.SameBut z s.heap s.heap := ⟨rfl, fun _ _ => rfl⟩
  unfold Builtin.SmallTypes.ownedTupleIsFree
  refine wpAny_bind (wpAny_field hz rfl (x := f0) rfl ?_)
  rcases hf with rfl | ⟨a, t, rfl⟩
  · exact wpAny_pure ⟨s.heap, f1, rfl, hz, same⟩
  · dsimp only
    refine wpAny_bind (wpAny_lia ?_)
    split
    · exact wpAny_pure ⟨s.heap, f1, rfl, hz, same⟩
    · refine wpAny_bind (wpAny_field hz rfl (x := f1) rfl ?_)
      split
      · exact wpAny_bind (wpAny_setField_rec hz (by simp) fun h' hz' hs' => wpAny_pure ⟨h', _, rfl, hz', hs'⟩)
      · exact wpAny_pure ⟨s.heap, f1, rfl, hz, same⟩
theorem nextZ {L : Nat} {Q : Value → Shared → Prop} (D : ZAp z TI TO ps) (St : ZSt s.heap z TI TO ps k) (hne : ps ≠ [])
    (htup : ∀ p ∈ ps, s.heap.IsTuple p.2.1 p.2.2 ∧ p.2.2.size = L) (hk : k < L) (hn : ps.length ≤ 1000)
    (hQ : ∀ h', ZSt h' z TI TO ps (k + 1) → h'.get? s.heap.objs.size = some { cls := .type "tuple", data := .seq (colZ ps k).toArray } → h'.objs.size = s.heap.objs.size + 1 →
      (∀ c o, c ∉ zFp z TO ps → s.heap.get? c = some o → h'.get? c = some o) → Q (.ref s.heap.objs.size) { s with heap := h' }) :
    wpAny (model prog w) A (Builtin.«zip.__next__» ⟨[.ref z], []⟩) (fun fin s' => ∃ v, fin = .done (.ret v) ∧ Q v s') E s := by
  obtain ⟨⟨f0, f1, hz, hf0⟩, hTI, ⟨arr, hTO, hsz⟩, hit⟩ := St
  have hTIz : TI ≠ z := fun e => D.ti (e ▸ fp_z)
  have hTITO : TI ≠ TO := fun e => D.ti (e ▸ fp_TO)
  have hTIi : ∀ p ∈ ps, p.1 ≠ TI := fun p hp e => D.ti (e ▸ fp_i hp)
  have hl : (zRefs ps).length = ps.length := by unfold zRefs; rw [List.length_map]
  have n16 : (16777216 : Nat) = sizeLine := sizeLine_eq.symm
  show wpAny _ _ (field (.ref z) 2 >>= _) _ _ _
  refine wpAny_bind (wpAny_field hz rfl (x := .bool false) rfl ?_)
  show wpAny _ _ (field (.ref z) 3 >>= _) _ _ _
  refine wpAny_bind (wpAny_field hz rfl (x := .ref TI) rfl ?_)
  refine wpAny_bind (wpAny_seqItems hTI rfl ?_)
  dsimp only
  rw [if_neg (by cases ps <;> simp_all [zRefs])]
  refine wpAny_bind (wpAny_mono (free_any hz hf0) (fun b s1 hb => ?_) fun _ _ x => x)
  obtain ⟨h0, f1', rfl, hz0, sb⟩ := hb
  clear hz
  have hTI0 := sb.extBut _ _ hTIz hTI
  have hTO0 := sb.extBut _ _ D.zt hTO
  have hit0 : ∀ p ∈ ps, h0.IsTupleIter p.1 p.2.1 k := fun p hp => (hit p hp).extBut sb.extBut (D.zi hp).1
  have htup0 : ∀ p ∈ ps, h0.IsTuple p.2.1 p.2.2 ∧ p.2.2.size = L := fun p hp => ⟨(htup p hp).1.at fun o e => sb.extBut _ _ (fun z => D.ap p hp (z ▸ fp_z)) e, (htup p hp).2⟩
  have hQ0 : ∀ h', ZSt h' z TI TO ps (k + 1) → h'.get? h0.objs.size = some { cls := .type "tuple", data := .seq (colZ ps k).toArray } → h'.objs.size = h0.objs.size + 1 →
      (∀ c o, c ∉ zFp z TO ps → h0.get? c = some o → h'.get? c = some o) → Q (.ref h0.objs.size) { s with heap := h' } := by
    rw [sb.1]
    exact fun h' a b c d => hQ h' a b c fun x o hc e => d x o hc (sb.extBut _ _ (fun z => hc (z ▸ fp_z)) e)
  clear hTI hTO hit htup hQ
  cases b with
  | true =>
    rw [if_pos rfl]
    refine wpAny_bind (wpAny_rule ?_)
    refine wpAny_bind (wpAny_field hz0 rfl (x := .ref TO) rfl ?_)
    dsimp only
    refine wpAny_bind (wpAny_setField_rec hz0 (by simp) fun h₁ hz₁ hs₁ => ?_)
    replace hz₁ : IsZ h₁ z TI TO .ellipsis f1' := hz₁
    refine wpAny_bind (wpAny_forIn_list _ (fun rest q s' => q = (none, ()) ∧ ∃ m h, rest = (zRefs ps).zipIdx.drop m ∧ m ≤ ps.length ∧ s' = { s with heap := h } ∧ IsZ h z TI TO .ellipsis f1' ∧ ItZ h ps k m ∧
        (∃ arr : Array Value, h.get? TO = some { cls := .type "tuple", data := .seq arr } ∧ arr.size = ps.length ∧ ∀ j, j < m → arr[j]? = (colZ ps k)[j]?) ∧
        (∀ c o, c ∉ zFp z TO ps → h0.get? c = some o → h.get? c = some o) ∧ h.objs.size = h0.objs.size) _ ?_ ?_ _ _ ?_)
    · rintro x rest q s' ⟨rfl, m, h, hr, hm, rfl, zz, it, ⟨ar, hTO', sz', col⟩, kp, ez⟩
      obtain ⟨e1, e2, e3, e4⟩ := drop_zip hr
      obtain ⟨p, hp, ev⟩ := refs_at e1
      obtain ⟨xv, xk⟩ := x
      simp only at ev e2
      subst ev e2
      have hpm := List.mem_of_getElem? hp
      obtain ⟨tp, ts⟩ := htup0 p hpm
      have tp' : h.IsTuple p.2.1 p.2.2 := tp.at fun o e => kp _ _ (D.ap p hpm) e
      refine wpAny_bind (wpAny_onRaise ?_)
      show wpAny _ _ (Builtin.SmallTypes.nextOf (.ref p.1) >>= _) _ _ _
      have gi := it xk p hp
      rw [if_neg (Nat.lt_irrefl _)] at gi
      refine wpAny_bind (RZ.nextOf_tuple_item (x := p.2.2[k]'(by omega)) gi tp' (Array.getElem?_eq_getElem _) fun h₂ gi' hs₂ => wpAny_pure ?_)
      have hTO₂ : h₂.get? TO = some { cls := .type "tuple", data := .seq ar } := hs₂.extBut _ _ (Ne.symm (D.zi hpm).2) hTO'
      refine wpAny_bind (wpAny_seqItems hTO₂ rfl ?_)
      dsimp only
      refine wpAny_bind (wpAny_updateSeq (hz := by rw [sz']; omega) hTO₂ rfl ?_ (by rw [Array.size_setIfInBounds, sz']; omega))
      have hTO₃ : (h₂.update TO (Obj.mapSeq fun x_2 => x_2.setIfInBounds xk (p.2.2[k]'(by omega)))).get? TO = some { cls := .type "tuple", data := .seq (ar.setIfInBounds xk (p.2.2[k]'(by omega))) } := by
        rw [Heap.get?_update_self _ hTO₂ rfl]
        simp [Obj.mapSeq]
      have hs₃ : Heap.SameBut TO h₂ (h₂.update TO (Obj.mapSeq fun x_2 => x_2.setIfInBounds xk (p.2.2[k]'(by omega)))) := Heap.SameBut.update ..
      generalize h₂.update TO (Obj.mapSeq fun x_2 => x_2.setIfInBounds xk (p.2.2[k]'(by omega))) = h₃ at hTO₃ hs₃
      refine wpAny_bind (wpAny_letGo (wpAny_pure ?_))
      refine ⟨rfl, xk + 1, h₃, e3, by omega, rfl, hs₃.extBut _ _ (Ne.symm D.zt) (hs₂.extBut _ _ (Ne.symm (D.zi hpm).1) zz), (ItZ.step D it hp gi' hs₂).keep (fun q hq => (D.zi hq).2) hs₃, ⟨_, hTO₃, by rw [Array.size_setIfInBounds]; exact sz', fun j hj => ?_⟩, fun c o hc e => ?_, ?_⟩
      · rw [Array.getElem?_setIfInBounds]
        by_cases c : xk = j
        · subst c
          rw [if_pos rfl, if_pos (by rw [sz']; exact (List.getElem?_eq_some_iff.mp hp).1)]
          unfold colZ
          rw [List.getElem?_map, hp]
          simp only [Option.map_some, Option.some.injEq]
          rw [Array.getD_eq_getD_getElem?, Array.getElem?_eq_getElem (by omega)]
          rfl
        · rw [if_neg c]
          exact col j (by omega)
      · exact hs₃.extBut _ _ (fun z => hc (z ▸ fp_TO)) (hs₂.extBut _ _ (fun z => hc (z ▸ fp_i hpm)) (kp c o hc e))
      · rw [hs₃.1, hs₂.1, ez]
    · rintro q s' ⟨rfl, m, h, hr, hm, rfl, zz, it, ⟨ar, hTO', sz', col⟩, kp, ez⟩
      have em : m = ps.length := by
        have := congrArg List.length hr
        simp only [List.length_nil, List.length_drop, List.length_zipIdx, hl] at this
        omega
      subst em
      dsimp only
      have ea : ar.toList = colZ ps k := by
        apply List.ext_getElem?
        intro j
        rw [Array.getElem?_toList]
        by_cases c : j < ps.length
        · exact col j c
        · rw [Array.getElem?_eq_none (by omega), List.getElem?_eq_none (by unfold colZ; rw [List.length_map]; omega)]
      refine wpAny_bind (wpAny_seqItems hTO' rfl ?_)
      dsimp only
      refine wpAny_bind (wpAny_newTuple ?_ (by rw [Array.length_toList, sz']; omega))
      refine wpAny_bind ?_
      unfold Builtin.SmallTypes.ownedTupleHandOut
      have hz₆ : IsZ (h.push { cls := .type "tuple", data := .seq ar.toList.toArray }) z TI TO .ellipsis f1' := Heap.get?_push_of_some _ zz
      refine wpAny_bind (wpAny_setField_rec hz₆ (by simp) fun h₇ hz₇ hs₇ => ?_)
      replace hz₇ : IsZ h₇ z TI TO (rawInt h.objs.size) f1' := hz₇
      refine wpAny_setField_rec hz₇ (by simp) fun h₈ hz₈ hs₈ => ?_
      replace hz₈ : IsZ h₈ z TI TO (rawInt h.objs.size) (.bool false) := hz₈
      have up : ∀ c o, c ≠ z → h.get? c = some o → h₈.get? c = some o := fun c o c1 e => hs₈.extBut _ _ c1 (hs₇.extBut _ _ c1 (Heap.get?_push_of_some _ e))
      have hzl : z < h.objs.size := Heap.lt_size zz
      have hT₈ : h₈.get? h.objs.size = some { cls := .type "tuple", data := .seq ar.toList.toArray } := hs₈.extBut _ _ (Nat.ne_of_gt hzl) (hs₇.extBut _ _ (Nat.ne_of_gt hzl) (Heap.get?_push_size _ rfl))
      have hz8 : h₈.objs.size = h.objs.size + 1 := by rw [hs₈.1, hs₇.1, Heap.size_push]
      rw [ez] at hT₈ hz8
      rw [ea] at hT₈
      refine wpAny_pure ⟨_, rfl, ?_⟩
      show Q (.ref h.objs.size) _
      rw [ez]
      refine hQ0 h₈ ⟨⟨_, _, hz₈, .inr ⟨_, _, rfl⟩⟩, up _ _ hTIz (kp _ _ D.ti hTI0), ⟨_, up _ _ D.zt hTO', sz'⟩, fun p hp => ?_⟩ hT₈ hz8 fun c o hc e => up c o (fun z => hc (z ▸ fp_z)) (kp c o hc e)
      obtain ⟨j, hj⟩ := List.mem_iff_getElem?.mp hp
      have := it j p hj
      rw [if_pos (List.getElem?_eq_some_iff.mp hj).1] at this
      exact this.at fun o e => up _ o (D.zi hp).1 e
    · refine ⟨rfl, 0, h₁, by simp, Nat.zero_le _, rfl, hz₁, fun j p hj => ?_, ⟨arr, hs₁.extBut _ _ D.zt hTO0, hsz, fun j hj => absurd hj (Nat.not_lt_zero _)⟩, fun c o hc e => hs₁.extBut _ _ (fun z => hc (z ▸ fp_z)) e, hs₁.1⟩
      rw [if_neg (Nat.not_lt_zero _)]
      have hp := List.mem_of_getElem? hj
      exact (hit0 p hp).extBut hs₁.extBut (D.zi hp).1
  | false =>
    rw [if_neg (by simp)]
    rw [← Array.forIn_toList]
    refine wpAny_bind (wpAny_forIn_list _ (fun rest q s' => q.1 = none ∧ ∃ m h, rest = (zRefs ps).drop m ∧ m ≤ ps.length ∧ s' = { s with heap := h } ∧ IsZ h z TI TO f0 f1' ∧ ItZ h ps k m ∧ q.2.toList = (colZ ps k).take m ∧
        h.get? TO = some { cls := .type "tuple", data := .seq arr } ∧ (∀ c o, c ∉ zFp z TO ps → h0.get? c = some o → h.get? c = some o) ∧ h.objs.size = h0.objs.size) _ ?_ ?_ _ _ ?_)
    · rintro x rest ⟨q1, q⟩ s' ⟨e0, m, h, hr, hm, rfl, zz, it, col, hTO', kp, ez⟩
      simp only at e0 col
      subst e0
      have e1 : (zRefs ps)[m]? = some x := by
        have h0 : ((zRefs ps).drop m)[0]? = some x := by rw [← hr]; rfl
        rw [List.getElem?_drop, Nat.add_zero] at h0
        exact h0
      have e3 : rest = (zRefs ps).drop (m + 1) := by
        have := congrArg List.tail hr
        simpa using this
      obtain ⟨p, hp, ev⟩ := refs_at e1
      subst ev
      have hpm := List.mem_of_getElem? hp
      have hml : m < ps.length := (List.getElem?_eq_some_iff.mp hp).1
      obtain ⟨tp, ts⟩ := htup0 p hpm
      have tp' : h.IsTuple p.2.1 p.2.2 := tp.at fun o e => kp _ _ (D.ap p hpm) e
      refine wpAny_bind (wpAny_holding ?_)
      show wpAny _ _ (Builtin.SmallTypes.nextOf (.ref p.1) >>= _) _ _ _
      have gi := it m p hp
      rw [if_neg (Nat.lt_irrefl _)] at gi
      refine wpAny_bind (RZ.nextOf_tuple_item (x := p.2.2[k]'(by omega)) gi tp' (Array.getElem?_eq_getElem _) fun h₂ gi' hs₂ => wpAny_pure ?_)
      refine wpAny_pure ⟨rfl, m + 1, h₂, e3, by omega, rfl, hs₂.extBut _ _ (Ne.symm (D.zi hpm).1) zz, ItZ.step D it hp gi' hs₂, ?_, hs₂.extBut _ _ (Ne.symm (D.zi hpm).2) hTO', fun c o hc e => hs₂.extBut _ _ (fun z => hc (z ▸ fp_i hpm)) (kp c o hc e), by rw [hs₂.1, ez]⟩
      simp only [Array.toList_push]
      rw [col, List.take_add_one]
      congr 1
      unfold colZ
      rw [List.getElem?_map, hp]
      simp only [Option.map_some, Option.toList_some, List.cons.injEq, and_true]
      rw [Array.getD_eq_getD_getElem?, Array.getElem?_eq_getElem (by omega)]
      rfl
    · rintro ⟨q1, q⟩ s' ⟨e0, m, h, hr, hm, rfl, zz, it, col, hTO', kp, ez⟩
      simp only at e0 col
      subst e0
      have em : m = ps.length := by
        have := congrArg List.length hr
        simp only [List.length_nil, List.length_drop, hl] at this
        omega
      subst em
      dsimp only
      have ea : q.toList = colZ ps k := by
        rw [col]
        exact List.take_of_length_le (by unfold colZ; rw [List.length_map]; exact Nat.le_refl _)
      have hcl : (colZ ps k).length = ps.length := by unfold colZ; rw [List.length_map]
      rw [ea]
      refine wpAny_bind (wpAny_newTuple ?_ (by rw [hcl]; omega))
      have up : ∀ c o, h.get? c = some o → (h.push { cls := .type "tuple", data := .seq (colZ ps k).toArray }).get? c = some o := fun c o e => Heap.get?_push_of_some _ e
      refine wpAny_pure ⟨_, rfl, ?_⟩
      show Q (.ref h.objs.size) _
      rw [ez]
      refine hQ0 _ ⟨⟨_, _, up _ _ zz, hf0⟩, up _ _ (kp _ _ D.ti hTI0), ⟨_, up _ _ hTO', hsz⟩, fun p hp => ?_⟩ (by rw [← ez]; exact Heap.get?_push_size _ rfl) (by rw [Heap.size_push, ez]) fun c o hc e => up c o (kp c o hc e)
      obtain ⟨j, hj⟩ := List.mem_iff_getElem?.mp hp
      have := it j p hj
      rw [if_pos (List.getElem?_eq_some_iff.mp hj).1] at this
      exact this.at fun o e => up _ o e
    · refine ⟨rfl, 0, h0, by simp, Nat.zero_le _, rfl, hz0, fun j p hj => ?_, by simp, hTO0, fun c o hc e => e, rfl⟩
      rw [if_neg (Nat.not_lt_zero _)]
      exact hit0 p (List.mem_of_getElem? hj)
theorem nextZ_end {L : Nat} {Q : Fin → Shared → Prop} (hh : A.handled = none) (D : ZAp z TI TO ps) (St : ZSt s.heap z TI TO ps k) (hne : ps ≠ [])
    (htup : ∀ p ∈ ps, s.heap.IsTuple p.2.1 p.2.2 ∧ p.2.2.size = L) (hk : L ≤ k)
    (hE : ∀ h' e, (∀ c o, c ∉ zFp z TO ps → s.heap.get? c = some o → h'.get? c = some o) → (∃ o, h'.get? e = some o ∧ o.cls = .type "StopIteration") → E (.ref e) { s with heap := h' }) :
    wpAny (model prog w) A (Builtin.«zip.__next__» ⟨[.ref z], []⟩) Q E s := by
  obtain ⟨⟨f0, f1, hz, hf0⟩, hTI, ⟨arr, hTO, hsz⟩, hit⟩ := St
  show wpAny _ _ (field (.ref z) 2 >>= _) _ _ _
  refine wpAny_bind (wpAny_field hz rfl (x := .bool false) rfl ?_)
  show wpAny _ _ (field (.ref z) 3 >>= _) _ _ _
  refine wpAny_bind (wpAny_field hz rfl (x := .ref TI) rfl ?_)
  refine wpAny_bind (wpAny_seqItems hTI rfl ?_)
  dsimp only
  rw [if_neg (by cases ps <;> simp_all [zRefs])]
  refine wpAny_bind (wpAny_mono (free_any hz hf0) (fun b s1 hb => ?_) fun _ _ x => x)
  obtain ⟨h0, f1', rfl, hz0, sb⟩ := hb
  obtain ⟨p, rest, rfl⟩ := List.exists_cons_of_ne_nil hne
  have hpm : p ∈ p :: rest := List.mem_cons_self
  have hit0 : h0.IsTupleIter p.1 p.2.1 k := (hit p hpm).extBut sb.extBut (D.zi hpm).1
  have htup0 : h0.IsTuple p.2.1 p.2.2 := (htup p hpm).1.at fun o e => sb.extBut _ _ (fun z => D.ap p hpm (z ▸ fp_z)) e
  have hend : p.2.2[k]? = none := Array.getElem?_eq_none (by have := (htup p hpm).2; omega)
  cases b with
  | true =>
    rw [if_pos rfl]
    refine wpAny_bind (wpAny_rule ?_)
    refine wpAny_bind (wpAny_field hz0 rfl (x := .ref TO) rfl ?_)
    dsimp only
    refine wpAny_bind (wpAny_setField_rec hz0 (by simp) fun h₁ hz₁ hs₁ => ?_)
    replace hz₁ : IsZ h₁ z TI TO .ellipsis f1' := hz₁
    refine wpAny_bind ?_
    simp only [zRefs, List.map_cons, List.zipIdx_cons, List.forIn_cons]
    refine wpAny_bind (wpAny_bind (wpAny_onRaise ?_))
    show wpAny _ _ (Builtin.SmallTypes.nextOf (.ref p.1) >>= _) _ _ _
    refine wpAny_bind (RZ.nextOf_tuple_end hh (hit0.extBut hs₁.extBut (D.zi hpm).1) (htup0.at fun o e => hs₁.extBut _ _ (fun z => D.ap p hpm (z ▸ fp_z)) e) hend fun h₂ e hs₂ he => ?_)
    obtain ⟨oe, hoe, hce⟩ := he
    have hz₂ : IsZ h₂ z TI TO .ellipsis f1' := hs₂ _ _ (Ne.symm (D.zi hpm).1) hz₁
    have hez : e ≠ z := fun x => by subst x; rw [hz₂] at hoe; cases hoe; simp at hce
    refine wpAny_setField_rec hz₂ (by simp) fun h₃ _ hs₃ => hE h₃ e (fun c o hc x => ?_) ⟨oe, hs₃.extBut _ _ hez hoe, hce⟩
    have c1 : c ≠ z := fun z => hc (z ▸ fp_z)
    exact hs₃.extBut _ _ c1 (hs₂ _ _ (fun z => hc (z ▸ fp_i hpm)) (hs₁.extBut _ _ c1 (sb.extBut _ _ c1 x)))
  | false =>
    rw [if_neg (by simp)]
    rw [← Array.forIn_toList]
    refine wpAny_bind ?_
    simp only [zRefs, List.map_cons, List.forIn_cons]
    refine wpAny_bind (wpAny_bind (wpAny_holding ?_))
    show wpAny _ _ (Builtin.SmallTypes.nextOf (.ref p.1) >>= _) _ _ _
    refine wpAny_bind (RZ.nextOf_tuple_end hh hit0 htup0 hend fun h₂ e hs₂ he => ?_)
    exact hE h₂ e (fun c o hc x => hs₂ _ _ (fun z => hc (z ▸ fp_i hpm)) (sb.extBut _ _ (fun z => hc (z ▸ fp_z)) x)) he
theorem ZSt.ty (St : ZSt s.heap z TI TO ps k) : s.TypeIs (.ref z) "zip" := by
  obtain ⟨⟨f0, f1, hz, _⟩, _⟩ := St
  exact ⟨_, hz, rfl⟩
theorem pyNextZ {L : Nat} {Q : Option Value → Shared → Prop} (D : ZAp z TI TO ps) (St : ZSt s.heap z TI TO ps k) (hne : ps ≠ [])
    (htup : ∀ p ∈ ps, s.heap.IsTuple p.2.1 p.2.2 ∧ p.2.2.size = L) (hk : k < L) (hn : ps.length ≤ 1000)
    (hQ : ∀ h', ZSt h' z TI TO ps (k + 1) → h'.get? s.heap.objs.size = some { cls := .type "tuple", data := .seq (colZ ps k).toArray } → h'.objs.size = s.heap.objs.size + 1 →
      (∀ c o, c ∉ zFp z TO ps → s.heap.get? c = some o → h'.get? c = some o) → Q (some (.ref s.heap.objs.size)) { s with heap := h' }) :
    wpAny (model prog w) A (pyNext (.ref z)) Q E s := by
  unfold pyNext
  exact wpAny_bind (wpAny_attempt (wpAny_callSpecial?_slot (name := Str.ofString "__next__") St.ty F.slot_zip_next
    (wpAny_call_entry F.slot_zip_next St.ty F.entry_zip_next (nextZ D St hne htup hk hn fun h' a b c d => wpAny_pure (hQ h' a b c d)) (F.args_zip_next_1 _))))
theorem pyNextZ_end {L : Nat} {Q : Option Value → Shared → Prop} (hh : A.handled = none) (D : ZAp z TI TO ps) (St : ZSt s.heap z TI TO ps k) (hne : ps ≠ [])
    (htup : ∀ p ∈ ps, s.heap.IsTuple p.2.1 p.2.2 ∧ p.2.2.size = L) (hk : L ≤ k)
    (hQ : ∀ h', (∀ c o, c ∉ zFp z TO ps → s.heap.get? c = some o → h'.get? c = some o) → Q none { s with heap := h' }) : wpAny (model prog w) A (pyNext (.ref z)) Q E s := by
  unfold pyNext
  refine wpAny_bind (wpAny_attempt (wpAny_callSpecial?_slot (name := Str.ofString "__next__") St.ty F.slot_zip_next
    (wpAny_call_entry F.slot_zip_next St.ty F.entry_zip_next (nextZ_end (L := L) hh D St hne htup hk fun h' e hk he => ?_) (F.args_zip_next_1 _))))
  obtain ⟨o, ho, hc⟩ := he
  refine wpAny_bind (wpAny_isInstance (T := "StopIteration") (b := true) ⟨o, ho, hc⟩ isSubtype_stop ?_)
  exact wpAny_pure (hQ _ hk)
end
theorem pyIterZ {prog : Program} {w : World} {A : Around} {E : Value → Shared → Prop} {s : Shared} {z TI TO : Addr} {ps : ZP} {k : Nat} {Q : Value → Shared → Prop} (St : ZSt s.heap z TI TO ps k) (h : Q (.ref z) s) : wpAny (model prog w) A (pyIter (.ref z)) Q E s := by
  have hT := St.ty
  refine wpAny_pyIter_slot hT F.slot_zip_iter (wpAny_call_entry F.slot_zip_iter hT F.entry_zip_iter ?_ (F.args_zip_iter_1 _))
  show wpAny _ _ (ret (.ref z)) _ _ s
  exact wpAny_pure ⟨_, rfl, "zip", _, hT, F.slot_zip_next.lookup, h⟩
theorem typeCall_zip1 (a : Value) : checkTypeCall "zip" ⟨[a], []⟩ = pure () := by kernel_rfl
theorem newCall_zip1 (a : Value) : checkBuiltinCall "zip.__new__" ⟨[.type "zip", a], []⟩ = pure () := by kernel_rfl
theorem typeCall_zip2 (a b : Value) : checkTypeCall "zip" ⟨[a, b], []⟩ = pure () := by kernel_rfl
theorem newCall_zip2 (a b : Value) : checkBuiltinCall "zip.__new__" ⟨[.type "zip", a, b], []⟩ = pure () := by kernel_rfl
theorem typeCall_zip3 (a b c : Value) : checkTypeCall "zip" ⟨[a, b, c], []⟩ = pure () := by kernel_rfl
theorem newCall_zip3 (a b c : Value) : checkBuiltinCall "zip.__new__" ⟨[.type "zip", a, b, c], []⟩ = pure () := by kernel_rfl
theorem args_object_init_4 (a b c d : Value) : argsOk "object.__init__" ⟨[a, b, c, d], []⟩ := by
  unfold argsOk; rw [signature?_of (id := "object.__init__") (n := ['_', '_', 't', 'i', 'n', 'i', '_', '_']) (o := ['t', 'c', 'e', 'j', 'b', 'o']) (by kernel_rfl) PySem.F.owner_object]; kernel_rfl
noncomputable abbrev z1H1 (h : Heap) (l1 : Addr) : Heap := (h).push { cls := .type "tuple_iterator", data := .fields #[.ref l1, .int 0 0] }
noncomputable abbrev z1HI (h : Heap) (l1 : Addr) : Heap := (z1H1 h l1).push { cls := .type "tuple", data := .seq #[.ref h.objs.size] }
noncomputable abbrev z1HO (h : Heap) (l1 : Addr) : Heap := (z1HI h l1).push { cls := .type "tuple", data := .seq #[.none] }
noncomputable abbrev z1HZ (h : Heap) (l1 : Addr) : Heap := (z1HO h l1).push { cls := .type "zip", data := .fields #[.none, .bool false, .bool false, .ref (z1H1 h l1).objs.size, .ref (z1HI h l1).objs.size] }
theorem meets_zip1_new (l1 : Addr) (x1 : Array Value) :
    Meets (Builtin.«zip.__new__» ⟨[.type "zip", .ref l1], []⟩) (fun _ R s => s.heap.IsTuple l1 x1 ∧
      R (.ok (.ret (.ref (z1HO s.heap l1).objs.size))) { s with heap := z1HZ s.heap l1 }) :=
  .of_wp fun prog w A R s h => by
    obtain ⟨hp, g, d, tk, os⟩ := s; obtain ⟨hl1, h⟩ := h
    have hsub := sub_zip
    have hL1 : Heap.IsTuple (Shared.heap ⟨hp, g, d, tk, os⟩) l1 x1 := hl1
    wp_walk using wpAny_pyIter_tuple hL1
    exact ⟨_, rfl, h⟩
noncomputable abbrev z2H1 (h : Heap) (l1 : Addr) : Heap := (h).push { cls := .type "tuple_iterator", data := .fields #[.ref l1, .int 0 0] }
noncomputable abbrev z2H2 (h : Heap) (l1 l2 : Addr) : Heap := (z2H1 h l1).push { cls := .type "tuple_iterator", data := .fields #[.ref l2, .int 0 0] }
noncomputable abbrev z2HI (h : Heap) (l1 l2 : Addr) : Heap := (z2H2 h l1 l2).push { cls := .type "tuple", data := .seq #[.ref h.objs.size, .ref (z2H1 h l1).objs.size] }
noncomputable abbrev z2HO (h : Heap) (l1 l2 : Addr) : Heap := (z2HI h l1 l2).push { cls := .type "tuple", data := .seq #[.none, .none] }
noncomputable abbrev z2HZ (h : Heap) (l1 l2 : Addr) : Heap := (z2HO h l1 l2).push { cls := .type "zip", data := .fields #[.none, .bool false, .bool false, .ref (z2H2 h l1 l2).objs.size, .ref (z2HI h l1 l2).objs.size] }
theorem meets_zip2_new (l1 l2 : Addr) (x1 x2 : Array Value) :
    Meets (Builtin.«zip.__new__» ⟨[.type "zip", .ref l1, .ref l2], []⟩) (fun _ R s => s.heap.IsTuple l1 x1 ∧ s.heap.IsTuple l2 x2 ∧
      R (.ok (.ret (.ref (z2HO s.heap l1 l2).objs.size))) { s with heap := z2HZ s.heap l1 l2 }) :=
  .of_wp fun prog w A R s h => by
    obtain ⟨hp, g, d, tk, os⟩ := s; obtain ⟨hl1, hl2, h⟩ := h
    have hsub := sub_zip
    have hL1 : Heap.IsTuple (Shared.heap ⟨hp, g, d, tk, os⟩) l1 x1 := hl1
    have hL2 : Heap.IsTuple (Shared.heap ⟨z2H1 hp l1, g, d, tk, os⟩) l2 x2 := Heap.IsTuple.push (hl2) _
    wp_walk using wpAny_pyIter_tuple hL1, wpAny_pyIter_tuple hL2
    exact ⟨_, rfl, h⟩
noncomputable abbrev z3H1 (h : Heap) (l1 : Addr) : Heap := (h).push { cls := .type "tuple_iterator", data := .fields #[.ref l1, .int 0 0] }
noncomputable abbrev z3H2 (h : Heap) (l1 l2 : Addr) : Heap := (z3H1 h l1).push { cls := .type "tuple_iterator", data := .fields #[.ref l2, .int 0 0] }
noncomputable abbrev z3H3 (h : Heap) (l1 l2 l3 : Addr) : Heap := (z3H2 h l1 l2).push { cls := .type "tuple_iterator", data := .fields #[.ref l3, .int 0 0] }
noncomputable abbrev z3HI (h : Heap) (l1 l2 l3 : Addr) : Heap := (z3H3 h l1 l2 l3).push { cls := .type "tuple", data := .seq #[.ref h.objs.size, .ref (z3H1 h l1).objs.size, .ref (z3H2 h l1 l2).objs.size] }
noncomputable abbrev z3HO (h : Heap) (l1 l2 l3 : Addr) : Heap := (z3HI h l1 l2 l3).push { cls := .type "tuple", data := .seq #[.none, .none, .none] }
noncomputable abbrev z3HZ (h : Heap) (l1 l2 l3 : Addr) : Heap := (z3HO h l1 l2 l3).push { cls := .type "zip", data := .fields #[.none, .bool false, .bool false, .ref (z3H3 h l1 l2 l3).objs.size, .ref (z3HI h l1 l2 l3).objs.size] }
theorem meets_zip3_new (l1 l2 l3 : Addr) (x1 x2 x3 : Array Value) :
    Meets (Builtin.«zip.__new__» ⟨[.type "zip", .ref l1, .ref l2, .ref l3], []⟩) (fun _ R s => s.heap.IsTuple l1 x1 ∧ s.heap.IsTuple l2 x2 ∧ s.heap.IsTuple l3 x3 ∧
      R (.ok (.ret (.ref (z3HO s.heap l1 l2 l3).objs.size))) { s with heap := z3HZ s.heap l1 l2 l3 }) :=
  .of_wp fun prog w A R s h => by
    obtain ⟨hp, g, d, tk, os⟩ := s; obtain ⟨hl1, hl2, hl3, h⟩ := h
    have hsub := sub_zip
    have hL1 : Heap.IsTuple (Shared.heap ⟨hp, g, d, tk, os⟩) l1 x1 := hl1
    have hL2 : Heap.IsTuple (Shared.heap ⟨z3H1 hp l1, g, d, tk, os⟩) l2 x2 := Heap.IsTuple.push (hl2) _
    have hL3 : Heap.IsTuple (Shared.heap ⟨z3H2 hp l1 l2, g, d, tk, os⟩) l3 x3 := Heap.IsTuple.push (Heap.IsTuple.push (hl3) _) _
    wp_walk using wpAny_pyIter_tuple hL1, wpAny_pyIter_tuple hL2, wpAny_pyIter_tuple hL3
    exact ⟨_, rfl, h⟩
section
variable {prog : Program} {w : World} {A : Around} {E : Value → Shared → Prop} {s : Shared}
theorem nge {a N : Nat} (h : a < N) (k : Nat) : ¬ (a = N + k) := by omega
noncomputable def ZNew (s : Shared) (ls : List (Addr × Array Value)) (Q : Value → Shared → Prop) : Prop := ∀ h' z TI TO ps, ps.map (fun p : Addr × Addr × Array Value => p.2) = ls → ZAp z TI TO ps → ZSt h' z TI TO ps 0 → (∀ b ∈ TI :: zFp z TO ps, s.heap.objs.size ≤ b) →
  (∀ c o, s.heap.get? c = some o → h'.get? c = some o) → Q (.ref z) { s with heap := h' }
theorem call_zip1 {l1 : Addr} {x1 : Array Value} {Q : Value → Shared → Prop} (h1 : s.heap.IsTuple l1 x1) (h : ZNew s [(l1, x1)] Q) :
    wpAny (model prog w) A (call (.type "zip") [.ref l1]) Q E s := by
  refine callType_new PySem.F.called_zip (by decide) (typeCall_zip1 _ ) (newCall_zip1 _ ) (fun obj => PySem.F.args_object_init_2 obj _) PySem.F.entry_zip_new
    (meets_zip1_new l1 x1) ⟨h1, ?_⟩
  have z1 : (z1H1 s.heap l1).objs.size = s.heap.objs.size + 1 := Heap.size_push ..
  have z2 : (z1HI s.heap l1).objs.size = s.heap.objs.size + 2 := by rw [Heap.size_push, z1]
  have z3 : (z1HO s.heap l1).objs.size = s.heap.objs.size + 3 := by rw [Heap.size_push, z2]
  have z4 : (z1HZ s.heap l1).objs.size = s.heap.objs.size + 4 := by rw [Heap.size_push, z3]
  have g1 : (z1HZ s.heap l1).get? s.heap.objs.size = some _ := Heap.get?_push_of_some _ (Heap.get?_push_of_some _ (Heap.get?_push_of_some _ (Heap.get?_push_size _ rfl)))
  have g2 : (z1HZ s.heap l1).get? (z1H1 s.heap l1).objs.size = some _ := Heap.get?_push_of_some _ (Heap.get?_push_of_some _ (Heap.get?_push_size _ rfl))
  have g3 : (z1HZ s.heap l1).get? (z1HI s.heap l1).objs.size = some _ := Heap.get?_push_of_some _ (Heap.get?_push_size _ rfl)
  have g4 : (z1HZ s.heap l1).get? (z1HO s.heap l1).objs.size = some _ := Heap.get?_push_size _ rfl
  have kp : ∀ c o, s.heap.get? c = some o → (z1HZ s.heap l1).get? c = some o := fun c o x => Heap.get?_push_of_some _ (Heap.get?_push_of_some _ (Heap.get?_push_of_some _ (Heap.get?_push_of_some _ (x))))
  have q1 : l1 < s.heap.objs.size := by obtain ⟨o, ho, _⟩ := h1; exact Heap.lt_size ho
  show _ ∧ _
  simp only [z1, z2, z3] at g2
  simp only [z1, z2, z3] at g3
  simp only [z1, z2, z3] at g4
  rw [z3]
  refine ⟨⟨_, g4, rfl⟩, h (z1HZ s.heap l1) (s.heap.objs.size + 3) (s.heap.objs.size + 1) (s.heap.objs.size + 2) [(s.heap.objs.size, l1, x1)] rfl ⟨?_, ?_, ?_⟩ ⟨⟨_, _, g4, .inl rfl⟩, g2, ⟨_, g3, rfl⟩, ?_⟩ ?_ kp⟩
  · simp
  · simp [zFp]
  · intro p hp
    simp only [List.mem_cons, List.not_mem_nil, or_false] at hp
    rcases hp with rfl <;> simp [zFp, nge q1, Nat.ne_of_lt q1]
  · intro p hp
    simp only [List.mem_cons, List.not_mem_nil, or_false] at hp
    rcases hp with rfl
    · exact ⟨_, g1, rfl, rfl⟩
  · intro b hb
    simp only [zFp, List.map_cons, List.map_nil, List.mem_cons, List.not_mem_nil, or_false] at hb
    rcases hb with rfl | rfl | rfl | rfl <;> first | exact Nat.le_refl _ | exact Nat.le_add_right _ _
theorem call_zip2 {l1 l2 : Addr} {x1 x2 : Array Value} {Q : Value → Shared → Prop} (h1 : s.heap.IsTuple l1 x1) (h2 : s.heap.IsTuple l2 x2) (h : ZNew s [(l1, x1), (l2, x2)] Q) :
    wpAny (model prog w) A (call (.type "zip") [.ref l1, .ref l2]) Q E s := by
  refine callType_new PySem.F.called_zip (by decide) (typeCall_zip2 _ _ ) (newCall_zip2 _ _ ) (fun obj => PySem.F.args_object_init_3 obj _ _) PySem.F.entry_zip_new
    (meets_zip2_new l1 l2 x1 x2) ⟨h1, h2, ?_⟩
  have z1 : (z2H1 s.heap l1).objs.size = s.heap.objs.size + 1 := Heap.size_push ..
  have z2 : (z2H2 s.heap l1 l2).objs.size = s.heap.objs.size + 2 := by rw [Heap.size_push, z1]
  have z3 : (z2HI s.heap l1 l2).objs.size = s.heap.objs.size + 3 := by rw [Heap.size_push, z2]
  have z4 : (z2HO s.heap l1 l2).objs.size = s.heap.objs.size + 4 := by rw [Heap.size_push, z3]
  have z5 : (z2HZ s.heap l1 l2).objs.size = s.heap.objs.size + 5 := by rw [Heap.size_push, z4]
  have g1 : (z2HZ s.heap l1 l2).get? s.heap.objs.size = some _ := Heap.get?_push_of_some _ (Heap.get?_push_of_some _ (Heap.get?_push_of_some _ (Heap.get?_push_of_some _ (Heap.get?_push_size _ rfl))))
  have g2 : (z2HZ s.heap l1 l2).get? (z2H1 s.heap l1).objs.size = some _ := Heap.get?_push_of_some _ (Heap.get?_push_of_some _ (Heap.get?_push_of_some _ (Heap.get?_push_size _ rfl)))
  have g3 : (z2HZ s.heap l1 l2).get? (z2H2 s.heap l1 l2).objs.size = some _ := Heap.get?_push_of_some _ (Heap.get?_push_of_some _ (Heap.get?_push_size _ rfl))
  have g4 : (z2HZ s.heap l1 l2).get? (z2HI s.heap l1 l2).objs.size = some _ := Heap.get?_push_of_some _ (Heap.get?_push_size _ rfl)
  have g5 : (z2HZ s.heap l1 l2).get? (z2HO s.heap l1 l2).objs.size = some _ := Heap.get?_push_size _ rfl
  have kp : ∀ c o, s.heap.get? c = some o → (z2HZ s.heap l1 l2).get? c = some o := fun c o x => Heap.get?_push_of_some _ (Heap.get?_push_of_some _ (Heap.get?_push_of_some _ (Heap.get?_push_of_some _ (Heap.get?_push_of_some _ (x)))))
  have q1 : l1 < s.heap.objs.size := by obtain ⟨o, ho, _⟩ := h1; exact Heap.lt_size ho
  have q2 : l2 < s.heap.objs.size := by obtain ⟨o, ho, _⟩ := h2; exact Heap.lt_size ho
  show _ ∧ _
  simp only [z1, z2, z3, z4] at g2
  simp only [z1, z2, z3, z4] at g3
  simp only [z1, z2, z3, z4] at g4
  simp only [z1, z2, z3, z4] at g5
  rw [z4]
  refine ⟨⟨_, g5, rfl⟩, h (z2HZ s.heap l1 l2) (s.heap.objs.size + 4) (s.heap.objs.size + 2) (s.heap.objs.size + 3) [(s.heap.objs.size, l1, x1), (s.heap.objs.size + 1, l2, x2)] rfl ⟨?_, ?_, ?_⟩ ⟨⟨_, _, g5, .inl rfl⟩, g3, ⟨_, g4, rfl⟩, ?_⟩ ?_ kp⟩
  · simp
  · simp [zFp]
  · intro p hp
    simp only [List.mem_cons, List.not_mem_nil, or_false] at hp
    rcases hp with rfl | rfl <;> simp [zFp, nge q1, Nat.ne_of_lt q1, nge q2, Nat.ne_of_lt q2]
  · intro p hp
    simp only [List.mem_cons, List.not_mem_nil, or_false] at hp
    rcases hp with rfl | rfl
    · exact ⟨_, g1, rfl, rfl⟩
    · exact ⟨_, g2, rfl, rfl⟩
  · intro b hb
    simp only [zFp, List.map_cons, List.map_nil, List.mem_cons, List.not_mem_nil, or_false] at hb
    rcases hb with rfl | rfl | rfl | rfl | rfl <;> first | exact Nat.le_refl _ | exact Nat.le_add_right _ _
theorem call_zip3 {l1 l2 l3 : Addr} {x1 x2 x3 : Array Value} {Q : Value → Shared → Prop} (h1 : s.heap.IsTuple l1 x1) (h2 : s.heap.IsTuple l2 x2) (h3 : s.heap.IsTuple l3 x3) (h : ZNew s [(l1, x1), (l2, x2), (l3, x3)] Q) :
    wpAny (model prog w) A (call (.type "zip") [.ref l1, .ref l2, .ref l3]) Q E s := by
  refine callType_new PySem.F.called_zip (by decide) (typeCall_zip3 _ _ _ ) (newCall_zip3 _ _ _ ) (fun obj => args_object_init_4 obj _ _ _) PySem.F.entry_zip_new
    (meets_zip3_new l1 l2 l3 x1 x2 x3) ⟨h1, h2, h3, ?_⟩
  have z1 : (z3H1 s.heap l1).objs.size = s.heap.objs.size + 1 := Heap.size_push ..
  have z2 : (z3H2 s.heap l1 l2).objs.size = s.heap.objs.size + 2 := by rw [Heap.size_push, z1]
  have z3 : (z3H3 s.heap l1 l2 l3).objs.size = s.heap.objs.size + 3 := by rw [Heap.size_push, z2]
  have z4 : (z3HI s.heap l1 l2 l3).objs.size = s.heap.objs.size + 4 := by rw [Heap.size_push, z3]
  have z5 : (z3HO s.heap l1 l2 l3).objs.size = s.heap.objs.size + 5 := by rw [Heap.size_push, z4]
  have z6 : (z3HZ s.heap l1 l2 l3).objs.size = s.heap.objs.size + 6 := by rw [Heap.size_push, z5]
  have g1 : (z3HZ s.heap l1 l2 l3).get? s.heap.objs.size = some _ := Heap.get?_push_of_some _ (Heap.get?_push_of_some _ (Heap.get?_push_of_some _ (Heap.get?_push_of_some _ (Heap.get?_push_of_some _ (Heap.get?_push_size _ rfl)))))
  have g2 : (z3HZ s.heap l1 l2 l3).get? (z3H1 s.heap l1).objs.size = some _ := Heap.get?_push_of_some _ (Heap.get?_push_of_some _ (Heap.get?_push_of_some _ (Heap.get?_push_of_some _ (Heap.get?_push_size _ rfl))))
  have g3 : (z3HZ s.heap l1 l2 l3).get? (z3H2 s.heap l1 l2).objs.size = some _ := Heap.get?_push_of_some _ (Heap.get?_push_of_some _ (Heap.get?_push_of_some _ (Heap.get?_push_size _ rfl)))
  have g4 : (z3HZ s.heap l1 l2 l3).get? (z3H3 s.heap l1 l2 l3).objs.size = some _ := Heap.get?_push_of_some _ (Heap.get?_push_of_some _ (Heap.get?_push_size _ rfl))
  have g5 : (z3HZ s.heap l1 l2 l3).get? (z3HI s.heap l1 l2 l3).objs.size = some _ := Heap.get?_push_of_some _ (Heap.get?_push_size _ rfl)
  have g6 : (z3HZ s.heap l1 l2 l3).get? (z3HO s.heap l1 l2 l3).objs.size = some _ := Heap.get?_push_size _ rfl
  have kp : ∀ c o, s.heap.get? c = some o → (z3HZ s.heap l1 l2 l3).get? c = some o := fun c o x => Heap.get?_push_of_some _ (Heap.get?_push_of_some _ (Heap.get?_push_of_some _ (Heap.get?_push_of_some _ (Heap.get?_push_of_some _ (Heap.get?_push_of_some _ (x))))))
  have q1 : l1 < s.heap.objs.size := by obtain ⟨o, ho, _⟩ := h1; exact Heap.lt_size ho
  have q2 : l2 < s.heap.objs.size := by obtain ⟨o, ho, _⟩ := h2; exact Heap.lt_size ho
  have q3 : l3 < s.heap.objs.size := by obtain ⟨o, ho, _⟩ := h3; exact Heap.lt_size ho
  show _ ∧ _
  simp only [z1, z2, z3, z4, z5] at g2
  simp only [z1, z2, z3, z4, z5] at g3
  simp only [z1, z2, z3, z4, z5] at g4
  simp only [z1, z2, z3, z4, z5] at g5
  simp only [z1, z2, z3, z4, z5] at g6
  rw [z5]
  refine ⟨⟨_, g6, rfl⟩, h (z3HZ s.heap l1 l2 l3) (s.heap.objs.size + 5) (s.heap.objs.size + 3) (s.heap.objs.size + 4) [(s.heap.objs.size, l1, x1), (s.heap.objs.size + 1, l2, x2), (s.heap.objs.size + 2, l3, x3)] rfl ⟨?_, ?_, ?_⟩ ⟨⟨_, _, g6, .inl rfl⟩, g4, ⟨_, g5, rfl⟩, ?_⟩ ?_ kp⟩
  · simp
  · simp [zFp]
  · intro p hp
    simp only [List.mem_cons, List.not_mem_nil, or_false] at hp
    rcases hp with rfl | rfl | rfl <;> simp [zFp, nge q1, Nat.ne_of_lt q1, nge q2, Nat.ne_of_lt q2, nge q3, Nat.ne_of_lt q3]
  · intro p hp
    simp only [List.mem_cons, List.not_mem_nil, or_false] at hp
    rcases hp with rfl | rfl | rfl
    · exact ⟨_, g1, rfl, rfl⟩
    · exact ⟨_, g2, rfl, rfl⟩
    · exact ⟨_, g3, rfl, rfl⟩
  · intro b hb
    simp only [zFp, List.map_cons, List.map_nil, List.mem_cons, List.not_mem_nil, or_false] at hb
    rcases hb with rfl | rfl | rfl | rfl | rfl | rfl <;> first | exact Nat.le_refl _ | exact Nat.le_add_right _ _
theorem call_zipN {ls : List (Addr × Array Value)} {Q : Value → Shared → Prop} (h1 : ls ≠ []) (h3 : ls.length ≤ 3) (hl : ∀ p ∈ ls, s.heap.IsTuple p.1 p.2) (h : ZNew s ls Q) : wpAny (model prog w) A (call (.type "zip") (ls.map fun p => .ref p.1)) Q E s := by
  match ls, h1, h3, hl, h with
  | [p], _, _, hl, h => exact call_zip1 (hl p (by simp)) h
  | [p, q], _, _, hl, h => exact call_zip2 (hl p (by simp)) (hl q (by simp)) h
  | [p, q, r], _, _, hl, h => exact call_zip3 (hl p (by simp)) (hl q (by simp)) (hl r (by simp)) h
end
noncomputable def ItzN (K : PySem.W.Frag) (as : List Addr) : It :=
  ⟨fun i H => ∃ (L : Nat) (xss : List (List V)), Paired (fun a xs => SqT K H a xs ∧ xs.length = L) as xss ∧ i < L,
   fun i H v H' => ∃ T ys o, v = .ref T ∧ H T = none ∧ o.dict = none ∧ H' = upd H T (.frz o (.tup ys)) ∧ ∀ xss : List (List V), Paired (fun a xs => SqT K H a xs) as xss → Paired (fun (xs : List V) y => xs[i]? = some y) xss ys,
   fun i H => ∃ (L : Nat) (xss : List (List V)), Paired (fun a xs => SqT K H a xs ∧ xs.length = L) as xss ∧ L ≤ i⟩
noncomputable abbrev zq (ps : ZP) : List (Addr × Addr) := ps.map fun p => (p.1, p.2.1)
theorem zq_refs {ps qs : ZP} (h : zq ps = zq qs) : zRefs ps = zRefs qs ∧ ps.map (·.1) = qs.map (·.1) ∧ ps.length = qs.length := by
  have h1 := congrArg (List.map fun p : Addr × Addr => Value.ref p.1) h
  have h2 := congrArg (List.map fun p : Addr × Addr => p.1) h
  have h3 := congrArg List.length h
  simp only [zq, List.map_map, List.length_map] at h1 h2 h3
  exact ⟨h1, h2, h3⟩
theorem zq_mem {ps qs : ZP} (h : zq ps = zq qs) {p : Addr × Addr × Array Value} (hp : p ∈ qs) : ∃ q ∈ ps, q.1 = p.1 ∧ q.2.1 = p.2.1 := by
  have : (p.1, p.2.1) ∈ zq ps := by rw [h]; exact List.mem_map.mpr ⟨p, hp, rfl⟩
  obtain ⟨q, hq, e⟩ := List.mem_map.mp this
  obtain ⟨a, b⟩ := Prod.mk.inj e
  exact ⟨q, hq, a, b⟩
theorem ZSt.re {h : Heap} {z TI TO : Addr} {ps qs : ZP} {k : Nat} (e : zq ps = zq qs) (S : ZSt h z TI TO ps k) : ZSt h z TI TO qs k := by
  obtain ⟨e1, e2, e3⟩ := zq_refs e
  refine ⟨S.zp, by rw [← e1]; exact S.ti, by rw [← e3]; exact S.to, fun p hp => ?_⟩
  obtain ⟨q, hq, a, b⟩ := zq_mem e hp
  rw [← a, ← b]
  exact S.it q hq
theorem ZAp.re {z TI TO : Addr} {ps qs : ZP} (e : zq ps = zq qs) (S : ZAp z TI TO ps) : ZAp z TI TO qs := by
  obtain ⟨e1, e2, e3⟩ := zq_refs e
  refine ⟨by rw [← e2]; exact S.nd, by unfold zFp; rw [← e2]; exact S.ti, fun p hp => ?_⟩
  obtain ⟨q, hq, a, b⟩ := zq_mem e hp
  unfold zFp
  rw [← e2, ← b]
  exact S.ap q hq
theorem ZSt.keeps {h h' : Heap} {z TI TO : Addr} {ps : ZP} {k : Nat} (S : ZSt h z TI TO ps k) (g : ∀ b ∈ TI :: zFp z TO ps, ∀ o, h.get? b = some o → h'.get? b = some o) : ZSt h' z TI TO ps k := by
  obtain ⟨⟨f0, f1, a, b⟩, c, ⟨arr, d, e⟩, f⟩ := S
  exact ⟨⟨f0, f1, g _ (List.mem_cons_of_mem _ fp_z) _ a, b⟩, g _ List.mem_cons_self _ c, ⟨arr, g _ (List.mem_cons_of_mem _ fp_TO) _ d, e⟩, fun p hp => (f p hp).at fun o q => g _ (List.mem_cons_of_mem _ (fp_i hp)) o q⟩
section
variable {X : Cx} {pins : List (Addr × Obj)} {σ : L2.St} {H : Hp} {s : Shared}
theorem zcols (I : Inv X pins σ H s) {L : Nat} : ∀ {as : List Addr} {xss : List (List V)} {qs : List (Addr × Addr)}, Paired (fun a xs => SqT X.K H a xs ∧ xs.length = L) as xss → qs.map (·.2) = as →
    ∃ ps : ZP, zq ps = qs ∧ (∀ p ∈ ps, s.heap.IsTuple p.2.1 p.2.2 ∧ p.2.2.size = L) ∧ ∀ i, i < L → ∃ ys : List V, Paired (fun (xs : List V) y => xs[i]? = some y) xss ys ∧ Vals ys (colZ ps i)
  | _, _, [], .nil, _ => ⟨[], rfl, (fun _ h => by cases h), fun _ _ => ⟨[], .nil, .nil⟩⟩
  | _, _, _ :: _, .nil, e => by simp at e
  | _, _, [], .cons _ _, e => by simp at e
  | _, _, q :: qs, .cons (a := a) (b := xs) ⟨h1, h2⟩ t, e => by
    simp only [List.map_cons, List.cons.injEq] at e
    obtain ⟨e1, e2⟩ := e
    obtain ⟨ps, p1, p2, p3⟩ := zcols I t e2
    obtain ⟨its, rv, tp, hz⟩ := I.tuple h1
    have hl := rv.length
    have tp' : s.heap.IsTuple a its.toArray := tp
    refine ⟨(q.1, q.2, its.toArray) :: ps, by simp [zq] at p1 ⊢; exact p1, fun p hp => ?_, fun i hi => ?_⟩
    · rcases List.mem_cons.mp hp with rfl | hp
      · refine ⟨?_, by rw [List.size_toArray]; omega⟩
        show s.heap.IsTuple q.2 its.toArray
        rw [e1]
        exact tp'
      · exact p2 p hp
    · obtain ⟨ys, y1, y2⟩ := p3 i hi
      have hx : xs[i]? = some (xs[i]'(by omega)) := List.getElem?_eq_getElem _
      obtain ⟨u, hu, ru⟩ := rv.get hx
      refine ⟨xs[i]'(by omega) :: ys, .cons hx y1, ?_⟩
      unfold colZ
      rw [List.map_cons]
      refine .cons ?_ y2
      have : (its.toArray).getD i .none = u := by
        rw [Array.getD_eq_getD_getElem?]
        simp [hu]
      rw [this]
      exact ru
theorem sq_inj (I : Inv X pins σ H s) {L : Nat} : ∀ {as : List Addr} {xss yss : List (List V)}, Paired (fun a xs => SqT X.K H a xs ∧ xs.length = L) as xss → Paired (fun a xs => SqT X.K H a xs) as yss → yss = xss
  | _, _, _, .nil, .nil => rfl
  | _, _, _, .cons ⟨h, _⟩ t, .cons g u => by rw [I.tuple_inj g h, sq_inj I t u]
theorem turn_zipN {P : Program} {w : World} {K : PySem.W.Frag} {x : Str} {px : Pos} {as : List Addr} {z TI TO : Addr} {ps0 : ZP} (hq : (zq ps0).map (·.2) = as) (hn : ps0 ≠ []) (h3 : ps0.length ≤ 1000) (D0 : ZAp z TI TO ps0) :
    Turn P w K (.Name x px) (ItzN K as) (TI :: zFp z TO ps0) z (fun i h => ZSt h z TI TO ps0 i) where
  mem := List.mem_cons_of_mem _ fp_z
  obj := fun i h st b hb => by
    obtain ⟨⟨f0, f1, a, _⟩, c, ⟨arr, d, _⟩, f⟩ := st
    rcases List.mem_cons.mp hb with rfl | hb
    · exact ⟨_, c, fun v q => nomatch q⟩
    · rcases List.mem_cons.mp hb with rfl | hb
      · exact ⟨_, a, fun v q => nomatch q⟩
      · rcases List.mem_cons.mp hb with rfl | hb
        · exact ⟨_, d, fun v q => nomatch q⟩
        · obtain ⟨p, hp, rfl⟩ := List.mem_map.mp hb
          obtain ⟨o, ho, _, hd⟩ := f p hp
          exact ⟨o, ho, fun v q => by rw [hd] at q; cases q⟩
  keep := fun i h h' st k => st.keeps k
  item := by
    intro X hP hw hK hc i pins s σ H E I hf st ⟨L, xss, hx, hi⟩
    subst hP hw hK
    obtain ⟨ps, p1, p2, p3⟩ := zcols I hx hq
    obtain ⟨ys, y1, y2⟩ := p3 i hi
    have D := D0.re p1.symm
    have e3 := (zq_refs p1).2.2
    have e2 := (zq_refs p1).2.1
    refine pyNextZ D (st.re p1.symm) (fun e => hn (List.eq_nil_of_length_eq_zero (by rw [← e3, e]; rfl))) p2 hi (by rw [e3]; exact h3) fun h' st' hT hsz hk => ?_
    have zz : z < s.heap.objs.size := by obtain ⟨⟨f0, f1, a, _⟩, _⟩ := st; exact Heap.lt_size a
    refine ⟨_, rfl, wpAny_pure ?_⟩
    have hyl : ys.length ≤ sizeLine := by
      have l1 := Paired.length y1
      have l2 := Paired.length hx
      have l3 : as.length = ps0.length := by rw [← hq]; simp [zq]
      have n16 : (16777216 : Nat) = sizeLine := sizeLine_eq.symm
      omega
    have new : ObjOk X.prog X.w (upd H s.heap.objs.size (.frz (tupO (colZ ps i).toArray) (.tup ys))) h' s.heap.objs.size (.frz (tupO (colZ ps i).toArray) (.tup ys)) := frz_ok hyl y2 hT
    have hf' : ∀ b ∈ zFp z TO ps0, FpOk X pins H b := fun b hb => hf b (List.mem_cons_of_mem _ hb)
    have I1 : Inv X pins σ (upd H s.heap.objs.size (.frz (tupO (colZ ps i).toArray) (.tup ys))) { s with heap := h' } :=
      I.turnedNew (t' := s.toks) (ch := zFp z TO ps0) (fun c o hb q => hk c o (by unfold zFp; rw [e2]; exact hb) q) hf' (Nat.le_refl _) new
    refine ⟨.ref s.heap.objs.size, _, I1, rfl, ⟨_, ys, _, rfl, I.hok.fresh (Nat.le_refl _), rfl, rfl, fun yss hy => ?_⟩, st'.re p1, fun c hcm => ?_⟩
    · rw [sq_inj I hx hy]
      exact y1
    · have hlt : c < s.heap.objs.size := by
        obtain ⟨⟨f0, f1, a, _⟩, c', ⟨arr, d, _⟩, f⟩ := st
        rcases List.mem_cons.mp hcm with rfl | hb
        · exact Heap.lt_size c'
        · rcases List.mem_cons.mp hb with rfl | hb
          · exact Heap.lt_size a
          · rcases List.mem_cons.mp hb with rfl | hb
            · exact Heap.lt_size d
            · obtain ⟨p, hp, rfl⟩ := List.mem_map.mp hb
              obtain ⟨o, ho, _, hd⟩ := f p hp
              exact Heap.lt_size ho
      rw [upd_ne (Nat.ne_of_lt hlt)]
      exact (hf c hcm).1
  done := by
    intro X hP hw hK hc i pins s σ H E I hf st ⟨L, xss, hx, hi⟩
    subst hP hw hK
    obtain ⟨ps, p1, p2, p3⟩ := zcols I hx hq
    have D := D0.re p1.symm
    have e3 := (zq_refs p1).2.2
    have e2 := (zq_refs p1).2.1
    refine pyNextZ_end (L := L) (I.ok.hd hc) D (st.re p1.symm) (fun e => hn (List.eq_nil_of_length_eq_zero (by rw [← e3, e]; rfl))) p2 hi fun h' hk => ⟨rfl, ?_⟩
    exact I.turnedL (t' := s.toks) (ch := TI :: zFp z TO ps0) (fun c o hb q => hk c o (fun z => hb (List.mem_cons_of_mem _ (by unfold zFp at z ⊢; rw [← e2]; exact z))) q) hf
  self := fun A i s Q E st h => pyIterZ st h
end
theorem star_mono {M : Model} {A : Around} {E : Value → Shared → Prop} {s : Shared} {v : Value} {Q Q' : List Value → Shared → Prop} (h : PySem.W.StarOf M A E v Q s) (i : ∀ vs s', Q vs s' → Q' vs s') : PySem.W.StarOf M A E v Q' s := by
  unfold PySem.W.StarOf at h ⊢
  exact wpAny_mono h (fun b s' ⟨e, q⟩ => ⟨e, wpAny_mono q (fun vs s2 z => i vs s2 z) fun _ _ x => x⟩) fun _ _ x => x
theorem callWith_typeS {M : Model} {A : Around} {E : Value → Shared → Prop} {s : Shared} {env : Env} {pos sp : Pos} {T : String} {e : Expr} {Q : Value → Shared → Prop}
    (h : wpAny M A (eval e env) (fun v s₁ => PySem.W.StarOf M A E v (fun vs s₂ => wpAny M A (call (.type T) vs) Q E s₂) s₁) E s)
    (he : starEach [.Starred e sp] env = [(true, eval e env)]) : wpAny M A (callWith pos (.type T) [] (backTo pos (starEach [.Starred e sp] env)) []) Q E s := by
  rw [he]
  refine PySem.W.ks_call (P := fun _ => True) rfl (fun h _ => ⟨.machine, .inr (.inl rfl), ?_⟩) (PySem.W.ks_lone (wpAny_mono h (fun v s₁ h₁ => ?_) fun _ _ x => x))
  · exact PySem.W.Looks.of_pure rfl
  · show PySem.W.StarOf M A E v (fun vs s₂ => True ∧ wpAny M A (call (.type T) ([] ++ vs)) Q E s₂) s₁
    exact star_mono h₁ fun vs s₂ q => ⟨trivial, q⟩
section
variable {X : Cx}
noncomputable def iZipS (K : PySem.W.Frag) (te : TE) : TI := fun σ H R => te σ H fun v H1 => ∃ a as, v = .ref a ∧ (SqT K H1 a (as.map V.ref) ∨ SqL K H1 a (as.map V.ref)) ∧ as ≠ [] ∧ as.length ≤ 3 ∧ (∀ b ∈ as, ∃ xs, SqT K H1 b xs) ∧ R (ItzN K as) H1
theorem tups_of {pins : List (Addr × Obj)} {σ : L2.St} {H : Hp} {s : Shared} (I : Inv X pins σ H s) : ∀ {as : List Addr}, (∀ b ∈ as, ∃ xs, SqT X.K H b xs) → ∃ ls : List (Addr × Array Value), ls.map (·.1) = as ∧ ∀ p ∈ ls, s.heap.IsTuple p.1 p.2
  | [], _ => ⟨[], rfl, (fun _ h => by cases h)⟩
  | b :: as, h => by
    obtain ⟨ls, h1, h2⟩ := tups_of I (as := as) fun c hc => h c (List.mem_cons_of_mem _ hc)
    obtain ⟨xs, hx⟩ := h b List.mem_cons_self
    obtain ⟨its, rv, tp, _⟩ := I.tuple hx
    have tp' : s.heap.IsTuple b its.toArray := tp
    refine ⟨(b, its.toArray) :: ls, by simp [h1], fun p hp => ?_⟩
    rcases List.mem_cons.mp hp with rfl | hp
    · exact tp'
    · exact h2 p hp
theorem refs_back : ∀ {as : List Addr} {us : List Value}, Vals (as.map V.ref) us → us = as.map Value.ref
  | [], _, .nil => rfl
  | a :: as, _, .cons h t => by
    cases h
    rw [List.map_cons, refs_back t]
theorem pi_zipS {x : Str} {px p sp pos : Pos} {e : Expr} {te : TE} (hg : Gl X "zip") (hm : X.mg "zip" = none) (he : PE X e te) (hs : starEach [.Starred e sp] X.env = [(true, eval e X.env)]) :
    PI X (.Name x px) (.Call (.Name "zip" p) [.Starred e sp] [] pos) (iZipS X.K te) := by
  refine ⟨fun pins s σ H R I h => ?_⟩
  refine Call_ (ld_blt I hg hm PyProof.Rows.boot_zip (callWith_typeS (thn (he.run pins s σ H _ I h) fun v s1 ⟨y, H1, I1, ry, a, as, ey, hx, hn, h3, ht, q⟩ => ?_) hs))
  subst ey
  cases ry
  refine StX.star_any I1 hx fun us s2 I2 rv => ?_
  have eu := refs_back rv
  subst eu
  obtain ⟨ls, l1, l2⟩ := tups_of I2 ht
  have ea : as.map Value.ref = ls.map fun p => Value.ref p.1 := by rw [← l1, List.map_map]; rfl
  rw [ea]
  refine call_zipN (fun e => hn (by rw [← l1, e]; rfl)) (by rw [← List.length_map (f := fun p : Addr × Array Value => p.1), l1]; exact h3) l2 fun h' z TI TO ps e1 D St hge hk => ?_
  have I3 : Inv X pins σ H1 { s2 with heap := h' } := I2.kept (t' := s2.toks) hk
  have eq : (zq ps).map (·.2) = as := by
    rw [← l1, ← e1]
    simp [zq]
  refine pyIterZ (s := { s2 with heap := h' }) St ⟨z, TI :: zFp z TO ps, _, _, H1, rfl, I3, turn_zipN eq (fun e => hn (by rw [← eq, e]; rfl)) (by
    have : ps.length = as.length := by rw [← eq]; simp [zq]
    omega) D, St, fun b hb => I2.fpOk (hge b hb) (I2.hok.fresh (hge b hb)), q⟩
end
noncomputable def tupsOf : List PyData → Option (List (List PyData))
  | [] => some []
  | .tuple ds :: r => (tupsOf r).map (ds :: ·)
  | _ :: _ => none
theorem tupsOf_some : ∀ {xs : List PyData} {dss : List (List PyData)}, tupsOf xs = some dss → xs = dss.map PyData.tuple
  | [], _, h => by simp [tupsOf] at h; subst h; rfl
  | .tuple ds :: r, _, h => by
    simp only [tupsOf, Option.map_eq_some_iff] at h
    obtain ⟨t, h1, rfl⟩ := h
    simp [tupsOf_some h1]
  | .none :: _, _, h | .bool _ :: _, _, h | .int _ :: _, _, h | .str _ :: _, _, h | .list _ :: _, _, h | .dict _ :: _, _, h => by simp [tupsOf] at h
noncomputable def colsOf (dss : List (List PyData)) (L : Nat) : List (List PyData) := (List.range L).map fun i => dss.map fun ds => ds.getD i .none
noncomputable def zipSQ (Q : Src → List DV → HDt → Prop) : List PyData → HDt → Prop := fun rows HD => match tupsOf rows with
  | some (ds :: dss) => (dss.length ≤ 2 ∧ ∀ e ∈ dss, e.length = ds.length) ∧ Q none ((colsOf (ds :: dss) ds.length).map fun c => .d (.tuple c)) HD
  | _ => False
noncomputable def gZipS (ge : GE) : GI := fun δ HD Q => ge δ HD fun x HD1 => match seqD HD1 x with
  | some xs => (match dats xs with
    | some rows => zipSQ Q rows HD1
    | none => False)
  | none => False
section
variable {K : PySem.W.Frag} {H : Hp}
theorem rows_at : ∀ {vs : List V} {dss : List (List PyData)}, FdAll K H vs (dss.map PyData.tuple) → ∃ as : List Addr, vs = as.map V.ref ∧ Paired (fun a ds => ∀ H', Ext H H' → ∃ xs, SqT K H' a xs ∧ FdAll K H' xs ds) as dss
  | _, [], .nil => ⟨[], rfl, .nil⟩
  | _, d :: dss, .cons h t => by
    obtain ⟨as, h1, h2⟩ := rows_at t
    cases h with
    | tup hs ha =>
      rename_i a xs
      exact ⟨a :: as, by rw [h1]; rfl, .cons (fun H' e => ⟨xs, SqT.ext hs.sq e, ha.ext e⟩) h2⟩
theorem rows_now {L : Nat} : ∀ {as : List Addr} {dss : List (List PyData)}, Paired (fun a ds => ∀ H', Ext H H' → ∃ xs, SqT K H' a xs ∧ FdAll K H' xs ds) as dss → (∀ e ∈ dss, e.length = L) → ∀ H', Ext H H' →
    ∃ xss : List (List V), Paired (fun a xs => SqT K H' a xs ∧ xs.length = L) as xss ∧ Paired (fun xs ds => FdAll K H' xs ds) xss dss
  | _, _, .nil, _, _, _ => ⟨[], .nil, .nil⟩
  | _, _, .cons h t, hl, H', e => by
    obtain ⟨xss, h1, h2⟩ := rows_now t (fun e he => hl e (List.mem_cons_of_mem _ he)) H' e
    obtain ⟨xs, a, b⟩ := h H' e
    exact ⟨xs :: xss, .cons ⟨a, by rw [b.length]; exact hl _ List.mem_cons_self⟩ h1, .cons b h2⟩
theorem col_fd {L i : Nat} (hi : i < L) : ∀ {xss : List (List V)} {dss : List (List PyData)} {ys : List V}, Paired (fun xs ds => FdAll K H xs ds) xss dss → (∀ e ∈ dss, e.length = L) → Paired (fun (xs : List V) y => xs[i]? = some y) xss ys →
    FdAll K H ys (dss.map fun ds => ds.getD i .none)
  | _, _, _, .nil, _, .nil => .nil
  | _, _, _, .cons f t, hl, .cons g u => by
    rw [List.map_cons]
    refine .cons ?_ (col_fd hi t (fun e he => hl e (List.mem_cons_of_mem _ he)) u)
    obtain ⟨d, hd, fd⟩ := f.get g
    rw [List.getD_eq_getElem?_getD, hd]
    exact fd
theorem itzN_ok {as : List Addr} {dss : List (List PyData)} {L : Nat} (h : Paired (fun a ds => ∀ H', Ext H H' → ∃ xs, SqT K H' a xs ∧ FdAll K H' xs ds) as dss) (hl : ∀ e ∈ dss, e.length = L) :
    ItOk K (ItzN K as) H none ((colsOf dss L).map fun c => .d (.tuple c)) := by
  have hlen : ((colsOf dss L).map fun c => DV.d (.tuple c)).length = L := by simp [colsOf]
  refine ⟨fun i HD H1 e R so hi => ?_, fun i HD H1 x H' e R so hi hy => ?_, fun i HD H1 e R so hi => ?_⟩
  · obtain ⟨xss, h1, _⟩ := rows_now h hl H1 e
    exact ⟨L, xss, h1, by rw [hlen] at hi; exact hi⟩
  · rw [hlen] at hi
    obtain ⟨T, ys, o, rfl, hT, ho, rfl, f⟩ := hy
    obtain ⟨xss, h1, h2⟩ := rows_now h hl H1 e
    have fy := col_fd hi h2 hl (f xss (Paired.mapP h1 fun _ _ z => z.1))
    refine ⟨.d (.tuple (dss.map fun ds => ds.getD i .none)), ?_, Fd.tup (.at ho) (fy.ext (Ext.new hT)), R.new hT, Frm.new hT⟩
    simp [colsOf, hi]
  · obtain ⟨xss, h1, _⟩ := rows_now h hl H1 e
    exact ⟨L, xss, h1, by rw [hlen] at hi; exact hi⟩
end
section
variable {X : Cx}
theorem di_zipS {x : Str} {px p sp pos : Pos} {e : Expr} {ge : GE} (hg : Gl X "zip") (hm : X.mg "zip" = none) (he : PE X e (up X.K ge)) (hs : starEach [.Starred e sp] X.env = [(true, eval e X.env)]) :
    PI X (.Name x px) (.Call (.Name "zip" p) [.Starred e sp] [] pos) (upI X.K (gZipS ge)) := by
  refine ⟨fun pins s σ H R I h => (pi_zipS hg hm he hs).run pins s σ H R I ?_⟩
  obtain ⟨δ, HD, Qd, E, Rp, h, l⟩ := h
  refine ⟨δ, HD, _, E, Rp, h, fun d HD1 v H1 q dv R1 fr => ?_⟩
  split at q
  · rename_i xs hxs
    split at q
    · rename_i rows hr
      unfold zipSQ at q
      split at q
      · rename_i ds dss ht
        have e1 := dats_some hr
        subst e1
        obtain ⟨a, vs, rfl, h1, h2⟩ := seqD_at dv R1 hxs
        have e2 := tupsOf_some ht
        subst e2
        obtain ⟨as, rfl, h3⟩ := rows_at h2.fd
        have hlen := Paired.length h3
        obtain ⟨⟨q1, q2⟩, q3⟩ := q
        refine ⟨a, as, rfl, h1.symm, fun e => ?_, by rw [hlen]; simp; omega, fun b hb => ?_, l _ _ _ _ _ q3 (itzN_ok h3 fun e he => ?_) trivial R1 fr⟩
        · rw [e] at hlen; simp at hlen
        · obtain ⟨i, hi⟩ := List.mem_iff_getElem?.mp hb
          obtain ⟨ds', _, f⟩ := Paired.get1 h3 hi
          obtain ⟨xs, z, _⟩ := f H1 Ext.refl
          exact ⟨xs, z⟩
        · rcases List.mem_cons.mp he with rfl | he
          · rfl
          · exact q2 e he
      · exact q.elim
    · exact q.elim
  · exact q.elim
end
noncomputable def zipQ (Q : Src → List DV → HDt → Prop) : List DV → HDt → Prop := fun ds HD => match ds with
  | [.d (.tuple a), .d (.tuple b)] => (a.length ≤ sizeLine → Q none ((a.zip b).map fun p => .d (.tuple [p.1, p.2])) HD)
  | [.d (.list a), .d (.list b)] => (a.length ≤ sizeLine → Q none ((a.zip b).map fun p => .d (.tuple [p.1, p.2])) HD)
  | [.d (.tuple a), .d (.list b)] => (b.length ≤ sizeLine → Q none ((a.zip b).map fun p => .d (.tuple [p.1, p.2])) HD)
  | _ => False
noncomputable def gZip (ga gb : GE) : GI := fun δ HD Q => ga δ HD fun x HD1 => gb δ HD1 fun y HD2 => zipQ Q [x, y] HD2
section
variable {K : PySem.W.Frag} {H : Hp}
theorem zip_len {α β : Type} (a : List α) (b : List β) : (a.zip b).length = min a.length b.length := List.length_zip
theorem zip_get {α β : Type} {a : List α} {b : List β} {i : Nat} {x : α} {y : β} (hx : a[i]? = some x) (hy : b[i]? = some y) : (a.zip b)[i]? = some (x, y) := by
  rw [List.getElem?_zip_eq_some]
  exact ⟨hx, hy⟩
theorem itz_ok {p q : Addr} {da db : List PyData} (hs : ∀ H', Ext H H' → ∃ xs ys, SqL K H' p xs ∧ FdAll K H' xs da ∧ SqL K H' q ys ∧ FdAll K H' ys db) : ItOk K (ItzP K p q) H none ((da.zip db).map fun p => .d (.tuple [p.1, p.2])) := by
  refine ⟨fun i HD H1 e R so hi => ?_, fun i HD H1 x H' e R so hi hy => ?_, fun i HD H1 e R so hi => ?_⟩
  · obtain ⟨xs, ys, h1, h2, h3, h4⟩ := hs H1 e
    rw [List.length_map, zip_len] at hi
    have l1 := h2.length
    have l2 := h4.length
    exact ⟨xs, ys, xs[i]'(by omega), ys[i]'(by omega), h1, h3, List.getElem?_eq_getElem _, List.getElem?_eq_getElem _⟩
  · obtain ⟨T, x', y', o, rfl, hT, ho, rfl, f, g⟩ := hy
    obtain ⟨xs, ys, h1, h2, h3, h4⟩ := hs H1 e
    obtain ⟨d1, e1, f1⟩ := h2.get (f xs h1)
    obtain ⟨d2, e2, f2⟩ := h4.get (g ys h3)
    exact ⟨.d (.tuple [d1, d2]), by simp [zip_get e1 e2], Fd.tup (.at ho) (.cons (f1.ext (Ext.new hT)) (.cons (f2.ext (Ext.new hT)) .nil)), R.new hT, Frm.new hT⟩
  · obtain ⟨xs, ys, h1, h2, h3, h4⟩ := hs H1 e
    rw [List.length_map, zip_len] at hi
    have l1 := h2.length
    have l2 := h4.length
    exact ⟨xs, ys, h1, h3, by omega⟩
theorem itzT_ok {p q : Addr} {da db : List PyData} (hs : ∀ H', Ext H H' → ∃ xs ys, SqT K H' p xs ∧ FdAll K H' xs da ∧ SqT K H' q ys ∧ FdAll K H' ys db) : ItOk K (ItzQ K p q) H none ((da.zip db).map fun p => .d (.tuple [p.1, p.2])) := by
  refine ⟨fun i HD H1 e R so hi => ?_, fun i HD H1 x H' e R so hi hy => ?_, fun i HD H1 e R so hi => ?_⟩
  · obtain ⟨xs, ys, h1, h2, h3, h4⟩ := hs H1 e
    rw [List.length_map, zip_len] at hi
    have l1 := h2.length
    have l2 := h4.length
    exact ⟨xs, ys, xs[i]'(by omega), ys[i]'(by omega), h1, h3, List.getElem?_eq_getElem _, List.getElem?_eq_getElem _⟩
  · obtain ⟨T, x', y', o, rfl, hT, ho, rfl, f, g⟩ := hy
    obtain ⟨xs, ys, h1, h2, h3, h4⟩ := hs H1 e
    obtain ⟨d1, e1, f1⟩ := h2.get (f xs h1)
    obtain ⟨d2, e2, f2⟩ := h4.get (g ys h3)
    exact ⟨.d (.tuple [d1, d2]), by simp [zip_get e1 e2], Fd.tup (.at ho) (.cons (f1.ext (Ext.new hT)) (.cons (f2.ext (Ext.new hT)) .nil)), R.new hT, Frm.new hT⟩
  · obtain ⟨xs, ys, h1, h2, h3, h4⟩ := hs H1 e
    rw [List.length_map, zip_len] at hi
    have l1 := h2.length
    have l2 := h4.length
    exact ⟨xs, ys, h1, h3, by omega⟩
theorem itzR_ok {p q : Addr} {da db : List PyData} {n1 n2 : Nat} (e1 : da.length = n1) (e2 : db.length = n2) (hs : ∀ H', Ext H H' → ∃ xs ys, SqT K H' p xs ∧ FdAll K H' xs da ∧ SqL K H' q ys ∧ FdAll K H' ys db) : ItOk K (ItzR K p q n1 n2) H none ((da.zip db).map fun p => .d (.tuple [p.1, p.2])) := by
  refine ⟨fun i HD H1 e R so hi => ?_, fun i HD H1 x H' e R so hi hy => ?_, fun i HD H1 e R so hi => ?_⟩
  · obtain ⟨xs, ys, h1, h2, h3, h4⟩ := hs H1 e
    rw [List.length_map, zip_len] at hi
    have l1 := h2.length
    have l2 := h4.length
    exact ⟨xs, ys, xs[i]'(by omega), ys[i]'(by omega), h1, h3, by omega, by omega, List.getElem?_eq_getElem _, List.getElem?_eq_getElem _⟩
  · obtain ⟨T, x', y', o, rfl, hT, ho, rfl, f, g⟩ := hy
    obtain ⟨xs, ys, h1, h2, h3, h4⟩ := hs H1 e
    obtain ⟨d1, e1, f1⟩ := h2.get (f xs h1)
    obtain ⟨d2, e2, f2⟩ := h4.get (g ys h3)
    exact ⟨.d (.tuple [d1, d2]), by simp [zip_get e1 e2], Fd.tup (.at ho) (.cons (f1.ext (Ext.new hT)) (.cons (f2.ext (Ext.new hT)) .nil)), R.new hT, Frm.new hT⟩
  · obtain ⟨xs, ys, h1, h2, h3, h4⟩ := hs H1 e
    rw [List.length_map, zip_len] at hi
    have l1 := h2.length
    have l2 := h4.length
    exact ⟨xs, ys, h1, h3, by omega, by omega, by omega⟩
end
section
variable {X : Cx}
theorem di_zip {e e2 : Expr} {ga gb : GE} {p pos tpos : Pos} {elts : List Expr} {kk : Nat} (hg : Gl X "zip") (hm : X.mg "zip" = none) (ha : PE X e (up X.K ga)) (hb : PE X e2 (up X.K gb))
    (hs : starEach [e, e2] X.env = (false, eval e X.env) :: starEach [e2] X.env) (hs2 : starEach [e2] X.env = [(false, eval e2 X.env)]) :
    PI X (.Tuple elts kk tpos) (.Call (.Name "zip" p) [e, e2] [] pos) (upI X.K (gZip ga gb)) := by
  have q0 := pi_zipP (p := p) (pos := pos) (elts := elts) (kk := kk) (tpos := tpos) hg hm (da_cons ha (da_cons hb da_nil hs2) hs) hs (by rw [hs2]; rfl)
  refine ⟨fun pins s σ H R I h => thn (q0.run pins s σ H (fun J H' => ∃ a xs, (SqL X.K H' a xs ∨ SqT X.K H' a xs) ∧ (xs.length ≤ sizeLine → R J H')) I ?_) fun v s1 h1 => thn h1 fun itv s2 h2 => ?_⟩
  · obtain ⟨δ, HD, Qd, E, Rp, h, l⟩ := h
    refine ⟨δ, HD, zipQ Qd, E, Rp, h, fun ds HD1 vs H1 q dv R1 fr => ?_⟩
    unfold zipQ at q
    split at q
    · match vs, dv with
      | [v, u], .cons d (.cons d' .nil) =>
        cases d with
        | tup h1 h2 =>
        cases d' with
        | tup h3 h4 =>
        exact ⟨_, _, _, _, rfl, .inr (.inl ⟨h1.sq, h3.sq, _, _, .inr h1.sq, fun z => l _ _ _ _ _ (q (by rw [← h2.length]; exact z)) (itzT_ok fun H' e => ⟨_, _, SqT.ext h1.sq e, h2.ext e, SqT.ext h3.sq e, h4.ext e⟩) trivial R1 fr⟩)⟩
    · match vs, dv with
      | [v, u], .cons d (.cons d' .nil) =>
        cases d with
        | lst h1 h2 =>
        cases d' with
        | lst h3 h4 =>
        exact ⟨_, _, _, _, rfl, .inl ⟨.inl (.inr ⟨_, h1⟩), .inl (.inr ⟨_, h3⟩), _, _, .inl (.inl (.inr ⟨_, h1⟩)), fun z => l _ _ _ _ _ (q (by rw [← h2.length]; exact z)) (itz_ok fun H' e => ⟨_, _, .inl (.inr ⟨_, e.2 _ _ _ h1⟩), h2.ext e, .inl (.inr ⟨_, e.2 _ _ _ h3⟩), h4.ext e⟩) trivial R1 fr⟩⟩
    · match vs, dv with
      | [v, u], .cons d (.cons d' .nil) =>
        cases d with
        | tup h1 h2 =>
        cases d' with
        | lst h3 h4 =>
        exact ⟨_, _, _, _, rfl, .inr (.inr ⟨h1.sq, .inl (.inr ⟨_, h3⟩), _, _, .inl (.inl (.inr ⟨_, h3⟩)), fun z => l _ _ _ _ _ (q (by rw [← h4.length]; exact z)) (itzR_ok h2.length.symm h4.length.symm fun H' e => ⟨_, _, SqT.ext h1.sq e, h2.ext e, .inl (.inr ⟨_, e.2 _ _ _ h3⟩), h4.ext e⟩) trivial R1 fr⟩)⟩
    · exact q.elim
  · obtain ⟨it, fp, tn, J, H', e, I2, T, st, fk, a, xs, hx, q⟩ := h2
    refine ⟨it, fp, tn, J, H', e, I2, T, st, fk, q ?_⟩
    rcases hx with hx | hx
    · obtain ⟨_, _, _, z⟩ := I2.list hx; exact z
    · obtain ⟨_, _, _, z⟩ := I2.tuple hx; exact z
end
noncomputable def compW2 (src : Src) (bd : DV → DEnv → Option DEnv) (gt : GT) (gi1 : GI) (bd1 : DV → DEnv → Option DEnv) (gt1 : GT) (ge : GE) (vs1 : List Nat) (δ0 : DEnv) (all : List DV) : List DV → List DV → HDt → (List DV → HDt → Prop) → Prop
  | [], acc, HD, Q => srcOk src all HD ∧ Q acc HD
  | x :: xs, acc, HD, Q => srcOk src all HD ∧ match bd x δ0 with
    | some δ' => gt δ' HD fun b HD1 => if b = true then gi1 δ' HD1 fun src1 ys HD2 => acc.length + ys.length ≤ sizeLine ∧ compW src1 bd1 gt1 ge (dwipe δ' vs1) ys ys HD2 fun zs HD3 => compW2 src bd gt gi1 bd1 gt1 ge vs1 δ0 all xs (acc ++ zs) HD3 Q
      else compW2 src bd gt gi1 bd1 gt1 ge vs1 δ0 all xs acc HD1 Q
    | none => False
noncomputable def gComp2 (own : Bool) (vs vs1 : List Nat) (gi : GI) (bd : DV → DEnv → Option DEnv) (gt : GT) (gi1 : GI) (bd1 : DV → DEnv → Option DEnv) (gt1 : GT) (ge : GE) : GE := fun δ HD Q =>
  gi δ HD fun src xs HD1 => compW2 src bd gt gi1 bd1 gt1 ge vs1 (dwipe δ vs) xs xs [] HD1 fun ys HD2 => mkL own ys HD2 Q
theorem comp2_read {K : PySem.W.Frag} {gi gi1 : GI} {p p1 : RP} {gt gt1 : GT} {ge : GE} {own : Bool} {vs vs1 : List Nat} {σ : L2.St} {H : Hp} {Q : VK} (hv : ∀ i ∈ slotsP p, i ∈ vs) (hv1 : ∀ i ∈ slotsP p1, i ∈ vs1) (h : up K (gComp2 own vs vs1 gi (bindP p) gt gi1 (bindP p1) gt1 ge) σ H Q) :
    tNew own (tLc2 (upI K gi) (gP K p) (upT K gt) (upI K gi1) (gP K p1) (upT K gt1) (up K ge) vs vs1) σ H Q := by
  obtain ⟨δ, HD, Qd, E, R, h, l⟩ := h
  refine ⟨δ, HD, _, E, R, h, fun src xs HD1 J H1 hq it so R1 fr P hP => ?_⟩
  have hPH : H P = none := fr.2.2 P hP
  refine ⟨fun i m H' => ∃ HD' acc accv, H' P = some (.lst accv) ∧ HD' P = none ∧ RepH K H' HD' ∧ DatAll K H' accv acc ∧ compW2 src (bindP p) gt gi1 (bindP p1) gt1 ge vs1 (dwipe δ vs) xs (xs.drop i) acc HD' (fun ys HD3 => mkL own ys HD3 Qd) ∧
      Frm H1 HD1 H' HD' ∧ i ≤ xs.length ∧ m = xs.length - i,
    ⟨xs.length, HD1, [], [], upd_same, R1.none hP, R1.new hP, .nil, hq, Frm.new hP, Nat.zero_le _, by simp⟩, ?_⟩
  rintro i m H2 ⟨HD2, acc, accv, hacc, hnone, R2, D2, f2, fr2, il, em⟩
  by_cases hlt : i < xs.length
  · right
    obtain ⟨y, hy, hdr⟩ := drop_at hlt
    rw [hdr] at f2
    obtain ⟨so2, f2⟩ := f2
    refine ⟨it.go i HD2 H2 fr2.1 R2 so2 hlt, fun H' => ∃ HD' acc accv, H' P = some (.lst accv) ∧ HD' P = none ∧ RepH K H' HD' ∧ DatAll K H' accv acc ∧ compW2 src (bindP p) gt gi1 (bindP p1) gt1 ge vs1 (dwipe δ vs) xs (xs.drop (i + 1)) acc HD' (fun ys HD3 => mkL own ys HD3 Qd) ∧
        Frm H1 HD1 H' HD',
      fun H' ⟨HD', acc, accv, a1, a2, a3, a4, a5, a6⟩ => ⟨xs.length - (i + 1), by omega, HD', acc, accv, a1, a2, a3, a4, a5, a6, hlt, rfl⟩, fun x H3 hyl => ?_⟩
    obtain ⟨y', hy', dy, R3, fr3⟩ := it.yld i HD2 H2 x H3 fr2.1 R2 so2 hlt hyl
    rw [hy] at hy'
    cases hy'
    split at f2
    · rename_i δ3 hb3
      obtain ⟨σ3, E3, wp, c⟩ := gP_bind p hb3 dy ((E.wipe vs).ext (fr.1.trans (fr2.1.trans fr3.1)))
      refine c _ ⟨(wp vs hv).trans (wipe_wipe fun i h => h), δ3, HD2, _, E3, R3, f2, fun b HD4 H4 q R4 fr4 => ?_⟩
      obtain ⟨p3, n3⟩ := fr3.2.1 P _ hacc hnone
      obtain ⟨p4, n4⟩ := fr4.2.1 P _ p3 n3
      cases b with
      | true =>
        rw [if_pos rfl] at q ⊢
        refine ⟨δ3, HD4, _, E3.ext fr4.1, R4, q, fun src1 ys HD5 J1 H5 hq1 it1 so1 R5 fr5 => ?_⟩
        obtain ⟨hsz, hq1⟩ := hq1
        obtain ⟨p5, n5⟩ := fr5.2.1 P _ p4 n4
        have frA : Frm H1 HD1 H5 HD5 := fr2.trans (fr3.trans (fr4.trans fr5))
        have dA := D2.ext (fr3.1.trans (fr4.1.trans fr5.1))
        refine ⟨fun j k H' => ∃ HD' zacc accv, H' P = some (.lst accv) ∧ HD' P = none ∧ RepH K H' HD' ∧ DatAll K H' accv (acc ++ zacc) ∧ zacc.length ≤ j ∧ j ≤ ys.length ∧ k = ys.length - j ∧ Ext H5 H' ∧ Frm H1 HD1 H' HD' ∧
            compW src1 (bindP p1) gt1 ge (dwipe δ3 vs1) ys (ys.drop j) HD' (fun zs HD3 => compW2 src (bindP p) gt gi1 (bindP p1) gt1 ge vs1 (dwipe δ vs) xs (xs.drop (i + 1)) (acc ++ (zacc ++ zs)) HD3 (fun ys HD3 => mkL own ys HD3 Qd)),
          ⟨ys.length, HD5, [], accv, p5, n5, R5, by simpa using dA, Nat.le_refl _, Nat.zero_le _, by simp, Ext.refl, frA, hq1⟩, ?_⟩
        rintro j k H6 ⟨HD6, zacc, accv6, p6, n6, R6, D6, zj, jl, ek, ex6, fr6, f6⟩
        have hal := Paired.length D6
        by_cases hjt : j < ys.length
        · right
          obtain ⟨w, hw, hdw⟩ := drop_at hjt
          rw [hdw] at f6
          obtain ⟨so6, f6⟩ := f6
          refine ⟨it1.go j HD6 H6 ex6 R6 so6 hjt, fun H' => ∃ HD' zacc accv, H' P = some (.lst accv) ∧ HD' P = none ∧ RepH K H' HD' ∧ DatAll K H' accv (acc ++ zacc) ∧ zacc.length ≤ j + 1 ∧ Ext H5 H' ∧ Frm H1 HD1 H' HD' ∧
              compW src1 (bindP p1) gt1 ge (dwipe δ3 vs1) ys (ys.drop (j + 1)) HD' (fun zs HD3 => compW2 src (bindP p) gt gi1 (bindP p1) gt1 ge vs1 (dwipe δ vs) xs (xs.drop (i + 1)) (acc ++ (zacc ++ zs)) HD3 (fun ys HD3 => mkL own ys HD3 Qd)),
            fun H' ⟨HD', zacc, accv, a1, a2, a3, a4, a5, a6, a7, a8⟩ => ⟨ys.length - (j + 1), by omega, HD', zacc, accv, a1, a2, a3, a4, a5, hjt, rfl, a6, a7, a8⟩, fun x7 H7 hyl7 => ?_⟩
          obtain ⟨w', hw', dw, R7, fr7⟩ := it1.yld j HD6 H6 x7 H7 ex6 R6 so6 hjt hyl7
          rw [hw] at hw'
          cases hw'
          split at f6
          · rename_i δ8 hb8
            obtain ⟨σ8, E8, wp8, c8⟩ := gP_bind p1 hb8 dw ((E3.wipe vs1).ext (fr4.1.trans (fr5.1.trans (ex6.trans fr7.1))))
            refine c8 _ ⟨(wp8 vs1 hv1).trans (wipe_wipe fun i h => h), δ8, HD6, _, E8, R7, f6, fun b HD9 H9 q9 R9 fr9 => ?_⟩
            obtain ⟨p7, n7⟩ := fr7.2.1 P _ p6 n6
            obtain ⟨p9, n9⟩ := fr9.2.1 P _ p7 n7
            cases b with
            | true =>
              rw [if_pos rfl] at q9 ⊢
              refine ⟨δ8, HD9, _, E8.ext fr9.1, R9, q9, fun z HD10 v H10 q10 d10 R10 fr10 => ?_⟩
              obtain ⟨p10, n10⟩ := fr10.2.1 P _ p9 n9
              have m10 : Mut (H10 P) := by rw [p10]; trivial
              refine ⟨accv6, p10, by rw [hal, List.length_append]; omega, HD10, zacc ++ [z], accv6 ++ [v], upd_same, n10, R10.to (Ext.mut m10) fun q c hq => upd_ne fun e => ?_, ?_, by simp; omega,
                ex6.trans (fr7.1.trans (fr9.1.trans (fr10.1.trans (Ext.mut m10)))), Frm.over (fr6.trans (fr7.trans (fr9.trans fr10))) hP m10, ?_⟩
              · subst e; rw [n10] at hq; cases hq
              · rw [← List.append_assoc]
                exact Paired.app (D6.ext (fr7.1.trans (fr9.1.trans (fr10.1.trans (Ext.mut m10))))) (.cons (d10.ext (Ext.mut m10)) .nil)
              · have e : (fun (zs : List DV) HD3 => compW2 src (bindP p) gt gi1 (bindP p1) gt1 ge vs1 (dwipe δ vs) xs (xs.drop (i + 1)) (acc ++ (zacc ++ [z] ++ zs)) HD3 (fun ys HD3 => mkL own ys HD3 Qd)) =
                    fun zs HD3 => compW2 src (bindP p) gt gi1 (bindP p1) gt1 ge vs1 (dwipe δ vs) xs (xs.drop (i + 1)) (acc ++ (zacc ++ z :: zs)) HD3 (fun ys HD3 => mkL own ys HD3 Qd) := by
                  funext zs HD3
                  simp
                rw [e]
                exact q10
            | false =>
              rw [if_neg (by simp)] at q9 ⊢
              exact ⟨HD9, zacc, accv6, p9, n9, R9, D6.ext (fr7.1.trans fr9.1), by omega, ex6.trans (fr7.1.trans fr9.1), fr6.trans (fr7.trans fr9), q9⟩
          · exact f6.elim
        · left
          have hdw : ys.drop j = [] := List.drop_eq_nil_of_le (by omega)
          rw [hdw] at f6
          refine ⟨it1.stop j HD6 H6 ex6 R6 f6.1 (by omega), HD6, acc ++ zacc, accv6, p6, n6, R6, D6, ?_, fr6⟩
          have := f6.2
          simp only [List.append_nil] at this
          exact this
      | false =>
        rw [if_neg (by simp)] at q ⊢
        exact ⟨HD4, acc, accv, p4, n4, R4, D2.ext (fr3.1.trans fr4.1), q, fr2.trans (fr3.trans fr4)⟩
    · exact f2.elim
  · left
    have hdr : xs.drop i = [] := List.drop_eq_nil_of_le (by omega)
    rw [hdr] at f2
    exact ⟨it.stop i HD2 H2 fr2.1 R2 f2.1 (by omega), mkL_new hPH hacc hnone D2 R2 (fr.trans fr2) f2.2 l⟩
noncomputable def dMulL (own : Bool) : G2 := fun x y HD Q => match listD HD x, y with
  | some xs, .d (.int k) => (-1000000 ≤ k ∧ k ≤ 1000000 ∧ xs.length * k.toNat ≤ sizeLine) ∧ mkL own (List.replicate k.toNat xs).flatten HD Q
  | _, _ => False
theorem dat_flat {K : PySem.W.Frag} {H : Hp} {vs : List V} {ds : List DV} (h : DatAll K H vs ds) : ∀ n, DatAll K H (List.replicate n vs).flatten (List.replicate n ds).flatten
  | 0 => .nil
  | n + 1 => by
    simp only [List.replicate_succ, List.flatten_cons]
    exact Paired.app h (dat_flat h n)
section
variable {X : Cx}
theorem op_dMulL (own : Bool) : OpR X (binaryOp .Mult) (up2 X.K (dMulL own)) := by
  intro pins s σ H x y v u Q I rx ry h
  obtain ⟨dx, dy, HD, Qd, hx, hy, R, h, l⟩ := h
  unfold dMulL at h
  split at h
  · rename_i a k ha
    obtain ⟨p, vs, rfl, h1, h2⟩ := listD_at hx R ha
    cases hy
    cases rx
    obtain ⟨t, rfl⟩ := ry
    obtain ⟨z1, its, n, r1, e⟩ := lsAt_obj I h1
    have l1 := Paired.length h2
    have l3 := r1.length
    obtain ⟨⟨k1, k2, k3⟩, q⟩ := h
    have hlen : its.toArray.size * k.toNat ≤ sizeLine := by rw [List.size_toArray, ← l3, l1]; exact k3
    have hcap : ¬ its.toArray.size * k.toNat > (2 ^ 63 - 1) / 8 := by
      have : (sizeLine : Nat) ≤ (2 ^ 63 - 1) / 8 := by decide
      omega
    have hfit : ¬ (!Builtin.List.listFitsIndex k) = true := by
      rw [fitsIndex_both (by omega) (by omega)]
      exact Bool.false_ne_true
    have hlong : ¬ Builtin.List.listTooLong (its.toArray.size * k.toNat) = true := by
      rw [notLongL hlen]
      exact Bool.false_ne_true
    have hnew : List.foldl (fun x1 x2 => x1 ++ x2) #[] (List.replicate (if its.toArray.isEmpty = true then 0 else k.toNat) its.toArray) = (List.replicate k.toNat its).flatten.toArray := by
      have f0 : ∀ m : Nat, List.foldl (fun x1 x2 => x1 ++ x2) #[] (List.replicate m its.toArray) = (List.replicate m its).flatten.toArray := fun m => by
        have := foldl_rep its m []
        rw [List.nil_append] at this
        exact this
      rw [f0]
      cases its with
      | nil => simp
      | cons a r' => rw [if_neg (by simp)]
    refine wpAny_binaryOp_repeat_ref (T := "list") (U := "int") (by decide) ⟨_, e, rfl⟩ (fun s' => typeIs_int s' k t) noFill_list_mul F.fills_int_mul F.slot_int_rmul repeat_list F.slot_int_index.lookup
      (call_meets F.slot_int_rmul (typeIs_int s k t) F.entry_int_rmul (F.args_int_rmul_2 _ _) (int___rmul___int_list k t _ its.toArray n)
        ⟨e, rfl, ⟨_, e, rfl⟩, call_meets F.slot_list_mul ⟨_, e, rfl⟩ F.entry_list_mul (F.args_list_mul_2 _ _) (AutoListH.list___mul___list_int_3 _ its.toArray n k t hfit hcap hlong) ⟨e, ?_⟩⟩)
    rw [hnew]
    exact mkL_ep I.fresh (I.lnew (t' := s.toks) (r1.rep k.toNat) (by rw [PyProof.Rows.lm_len_rep_flat, Nat.mul_comm, l1]; exact k3)) (dat_flat h2 _) R q l
  · exact h.elim
end
noncomputable def rdE : List DictEntry → List (Int × Int) → Bool
  | [], [] => true
  | e :: es, p :: ps => (match e.key, e.val with
    | .int k _, .int v _ => decide (k = p.1) && decide (v = p.2) && decide (e.hash = hashInt k)
    | _, _ => false) && rdE es ps
  | _, _ => false
noncomputable def GDct (K : PySem.W.Frag) (a : Addr) (kvs : List (Int × Int)) : Prop := ∃ es n, K.lookup a = some ⟨.type "dict", none, .dict es n, #[]⟩ ∧ rdE es.toList kvs = true
noncomputable def lc : Nat → Nat → Nat
  | 0, x => x
  | n + 1, x => 5 * lc n x + 1
theorem lc_add (a : Nat) : ∀ (b x : Nat), lc (b + a) x = lc b (lc a x)
  | 0, x => by rw [Nat.zero_add]; rfl
  | b + 1, x => by
    rw [Nat.add_right_comm]
    show 5 * lc (b + a) x + 1 = 5 * lc b (lc a x) + 1
    rw [lc_add a b x]
theorem lc_dbl (p u x : Nat) : (1 + 4 * p * u) * ((1 + 4 * p * u) * x + p * u) + p * u = (1 + 4 * (p * 2) * (u + p * 2 * (u * u))) * x + p * 2 * (u + p * 2 * (u * u)) := by
  grind
theorem lc_pow : ∀ k : Nat, ∃ u, u % 2 = 1 ∧ ∀ x, lc (2 ^ k) x = (1 + 4 * 2 ^ k * u) * x + 2 ^ k * u
  | 0 => ⟨1, rfl, fun x => by
    show 5 * x + 1 = _
    omega⟩
  | k + 1 => by
    obtain ⟨u, h1, h2⟩ := lc_pow k
    refine ⟨u + 2 ^ k * 2 * (u * u), ?_, fun x => ?_⟩
    · have e : 2 ^ k * 2 * (u * u) = 2 * (2 ^ k * (u * u)) := by rw [Nat.mul_comm (2 ^ k) 2, Nat.mul_assoc]
      rw [e]
      omega
    · have e : 2 ^ (k + 1) = 2 ^ k + 2 ^ k := by rw [Nat.pow_succ]; omega
      rw [e, lc_add, h2, h2, lc_dbl]
      have e2 : 2 ^ k + 2 ^ k = 2 ^ k * 2 := by omega
      rw [e2]
theorem lc_round : ∀ (k i j : Nat), ∃ n, n < 2 ^ k ∧ lc n i % 2 ^ k = j % 2 ^ k
  | 0, i, j => ⟨0, by decide, by rw [Nat.pow_zero, Nat.mod_one, Nat.mod_one]⟩
  | k + 1, i, j => by
    obtain ⟨n, hn, e⟩ := lc_round k i j
    obtain ⟨u, hu, hx⟩ := lc_pow k
    have hp : 0 < 2 ^ k := Nat.pow_pos (by decide)
    have e1 := Nat.mod_mul (a := 2 ^ k) (b := 2) (x := lc n i)
    have e2 := Nat.mod_mul (a := 2 ^ k) (b := 2) (x := j)
    rw [← Nat.pow_succ] at e1 e2
    by_cases c : lc n i / 2 ^ k % 2 = j / 2 ^ k % 2
    · exact ⟨n, by rw [Nat.pow_succ]; omega, by rw [e1, e2, e, c]⟩
    · refine ⟨2 ^ k + n, by rw [Nat.pow_succ]; omega, ?_⟩
      have e3 : lc (2 ^ k + n) i = lc n i + 2 ^ k * (4 * u * lc n i + u) := by
        rw [lc_add, hx]
        grind
      have e4 := Nat.mod_mul (a := 2 ^ k) (b := 2) (x := lc (2 ^ k + n) i)
      rw [← Nat.pow_succ] at e4
      have q1 : lc (2 ^ k + n) i % 2 ^ k = lc n i % 2 ^ k := by rw [e3, Nat.add_mul_mod_self_left]
      have q2 : lc (2 ^ k + n) i / 2 ^ k = lc n i / 2 ^ k + (4 * u * lc n i + u) := by rw [e3, Nat.add_mul_div_left _ _ hp]
      have q3 : (4 * u * lc n i + u) % 2 = 1 := by
        have : 4 * u * lc n i = 2 * (2 * u * lc n i) := by grind
        omega
      rw [e4, e2, q1, e, q2]
      congr 2
      omega
theorem lcgI_lc {m i : Nat} (hi : i ≤ m) : ∀ n, lcgI m i n = lc n i % (m + 1)
  | 0 => (Nat.mod_eq_of_lt (Nat.lt_succ_of_le hi)).symm
  | n + 1 => by
    show (lcgI m i n * 5 + 1) % (m + 1) = (5 * lc n i + 1) % (m + 1)
    rw [lcgI_lc hi n, Nat.add_mod, Nat.mul_mod, Nat.mod_mod, ← Nat.mul_mod, ← Nat.add_mod, Nat.mul_comm]
noncomputable def MB (m : Nat) : Prop := m = 7 ∨ m = 31 ∨ m = 127 ∨ m = 511 ∨ m = 2047 ∨ m = 8191
theorem mb_pow {m : Nat} (h : MB m) : ∃ k, m + 1 = 2 ^ k := by
  rcases h with e | e | e | e | e | e <;> subst e
  · exact ⟨3, rfl⟩
  · exact ⟨5, rfl⟩
  · exact ⟨7, rfl⟩
  · exact ⟨9, rfl⟩
  · exact ⟨11, rfl⟩
  · exact ⟨13, rfl⟩
theorem mb_all {m i j : Nat} (hm : MB m) (hi : i ≤ m) (hj : j ≤ m) : ∃ n, n ≤ m ∧ lcgI m i n = j := by
  obtain ⟨k, hk⟩ := mb_pow hm
  obtain ⟨n, h1, h2⟩ := lc_round k i j
  refine ⟨n, by omega, ?_⟩
  rw [lcgI_lc hi, hk, h2, ← hk]
  exact Nat.mod_eq_of_lt (by omega)
theorem mb_run {m j : Nat} (hm : MB m) (h : Int) (hj : j ≤ m) : ∃ n, n ≤ m + 12 ∧ runI m (SetTable.bits h) n = j := by
  obtain ⟨k, hk, e⟩ := mb_all hm (runI_le m (SetTable.bits h) 12) hj
  exact ⟨12 + k, by omega, (runI_tail (bits_lt h) k).trans e⟩
noncomputable abbrev p0 (m : Nat) (h : Int) : SetTable.Probe := runAt m (SetTable.bits h % (m + 1)) (SetTable.bits h)
theorem mb_meets {m j : Nat} (hm : MB m) (h : Int) (hj : j ≤ m) : ∃ k, k < 10 * SetTable.turns m ∧ way m h k = j := by
  obtain ⟨n, hn, e⟩ := mb_run hm h hj
  obtain ⟨k, hk, e2⟩ := run_nth m (SetTable.bits h) n
  refine ⟨k, by simp only [SetTable.turns]; omega, ?_⟩
  show (nth m (p0 m h) k).j = j
  rw [e2]
  exact e
theorem mb_way {m : Nat} (h : Int) (k : Nat) : way m h k ≤ m := by
  have hi : SetTable.bits h % (m + 1) ≤ m := Nat.le_of_lt_succ (Nat.mod_lt _ (Nat.succ_pos m))
  have r := runEnd_bd hi
  have q := nth_in (m := m) k (p0 m h) (by simp only [p0, runAt]; omega)
  show (nth m (p0 m h) k).j ≤ m
  omega
structure TbB (t : SetTable) (hs : List Int) : Prop where
  up : Ris t.place.toList
  nodm : t.dummies = #[]
  as : t.place.size = hs.length
  mb : MB t.mask
  reach : ∀ (i : Nat) (h : Int) (j : Nat), hs[i]? = some h → t.place.toList[i]? = some j → ∃ k, way t.mask h k = j ∧ ∀ c, c < k → way t.mask h c ∈ t.place.toList
section
variable {t : SetTable} {hs : List Int}
theorem TbB.free (T : TbB t hs) (hl : hs.length ≤ t.mask) (h : Int) : ∃ K, K < 10 * SetTable.turns t.mask ∧ way t.mask h K ∉ t.place.toList ∧ ∀ c, c < K → way t.mask h c ∈ t.place.toList := by
  obtain ⟨j, hj, hn⟩ := st_missing t.place.toList (t.mask + 1) (by rw [Array.length_toList, T.as]; omega)
  obtain ⟨k, hk, e⟩ := mb_meets T.mb h (Nat.le_of_lt_succ hj)
  obtain ⟨K, h1, h2, h3⟩ := st_least (p := fun c => way t.mask h c ∉ t.place.toList) k (by rw [e]; exact hn)
  exact ⟨K, by omega, h2, fun c hc => Classical.byContradiction fun n => h3 c hc n⟩
theorem TbB.more (T : TbB t hs) {h : Int} {K : Nat} (hK : way t.mask h K ∉ t.place.toList) (hb : ∀ c, c < K → way t.mask h c ∈ t.place.toList) :
    ∃ t' p, t.put (way t.mask h K) = (t', p) ∧ p ≤ hs.length ∧ TbB t' (hs.take p ++ h :: hs.drop p) ∧ t'.mask = t.mask ∧ t'.led = t.led ∧ t'.plain = t.plain ∧ t'.fill = hs.length + 1 := by
  generalize hj : way t.mask h K = j at hK
  obtain ⟨c1, -, -⟩ := below_cut T.up j
  refine ⟨(t.put j).1, SetTable.below t.place j, rfl, by rw [← T.as]; exact c1, ?_, rfl, rfl, rfl, ?_⟩
  all_goals
    have hp := put_place t j
    have hpl : SetTable.below t.place j ≤ t.place.toList.length := by simpa using c1
    have hph : SetTable.below t.place j ≤ hs.length := by rw [← T.as]; exact c1
    have sz : (t.put j).1.place.size = hs.length + 1 := by
      rw [← Array.length_toList, hp, len_ins _ hpl, Array.length_toList, T.as]
    have dm := put_dm T.nodm j
  · have up : ∀ {x : Nat}, x ∈ t.place.toList → x ∈ (t.put j).1.place.toList := fun hx => by rw [hp]; exact mem_ins.2 (.inr hx)
    refine ⟨ris_insert T.up fun e => hK (List.mem_of_getElem? (by rw [Array.getElem?_toList]; exact e)), dm, by rw [sz, len_ins _ hph], T.mb, fun i h' j' h1 h2 => ?_⟩
    rw [tins_get hs hph] at h1
    rw [hp, tins_get _ hpl] at h2
    show ∃ k, way t.mask h' k = j' ∧ ∀ c, c < k → way t.mask h' c ∈ (t.put j).1.place.toList
    rcases Nat.lt_trichotomy i (SetTable.below t.place j) with c | c | c
    · rw [if_pos c] at h1 h2
      obtain ⟨k, e, z⟩ := T.reach i h' j' h1 h2
      exact ⟨k, e, fun c hc => up (z c hc)⟩
    · rw [if_neg (by omega), if_pos c] at h1 h2
      cases h1
      cases h2
      exact ⟨K, hj, fun c hc => up (hb c hc)⟩
    · rw [if_neg (by omega), if_neg (by omega)] at h1 h2
      obtain ⟨k, e, z⟩ := T.reach (i - 1) h' j' h1 h2
      exact ⟨k, e, fun c hc => up (z c hc)⟩
  · show (t.put j).1.place.size + (t.put j).1.dummies.size = hs.length + 1
    rw [sz, dm]
    rfl
end
theorem mb_find {m j : Nat} (hm : MB m) (owner : Array (Option Nat)) (h : Int) (hj : j ≤ m) (hf : oAt owner j = none) :
    ∃ K, SetTable.layClean.free m owner (SetTable.turns m) (SetTable.bits h % (m + 1)) (SetTable.bits h) = some (way m h K) ∧ oAt owner (way m h K) = none ∧ ∀ c, c < K → oAt owner (way m h c) ≠ none := by
  obtain ⟨n, hn, e⟩ := mb_run hm h hj
  have hw : way m h (off m (SetTable.bits h % (m + 1)) (SetTable.bits h) n) = j := by
    show (nth m (p0 m h) (off m (SetTable.bits h % (m + 1)) (SetTable.bits h) n)).j = j
    rw [nth_off, itL_run]
    exact e
  obtain ⟨K, k1, k2, k3⟩ := st_least (p := fun c => oAt owner (way m h c) = none) _ (show oAt owner (way m h (off m (SetTable.bits h % (m + 1)) (SetTable.bits h) n)) = none by rw [hw]; exact hf)
  have some' : ∀ c, c < K → (oAt owner (way m h c)).isNone = false := fun c hc => by
    cases z : oAt owner (way m h c) with
    | none => exact absurd z (k3 c hc)
    | some _ => rfl
  exact ⟨K, free_spec m owner _ n _ _ K (by simp only [SetTable.turns]; omega) k1 some' (by show (oAt owner (way m h K)).isNone = true; rw [k2]; rfl), k2, k3⟩
structure OwB (m : Nat) (done : List Int) (owner : Array (Option Nat)) : Prop where
  size : owner.size = m + 1
  sits : ∀ j k, j ≤ m → oAt owner j = some k → ∃ h K, done[k]? = some h ∧ way m h K = j ∧ ∀ c, c < K → oAt owner (way m h c) ≠ none
  each : ∀ k, k < done.length → ∃ j, j ≤ m ∧ oAt owner j = some k
  few : ∃ ps : List Nat, ps.length = done.length ∧ ∀ j, j ≤ m → oAt owner j ≠ none → j ∈ ps
theorem OwB.next {m : Nat} (hm : MB m) {done : List Int} {owner : Array (Option Nat)} (W : OwB m done owner) (hl : done.length ≤ m) (h : Int) :
    ∃ j, SetTable.layClean.free m owner (SetTable.turns m) (SetTable.bits h % (m + 1)) (SetTable.bits h) = some j ∧ OwB m (done ++ [h]) (owner.setIfInBounds j (some done.length)) := by
  obtain ⟨ps, hps, hin⟩ := W.few
  obtain ⟨j0, h0, hn0⟩ := st_missing ps (m + 1) (by omega)
  have hj0 : oAt owner j0 = none := Classical.byContradiction fun z => hn0 (hin j0 (by omega) z)
  obtain ⟨K, e1, e2, e3⟩ := mb_find hm owner h (show j0 ≤ m by omega) hj0
  have hw := mb_way (m := m) h K
  generalize hj : way m h K = j at e1 e2 hw
  have me : oAt (owner.setIfInBounds j (some done.length)) j = some done.length := oAt_set_self _ (by rw [W.size]; omega)
  have ne : ∀ {i : Nat}, i ≠ j → oAt (owner.setIfInBounds j (some done.length)) i = oAt owner i := fun z => oAt_set_ne _ z
  have mono : ∀ {i : Nat}, oAt owner i ≠ none → oAt (owner.setIfInBounds j (some done.length)) i ≠ none := fun {i} hi => by
    by_cases c : i = j
    · rw [c, me]; simp
    · rw [ne c]; exact hi
  refine ⟨j, e1, by rw [Array.size_setIfInBounds]; exact W.size, fun i k hi e => ?_, fun k hk => ?_, j :: ps, by simp [hps], fun i hi e => ?_⟩
  · by_cases c : i = j
    · rw [c, me] at e
      cases e
      exact ⟨h, K, by simp, hj.trans c.symm, fun c hc => mono (e3 c hc)⟩
    · rw [ne c] at e
      obtain ⟨h', K', a1, a2, a3⟩ := W.sits i k hi e
      exact ⟨h', K', by rw [List.getElem?_append_left (List.getElem?_eq_some_iff.mp a1).1]; exact a1, a2, fun c hc => mono (a3 c hc)⟩
  · by_cases c : k < done.length
    · obtain ⟨i, hi, e⟩ := W.each k c
      exact ⟨i, hi, (ne fun z => by rw [z, e2] at e; cases e).trans e⟩
    · have : k = done.length := by simp at hk; omega
      subst this
      exact ⟨j, hw, me⟩
  · by_cases c : i = j
    · rw [c]; exact List.mem_cons_self
    · rw [ne c] at e
      exact List.mem_cons_of_mem _ (hin i hi e)
mutual
noncomputable def kPure : NestedKey → Bool
  | .num _ => true
  | .tup ks => kPures ks
  | .none => false
  | .text _ => false
noncomputable def kPures : List NestedKey → Bool
  | [] => true
  | k :: ks => kPure k && kPures ks
end
noncomputable def KAt (h : Heap) (k : NestedKey) (a : Addr) : Prop := (NestedIs h k (.ref a) ∧ k.depth ≤ 8) ∧ kPure k = true
theorem KAt.keep {h h' : Heap} {k : NestedKey} {a : Addr} (x : KAt h k a) (hk : ∀ b o, h.get? b = some o → h'.get? b = some o) : KAt h' k a :=
  ⟨⟨NestedIs.at (fun b o vs n e _ => hk b o e) _ _ x.1.1, x.1.2⟩, x.2⟩
theorem KAt.ty {s : Shared} {k : NestedKey} {a : Addr} (x : KAt s.heap k a) : s.TypeIs (.ref a) "tuple" := by
  obtain ⟨⟨x, _⟩, _⟩ := x
  cases x with
  | tup h1 h2 _ _ => exact ⟨_, h1, h2⟩
section
variable {P : Program} {w : World} {s : Shared}
variable {A : Around} {E : Value → Shared → Prop}
noncomputable abbrev KL := List (Addr × NestedKey)
noncomputable def ents (w : World) (L : KL) : List (Int × Value) := L.map fun p => (p.2.hash w, Value.ref p.1)
structure SetB (w : World) (h : Heap) (a : Addr) (L : KL) (es : Array (Int × Value)) (ep : Nat) (t : SetTable) : Prop where
  obj : ∃ o, h.get? a = some o ∧ o.ExactSet ∧ o.data = .set es ep t
  ent : es.toList = ents w L
  tb : TbB t (L.map fun p => p.2.hash w)
  one : (L.map (·.2)).Nodup
  keys : ∀ p ∈ L, KAt h p.2 p.1
  pl : t.plain = true
  ld : w.params.followText "set-order" = true ∨ t.led = true
  rm : L.length * 5 < t.mask * 3
  lt : L.length < 4090
variable {a : Addr} {L : KL} {es : Array (Int × Value)} {ep : Nat} {t : SetTable}
theorem SetB.at' (R : SetB w s.heap a L es ep t) {i : Nat} {p : Addr × NestedKey} (h : L[i]? = some p) : es[i]? = some (p.2.hash w, Value.ref p.1) := by
  rw [← Array.getElem?_toList, R.ent, ents, List.getElem?_map, h]
  rfl
end
section
variable {P : Program} {w : World} {A : Around} {E : Value → Shared → Prop} {s : Shared}
theorem SetB.keep {h h' : Heap} {a : Addr} {L : KL} {es : Array (Int × Value)} {ep : Nat} {t : SetTable} (R : SetB w h a L es ep t) (ha : ∀ o, h.get? a = some o → h'.get? a = some o) (hk : ∀ p ∈ L, KAt h' p.2 p.1) : SetB w h' a L es ep t := by
  obtain ⟨o, ho, r⟩ := R.obj
  exact ⟨⟨o, ha o ho, r⟩, R.ent, R.tb, R.one, hk, R.pl, R.ld, R.rm, R.lt⟩
end
section
variable {X : Cx}
noncomputable def rRemove (K : PySem.W.Frag) : V → List V → Hp → VK → Prop := fun x vs H Q => ∃ l xs y ds d j, x = .ref l ∧ vs = [y] ∧ H l = some (.lst xs) ∧ FdAll K H xs ds ∧ Fd K H y d ∧ PyData.plainAll ds = true ∧ d.plain = true ∧ PyData.depthAll ds ≤ 64 ∧ PySem.SeqAt.dataPlace ds d = some j ∧ Q .non (upd H l (.lst (xs.eraseIdx j)))
theorem mt_remove (un : X.A.units + 200 < cLine) : MtR X "list.remove" (rRemove X.K) := by
  intro pins s σ H x vs v us Q I rx rv h
  obtain ⟨l, xs, y, ds, d, j, rfl, rfl, hH, f1, f2, p1, p2, dp, pl, q⟩ := h
  cases rx
  obtain ⟨u, rfl, ru⟩ := rv.one
  obtain ⟨z, its, n, r, hl, e⟩ := I.lstM hH
  obtain ⟨as, ra, _⟩ := Fd.readsAll I ds xs its f1 r
  obtain ⟨bs, rb, _⟩ := Fd.reads I d y u f2 ru
  refine PySem.SeqAt.remove_list_data (vs := its.toArray) ⟨_, e, rfl, n, rfl⟩ (by simpa using ra) rb p1 p2 (by have := Nat.min_le_left (PyData.depthAll ds) d.depth; omega) pl (by rw [List.size_toArray]; omega) ?_
  refine ⟨.non, _, I.lset (t' := s.toks) (its' := its.eraseIdx j) hH e ?_ (r.eraseIdx j) ?_, rfl, q⟩
  · show its.toArray.eraseIdxIfInBounds j = (its.eraseIdx j).toArray
    rw [List.eraseIdxIfInBounds_toArray]
  · have := len_erase xs j
    omega
end
noncomputable abbrev DX := Str → Option (Str × DV) → HDt → Prop
noncomputable abbrev GXC := List DV → HDt → DX → Prop
structure CT where
  fn : Nat → GC
  cls : Str → Option Addr
  ex : Nat → GXC
  lt : Option (Addr × Str)
  st : Option (Addr × Str)
  tabs : List (Addr × Str)
inductive HA where
  | str (s : Str)
  | bool (b : Bool)
  | isi (D : Str) (b : Bool)
  | fld (f : Str)
  deriving DecidableEq
inductive HR where
  | lst (xs : List HA)
  | one (x : HA)
  deriving DecidableEq
structure TSp where
  ret : Bool
  dflt : HR
  hs : List (Str × HR)
  deriving DecidableEq
noncomputable def atoms : HR → List HA
  | .lst xs => xs
  | .one x => [x]
noncomputable def wrapOf (sp : TSp) : Option Str := match sp.dflt with
  | .lst [.str w] => if sp.ret = true then some w else none
  | _ => none
structure RSp where
  cls : Str
  fld : Str
  base : Str
  isb : Bool
  deriving DecidableEq
instance : CoeFun CT fun _ => Nat → GC := ⟨CT.fn⟩
noncomputable def putD (f : Str) (v : DV) : List (Str × DV) → List (Str × DV)
  | [] => [(f, v)]
  | (g, x) :: r => if g = f then (g, v) :: r else (g, x) :: putD f v r
section
variable {K : PySem.W.Frag} {H : Hp} {f : Str}
theorem FldAll.get : ∀ {vs : List (Str × V)} {fs : List (Str × DV)} {d : DV}, FldAll K H vs fs → fs.lookup f = some d → ∃ v, vs.lookup f = some v ∧ DatV K H v d
  | _, _, d, .nil, e => by cases e
  | _, _, d, .cons (a := (g, x)) (b := (g', v)) ⟨h1, h2⟩ t, e => by
    simp only at h1
    subst h1
    rw [List.lookup_cons] at e ⊢
    split at e
    · rename_i q
      cases e
      exact ⟨v, rfl, h2⟩
    · exact FldAll.get t e
theorem FldAll.no : ∀ {vs : List (Str × V)} {fs : List (Str × DV)}, FldAll K H vs fs → fs.lookup f = none → vs.lookup f = none
  | _, _, .nil, _ => rfl
  | _, _, .cons (a := (g, x)) (b := (g', v)) ⟨h1, h2⟩ t, e => by
    simp only at h1
    subst h1
    rw [List.lookup_cons] at e ⊢
    split at e
    · cases e
    · exact FldAll.no t e
theorem FldAll.len {vs : List (Str × V)} {fs : List (Str × DV)} (h : FldAll K H vs fs) : vs.length = fs.length := (Paired.length h).symm
theorem FldAll.put {v : V} {d : DV} (hv : DatV K H v d) : ∀ {vs : List (Str × V)} {fs : List (Str × DV)}, FldAll K H vs fs → FldAll K H (putF f v vs) (putD f d fs)
  | _, _, .nil => .cons ⟨rfl, hv⟩ .nil
  | _, _, .cons (a := (g, x)) (b := (g', w)) ⟨h1, h2⟩ t => by
    simp only at h1
    subst h1
    unfold putF putD
    by_cases e : g = f
    · rw [if_pos e, if_pos e]
      exact .cons ⟨rfl, hv⟩ t
    · rw [if_neg e, if_neg e]
      exact .cons ⟨rfl, h2⟩ (FldAll.put hv t)
end
section
variable {prog : Program} {w : World} {A : Around} {E : Value → Shared → Prop} {s : Shared} {env : Env}
theorem call_own {o : Expr} {name : Str} {apos pos : Pos} {args : List Expr} {Q : Value → Shared → Prop} (hbase : attributeBase o name env (eval o env) = eval o env)
    (hfew : ((backTo pos (starEach args env)).all (fun x => !x.1) && (backToKw pos (keywordEach [] env)).all (fun x => x.1.isSome) && decide (args.length + ([] : List Keyword).length + (if ([] : List Keyword).isEmpty then 0 else 1) < 30)) = true)
    (hline : (apos.endLine == pos.line) = true)
    (h : wpAny (model prog w) A (eval o env) (fun ov s₁ => ∀ pl : Sem Bool, wpAny (model prog w) A (getMethod ov name pl) (fun fx s₂ => wpAny (model prog w) A (callWith pos fx.1 fx.2 (backTo pos (starEach args env)) (backToKw pos (keywordEach [] env))) Q E s₂) E s₁) E s) :
    wpAny (model prog w) A (eval (.Call (.Attribute o name apos) args [] pos) env) Q E s := by
  rw [arm_eval_Call, hbase]
  refine wpAny_bind (wpAny_mono h (fun ov s₁ h₁ => ?_) fun _ _ e => e)
  refine wpAny_bind (wpAny_standAt ?_)
  have hform : methodCallForm (args.length + ([] : List Keyword).length) (backTo pos (starEach args env)) (backToKw pos (keywordEach [] env)) = true := hfew
  have hpos : methodCallPos true o env apos pos = pure pos := by unfold methodCallPos; simp [hline]
  unfold methodCall
  rw [hform]
  refine wpAny_bind (wpAny_holding (wpAny_mono (h₁ _) (fun fx s₂ h₂ => ?_) fun _ _ e => e))
  exact wpAny_bind (wpAny_of_eq hpos h₂)
end
section
variable {X : Cx}
noncomputable def baseB : Expr → Bool
  | .Call (.Name _ _) [] [] _ => false
  | _ => true
theorem base_of {o : Expr} {m : Str} {env : PySem.Env} (h : baseB o = true) : attributeBase o m env (eval o env) = eval o env := by
  unfold attributeBase
  split
  · cases h
  · rfl
end
section
variable {X : Cx} {pins : List (Addr × Obj)} {σ : L2.St} {H : Hp} {s : Shared} {d : Addr} {o : Obj} {xs : List (NestedKey × Addr × Value)}
theorem frzE (I : Inv X pins σ H s) (h : H d = some (.frz o (.ext (DictOn d xs)))) : s.heap.get? d = some o ∧ o.ExactDict ∧ ∃ (es : Array DictEntry) (ep : Nat), o.data = .dict es ep ∧ es.size = xs.length ∧
    ∀ (i : Nat) (y : NestedKey × Addr × Value), xs[i]? = some y → ∃ en : DictEntry, es[i]? = some en ∧ en.key = .ref y.2.1 := by
  obtain ⟨hd, ⟨o', es, ep, ho, hx, hdt, he⟩, _⟩ := I.hok d _ h
  rw [hd] at ho
  cases ho
  refine ⟨hd, hx, es, ep, hdt, size_of_entries (he X.prog X.w), fun i y e => ?_⟩
  have q := entry_at (he X.prog X.w) i
  rw [e] at q
  exact ⟨_, q, rfl⟩
end
noncomputable def ItkE (d : Addr) (o : Obj) (xs : List (NestedKey × Addr × Value)) : It :=
  ⟨fun i H => H d = some (.frz o (.ext (DictOn d xs))) ∧ i < xs.length, fun i H x H' => H' = H ∧ ∃ y, xs[i]? = some y ∧ x = .ref y.2.1, fun i H => H d = some (.frz o (.ext (DictOn d xs))) ∧ xs.length ≤ i⟩
theorem turn_keysE {P : Program} {w : World} {K : PySem.W.Frag} {tg : Expr} {d : Addr} {o : Obj} {es : Array DictEntry} {ep : Nat} {xs : List (NestedKey × Addr × Value)} (it : Addr) (hod : o.data = .dict es ep) : Turn P w K tg (ItkE d o xs) [it] it (fun i h => h.IsKeyIter it d i xs.length ep) where
  mem := by simp
  obj := fun i h st b hb => by
    have e : b = it := by simpa using hb
    subst e
    obtain ⟨oi, e, c, dd⟩ := st
    exact ⟨oi, e, fun v z => by rw [dd] at z; cases z⟩
  keep := fun i h h' st k => st.at fun oi e => k it (by simp) oi e
  item := by
    intro X hP hw hK hc i pins s σ H E I hf st hg
    subst hP hw hK
    obtain ⟨hd, hi⟩ := hg
    obtain ⟨f0, f1, f2, f3, f4, f5⟩ := hf it (by simp)
    obtain ⟨hgd, hx, es', ep', hdt, hsz, ent⟩ := frzE I hd
    obtain ⟨rfl, rfl⟩ := dict_ep hod hdt
    obtain ⟨en, hen, hkey⟩ := ent i xs[i] (List.getElem?_eq_getElem hi)
    refine next_key_item st hgd hdt hsz hen fun h' st' sb => ?_
    have I1 : Inv X pins σ H { s with heap := h' } := I.turned (t' := s.toks) (fun b ob hb e => (sb.2 b hb).trans e) f0 f1 f3 f4 f5
    obtain ⟨oi, e, c, dd⟩ := id st'
    exact ⟨en.key, rfl, go_of (s := { s with heap := h' }) e c dd (by decide) ⟨.ref xs[i].2.1, H, I1, hkey, ⟨rfl, xs[i], List.getElem?_eq_getElem hi, rfl⟩, st', fun b hb => (hf b hb).1⟩⟩
  done := by
    intro X hP hw hK hc i pins s σ H E I hf st hg
    subst hP hw hK
    obtain ⟨hd, hi⟩ := hg
    obtain ⟨f0, f1, f2, f3, f4, f5⟩ := hf it (by simp)
    obtain ⟨hgd, hx, es', ep', hdt, hsz, ent⟩ := frzE I hd
    obtain ⟨rfl, rfl⟩ := dict_ep hod hdt
    exact next_key_end (I.ok.hd hc) st hgd hdt hsz hi fun h' eb => ⟨rfl, I.turned (t' := s.toks) (fun b ob hb e => eb b ob hb e) f0 f1 f3 f4 f5⟩
  self := fun A i s Q E st h => by
    refine wpAny_pyIter_slot st.typeIs F.slot_dict_keyiterator_iter (wpAny_call_entry F.slot_dict_keyiterator_iter st.typeIs F.entry_dict_keyiterator_iter ?_ (F.args_dict_keyiterator_iter_1 _))
    show wpAny _ _ (ret (.ref it)) _ _ s
    exact wpAny_pure ⟨_, rfl, "dict_keyiterator", _, st.typeIs, F.slot_dict_keyiterator_next.lookup, h⟩
noncomputable def gKeys (ge : GE) : GI := fun δ HD Q => ge δ HD fun x HD1 => match x with
  | .r a => (match HD1 a with
    | some (.dct true kvs) => Q none ((kvs.map (·.1)).map .d) (dset HD1 a (.dlk kvs))
    | _ => False)
  | _ => False
theorem kvr_at {K : PySem.W.Frag} {H : Hp} : ∀ {kvs : List (PyData × PyData)} {xs : List (NestedKey × Addr × Value)}, Paired (KvR K H) kvs xs → ∀ {i : Nat} {y : NestedKey × Addr × Value}, xs[i]? = some y → ∃ kv, kvs[i]? = some kv ∧ Fd K H (.ref y.2.1) kv.1
  | _, _, .nil, i, y, h => by simp at h
  | _, _, .cons (a := a) (b := b) ⟨_, _, h3, _⟩ t, i, y, h => by
    cases i with
    | zero =>
      simp only [List.getElem?_cons_zero, Option.some.injEq] at h
      subst h
      exact ⟨a, rfl, h3⟩
    | succ i =>
      simp only [List.getElem?_cons_succ] at h
      exact kvr_at t h
theorem di_keys {X : Cx} {tg e : Expr} {ge : GE} (he : PE X e (up X.K ge)) : PI X tg e (upI X.K (gKeys ge)) := by
  refine ⟨fun pins s σ H R I h => ?_⟩
  obtain ⟨δ, HD, Qd, E, Rp, h, l⟩ := h
  refine thn (he.run pins s σ H (fun v H1 => ∃ a xs, v = .ref a ∧ H1 a = some (.ext (DictOn a xs)) ∧ (a == sysModules) = false ∧ ∀ o, R (ItkE a o xs) (upd H1 a (.frz o (.ext (DictOn a xs))))) I ⟨δ, HD, _, E, Rp, h, fun d HD1 v H1 q dv R1 fr => ?_⟩) fun u s1 ⟨v, H1, I1, r1, q1⟩ => ?_
  · split at q
    · rename_i a
      split at q
      · rename_i kvs hxs
        obtain ⟨xs, h1, h2, h3, h4, h5⟩ := R1 a _ hxs
        have dv' : v = .ref a := dv
        refine ⟨a, xs, dv', h1, h2, fun o => ?_⟩
        have m : Mut (H1 a) := R1.mutAt hxs
        have ex : Ext H1 (upd H1 a (.frz o (.ext (DictOn a xs)))) := Ext.mut m
        have h6 : Paired (KvR X.K (upd H1 a (.frz o (.ext (DictOn a xs))))) kvs xs := Paired.mapP h5 fun _ _ ⟨a, b, c, v, r, f⟩ => ⟨a, b, c.ext ex, v, r, f.ext ex⟩
        have hl : kvs.length = xs.length := Paired.length h6
        refine l none _ _ (ItkE a o xs) _ q ⟨fun i HD' H' e _ _ hi => ⟨e.2 _ _ _ upd_same, by simp at hi; omega⟩, fun i HD' H' x H'' e R' _ hi hy => ?_, fun i HD' H' e _ _ hi => ⟨e.2 _ _ _ upd_same, by simp at hi; omega⟩⟩ trivial (R1.put ex ⟨o, xs, upd_same, h2, h3, h4, h6⟩) (fr.trans (Frm.put m (by rw [hxs]; simp)))
        obtain ⟨e1, y, ey, e2⟩ := hy
        subst e1 e2
        obtain ⟨kv, ek, f⟩ := kvr_at h6 ey
        exact ⟨.d kv.1, by simp [ek], f.ext e, R', Frm.refl⟩
      · exact q.elim
    · exact q.elim
  · obtain ⟨a, xs, rfl, h1, h2, q⟩ := q1
    obtain rfl : u = .ref a := r1
    obtain ⟨o, I2⟩ := I1.lock h1 trivial
    obtain ⟨hgd, hx, es, ep, hdt, hsz, hen⟩ := frzE I2 upd_same
    refine iter_keys h2 hgd hx hdt (pi_one (tk := s1.toks) I2 _ (turn_keysE _ hdt) ⟨_, Heap.get?_push_size _ rfl, rfl, ?_⟩ (q o))
    rw [hsz] <;> rfl
noncomputable def rngQ3 (Q : Src → List DV → HDt → Prop) : List DV → HDt → Prop := fun ds HD => match ds with
  | [.d (.int i), .d (.int j), .d (.int c)] => c = -1 ∧ (-(2 ^ 62) ≤ i ∧ i < 2 ^ 62 ∧ -(2 ^ 62) ≤ j ∧ j < 2 ^ 62) ∧ Q none ((List.range (i - j).toNat).map fun (k : Nat) => .d (.int (i + (k : Int) * (-1)))) HD
  | _ => False
noncomputable def gRng3 (ga gb gc : GE) : GI := fun δ HD Q => ga δ HD fun x HD1 => gb δ HD1 fun y HD2 => gc δ HD2 fun z HD3 => rngQ3 Q [x, y, z] HD3
section
variable {K : PySem.W.Frag} {H : Hp}
theorem itc_ok {lo c : Int} {n : Nat} {H0 : Hp} : ItOk K (Itc lo c n) H0 none ((List.range n).map fun (i : Nat) => DV.d (.int (lo + (i : Int) * c))) := by
  refine ⟨fun i HD H e R so hi => by simpa [Itc] using hi, fun i HD H x H' e R so hi hy => ?_, fun i HD H e R so hi => by simpa [Itc] using hi⟩
  obtain ⟨rfl, rfl⟩ := hy
  have hi' : i < n := by simpa using hi
  exact ⟨.d (.int (lo + (i : Int) * c)), by simp [hi'], Fd.int _, R, Frm.refl⟩
end
section
variable {X : Cx} {tg : Expr}
theorem di_rng3 {a b c : Expr} {ga gb gc : GE} {p pos : Pos} (hg : Gl X "range") (hm : X.mg "range" = none) (ha : PE X a (up X.K ga)) (hb : PE X b (up X.K gb)) (hc : PE X c (up X.K gc)) (hs : starEach [a, b, c] X.env = (false, eval a X.env) :: starEach [b, c] X.env)
    (hs2 : starEach [b, c] X.env = (false, eval b X.env) :: starEach [c] X.env) (hs3 : starEach [c] X.env = [(false, eval c X.env)]) : PI X tg (.Call (.Name "range" p) [a, b, c] [] pos) (upI X.K (gRng3 ga gb gc)) := by
  refine ⟨fun pins s σ H R I h => (pi_range3 hg hm (da_cons ha (da_cons hb (da_cons hc da_nil hs3) hs2) hs) hs (by rw [hs2, hs3]; rfl)).run pins s σ H R I ?_⟩
  obtain ⟨δ, HD, Qd, E, Rp, h, l⟩ := h
  refine ⟨δ, HD, rngQ3 Qd, E, Rp, h, fun ds HD1 vs H1 q dv R1 fr => ?_⟩
  unfold rngQ3 at q
  split at q
  · match vs, dv with
    | [v, w', z], .cons d (.cons d' (.cons d'' .nil)) =>
      cases d
      cases d'
      cases d''
      obtain ⟨rfl, ⟨q1, q2, q3, q4⟩, q5⟩ := q
      exact ⟨_, _, _, _, rfl, RgC.neg q1 q2 q3 q4, l _ _ _ _ _ q5 itc_ok trivial R1 fr⟩
  · exact q.elim
end
noncomputable def gKeysF (ge : GE) : GI := fun δ HD Q => ge δ HD fun x HD1 => match x with
  | .d (.dict kvs) => Q none ((kvs.map (·.1)).map .d) HD1
  | _ => False
theorem fd_kV {K : PySem.W.Frag} {H : Hp} : ∀ k : Key, Fd K H (kV k) (kP k)
  | .inl i => Fd.int i
  | .inr x => Fd.str x
theorem di_keysF {X : Cx} {tg e : Expr} {ge : GE} (he : PE X e (up X.K ge)) : PI X tg e (upI X.K (gKeysF ge)) := by
  refine ⟨fun pins s σ H R I h => ?_⟩
  obtain ⟨δ, HD, Qd, E, Rp, h, l⟩ := h
  refine (pi_keys he).run pins s σ H R I ⟨δ, HD, _, E, Rp, h, fun d HD1 v H1 q dv R1 fr => ?_⟩
  split at q
  · rename_i kvs
    have dv : Fd X.K H1 v (.dict kvs) := dv
    cases dv with
    | @dct a o ks _ h1 h2 h3 =>
      have hl : kvs.length = ks.length := by simpa using congrArg List.length h2
      refine ⟨a, o, rfl, .inl ⟨ks, h1, ?_⟩⟩
      refine l none _ _ (Itk a o ks) _ q ⟨fun i HD' H' e _ _ hi => ⟨e.2 _ _ _ h1, by simp at hi; omega⟩, fun i HD' H' x H'' e R' _ hi hy => ?_, fun i HD' H' e _ _ hi => ⟨e.2 _ _ _ h1, by simp at hi; omega⟩⟩ trivial R1 fr
      obtain ⟨e1, k, w, ek, e2⟩ := hy
      subst e1 e2
      refine ⟨.d (kP k), ?_, fd_kV k, R', Frm.refl⟩
      have := congrArg (fun l => l[i]?) h2
      simp only [List.getElem?_map, ek, Option.map_some] at this ⊢
      rw [this]
      rfl
  · exact q.elim
noncomputable def ZlOn (z TI TO i1 i2 l1 l2 : Addr) (xs ys : Array Value) (i : Nat) (h : Heap) : Prop := IsPair h TI (.ref i1) (.ref i2) ∧ h.IsListIter i1 l1 i ∧ h.IsListIter i2 l2 i ∧ h.IsList l1 xs ∧ h.IsList l2 ys ∧ (∃ u, h.get? TO = some u) ∧
  ((IsZip h z TI TO .none ∧ ∃ a b, IsPair h TO a b) ∨ ∃ T f oT, IsZipHeld h z TI TO T f ∧ h.get? T = some oT ∧ T ≠ z ∧ T ≠ i1 ∧ T ≠ i2)
section
variable {prog : Program} {w : World} {A : Around} {E : Value → Shared → Prop} {s : Shared} {z TI TO i1 i2 l1 l2 S : Addr} {xs ys : Array Value} {i : Nat}
theorem ZlOn.stay {h h' : Heap} (st : ZlOn z TI TO i1 i2 l1 l2 xs ys i h) (hs : S ∉ [z, TI, TO, i1, i2, l1, l2]) (hT : ∀ T, (∃ f, IsZipHeld h z TI TO T f) → T ≠ S) (k : ∀ b u, b ≠ S → h.get? b = some u → h'.get? b = some u) : ZlOn z TI TO i1 i2 l1 l2 xs ys i h' := by
  simp only [List.mem_cons, List.not_mem_nil, or_false, not_or] at hs
  obtain ⟨d1, d2, d3, d4, d5, d6, d7⟩ := hs
  obtain ⟨c2, c4, c5, c6, c7, ⟨uO, cO⟩, c⟩ := st
  refine ⟨k _ _ (Ne.symm d2) c2, c4.at fun u e => k _ u (Ne.symm d4) e, c5.at fun u e => k _ u (Ne.symm d5) e, c6.at fun u e => k _ u (Ne.symm d6) e, c7.at fun u e => k _ u (Ne.symm d7) e, ⟨uO, k _ _ (Ne.symm d3) cO⟩, ?_⟩
  rcases c with ⟨c1, a, b, c3⟩ | ⟨T, f, oT, c1, cT, r1, r2, r3⟩
  · exact .inl ⟨k _ _ (Ne.symm d1) c1, a, b, k _ _ (Ne.symm d3) c3⟩
  · exact .inr ⟨T, f, oT, k _ _ (Ne.symm d1) c1, k _ _ (hT T ⟨f, c1⟩) cT, r1, r2, r3⟩
end
noncomputable def gExn0 (x : Str) : GE := fun δ HD Q => Q (.x (.one (x, none))) HD
noncomputable def exnQ (x f : Str) (Q : DQ) : List DV → HDt → Prop := fun ys HD => match ys with
  | [.d v] => Q (.x (.one (x, some (f, v)))) HD
  | _ => False
noncomputable def gExn1 (x f : Str) (ge : GE) : GE := fun δ HD Q => ge δ HD fun y HD1 => exnQ x f Q [y] HD1
noncomputable def gEis (tb : List (Str × Bool)) (ge : GE) : GE := fun δ HD Q => ge δ HD fun y HD1 => match y with
  | .x (.one p) => (match tb.lookup p.1 with
    | some b => Q (.d (.bool b)) HD1
    | none => False)
  | _ => False
noncomputable def gEfl (f : Str) (cs : List Str) (ge : GE) : GE := fun δ HD Q => ge δ HD fun y HD1 => match y with
  | .x (.one (c, some (g, v))) => (c ∈ cs ∧ g = f) ∧ Q (.d v) HD1
  | _ => False
inductive Mt where
  | append | extend | pop | popAt | remove
  deriving DecidableEq
mutual
inductive RE where
  | var (i : Nat)
  | cst (x : PyData)
  | glob (x : PyData)
  | add (own : Bool) (a b : RE)
  | arith (op : Operator) (a b : RE)
  | mul (a b : RE)
  | cmp (op : CmpOp) (a b : RE)
  | neg (a : RE)
  | call (f : Nat) (as : RA)
  | bi (f : Bi) (a : RE)
  | ix (a i : RE)
  | sl (own : Bool) (a : RE) (lo hi : RO)
  | tup (as : RA)
  | lst (own : Bool) (as : RA)
  | comp (own : Bool) (vs : List Nat) (p : RP) (it : RI) (ts : RT) (e : RE)
  | meth (m : Mt) (o : RE) (as : RA)
  | dct0
  | comp2 (own : Bool) (vs vs1 : List Nat) (p : RP) (it : RI) (ts : RT) (p1 : RP) (it1 : RI) (ts1 : RT) (e : RE)
  | mulL (own : Bool) (a b : RE)
  | exn0 (x : Str)
  | exn1 (x f : Str) (kw : Bool) (a : RE)
  | exis (D : Str) (tb : List (Str × Bool)) (a : RE)
  | exfl (f : Str) (cs : List Str) (a : RE)
inductive RD where
  | nil
  | cons (k v : RE) (r : RD)
inductive RA where
  | nil
  | cons (e : RE) (as : RA)
inductive RT where
  | yes
  | val (e : RE)
  | cmp (op : CmpOp) (a b : RE)
  | not (t : RT)
  | and (a b : RT)
  | or (a b : RT)
inductive RO where
  | none
  | some (e : RE)
inductive RI where
  | seq (e : RE)
  | rng1 (a : RE)
  | rng2 (a b : RE)
  | rng3 (a b c : RE)
  | enum (a : RE)
  | zip (a b : RE)
  | zipS (a : RE)
  | keys (a : RE)
  /-- the keys of a dict that is data -/
  | keysF (a : RE)
end
inductive RS where
  | ret (e : RE)
  | drop (e : RE)
  | asg (p : RP) (e : RE)
  | set (o i e : RE)
  | ifs (t : RT) (a b : List RS)
  | loop (p : RP) (it : RI) (b : List RS)
inductive RX where
  | no
  | raise (c : Str) (f : Option Str) (as : RA)
  | run (s : RS) (r : RX)
  | ifT (t : RT) (r : RX)
  | ifF (t : RT) (r : RX)
  | callS (f : Nat) (as : RA)
  | callA (f : Nat) (as : RA)
  | ret (f : Nat) (as : RA)
  | alt (a b : RX)
  | loop (p : RP) (it : RI) (b : List RS) (r : RX)
noncomputable def isYes : RT → Bool
  | .yes => true
  | _ => false
noncomputable def dMt (m : Mt) : DV → List DV → HDt → DQ → Prop := fun o as HD Q => match o with
  | .r l => (match HD l with
    | some (.lst xs) => (match m, as with
      | .append, [y] => xs.length < sizeLine ∧ Q (.d .none) (dset HD l (.lst (xs ++ [y])))
      | .extend, [z] => (match z with
        | .d (.list ds) => xs.length + ds.length ≤ sizeLine ∧ Q (.d .none) (dset HD l (.lst (xs ++ ds.map .d)))
        | _ => False)
      | .pop, [] => (match xs[xs.length - 1]? with
        | some y => Q y (dset HD l (.lst xs.dropLast))
        | none => False)
      | .popAt, [.d (.int i)] => (match seqIndex? i xs.length with
        | some k => (match xs[k]? with
          | some y => (-(2 ^ 63) ≤ i ∧ i < 2 ^ 63) ∧ Q y (dset HD l (.lst (xs.eraseIdx k)))
          | none => False)
        | none => False)
      | .remove, [.d d] => (match dats xs with
        | some ds => (match PySem.SeqAt.dataPlace ds d with
          | some j => (PyData.plainAll ds = true ∧ d.plain = true ∧ PyData.depthAll ds ≤ 64) ∧ Q (.d .none) (dset HD l (.lst (xs.eraseIdx j)))
          | none => False)
        | none => False)
      | _, _ => False)
    | _ => False)
  | _ => False
noncomputable def isL (x : DV) (HD : HDt) : Prop := match x with
  | .r l => ∃ xs, HD l = some (.lst xs)
  | _ => False
noncomputable def gMt (m : Mt) (go : GE) (ga : GA) : GE := fun δ HD Q => go δ HD fun x HD1 => isL x HD1 ∧ ga δ HD1 fun as HD2 => dMt m x as HD2 Q
noncomputable def gYes : GT := fun _ HD Q => Q true HD
section
variable (C : CT)
noncomputable def arrK {α : Type} (ps ks : List Str) (xs : List α) : List α := ps.filterMap fun p => (ks.zip xs).lookup p
mutual
noncomputable def wE : RE → GE
  | .var i => gVar i
  | .cst x => gC x
  | .glob x => gC x
  | .add own a b => g2 (dAdd own) (wE a) (wE b)
  | .arith op a b => g2 (dArith op) (wE a) (wE b)
  | .mul a b => g2 dMul (wE a) (wE b)
  | .cmp op a b => g2 (dCmp op) (wE a) (wE b)
  | .neg a => gNeg (wE a)
  | .call f as => gCall (C f) (wA as)
  | .bi f a => gCall (dBi f) (gCons (wE a) gNil)
  | .ix a i => g2 dIx (wE a) (wE i)
  | .sl own a lo hi => gSl own (wE a) (wO lo) (wO hi)
  | .tup as => gTup (wA as)
  | .lst own as => gLst own (wA as)
  | .comp own vs p it ts e => gComp own vs (wI it) (bindP p) (wT ts) (wE e)
  | .meth m o as => gMt m (wE o) (wA as)
  | .dct0 => gC (.dict [])
  | .comp2 own vs vs1 p it ts p1 it1 ts1 e => gComp2 own vs vs1 (wI it) (bindP p) (wT ts) (wI it1) (bindP p1) (wT ts1) (wE e)
  | .mulL own a b => g2 (dMulL own) (wE a) (wE b)
  | .exn0 x => gExn0 x
  | .exn1 x f _ a => gExn1 x f (wE a)
  | .exis _ tb a => gEis tb (wE a)
  | .exfl f cs a => gEfl f cs (wE a)
noncomputable def wD : RD → GD
  | .nil => gD0
  | .cons k v r => gDc (wE k) (wE v) (wD r)
noncomputable def wA : RA → GA
  | .nil => gNil
  | .cons e as => gCons (wE e) (wA as)
noncomputable def wT : RT → GT
  | .yes => gYes
  | .val e => gValI (wE e)
  | .cmp op a b => gVal (g2 (dCmp op) (wE a) (wE b))
  | .not t => gNotT (wT t)
  | .and a b => gAndT (wT a) (wT b)
  | .or a b => gOrT (wT a) (wT b)
noncomputable def wO : RO → GO
  | .none => gNoPart
  | .some e => gPart (wE e)
noncomputable def wI : RI → GI
  | .seq e => gSeq (wE e)
  | .rng1 a => gRng1 (wE a)
  | .rng2 a b => gRng2 (wE a) (wE b)
  | .rng3 a b c => gRng3 (wE a) (wE b) (wE c)
  | .enum a => gEnum (wE a)
  | .zip a b => gZip (wE a) (wE b)
  | .zipS a => gZipS (wE a)
  | .keys a => gKeys (wE a)
  | .keysF a => gKeysF (wE a)
end
mutual
noncomputable def wS : RS → GS
  | .ret e => gRet (wE C e)
  | .drop e => gDrop (wE C e)
  | .asg p e => gAsg p (wE C e)
  | .set o i e => gSetS (wE C o) (wE C i) (wE C e)
  | .ifs t a b => gIfS (wT C t) (wB a) (wB b)
  | .loop p it b => gFor (wI C it) (bindP p) (wB b)
noncomputable def wB : List RS → GS
  | [] => gNext
  | s :: ss => gSeq2 (wS s) (wB ss)
end
end
inductive FName where
  | glob (x : Str)
  | meth (c m : Str)
  deriving DecidableEq
structure Glb where
  consts : List (Str × PyData)
  funs : List (FName × List Str)
  dicts : List (Str × List (Int × Int))
  clss : List (Str × List Str) := []
  dfl : List FName := []
  tolds : List (Str × TSp) := []
  excs : List (Str × Option Str) := []
  refs : List (Str × RSp) := []
  tcs : List (Str × Str × TSp × List Str) := []
  /-- generator defs: each with the place of the def that gives its list -/
  gens : List (Str × Nat) := []
  /-- things are shown -/
  rp : Bool := true
  /-- errors that are values, each class with its field; isinstance of them -/
  evs : List (Str × Option Str) := []
  evi : List (Str × Str × Bool) := []
noncomputable def noRp : Bi → Bool
  | .repr => false
  | _ => true
noncomputable def fnmB (G : Glb) (f : Nat) (x : FName) (n : Nat) : Bool := match G.funs[f]? with
  | some (y, ps) => decide (y = x) && decide (ps.length = n)
  | none => false
noncomputable def funB (G : Glb) (f : Nat) (x : Str) (n : Nat) : Bool := fnmB G f (.glob x) n
noncomputable def kwB (ps ks : List Str) : Bool := decide ks.Nodup && decide (ks.length = ps.length) && ks.all (fun k => ps.contains k) && ps.all (fun p => ks.contains p)
noncomputable def bNames : List Str := ["len", "tuple", "list", "int", "abs", "bool", "str", "repr", "all", "any", "sum", "sorted", "range", "isinstance", "dict", "enumerate", "min", "max", "set", "zip"]
noncomputable def biName : Bi → Str
  | .len => "len"
  | .tuple => "tuple"
  | .list _ => "list"
  | .int => "int"
  | .abs => "abs"
  | .bool => "bool"
  | .str => "str"
  | .repr => "repr"
  | .all => "all"
  | .any => "any"
  | .sum => "sum"
  | .sorted _ => "sorted"
noncomputable def glB (sc : Scope) (x : Str) : Bool := decide (sc.names.lookup x = some .globalImplicit)
noncomputable def visB (sc : Scope) (x : Str) : Bool := decide (sc.names.lookup x = some .local) || decide (sc.names.lookup x = some .cell) || decide (sc.names.lookup x = some .free)
noncomputable def locB (sc : Scope) (x : Str) : Bool := decide (sc.names.lookup x = some .local) || decide (sc.names.lookup x = some .cell)
noncomputable def nmB (x : Str) : Bool := !(x == ("__debug__" : Str)) && !(x == ("__classdict__" : Str)) && !decide (x = "__name__")
noncomputable def noStar : Expr → Bool
  | .Starred _ _ => false
  | _ => true
noncomputable def noSlice : Expr → Bool
  | .Slice _ _ _ _ => false
  | _ => true
noncomputable def noSet : Expr → Bool
  | .Set _ _ _ => false
  | _ => true
noncomputable def noComp : Expr → Bool
  | .ListComp _ _ _ _ => false
  | .SetComp _ _ _ _ => false
  | .DictComp _ _ _ _ _ => false
  | _ => true
noncomputable def byVal : Expr → Bool
  | .UnaryOp .Not _ _ => false
  | .BoolOp _ _ _ => false
  | .IfExp _ _ _ _ => false
  | .Compare _ _ _ _ => false
  | _ => true
noncomputable def cstB : PyData → Expr → Bool
  | .int i, .Constant (.int j) _ _ => decide (i = j)
  | .bool i, .Constant (.bool j) _ _ => decide (i = j)
  | .str i, .Constant (.str j) _ _ => decide (i = j)
  | .none, .Constant .none _ _ => true
  | _, _ => false
mutual
noncomputable def eqB : PyData → PyData → Bool
  | .none, .none => true
  | .bool a, .bool b => decide (a = b)
  | .int a, .int b => decide (a = b)
  | .str a, .str b => decide (a = b)
  | .list a, .list b => eqBs a b
  | .tuple a, .tuple b => eqBs a b
  | _, _ => false
noncomputable def eqBs : List PyData → List PyData → Bool
  | [], [] => true
  | a :: as, b :: bs => eqB a b && eqBs as bs
  | _, _ => false
end
mutual
theorem eqB_eq : ∀ {a b : PyData}, eqB a b = true → a = b
  | .none, b, h => by cases b <;> simp_all [eqB]
  | .bool _, b, h => by cases b <;> simp_all [eqB]
  | .int _, b, h => by cases b <;> simp_all [eqB]
  | .str _, b, h => by cases b <;> simp_all [eqB]
  | .list a, b, h => by cases b <;> simp only [eqB, Bool.false_eq_true] at h; rw [eqBs_eq h]
  | .tuple a, b, h => by cases b <;> simp only [eqB, Bool.false_eq_true] at h; rw [eqBs_eq h]
  | .dict _, b, h => by cases b <;> simp_all [eqB]
theorem eqBs_eq : ∀ {a b : List PyData}, eqBs a b = true → a = b
  | [], b, h => by cases b <;> simp_all [eqBs]
  | a :: as, b, h => by
    cases b with
    | nil => simp [eqBs] at h
    | cons b bs =>
      simp only [eqBs, Bool.and_eq_true] at h
      rw [eqB_eq h.1, eqBs_eq h.2]
end
noncomputable def cellB (s : Scope) (x : Str) : Bool := s.names.lookup x == some .cell
mutual
noncomputable def chP (N : List Str) (sc : Scope) (df : Str → Bool) : RP → Expr → Bool
  | .nm i, e => match e with
    | .Name x _ => decide (N[i]? = some x) && locB sc x && (df x || decide (sc.names.lookup x = some .local))
    | _ => false
  | .tp ps, e => match e with
    | .Tuple es _ _ => chPs N sc df ps es
    | _ => false
noncomputable def chPs (N : List Str) (sc : Scope) (df : Str → Bool) : List RP → List Expr → Bool
  | [], [] => true
  | p :: ps, e :: es => noStar e && chP N sc df p e && chPs N sc df ps es
  | _, _ => false
end
noncomputable def sub1 (vs us : List Nat) : Bool := us.all fun i => vs.contains i
noncomputable def ownOf (N : List Str) (vs : List Nat) : List (Str × Nat) := vs.map fun i => (N.getD i "", i)
noncomputable def methName : Mt → Str
  | .append => "append"
  | .extend => "extend"
  | .pop => "pop"
  | .popAt => "pop"
  | .remove => "remove"
section
variable (G : Glb) (N : List Str)
mutual
noncomputable def chE (sc : Scope) : RE → Expr → Bool
  | .var i, e => match e with
    | .Name x _ => decide (N[i]? = some x) && visB sc x && nmB x
    | _ => false
  | .cst x, e => cstB x e
  | .glob d, e => match e with
    | .Name x _ => glB sc x && nmB x && (match G.consts.lookup x with
      | some d' => eqB d d'
      | none => false)
    | _ => false
  | .add _ a b, e => match e with
    | .BinOp l .Add r _ => chE sc a l && chE sc b r
    | _ => false
  | .arith op a b, e => match e with
    | .BinOp l op' r _ => decide (op = op') && chE sc a l && chE sc b r
    | _ => false
  | .mul a b, e => match e with
    | .BinOp l .Mult r _ => chE sc a l && chE sc b r
    | _ => false
  | .cmp op a b, e => match e with
    | .Compare l [op'] [r] _ => decide (op = op') && noSet r && chE sc a l && chE sc b r
    | _ => false
  | .neg a, e => match e with
    | .UnaryOp .USub x _ => chE sc a x
    | _ => false
  | .call f as, e => match e with
    | .Call (.Name x _) es [] _ => glB sc x && nmB x && funB G f x es.length && chA sc as es
    | _ => false
  | .bi f a, e => match e with
    | .Call (.Name x _) [y] [] _ => decide (x = biName f) && glB sc x && noStar y && chE sc a y && (G.rp || noRp f)
    | _ => false
  | .ix a i, e => match e with
    | .Subscript x y _ => noSlice y && chE sc a x && chE sc i y
    | _ => false
  | .sl _ a lo hi, e => match e with
    | .Subscript x (.Slice l h none _) _ => chE sc a x && chO sc lo l && chO sc hi h
    | _ => false
  | .tup as, e => match e with
    | .Tuple es _ _ => chA sc as es
    | _ => false
  | .lst _ as, e => match e with
    | .List es _ => chA sc as es
    | _ => false
  | .comp _ vs p it ts x, e => match e with
    | .ListComp elt [⟨tg, iter, ifs, 0⟩] s2 _ => noSet iter && sub1 vs (slotsP p) && blkC N sc s2 (ownOf N vs) && chP N (relS s2 sc) (cellB s2) p tg && chI sc it tg iter && (match ifs with
      | [] => isYes ts
      | [c] => chT (relS s2 sc) ts c
      | _ => false) && chE (relS s2 sc) x elt
    | _ => false
  | .meth m o as, e => match e with
    | .Call (.Attribute x nm ap) es [] cp => decide (nm = methName m) && (match x with | .Call _ _ _ _ => false | _ => true) && (ap.endLine == cp.line) && (match m, es with
      | .append, [_] => true
      | .extend, [_] => true
      | .popAt, [_] => true
      | .remove, [_] => true
      | .pop, [] => true
      | _, _ => false) && chE sc o x && chA sc as es
    | _ => false
  | .dct0, e => match e with
    | .Dict [] [] _ => true
    | _ => false
  | .comp2 _ vs vs1 p it ts p1 it1 ts1 x, e => match e with
    | .ListComp elt [⟨tg, iter, ifs, 0⟩, ⟨tg1, iter1, ifs1, 0⟩] s2 _ => (noSet iter && noSet iter1 && sub1 vs (slotsP p) && sub1 vs1 (slotsP p1) && sub1 vs vs1 && blkC N sc s2 (ownOf N vs)) && (chP N (relS s2 sc) (cellB s2) p tg && chP N (relS s2 sc) (cellB s2) p1 tg1) &&
      (chI sc it tg iter && chI (relS s2 sc) it1 tg1 iter1) && (match ifs with
      | [] => isYes ts
      | [c] => chT (relS s2 sc) ts c
      | _ => false) && (match ifs1 with
      | [] => isYes ts1
      | [c] => chT (relS s2 sc) ts1 c
      | _ => false) && chE (relS s2 sc) x elt
    | _ => false
  | .mulL _ a b, e => match e with
    | .BinOp l .Mult r _ => chE sc a l && chE sc b r
    | _ => false
  | .exn0 x, e => match e with
    | .Call (.Name y _) [] [] _ => decide (y = x) && glB sc x && nmB x && decide (G.evs.lookup x = some none)
    | _ => false
  | .exn1 x f kw a, e => match e with
    | .Call (.Name y _) [z] [] _ => !kw && decide (y = x) && glB sc x && nmB x && decide (G.evs.lookup x = some (some f)) && noStar z && chE sc a z
    | .Call (.Name y _) [] [⟨nm, z, _⟩] _ => kw && decide (y = x) && glB sc x && nmB x && decide (G.evs.lookup x = some (some f)) && decide (nm = some f) && chE sc a z
    | _ => false
  | .exis D tb a, e => match e with
    | .Call (.Name y _) [z, .Name w _] [] _ => decide (y = "isinstance") && glB sc y && decide (w = D) && glB sc D && nmB D && noStar z && (!tb.isEmpty && tb.all fun p => decide ((p.1, D, p.2) ∈ G.evi)) && chE sc a z
    | _ => false
  | .exfl f cs a, e => match e with
    | .Attribute z n _ => decide (n = f) && baseB z && (cs.all fun c => decide (G.evs.lookup c = some (some f))) && chE sc a z
    | _ => false
noncomputable def chD (sc : Scope) : RD → List (Option Expr) → List Expr → Bool
  | .nil, ks, vs => match ks, vs with
    | [], [] => true
    | _, _ => false
  | .cons k v r, ks, vs => match ks, vs with
    | some x :: ks, y :: vs => chE sc k x && chE sc v y && chD sc r ks vs
    | _, _ => false
noncomputable def chA (sc : Scope) : RA → List Expr → Bool
  | .nil, es => match es with
    | [] => true
    | _ => false
  | .cons a as, es => match es with
    | e :: es => noStar e && chE sc a e && chA sc as es
    | _ => false
noncomputable def chN (sc : Scope) : RA → List Expr → Bool
  | .nil, _ => false
  | .cons a as, es => match es with
    | e :: es => noStar e && chE sc a e && (match as, es with
      | .cons (.cst .none) .nil, [] => true
      | _, _ => chN sc as es)
    | _ => false
noncomputable def chT (sc : Scope) : RT → Expr → Bool
  | .yes, _ => false
  | .val a, e => byVal e && chE sc a e
  | .cmp op a b, e => match e with
    | .Compare l [op'] [r] _ => decide (op = op') && noSet r && chE sc a l && chE sc b r
    | _ => false
  | .not t, e => match e with
    | .UnaryOp .Not x _ => chT sc t x
    | _ => false
  | .and a b, e => match e with
    | .BoolOp .And [x, y] _ => chT sc a x && chT sc b y
    | .BoolOp .And (x :: y :: z :: zs) p => chT sc a x && chT sc b (.BoolOp .And (y :: z :: zs) p)
    | _ => false
  | .or a b, e => match e with
    | .BoolOp .Or [x, y] _ => chT sc a x && chT sc b y
    | .BoolOp .Or (x :: y :: z :: zs) p => chT sc a x && chT sc b (.BoolOp .Or (y :: z :: zs) p)
    | _ => false
noncomputable def chO (sc : Scope) : RO → Option Expr → Bool
  | .none, e => match e with
    | none => true
    | _ => false
  | .some a, e => match e with
    | some x => chE sc a x
    | _ => false
noncomputable def chI (sc : Scope) : RI → Expr → Expr → Bool
  | .seq a, _, e => chE sc a e
  | .enum a, tg, e => match tg with
    | .Tuple _ _ _ => (match e with
      | .Call (.Name x _) [y] [] _ => decide (x = "enumerate") && glB sc x && noStar y && chE sc a y
      | _ => false)
    | _ => false
  | .zip a b, tg, e => match tg with
    | .Tuple _ _ _ => (match e with
      | .Call (.Name x _) [y, z] [] _ => decide (x = "zip") && glB sc x && noStar y && noStar z && chE sc a y && chE sc b z
      | _ => false)
    | _ => false
  | .zipS a, tg, e => match tg with
    | .Name _ _ => (match e with
      | .Call (.Name x _) [.Starred y _] [] _ => decide (x = "zip") && glB sc x && chE sc a y
      | _ => false)
    | _ => false
  | .rng1 a, _, e => match e with
    | .Call (.Name x _) [y] [] _ => decide (x = "range") && glB sc x && noStar y && chE sc a y
    | _ => false
  | .rng2 a b, _, e => match e with
    | .Call (.Name x _) [y, z] [] _ => decide (x = "range") && glB sc x && noStar y && noStar z && chE sc a y && chE sc b z
    | _ => false
  | .rng3 a b c, _, e => match e with
    | .Call (.Name x _) [y, z, u] [] _ => decide (x = "range") && glB sc x && noStar y && noStar z && noStar u && chE sc a y && chE sc b z && chE sc c u
    | _ => false
  | .keys a, _, e => chE sc a e
  | .keysF a, _, e => chE sc a e
end
end
theorem zip_lookup : ∀ {ps : List Str} {us : List Value} {x : Str}, ps.length = us.length → x ∈ ps → ((ps.zip us).lookup x).isSome = true
  | p :: ps, u :: us, x, hl, hx => by
    simp only [List.zip_cons_cons, List.lookup_cons]
    cases e : x == p with
    | true => rfl
    | false =>
      refine zip_lookup (by simpa using hl) ?_
      rcases List.mem_cons.mp hx with z | z
      · subst z; simp at e
      · exact z
theorem zip_self : ∀ {ps : List Str} {us : List Value}, ps.length = us.length → ps.Nodup → ∀ (L : List (Str × Value)), (∀ (i : Nat) (x : Str) (u : Value), ps[i]? = some x → us[i]? = some u → L.lookup x = some u) → (ps.filterMap fun n => (L.lookup n).map (n, ·)) = ps.zip us
  | [], [], _, _, _, _ => rfl
  | p :: ps, u :: us, hl, nd, L, h => by
    rw [List.filterMap_cons_some (b := (p, u)) (by rw [h 0 p u rfl rfl]; rfl), List.zip_cons_cons, zip_self (by simpa using hl) (List.nodup_cons.mp nd).2 L fun i x u a b => h (i + 1) x u a b]
theorem lookup_at : ∀ {ps : List Str} {us : List Value} {i : Nat} {x : Str} {u : Value}, ps.Nodup → ps[i]? = some x → us[i]? = some u → (ps.zip us).lookup x = some u
  | p :: ps, v :: us, 0, x, u, nd, h1, h2 => by
    simp at h1 h2
    subst h1 h2
    simp
  | p :: ps, v :: us, i + 1, x, u, nd, h1, h2 => by
    simp only [List.zip_cons_cons, List.lookup_cons]
    have hx : x ∈ ps := List.mem_of_getElem? (by simpa using h1)
    have : (x == p) = false := by
      refine beq_eq_false_iff_ne.mpr fun e => ?_
      subst e
      exact (List.nodup_cons.mp nd).1 hx
    rw [this]
    exact lookup_at (i := i) (List.nodup_cons.mp nd).2 (by simpa using h1) (by simpa using h2)
theorem bindPlain {fd : FuncData} {us : List Value} {ps : List Str} (h1 : fd.params.posonlyargs = []) (h2 : fd.params.args.map (·.arg) = ps) (h3 : fd.params.vararg = none) (h4 : fd.params.kwonlyargs = []) (h5 : fd.params.kwarg = none) (h6 : fd.defaults = .none)
    (nd : ps.Nodup) (hl : ps.length = us.length) : bindArgs fd ⟨us, []⟩ = pure (ps.zip us) := by
  unfold bindArgs
  have e1 : seqItems? (.none : Value) = pure none := rfl
  simp only [h1, h2, h3, h4, h5, h6, e1, List.map_nil, List.nil_append, List.forIn_nil, pure_bind, Option.isNone_none, Bool.and_true, List.append_nil]
  have h7 : (decide (us.length > ps.length)) = false := decide_eq_false (by omega)
  have h8 : List.filter (fun n => (List.lookup n (ps.zip us)).isNone) (List.take ps.length ps) = [] := by
    rw [List.take_length]
    refine List.filter_eq_nil_iff.mpr fun x hx => ?_
    have := zip_lookup hl hx
    simp only [Option.isNone_iff_eq_none]
    intro e
    rw [e] at this
    cases this
  have h9 := zip_self hl nd (ps.zip us) fun i x u a b => lookup_at nd a b
  have e2 : ((none : Option (Array Value)).getD #[]).toList = [] := rfl
  rw [if_neg (by rw [h7]; exact Bool.false_ne_true)]
  simp only [e2, List.drop_nil, List.length_nil, Nat.sub_zero, h8, List.isEmpty_nil, Bool.not_true, Bool.false_eq_true, if_false, List.zip_nil_right, List.forIn_nil, pure_bind]
  rw [h9]
end DL
namespace PySem
open Sem (wp)
section
variable {M : Model} {A : Around} {R : GenEnd} {Y : Protocol} {n : Nat} {s₀ : Shared} {c : Code} {fs : List Frame} {s : Shared} {env : Env}
  {K : Flow → Sem Fin} {H : Value → Sem Fin} {gd : Bool → Bool} {lv : List Value → List Value}
theorem seg_For {target iter : Expr} {body orelse : List Stmt} {pos : Pos} (hs : ∀ x, foldedSetIterable iter env x = pure x)
    (h : wpAny M (A.over c fs) (eval iter env) (fun v s1 => wpAny M (A.over c fs) (pyIter v) (fun itv s2 => ∀ p, Seg M A R Y n s₀ (.forLoop target itv body orelse env) (M.den (.forLoop target itv body orelse env))
      (.ret (fun r => ((match r with | .ok f => (.pure f : Sem Flow) | .error e => .raise e).onRaise fun (x : Value) => do
        if (← field x 1) == Value.none then unsupported "frame.own-activation:exception-without-traceback"
        setFlight x env.frame).wrap K H gd lv) none (gd false) (lv []) c p [] :: fs) s2) (fun x s' => Seg M A R Y n s₀ c (H x) fs s') s1) (fun x s' => Seg M A R Y n s₀ c (H x) fs s') s) :
    Seg M A R Y n s₀ c ((exec (.For target iter body orelse pos) env).wrap K H gd lv) fs s := by
  show Seg M A R Y n s₀ c (.at pos fun _ => ((eval iter env >>= fun a => foldedSetIterable iter env a >>= fun x => standAt iter.pos >>= fun _ => holding [x] (pyIter x) >>= fun y => runOwn (.forLoop target y body orelse env) env)).wrap K H gd lv) fs s
  refine seg_at ?_
  rw [Sem.bind_eq_wrap', Sem.wrap_wrap]
  refine seg_wrap (wpAny_mono h (fun v s1 h1 => ?_) fun _ _ x => x)
  rw [hs v]
  show Seg M A R Y n s₀ c (.at iter.pos fun _ => ((holding [v] (pyIter v) >>= fun y => runOwn (.forLoop target y body orelse env) env)).wrap K H gd lv) fs s1
  refine seg_at ?_
  rw [Sem.bind_eq_wrap', Sem.wrap_wrap]
  refine seg_wrap (wpAny_holding (wpAny_mono h1 (fun itv s2 h2 => ?_) fun _ _ x => x))
  exact seg_call h2
end
section
variable {prog : Program} {w : World} {A : Around} {R : GenEnd} {Y : Protocol} {n : Nat} {s₀ : Shared} {fs : List Frame} {s : Shared} {env : Env}
theorem seg_forLoop {target : Expr} {it : Value} {body : List Stmt}
    (h : wpAny (model prog w) (A.over (.forLoop target it body [] env) fs) (pyNext it) (fun r s1 => match r with
        | none => Seg (model prog w) A R Y n s₀ (.block [] env) (.pure (.done .next)) fs s1
        | some v => wpAny (model prog w) (A.over (.forLoop target it body [] env) fs) (letOwnedTupleGo target it v) (fun _ s2 =>
          wpAny (model prog w) (A.over (.forLoop target it body [] env) fs) (assign target env v) (fun _ s3 =>
            Seg (model prog w) A R Y n s₀ (.forLoop target it body [] env) ((execs body env).wrap (fun f => match f with
            | .next | .cont => .pure (.again (.forLoop target it body [] env))
            | .brk => .pure (.done .next)
            | .ret v => .pure (.done (.ret v))) (fun e => (do noteFrame e env; theTreesLotGoes e : Sem Unit).wrap (fun _ => .raise e) .raise id id) id id) fs s3)
            (fun x s' => Seg (model prog w) A R Y n s₀ (.forLoop target it body [] env) ((do noteFrame x env; theTreesLotGoes x : Sem Unit).wrap (fun _ => .raise x) .raise id id) fs s') s2)
          (fun x s' => Seg (model prog w) A R Y n s₀ (.forLoop target it body [] env) ((do noteFrame x env; theTreesLotGoes x : Sem Unit).wrap (fun _ => .raise x) .raise id id) fs s') s1)
      (fun x s' => Seg (model prog w) A R Y n s₀ (.forLoop target it body [] env) ((do noteFrame x env; theTreesLotGoes x : Sem Unit).wrap (fun _ => .raise x) .raise id id) fs s') s) :
    Seg (model prog w) A R Y n s₀ (.forLoop target it body [] env) ((model prog w).den (.forLoop target it body [] env)) fs s := by
  show Seg _ A R Y n s₀ _ ((forTurn target it body [] env).onRaise (fun x => do noteFrame x env; theTreesLotGoes x)) fs s
  have conv : ∀ (x : Value) (t : Shared), Seg (model prog w) A R Y n s₀ (.forLoop target it body [] env) ((do noteFrame x env; theTreesLotGoes x : Sem Unit).wrap (fun _ => .raise x) .raise id id) fs t →
      Seg (model prog w) A R Y n s₀ (.forLoop target it body [] env) ((do noteFrame x env; theTreesLotGoes x : Sem Unit).bind fun _ => .raise x) fs t := fun x t hx => by rw [Sem.bind_eq_wrap]; exact hx
  unfold forTurn
  rw [Sem.onRaise_eq_wrap]
  show Seg _ A R Y n s₀ _ (.at target.pos fun _ => (((pyNext it).onRaise (fun _ => standAt { target.pos with line := 0 }) >>= fun r => match r with
    | none => again (.block [] env)
    | some v => letOwnedTupleGo target it v >>= fun _ => assign target env v >>= fun _ => execs body env >>= fun f => match f with
      | .next | .cont => again (.forLoop target it body [] env)
      | .brk => pure (.done .next)
      | .ret v => pure (.done (.ret v)))).wrap .pure (fun e => (do noteFrame e env; theTreesLotGoes e : Sem Unit).bind fun _ => .raise e) id id) fs s
  refine seg_at ?_
  rw [Sem.bind_eq_wrap', Sem.wrap_wrap, Sem.onRaise_eq_wrap, Sem.wrap_wrap]
  refine seg_wrap (wpAny_mono h (fun r s1 h1 => ?_) fun x s' hx => ?_)
  · cases r with
    | none => exact seg_again rfl h1
    | some v =>
      show Seg _ A R Y n s₀ _ ((letOwnedTupleGo target it v >>= fun _ => assign target env v >>= fun _ => execs body env >>= fun f => match f with
        | .next | .cont => again (.forLoop target it body [] env)
        | .brk => pure (.done .next)
        | .ret v => pure (.done (.ret v))).wrap .pure (fun e => (do noteFrame e env; theTreesLotGoes e : Sem Unit).bind fun _ => .raise e) id id) fs s1
      rw [Sem.bind_eq_wrap', Sem.wrap_wrap]
      refine seg_wrap (wpAny_mono h1 (fun _ s2 h2 => ?_) fun x s' hx => conv x s' hx)
      rw [Sem.bind_eq_wrap', Sem.wrap_wrap]
      refine seg_wrap (wpAny_mono h2 (fun _ s3 h3 => ?_) fun x s' hx => conv x s' hx)
      rw [Sem.bind_eq_wrap', Sem.wrap_wrap]
      rw [Sem.wrap_congr (execs body env) _ _ (K' := fun f => match f with
            | .next | .cont => .pure (.again (.forLoop target it body [] env))
            | .brk => .pure (.done .next)
            | .ret v => .pure (.done (.ret v))) (H' := (fun e => (do noteFrame e env; theTreesLotGoes e : Sem Unit).wrap (fun _ => .raise e) .raise id id))
        (fun f => by cases f <;> rfl)
        (fun e => by first | exact Sem.bind_eq_wrap _ _ | (show (do noteFrame e env; theTreesLotGoes e : Sem Unit).bind (fun _ => .raise e) = _; rw [Sem.bind_eq_wrap]))]
      exact h3
  · exact seg_at (conv x s' hx)
end
end PySem
namespace L2
open PySem PySem.Spec PyProof.Rows GenW
noncomputable def tGFor (wi : TI) (g : TG) (tb : TGn) : TGn := fun D ys σ H => wi σ H fun J H1 => ∃ W : Nat → Nat → List V → St → Hp → Prop, (∃ m, W 0 m ys σ H1) ∧ ∀ i m ys σ H, W i m ys σ H →
  (J.stop i H ∧ D.nx ys σ H) ∨ (J.go i H ∧ ∃ N : List V → St → Hp → Prop, (∀ ys' σ' H', N ys' σ' H' → ∃ m', m' < m ∧ W (i + 1) m' ys' σ' H') ∧ ∀ x H', J.yld i H x H' → g x σ H' fun σ2 H2 => tb { D with nx := N, ct := N, bk := D.nx } ys σ2 H2)
theorem gs_for {X : Cx} {tg iter : Expr} {body : List Stmt} {wi : TI} {g : TG} {tb : TGn} {pos : Pos} (hp : PassesOwn (model X.prog X.w) X.A X.env X.xe) (hc : X.calm = true) (hi : PI X tg iter wi) (hg : PG X tg g) (hb : GSs X body tb)
    (hs : ∀ x, foldedSetIterable iter X.env x = pure x := by intro _; rfl) : GS X (.For tg iter body [] pos) (tGFor wi g tb) := by
  refine ⟨fun A S ip R n ys s₀ c fs K J gd lv s σ H D gc hn k hI ht => ?_⟩
  obtain ⟨acc, cc, r, I⟩ := hI
  refine seg_For hs ?_
  rw [gc.over]
  refine wpAny_mono (hi.run _ s σ H _ I ht) (fun v s1 h1 => ?_) fun x s' hx => k.exc n s₀ x s' hx
  refine wpAny_mono h1 (fun itv s2 h2 => ?_) fun x s' hx => k.exc n s₀ x s' hx
  intro p
  obtain ⟨it, fp, tn, Jt, H2, e, I2, T, st2, f2, W, ⟨m0, w0⟩, turn⟩ := h2
  subst e
  have stat : ∀ {H' : Hp}, (∀ b ∈ fp, H' b = none) → ∀ b ∈ fp, FpOk X ((S, lstObj acc cc) :: ip) H' b := fun hn b hb => ⟨hn b hb, (f2 b hb).2⟩
  have neS : ∀ b ∈ fp, b ≠ S := fun b hb z => (f2 b hb).2.2.2.2.2 (S, lstObj acc cc) (List.mem_append_right _ List.mem_cons_self) z.symm
  have statA : ∀ {H' : Hp} (acc' : Array Value) (cc' : Nat), (∀ b ∈ fp, H' b = none) → ∀ b ∈ fp, FpOk X ((S, lstObj acc' cc') :: ip) H' b := fun {H'} acc' cc' hn b hb => by
    obtain ⟨a1, a2, a3, a4, a5, a6⟩ := f2 b hb
    refine ⟨hn b hb, a2, a3, a4, a5, fun q hq => ?_⟩
    rcases List.mem_append.mp hq with h | h
    · exact a6 q (List.mem_append_left _ h)
    · rcases List.mem_cons.mp h with h | h
      · rw [h]; exact fun z => neS b hb z.symm
      · exact a6 q (List.mem_append_right _ (List.mem_cons_of_mem _ h))
  have gl := fun (kk : Result → Sem PySem.Fin) => gc_loop (k := kk) (c' := .forLoop tg (.ref it) body [] X.env) (l := lv []) (kp := []) (p := p) gc rfl rfl
  have loop : ∀ (m i n : Nat) (ys : List V) (s₀ s : Shared) (σ : St) (H : Hp), n + ys.length = sizeLine → W i m ys σ H → GI X S ip ys σ H s → tn i s.heap → (∀ b ∈ fp, H b = none) →
      Seg (model X.prog X.w) A R (GY X S) n s₀ (.forLoop tg (.ref it) body [] X.env) ((model X.prog X.w).den (.forLoop tg (.ref it) body [] X.env))
        (.ret (fun r => ((match r with | .ok f => (.pure f : Sem Flow) | .error e => .raise e).onRaise (cameBack X.env)).wrap K J gd lv) none (gd false) (lv []) c p [] :: fs) s := by
    intro m
    induction m using Nat.strongRecOn with
    | ind m ih =>
      intro i n ys s₀ s σ H hn w hI st fr
      have ee : ∀ (n : Nat) (s₀ : Shared) (x : Value) (s' : Shared), X.xe x s' → Seg (model X.prog X.w) A R (GY X S) n s₀ (.forLoop tg (.ref it) body [] X.env)
          ((do noteFrame x X.env; theTreesLotGoes x : Sem Unit).wrap (fun _ => .raise x) .raise id id)
          (.ret (fun r => ((match r with | .ok f => (.pure f : Sem Flow) | .error e => .raise e).onRaise (cameBack X.env)).wrap K J gd lv) none (gd false) (lv []) c p [] :: fs) s' := fun n s₀ x s' hx => by
        refine seg_wrap ?_
        rw [(gl _).over]
        refine wpAny_bind (wpAny_mono (hp x s' hx) (fun _ s'' hcb => wpAny_theTreesLotGoes ?_) fun y s'' hcb => ?_)
        · exact seg_leaf (.error x) (seg_cameBack gc k hcb)
        · exact seg_leaf (.error y) (seg_cameBack gc k hcb)
      refine seg_forLoop ?_
      rw [(gl _).over]
      obtain ⟨acc3, cc3, r3, I3⟩ := hI
      rcases turn i m ys σ H w with ⟨stop, qn⟩ | ⟨go, N, hN, step⟩
      · refine wpAny_mono (T.done X rfl rfl rfl hc i _ s σ H X.xe I3 (statA _ _ fr) st stop) (fun r s4 h4 => ?_) fun x s' hx => ee n s₀ x s' hx
        obtain ⟨hr, I4⟩ := h4
        subst hr
        exact seg_leaf (.ok .next) (k.ok n ys s₀ s4 .next hn ⟨σ, H, ⟨acc3, cc3, r3, I4⟩, qn⟩)
      · refine wpAny_mono (T.item X rfl rfl rfl hc i _ s σ H X.xe I3 (statA _ _ fr) st go) (fun r s4 h4 => ?_) fun x s' hx => ee n s₀ x s' hx
        obtain ⟨u, hr, h4⟩ := h4
        subst hr
        refine wpAny_mono h4 (fun _ s5 h5 => ?_) fun x s' hx => ee n s₀ x s' hx
        obtain ⟨x, H5, I5, r5, y5, st5, fr5⟩ := h5
        have I5' := I5.pinned (statA _ _ fr5) (T.obj _ _ st5)
        refine wpAny_mono (hg.run _ s5 σ H5 x u _ I5' r5 (step x H5 y5)) (fun _ s6 h6 => ?_) fun x s' hx => ee n s₀ x s' hx
        obtain ⟨σ6, H6, I6, q6⟩ := h6
        have I6' : Inv X ((S, lstObj acc3 cc3) :: (ip ++ pinsAt fp s5.heap)) σ6 H6 s6 := I6
        have gl0 : GC X S ip A (.forLoop tg (.ref it) body [] X.env) (.ret (fun r => ((match r with | .ok f => (.pure f : Sem Flow) | .error e => .raise e).onRaise (cameBack X.env)).wrap K J gd lv) none (gd false) (lv []) c p [] :: fs) id := gl _
        have gl' : GC X S (ip ++ pinsAt fp s5.heap) A (.forLoop tg (.ref it) body [] X.env) (.ret (fun r => ((match r with | .ok f => (.pure f : Sem Flow) | .error e => .raise e).onRaise (cameBack X.env)).wrap K J gd lv) none (gd false) (lv []) c p [] :: fs) id :=
          ⟨gc.pn, fun q hq => by
              rcases List.mem_append.mp hq with h | h
              · exact gc.ip q h
              · exact neS _ (of_pinsAt h).1, gc.apart, gl0.over, gl0.split, gl0.guard, gl0.gd⟩
        refine hb.run A S (ip ++ pinsAt fp s5.heap) R n ys s₀ _ _ _ _ id id s6 σ6 H6 { D with nx := N, ct := N, bk := D.nx } gl' hn ⟨fun n' ys' s₀' s7 f hn' hs => ?_, fun n' s₀' x s7 hx => ee n' s₀' x s7 hx⟩ ⟨acc3, cc3, r3, I6'⟩ q6
        have down : ∀ {ys7 : List V} {σ7 : St} {H7 : Hp}, GI X S (ip ++ pinsAt fp s5.heap) ys7 σ7 H7 s7 → GI X S ip ys7 σ7 H7 s7 := fun {ys7 σ7 H7} hI => by
          obtain ⟨a7, c7, r7, I7⟩ := hI
          have I7' : Inv X (((S, lstObj a7 c7) :: ip) ++ pinsAt fp s5.heap) σ7 H7 s7 := I7
          exact ⟨a7, c7, r7, I7'.unpinned⟩
        have again : ∀ {σ7 : St} {H7 : Hp}, GI X S (ip ++ pinsAt fp s5.heap) ys' σ7 H7 s7 → tn (i + 1) s7.heap ∧ ∀ b ∈ fp, H7 b = none := fun {σ7 H7} hI => by
          obtain ⟨a7, c7, r7, I7⟩ := hI
          have I7' : Inv X (((S, lstObj a7 c7) :: ip) ++ pinsAt fp s5.heap) σ7 H7 s7 := I7
          refine ⟨T.keep _ _ _ st5 fun b hb o e => (I7'.pin (b, o) (List.mem_append_right _ (List.mem_append_right _ (mem_pinsAt hb e)))).1, fun b hb => ?_⟩
          obtain ⟨o, e, d⟩ := T.obj _ _ st5 b hb
          exact (I7'.pin (b, o) (List.mem_append_right _ (List.mem_append_right _ (mem_pinsAt hb e)))).2.1
        cases f with
        | next =>
          obtain ⟨σ7, H7, I7, n7⟩ := hs
          obtain ⟨m', hm, w7⟩ := hN ys' σ7 H7 n7
          obtain ⟨st7, fr7⟩ := again I7
          exact seg_again rfl (ih m' hm (i + 1) n' ys' s₀' s7 σ7 H7 hn' w7 (down I7) st7 fr7)
        | cont =>
          obtain ⟨σ7, H7, I7, n7⟩ := hs
          obtain ⟨m', hm, w7⟩ := hN ys' σ7 H7 n7
          obtain ⟨st7, fr7⟩ := again I7
          exact seg_again rfl (ih m' hm (i + 1) n' ys' s₀' s7 σ7 H7 hn' w7 (down I7) st7 fr7)
        | brk =>
          obtain ⟨σ7, H7, I7, n7⟩ := hs
          exact seg_leaf (.ok .next) (k.ok n' ys' s₀' s7 .next hn' ⟨σ7, H7, down I7, n7⟩)
        | ret v =>
          obtain ⟨x7, σ7, H7, I7, r7, n7⟩ := hs
          exact seg_leaf (.ok (.ret v)) (k.ok n' ys' s₀' s7 (.ret v) hn' ⟨x7, σ7, H7, down I7, r7, n7⟩)
  exact loop m0 0 n ys s₀ s2 σ H2 hn w0 ⟨acc, cc, r, I2⟩ st2 fun b hb => (f2 b hb).1
end L2
namespace DL
open PySem PySem.Spec PyProof.Rows L2
variable {rp : Bool}
theorem star_of {e : Expr} (h : noStar e = true) (es : List Expr) (env : Env) : starEach (e :: es) env = (false, eval e env) :: starEach es env := by
  cases e <;> first | rfl | cases h
theorem slice_of {e : Expr} (h : noSlice e = true) : PlainIx e := by
  intro o i
  cases e <;> first | rfl | cases h
theorem marks_of {e : Expr} (h : noSet e = true) (op : CmpOp) : behindInMarks op e = false := by
  cases e <;> first | rfl | cases h
theorem fold_of {e : Expr} (h : noSet e = true) (env : Env) (x : Value) : foldedSetIterable e env x = pure x := by
  cases e <;> first | rfl | cases h
theorem swaps_of {e : Expr} (h : noComp e = true) (t : Option Expr) (l : Nat) (env : Env) : swapsWith e t l env = pure false := by
  cases e <;> first | rfl | cases h
theorem val_of {e : Expr} (h : byVal e = true) (env : Env) (whole : Sem Value) : isTrue e env whole = (do let v ← whole; standAt e.pos; holding [v] (truthy v)) := by
  cases e with
  | UnaryOp op x p => cases op <;> first | rfl | cases h
  | _ => first | rfl | cases h
theorem plain_of : ∀ (es : List Expr) (env : Env) (pos : Pos), (es.all noStar) = true → (backTo pos (starEach es env)).any (·.1) = false
  | [], _, _, _ => rfl
  | e :: es, env, pos, h => by
    simp only [List.all_cons, Bool.and_eq_true] at h
    rw [star_of h.1]
    have := plain_of es env pos h.2
    unfold backTo at this ⊢
    simp only [List.map_cons, List.any_cons, this]
    rfl
theorem gl_of {X : Cx} {x : Str} (h : glB X.env.scope x = true) : Gl X x := (of_decide_eq_true h : X.env.scope.names.lookup x = some .globalImplicit)
theorem vis_of {X : Cx} {x : Str} (h : visB X.env.scope x = true) : Vis X.env.scope x := by
  simp only [visB, Bool.or_eq_true, decide_eq_true_eq] at h
  rcases h with (h | h) | h
  · exact .inl h
  · exact .inr (.inl h)
  · exact .inr (.inr h)
theorem loc_of {sc : Scope} {x : Str} (h : locB sc x = true) : L2.Loc sc x := by
  simpa [locB, L2.Loc] using h
theorem nm_of {x : Str} (h : nmB x = true) : (x == ("__debug__" : Str)) = false ∧ (x == ("__classdict__" : Str)) = false ∧ x ≠ "__name__" := by
  simp only [nmB, Bool.and_eq_true, Bool.not_eq_true', decide_eq_false_iff_not] at h
  exact ⟨h.1.1, h.1.2, h.2⟩
noncomputable def RunOk (rp : Bool) (P : Program) (w : World) (K : PySem.W.Frag) (mg : Str → Option Value) (base : Heap) (k : Nat) (f : Addr) (g : GC) : Prop :=
  ∀ (A : Around) (outer : List Env) (s : Shared) (H : Hp) (us : List Value) (vs : List V) (Q : VK), Room k A → GdOk rp A → Env0 P w K mg base A outer s H → Vals vs us → upC K g vs H Q →
    codeAny (model P w) A (.call (.ref f) ⟨us, []⟩) (CR CX0 outer P w H s Q E0) s
noncomputable def ExAt (K : PySem.W.Frag) (mg : Str → Option Value) (H : Hp) (c : Str) (fv : Option (Str × DV)) (cls : Value) (d : Option Addr) : Prop :=
  ∃ Ca, mg c = some (.ref Ca) ∧ cls = .ref Ca ∧ match fv with
    | none => d = none
    | some (f, x) => ∃ dx v, d = some dx ∧ H dx = some (.xd [(f, v)]) ∧ DatV K H v x
noncomputable def LkX (K : PySem.W.Frag) (mg : Str → Option Value) (H : Hp) (HD : HDt) (Xd : DX) (E : XK) : Prop :=
  ∀ c fv HD' cls d H', Xd c fv HD' → ExAt K mg H' c fv cls d → RepH K H' HD' → Frm H HD H' HD' → E cls d H'
theorem LkX.ext {K : PySem.W.Frag} {mg : Str → Option Value} {H H1 : Hp} {HD HD1 : HDt} {Xd : DX} {E : XK} (l : LkX K mg H HD Xd E) (e : Frm H HD H1 HD1) : LkX K mg H1 HD1 Xd E := fun c fv HD' cls d H' q a r f => l c fv HD' cls d H' q a r (e.trans f)
noncomputable def upXC (K : PySem.W.Frag) (mg : Str → Option Value) (g : GXC) : List V → Hp → XK → Prop := fun xs H E => ∃ ds HD Xd, DatAll K H xs ds ∧ RepH K H HD ∧ g ds HD Xd ∧ LkX K mg H HD Xd E
noncomputable def RunX (rp : Bool) (P : Program) (w : World) (K : PySem.W.Frag) (mg : Str → Option Value) (base : Heap) (k : Nat) (f : Addr) (g : GXC) : Prop :=
  ∀ (A : Around) (outer : List Env) (s : Shared) (H : Hp) (us : List Value) (vs : List V) (E : XK), Room k A → GdOk rp A → Env0 P w K mg base A outer s H → Vals vs us → upXC K mg g vs H E →
    codeAny (model P w) A (.call (.ref f) ⟨us, []⟩) (CR (L2.CX P w) outer P w H s (fun _ _ => False) E) s
noncomputable def haB (sc : Scope) (n : Str) : HA → Expr → Bool
  | .str s, e => match e with
    | .Constant (.str t) _ _ => decide (s = t)
    | _ => false
  | .bool s, e => match e with
    | .Constant (.bool t) _ _ => decide (s = t)
    | _ => false
  | .isi D _, e => match e with
    | .Call (.Name f _) [.Name m _, .Name D' _] [] _ => decide (f = "isinstance") && decide (m = n) && decide (D' = D) && glB sc f && glB sc D && nmB D
    | _ => false
  | .fld f, e => match e with
    | .Attribute (.Name m _) g _ => decide (m = n) && decide (g = f)
    | _ => false
noncomputable def haBs (sc : Scope) (n : Str) : List HA → List Expr → Bool
  | [], es => es.isEmpty
  | a :: r, es => match es with
    | e :: es => noStar e && haB sc n a e && haBs sc n r es
    | _ => false
noncomputable def hrB (sc : Scope) (n : Str) : HR → Expr → Bool
  | .lst xs, e => match e with
    | .List es _ => haBs sc n xs es
    | _ => false
  | .one x, e => noStar e && haB sc n x e
noncomputable def toldB1 (N : List Str) (sc : Scope) (sp : TSp) (b : List Stmt) : Bool := match b with
  | [.Try [.Assign [.Name r _] (.Call (.Name a _) [] [] _) _] [.ExceptHandler (some (.Name c _)) (some n) [.Assign [.Name r1 _] hx _] _] [] [] _, .Return (some (.Name r2 _)) _] =>
    sp.ret && (match sp.hs with
      | [(c', hr)] => decide (c' = c) && hrB sc n hr hx
      | _ => false) && decide (r1 = r) && decide (r2 = r) && glB sc c && nmB c && nmB a && nmB r && nmB n && decide (N[0]? = some a) && visB sc a && decide (sc.names.lookup r = some .local) && decide (sc.names.lookup n = some .local) && decide (N[N.idxOf r]? = some r) && decide (N[N.idxOf n]? = some n) && decide (n ≠ r) && decide (n ≠ a) && decide (r ≠ a) && noComp hx
  | _ => false
noncomputable def isisA : HA → List (Str × Bool)
  | .isi D b => [(D, b)]
  | _ => []
noncomputable def isis : HR → List (Str × Bool)
  | .lst xs => xs.flatMap isisA
  | .one x => isisA x
structure EKn (K : PySem.W.Frag) (mg : Str → Option Value) (c : Str) (hr : HR) (Ca : Addr) : Prop where
  at' : mg c = some (.ref Ca)
  hit : PySem.W.exmOne K (.ref Ca) (.ref Ca) = some true
  ec : ExcC K Ca
  is : ∀ x ∈ isis hr, ∃ Da, mg x.1 = some (.ref Da) ∧ PySem.W.kitOne K (.ref Ca) (.ref Da) = some x.2
  fl : ∀ f, .fld f ∈ atoms hr → XfC K Ca ∧ PySem.W.findIn K (.ref Ca) f = some none
  len : (atoms hr).length ≤ 100
noncomputable def plainA : HA → Bool
  | .str _ => true
  | .bool _ => true
  | _ => false
noncomputable def plainR (hr : HR) : Bool := (atoms hr).all plainA
noncomputable def argB (sc : Scope) : List Str → List Expr → Bool
  | [], es => es.isEmpty
  | p :: ps, es => match es with
    | .Name q _ :: es => decide (q = p) && visB sc p && nmB p && argB sc ps es
    | _ => false
noncomputable def hdsB (sc : Scope) (n : Str) : List (Str × HR) → List ExceptHandler → Bool
  | [], hds => hds.isEmpty
  | (c, hr) :: r, hds => match hds with
    | .ExceptHandler (some (.Name c' _)) nm [.Return (some hx) _] _ :: hds => decide (c' = c) && glB sc c && nmB c && hrB sc n hr hx && (match nm with
      | some m => decide (m = n)
      | none => plainR hr) && hdsB sc n r hds
    | _ => false
noncomputable def tcB (N ps : List Str) (sc : Scope) (n y : Str) (sp : TSp) (b : List Stmt) : Bool := match b with
  | [.Try [.Return (some (.Call (.Name y' _) es [] _)) _] hds [] [] _] =>
    decide (y' = y) && glB sc y && nmB y && argB sc ps es && hdsB sc n sp.hs hds && !hds.isEmpty && !ps.isEmpty && decide (N[N.idxOf n]? = some n) && decide (sc.names.lookup n = some .local) && nmB n
  | _ => false
inductive HsAt (K : PySem.W.Frag) (mg : Str → Option Value) : List (Str × HR) → Prop
  | nil : HsAt K mg []
  | cons {c : Str} {hr : HR} {Ca : Addr} {r : List (Str × HR)} (h : EKn K mg c hr Ca) (m : ∀ c' hr', (c', hr') ∈ r → ∃ Ca', mg c' = some (.ref Ca') ∧ PySem.W.exmOne K (.ref Ca') (.ref Ca) = some false) (t : HsAt K mg r) : HsAt K mg ((c, hr) :: r)
theorem HsAt.get {K : PySem.W.Frag} {mg : Str → Option Value} : ∀ {L : List (Str × HR)}, HsAt K mg L → ∀ c hr, (c, hr) ∈ L → ∃ Ca, EKn K mg c hr Ca
  | _, .nil, c, hr, h => by cases h
  | _, .cons h m t, c, hr, hm => by
    rcases List.mem_cons.mp hm with z | z
    · cases z
      exact ⟨_, h⟩
    · exact t.get c hr z
noncomputable def toldB2 (N : List Str) (sc : Scope) (sp : TSp) (w : Str) (b : List Stmt) : Bool := match b with
  | [.Try [.Return (some (.List [.Constant (.str w') _ _, .Call (.Name a _) [] [] _] _)) _] hds [] [] _] =>
    decide (w' = w) && !hds.isEmpty && nmB a && decide (N[0]? = some a) && visB sc a && hdsB sc (N.getD 1 "") sp.hs hds && decide (N[1]? = some (N.getD 1 "")) && decide (sc.names.lookup (N.getD 1 "") = some .local) && nmB (N.getD 1 "")
  | _ => false
noncomputable def toldB (N : List Str) (sc : Scope) (sp : TSp) (b : List Stmt) : Bool := match wrapOf sp with
  | some w => toldB2 N sc sp w b
  | none => toldB1 N sc sp b
structure ToldAt (K : PySem.W.Frag) (mg : Str → Option Value) (x : Str) (sp : TSp) : Prop where
  at' : ∃ (fa : Addr) (st : Stmt) (N : List Str) (a name qual : Str) (oc : Value) (od : Option Addr) (kV doc pm : Value) (an : Option Addr) (cdv ct : Value) (osl : Array (Option Value)),
    mg x = some (.ref fa) ∧ PySem.W.keepIn K (.ref fa) = true ∧ K.lookup fa = some ⟨oc, od, .func (PySem.W.fnOf name qual (defArgs st) (defBody st) (defScope st) .none kV doc pm an cdv ct), osl⟩ ∧ PySem.W.codeIn K cdv qual = true ∧
    FnScope N [a] (defScope st) ∧ ((defArgs st).posonlyargs = [] ∧ (defArgs st).args.map (·.arg) = [a] ∧ (defArgs st).vararg = none ∧ (defArgs st).kwonlyargs = [] ∧ (defArgs st).kwarg = none) ∧ toldB N (defScope st) sp (defBody st) = true
  hs : HsAt K mg sp.hs
structure TcAt (K : PySem.W.Frag) (mg : Str → Option Value) (x y : Str) (sp : TSp) (ps : List Str) : Prop where
  at' : ∃ (fa : Addr) (st : Stmt) (N : List Str) (n name qual : Str) (oc : Value) (od : Option Addr) (kV doc pm : Value) (an : Option Addr) (cdv ct : Value) (osl : Array (Option Value)),
    mg x = some (.ref fa) ∧ PySem.W.keepIn K (.ref fa) = true ∧ K.lookup fa = some ⟨oc, od, .func (PySem.W.fnOf name qual (defArgs st) (defBody st) (defScope st) .none kV doc pm an cdv ct), osl⟩ ∧ PySem.W.codeIn K cdv qual = true ∧
    FnScope N ps (defScope st) ∧ ((defArgs st).posonlyargs = [] ∧ (defArgs st).args.map (·.arg) = ps ∧ (defArgs st).vararg = none ∧ (defArgs st).kwonlyargs = [] ∧ (defArgs st).kwarg = none) ∧ tcB N ps (defScope st) n y sp (defBody st) = true
  hs : HsAt K mg sp.hs
noncomputable def refB (N : List Str) (sc : Scope) (sp : RSp) (b : List Stmt) : Bool := match b with
  | [.Try [.Expr (.Call (.Name a _) [] [] _) _] [.ExceptHandler (some (.Name c _)) (some n) [.Return (some (.BoolOp .And [.Compare (.Call (.Name r1 _) [.Attribute (.Name n1 _) g _] [] _) [.Eq] [.Call (.Name r2 _) [.Name v _] [] _] _, .Call (.Name is _) [.Name n2 _, .Name D _] [] _] _)) _] _] [] [] _, .Return (some (.Constant (.bool false) _ _)) _] =>
    decide (c = sp.cls) && decide (g = sp.fld) && decide (D = sp.base) && decide (r1 = "repr") && decide (r2 = "repr") && decide (is = "isinstance") && decide (n1 = n) && decide (n2 = n) &&
    glB sc c && nmB c && nmB a && nmB v && nmB n && nmB D && glB sc "repr" && glB sc "isinstance" && glB sc D && decide (N = [a, v, n]) && visB sc a && visB sc v && decide (sc.names.lookup n = some .local)
  | _ => false
structure RefAt (K : PySem.W.Frag) (mg : Str → Option Value) (x : Str) (sp : RSp) : Prop where
  at' : ∃ (fa : Addr) (st : Stmt) (a v n name qual : Str) (oc : Value) (od : Option Addr) (kV doc pm : Value) (an : Option Addr) (cdv ct : Value) (osl : Array (Option Value)),
    mg x = some (.ref fa) ∧ PySem.W.keepIn K (.ref fa) = true ∧ K.lookup fa = some ⟨oc, od, .func (PySem.W.fnOf name qual (defArgs st) (defBody st) (defScope st) .none kV doc pm an cdv ct), osl⟩ ∧ PySem.W.codeIn K cdv qual = true ∧
    FnScope [a, v, n] [a, v] (defScope st) ∧ ((defArgs st).posonlyargs = [] ∧ (defArgs st).args.map (·.arg) = [a, v] ∧ (defArgs st).vararg = none ∧ (defArgs st).kwonlyargs = [] ∧ (defArgs st).kwarg = none) ∧ refB [a, v, n] (defScope st) sp (defBody st) = true
  hs : ∃ Ca, EKn K mg sp.cls (.lst [.isi sp.base sp.isb, .fld sp.fld]) Ca
structure DFn (rp : Bool) (P : Program) (w : World) (K : PySem.W.Frag) (mg : Str → Option Value) (base : Heap) (k : Nat) (f : Addr) (ps : List Str) (d : Bool) (g : GC) : Prop where
  run : RunOk rp P w K mg base k f g
  kw : d = false → ∀ (A : Around) (outer : List Env) (s : Shared) (H : Hp) (ks : List Str) (ws : List Value) (zs : List V) (Q : VK), Room k A → GdOk rp A → Env0 P w K mg base A outer s H → Vals zs ws → kwB ps ks = true → ks.length = zs.length → upC K g (arrK ps ks zs) H Q →
    codeAny (model P w) A (.call (.ref f) ⟨[], ks.zip ws⟩) (CR CX0 outer P w H s Q E0) s
  dfl : d = true → RunOk rp P w K mg base k f fun ds => g (ds ++ [.d .none])
noncomputable def LkG (K : PySem.W.Frag) (H : Hp) (HD : HDt) (Qd : DQ) (Q : List V → Hp → Prop) : Prop :=
  ∀ ds HD' ys H', Qd (.d (.list ds)) HD' → FdAll K H' ys ds → RepH K H' HD' → Frm H HD H' HD' → Q ys H'
theorem LkG.ext {K : PySem.W.Frag} {H H1 : Hp} {HD HD1 : HDt} {Qd : DQ} {Q : List V → Hp → Prop} (l : LkG K H HD Qd Q) (e : Frm H HD H1 HD1) : LkG K H1 HD1 Qd Q := fun d HD' v H' q a b c => l d HD' v H' q a b (e.trans c)
noncomputable def spG (K : PySem.W.Frag) (g : GC) : SpG := fun vs H Q _ => ∃ ds HD Qd, DatAll K H vs ds ∧ RepH K H HD ∧ g ds HD Qd ∧ LkG K H HD Qd Q
noncomputable def DGn (P : Program) (w : World) (K : PySem.W.Frag) (mg : Str → Option Value) (base : Heap) (k : Nat) (f : Addr) (g : GC) : Prop :=
  ∃ fd p, GFn P w K mg base k f fd [p] (spG K g) ∧ Binds K fd [p] []
noncomputable def AtN (K : PySem.W.Frag) (mg : Str → Option Value) : FName → Addr → Prop
  | .glob x, fa => mg x = some (.ref fa) ∧ PySem.W.keepIn K (.ref fa) = true
  | .meth c m, fa => ∃ Ca, mg c = some (.ref Ca) ∧ Meth K Ca m fa
noncomputable def clsOf (mg : Str → Option Value) : Str → Option Addr := fun x => match mg x with
  | some (.ref a) => some a
  | _ => none
structure ClsK (K : PySem.W.Frag) (Ca : Addr) (fl : List Str) : Prop where
  c : Cls K Ca
  no : ∀ f ∈ fl, NoAttr K Ca f
  makes : PySem.W.makesIn K Ca = true
  kp : PySem.W.keepIn K (.ref Ca) = true
structure EvAll (P : Program) (K : PySem.W.Frag) (mg : Str → Option Value) (G : Glb) : Prop where
  one : ∀ x fo, G.evs.lookup x = some fo → EvAt P K mg x fo
  isi : ∀ p ∈ G.evi, EisAt K mg p.1 p.2.1 p.2.2 ∧ (G.evs.lookup p.1).isSome = true
structure Env1 (G : Glb) (N : List Str) (C : CT) (k : Nat) (X : Cx) : Prop extends Ok X where
  hN : X.N = N
  nox : X.xe = fun _ _ => False
  bl : ∀ x ∈ bNames, X.mg x = none
  cs : ∀ x d, G.consts.lookup x = some d → ∃ u v, X.mg x = some u ∧ RelV v u ∧ ∀ H, Fd X.K H v d
  ds : ∀ x kvs, G.dicts.lookup x = some kvs → ∃ a, X.mg x = some (.ref a) ∧ GDct X.K a kvs
  fs : ∀ f x ps, G.funs[f]? = some (x, ps) → ∃ fa d, AtN X.K X.mg x fa ∧ DFn G.rp X.prog X.w X.K X.mg X.base (2 * k) fa ps d (C f) ∧ (x ∈ G.dfl → d = true) ∧ ∀ y, x = .glob y → d = false
  gd : GdOk G.rp X.A
  gn : ∀ x f, G.gens.lookup x = some f → ∃ fa kk, X.mg x = some (.ref fa) ∧ PySem.W.keepIn X.K (.ref fa) = true ∧ ((kk + 3 ≤ 2 * k + 1 ∧ DGn X.prog X.w X.K X.mg X.base kk fa (C f)) ∨ ∀ ds HD Q, ¬ (C f) ds HD Q)
  cl : ∀ c fl, G.clss.lookup c = some fl → C.cls c = clsOf X.mg c
  ks : ∀ c fl, G.clss.lookup c = some fl → ∃ Ca, X.mg c = some (.ref Ca) ∧ ClsK X.K Ca fl
  room : Room (2 * k + 1) X.A
  td : ∀ x sp, G.tolds.lookup x = some sp → ToldAt X.K X.mg x sp
  lm : ∀ P q, C.lt = some (P, q) → Room (2 * k + 2) X.A ∧ ∃ c, X.env.code = .ref c ∧ LamX.TabB X.base X.mg c P ∧ q = X.env.qual ++ "<lambda>"
  fx : ∀ f x ps fa, G.funs[f]? = some (x, ps) → AtN X.K X.mg x fa → RunX G.rp X.prog X.w X.K X.mg X.base (2 * k) fa (C.ex f)
  rf : ∀ x sp, G.refs.lookup x = some sp → RefAt X.K X.mg x sp
  sm : ∀ P q, C.st = some (P, q) → ∃ c, X.env.code = .ref c ∧ LamX.TabB X.base X.mg c P ∧ q = X.env.qual ++ "<lambda>"
  tc : ∀ x y sp ps, G.tcs.lookup x = some (y, sp, ps) → TcAt X.K X.mg x y sp ps
  ev : EvAll X.prog X.K X.mg G
section
variable {X : Cx} {k : Nat} {f : Addr} {g : GC} {x : Str} {p pos : Pos} {e : Expr} {es : List Expr} {ga : GA} {ps ks : List Str} {d : Bool}
theorem run_dfn {pins : List (Addr × Obj)} {σ : L2.St} {H : Hp} {s : Shared} {Q : VK} {us : List Value} {vs : List V} (F : DFn rp X.prog X.w X.K X.mg X.base k f ps d g) (hr : Room k X.A) (hgd : GdOk rp X.A) (I : Inv X pins σ H s) (r : Vals vs us) (q : upC X.K g vs H Q) :
    wpAny (model X.prog X.w) X.A (call (.ref f) us) (EP X pins σ Q) X.xe s :=
  wpAny_call (codeAny_mono (F.run X.A X.stack s H us vs Q hr hgd I.env0 r q) fun r s' hq => by
    match r, hq with
    | .ok (.ret u), hq => exact I.after hq
    | .ok .next, hq => exact hq.elim
    | .ok .brk, hq => exact hq.elim
    | .ok .cont, hq => exact hq.elim
    | .error e, hq => exact hq.elim)
theorem de_call (F : DFn rp X.prog X.w X.K X.mg X.base k f ps d g) (hr : Room k X.A) (hgd : GdOk rp X.A) (hg : Gl X x) (hm : X.mg x = some (.ref f)) (hk : PySem.W.keepIn X.K (.ref f) = true) (hs : (e :: es).all noStar = true) (ha : PA X (e :: es) (upA X.K ga)) (hdb : (x == ("__debug__" : Str)) = false) :
    PE X (.Call (.Name x p) (e :: es) [] pos) (up X.K (gCall g ga)) := by
  refine ⟨fun pins s σ H Q I h => wpAny_Call_Name_kw (ld_glob I hg hm ?_ hdb)⟩
  simp only [List.all_cons, Bool.and_eq_true] at hs
  exact PySem.W.callWith_K (h₀ := X.base) I.ok.mod.kin hk (thn (ha.run pos pins s σ H _ I (upC_of h)) fun us s1 ⟨vs, H1, I1, r, q⟩ => ⟨I1.kIn, run_dfn F hr hgd I1 r q⟩) (star_of hs.1 _ _) (plain_of es X.env pos (by simpa using hs.2))
theorem de_call0 (F : DFn rp X.prog X.w X.K X.mg X.base k f ps d g) (hr : Room k X.A) (hgd : GdOk rp X.A) (hg : Gl X x) (hm : X.mg x = some (.ref f)) (hk : PySem.W.keepIn X.K (.ref f) = true) (hdb : (x == ("__debug__" : Str)) = false) :
    PE X (.Call (.Name x p) [] [] pos) (up X.K (gCall g gNil)) := by
  refine ⟨fun pins s σ H Q I h => wpAny_Call_Name_kw (ld_glob I hg hm ?_ hdb)⟩
  obtain ⟨δ, HD, Qd, E, R, h, l⟩ := h
  exact PySem.W.callWith_K0 I.kIn hk (run_dfn F hr hgd I .nil ⟨[], HD, Qd, .nil, R, h, l⟩)
theorem Env1.fnm {G : Glb} {N : List Str} {C : CT} (E : Env1 G N C k X) {f n : Nat} {x : FName} (h : fnmB G f x n = true) : ∃ fa ps d, AtN X.K X.mg x fa ∧ DFn G.rp X.prog X.w X.K X.mg X.base (2 * k) fa ps d (C f) ∧ (x ∈ G.dfl → d = true) ∧ ∀ y, x = .glob y → d = false := by
  unfold fnmB at h
  split at h
  · rename_i y ps e
    rw [Bool.and_eq_true, decide_eq_true_eq] at h
    obtain ⟨fa, d, h1, h3⟩ := E.fs f y ps e
    rw [← h.1]
    exact ⟨fa, ps, d, h1, h3⟩
  · cases h
theorem Env1.fn {G : Glb} {N : List Str} {C : CT} (E : Env1 G N C k X) {f n : Nat} {x : Str} (h : funB G f x n = true) : ∃ fa ps, X.mg x = some (.ref fa) ∧ PySem.W.keepIn X.K (.ref fa) = true ∧ DFn G.rp X.prog X.w X.K X.mg X.base (2 * k) fa ps false (C f) := by
  obtain ⟨fa, ps, d, ⟨h1, h2⟩, h3, _, h4⟩ := E.fnm h
  rw [h4 x rfl] at h3
  exact ⟨fa, ps, h1, h2, h3⟩
theorem Env1.room0 {G : Glb} {N : List Str} {C : CT} (E : Env1 G N C k X) : Room (2 * k) X.A := E.room.mono (Nat.le_succ _)
theorem Env1.cls {G : Glb} {N : List Str} {C : CT} (E : Env1 G N C k X) {c : Str} {fl : List Str} (h : G.clss.lookup c = some fl) : ∃ Ca, X.mg c = some (.ref Ca) ∧ C.cls c = some Ca ∧ ClsK X.K Ca fl := by
  obtain ⟨Ca, h1, h2⟩ := E.ks c fl h
  exact ⟨Ca, h1, by rw [E.cl c fl h, clsOf, h1], h2⟩
theorem look_rel {α β : Type} {R : α → β → Prop} : ∀ {xs : List α} {ys : List β}, Paired R xs ys → ∀ (ks : List Str) (p : Str), ((ks.zip xs).lookup p = none ∧ (ks.zip ys).lookup p = none) ∨ ∃ x y, (ks.zip xs).lookup p = some x ∧ (ks.zip ys).lookup p = some y ∧ R x y
  | _, _, .nil, ks, p => by simp
  | _, _, .cons (a := x) (b := y) h t, [], p => by simp
  | _, _, .cons (a := x) (b := y) h t, k :: ks, p => by
    simp only [List.zip_cons_cons, List.lookup_cons]
    cases p == k with
    | true => exact .inr ⟨x, y, rfl, rfl, h⟩
    | false => exact look_rel t ks p
theorem arr_rel {α β : Type} {R : α → β → Prop} {xs : List α} {ys : List β} (h : Paired R xs ys) (ks : List Str) : ∀ ps : List Str, Paired R (arrK ps ks xs) (arrK ps ks ys)
  | [] => .nil
  | p :: ps => by
    unfold arrK
    rcases look_rel h ks p with ⟨a, b⟩ | ⟨x, y, a, b, r⟩
    · simp only [List.filterMap_cons, a, b]
      exact arr_rel h ks ps
    · simp only [List.filterMap_cons, a, b]
      exact .cons r (arr_rel h ks ps)
theorem kw_names {env : Env} {pos : Pos} : ∀ {kws : List Keyword} {ks : List Str}, kws.map (·.arg) = ks.map some → (backToKw pos (keywordEach kws env)).map (·.1) = ks.map some
  | [], ks, h => h
  | ⟨a, e, p⟩ :: kws, [], h => by simp at h
  | ⟨a, e, p⟩ :: kws, k :: ks, h => by
    simp only [List.map_cons, List.cons.injEq] at h
    have ih := kw_names (env := env) (pos := pos) h.2
    show a :: (backToKw pos (keywordEach kws env)).map (·.1) = some k :: ks.map some
    rw [h.1, ih]
theorem kw_each {env : Env} {pos : Pos} {kws : List Keyword} {ks : List Str} (h : kws.map (·.arg) = ks.map some) : (backToKw pos (keywordEach kws env)).all (·.1.isSome) = true ∧ (backToKw pos (keywordEach kws env)).filterMap (·.1) = ks ∧ (backToKw pos (keywordEach kws env)).any (·.1.isNone) = false := by
  have e := kw_names (env := env) (pos := pos) h
  generalize backToKw pos (keywordEach kws env) = L at e
  induction L generalizing ks kws with
  | nil =>
    cases ks with
    | nil => exact ⟨rfl, rfl, rfl⟩
    | cons _ _ => simp at e
  | cons x L ih =>
    cases ks with
    | nil => simp at e
    | cons k ks =>
      simp only [List.map_cons, List.cons.injEq] at e
      cases kws with
      | nil => simp at h
      | cons kw kws =>
        simp only [List.map_cons, List.cons.injEq] at h
        obtain ⟨h1, h2, h3⟩ := ih h.2 e.2
        refine ⟨?_, ?_, ?_⟩
        · rw [List.all_cons, h1, e.1]; rfl
        · rw [List.filterMap_cons, h2, e.1]
        · rw [List.any_cons, h3, e.1]; rfl
theorem dk_nil : PK X [] (upA X.K gNil) := ⟨fun pos pins s σ H Q I ⟨δ, HD, Qd, E, R, g, l⟩ => pk_nil.run pos pins s σ H Q I (l [] HD [] H g .nil R Frm.refl)⟩
theorem dk_cons {nm : Option Str} {kpos : Pos} {kws : List Keyword} {ga : GE} {gr : GA} (ha : PE X e (up X.K ga)) (hr : PK X kws (upA X.K gr)) : PK X (⟨nm, e, kpos⟩ :: kws) (upA X.K (DL.gCons ga gr)) :=
  ⟨fun pos pins s σ H Q I ⟨δ, HD, Qd, E, R, h, l⟩ => (pk_cons (nm := nm) (kpos := kpos) ha hr).run pos pins s σ H Q I (by
    refine ⟨δ, HD, _, E, R, h, fun d HD1 v H1 h1 d1 R1 e1 => ?_⟩
    refine ⟨δ, HD1, _, E.ext e1.1, R1, h1, fun ds HD2 vs H2 h2 dd2 R2 e2 => ?_⟩
    exact l (d :: ds) HD2 (v :: vs) H2 h2 (.cons (d1.ext e2.1) dd2) R2 (e1.trans e2))⟩
end
theorem Env1.blk {G : Glb} {N : List Str} {C : CT} {k : Nat} {X : Cx} (E : Env1 G N C k X) (s : Shared) (H : Hp) (sc : Scope) (Ca : Addr) (cl : List (Str × Addr)) (fp : List Addr) : Env1 G N C k (X.blk s H sc (compEnvC sc cl Ca X.env) fp) :=
  ⟨⟨E.nd, E.calm, E.un⟩, E.hN, rfl, E.bl, E.cs, E.ds, E.fs, E.gd, E.gn, E.cl, E.ks, E.room, E.td, E.lm, E.fx, E.rf, E.sm, E.tc, E.ev⟩
section
variable {X : Cx} {o : Expr} {es : List Expr} {go : GE} {ga : GA} {ap cp : Pos}
theorem isL_ty {K : PySem.W.Frag} {H : Hp} {HD : HDt} {v : V} {x : DV} (h : DatV K H v x) (R : RepH K H HD) (e : isL x HD) : tyV K "list" v H := by
  unfold isL at e
  split at e
  · rename_i l
    obtain ⟨xs, hl⟩ := e
    obtain ⟨vs, h1, _⟩ := R l _ hl
    have h' : v = .ref l := h
    subst h'
    exact .inl ⟨rfl, vs, .inl (.inl h1)⟩
  · exact e.elim
noncomputable def mtId : Mt → String
  | .append => "list.append"
  | .extend => "list.extend"
  | .pop => "list.pop"
  | .popAt => "list.pop"
  | .remove => "list.remove"
theorem mt_of {m : Mt} {x : DV} {v : V} {vs : List V} {as : List DV} {u : Value} {us : List Value} {pins : List (Addr × Obj)} {σ : L2.St} {H : Hp} {HD : HDt} {s : Shared} {Q : VK} {Qd : DQ} (un : X.A.units + 200 < cLine) (I : Inv X pins σ H s) (rx : RelV v u) (rv : Vals vs us) (hx : DatV X.K H v x) (ha : DatAll X.K H vs as) (R : RepH X.K H HD)
    (h : dMt m x as HD Qd) (l : Lk X.K H HD Qd Q) : wpAny (model X.prog X.w) X.A (call (.builtin (mtId m)) (u :: us)) (EP X pins σ Q) X.xe s := by
  cases x with
  | d _ => exact h.elim
  | w _ => exact h.elim
  | x _ => exact h.elim
  | r p =>
  have hx' : v = .ref p := hx
  subst hx'
  cases hp : HD p with
  | none => simp only [dMt, hp] at h
  | some c =>
  cases c with
  | dct _ _ => simp only [dMt, hp] at h
  | obj _ _ => simp only [dMt, hp] at h
  | tab _ => simp only [dMt, hp] at h
  | dlk _ => simp only [dMt, hp] at h
  | lst xs =>
  simp only [dMt, hp] at h
  obtain ⟨ws, h1, h2⟩ := R _ _ hp
  have m1 : Mut (H p) := R.mutAt hp
  have n1 : HD p ≠ none := by rw [hp]; simp
  have el := Paired.length h2
  split at h
  · obtain ⟨y', rfl, dy⟩ := da_one ha
    exact mt_append pins s σ H _ _ u us Q I rx rv ⟨p, ws, y', rfl, rfl, h1, by omega, l _ _ _ _ h.2 Fd.non (R.put (Ext.mut m1) ⟨_, upd_same, Paired.app (h2.ext (Ext.mut m1)) (.cons (dy.ext (Ext.mut m1)) .nil)⟩) (Frm.put m1 n1)⟩
  · split at h
    · obtain ⟨z', rfl, dz⟩ := da_one ha
      cases dz with
      | lst hs hf =>
      obtain ⟨u', rfl, ru⟩ := rv.one
      cases ru
      cases rx
      obtain ⟨_, its, n, r1, e1⟩ := lsAt_obj I (.inl h1)
      obtain ⟨_, its2, n2, r2, e2⟩ := lsAt_obj I (.inr ⟨_, hs⟩)
      have l1 := r1.length
      have l2 := r2.length
      have l3 := hf.length
      have hsz : its.toArray.size + its2.toArray.size ≤ sizeLine := by rw [List.size_toArray, List.size_toArray]; omega
      refine call_meets F.slot_list_extend ⟨_, e1, rfl⟩ F.entry_list_extend (F.args_list_extend_2 _ _)
        (AutoSeq1.list_extend_list_list_0 _ its.toArray n _ its2.toArray n2 (by rw [notLongL hsz, Bool.and_false]; simp) (by rw [List.size_toArray]; omega) (by omega)) ⟨e1, e2, ?_⟩
      refine ⟨.non, _, I.lset (its' := its ++ its2) h1 e1 (by simp) (r1.append r2) (by rw [List.length_append]; omega), rfl, ?_⟩
      exact l _ _ _ _ h.2 Fd.non (R.put (Ext.mut m1) ⟨_, upd_same, Paired.app (h2.ext (Ext.mut m1)) (hf.ext (Ext.mut m1)).dat⟩) (Frm.put m1 n1)
    · exact h.elim
  · split at h
    · rename_i y hy
      cases ha
      obtain ⟨y', e1, dy⟩ := Paired.get2 h2 hy
      refine mt_pop pins s σ H _ _ u us Q I rx rv ⟨p, ws, y', rfl, rfl, h1, by rw [el]; exact e1, l _ _ _ _ h (dy.ext (Ext.mut m1)) (R.put (Ext.mut m1) ⟨_, upd_same, ?_⟩) (Frm.put m1 n1)⟩
      have e2 : ws.dropLast = ws.take (ws.length - 1) := List.dropLast_eq_take
      have e3 : xs.dropLast = xs.take (xs.length - 1) := List.dropLast_eq_take
      rw [e2, e3, el]
      exact Paired.take _ (h2.ext (Ext.mut m1))
    · exact h.elim
  · split at h
    · rename_i k hk
      split at h
      · rename_i y hy
        obtain ⟨i', rfl, di⟩ := da_one ha
        have ei := fd_int di
        subst ei
        obtain ⟨y', e1, dy⟩ := Paired.get2 h2 hy
        exact mt_popAt pins s σ H _ _ u us Q I rx rv ⟨p, ws, _, k, y', rfl, rfl, h1, h.1.1, h.1.2, by rw [el]; exact hk, e1, l _ _ _ _ h.2 (dy.ext (Ext.mut m1)) (R.put (Ext.mut m1) ⟨_, upd_same, Paired.eraseIdx k (h2.ext (Ext.mut m1))⟩) (Frm.put m1 n1)⟩
      · exact h.elim
    · exact h.elim
  · rename_i d
    split at h
    · rename_i ds hds
      split at h
      · rename_i j hj
        have e1 := dats_some hds
        subst e1
        obtain ⟨y', rfl, dy⟩ := da_one ha
        exact mt_remove un pins s σ H _ _ u us Q I rx rv ⟨p, ws, y', ds, d, j, rfl, rfl, h1, h2.fd, dy, h.1.1, h.1.2.1, h.1.2.2, hj, l _ _ _ _ h.2 Fd.non (R.put (Ext.mut m1) ⟨_, upd_same, Paired.eraseIdx j (h2.ext (Ext.mut m1))⟩) (Frm.put m1 n1)⟩
      · exact h.elim
    · exact h.elim
  · exact h.elim
end
variable {rp : Bool}
theorem bd_lookup : ∀ {ps : List Str} {us : List Value} {i : Nat} {x : Str} {u : Value}, ps.Nodup → ps[i]? = some x → us[i]? = some u → (ps.zip us).lookup x = some u
  | p :: ps, v :: us, 0, x, u, nd, h1, h2 => by
    simp at h1 h2
    subst h1 h2
    simp
  | p :: ps, v :: us, i + 1, x, u, nd, h1, h2 => by
    simp only [List.zip_cons_cons, List.lookup_cons]
    have hx : x ∈ ps := List.mem_of_getElem? (by simpa using h1)
    have : (x == p) = false := by
      refine beq_eq_false_iff_ne.mpr fun e => ?_
      subst e
      exact (List.nodup_cons.mp nd).1 hx
    rw [this]
    exact bd_lookup (i := i) (List.nodup_cons.mp nd).2 (by simpa using h1) (by simpa using h2)
theorem bd_self : ∀ {ps : List Str} {us : List Value}, ps.length = us.length → ∀ (L : List (Str × Value)), (∀ (i : Nat) (x : Str) (u : Value), ps[i]? = some x → us[i]? = some u → L.lookup x = some u) → (ps.filterMap fun n => (L.lookup n).map (n, ·)) = ps.zip us
  | [], [], _, _, _ => rfl
  | p :: ps, u :: us, hl, L, h => by
    rw [List.filterMap_cons_some (b := (p, u)) (by rw [h 0 p u rfl rfl]; rfl), List.zip_cons_cons, bd_self (by simpa using hl) L fun i x u a b => h (i + 1) x u a b]
theorem bd_none : ∀ {L : List (Str × Value)} {x : Str}, x ∉ L.map (·.1) → L.lookup x = none
  | [], x, _ => rfl
  | (y, v) :: L, x, h => by
    rw [List.map_cons, List.mem_cons, not_or] at h
    rw [List.lookup_cons, beq_eq_false_iff_ne.mpr h.1]
    exact bd_none h.2
theorem bd_zip : ∀ {qs : List Str} {us : List Value} {x : Str} {u : Value}, us.length = qs.length → (qs ++ [x]).zip (us ++ [u]) = qs.zip us ++ [(x, u)]
  | [], [], _, _, _ => rfl
  | q :: qs, v :: us, x, u, h => by
    simp only [List.cons_append, List.zip_cons_cons]
    rw [bd_zip (by simpa using h)]
theorem bd_short : ∀ {qs : List Str} {us : List Value} {x : Str}, us.length = qs.length → (qs ++ [x]).zip us = qs.zip us
  | [], [], _, _ => rfl
  | q :: qs, v :: us, x, h => by
    simp only [List.cons_append, List.zip_cons_cons]
    rw [bd_short (by simpa using h)]
theorem bindD {fd : FuncData} {us : List Value} {qs : List Str} {x : Str} {T : Addr} (h1 : fd.params.posonlyargs = []) (h2 : fd.params.args.map (·.arg) = qs ++ [x]) (h3 : fd.params.vararg = none) (h4 : fd.params.kwonlyargs = []) (h5 : fd.params.kwarg = none) (h6 : fd.defaults = .ref T)
    (nd : (qs ++ [x]).Nodup) (full : List Value) (hf : full.length = (qs ++ [x]).length) (hl : us = full ∨ full = us ++ [.none]) :
    ∃ k, bindArgs fd ⟨us, []⟩ = seqItems? (.ref T) >>= k ∧ k (some #[Value.none]) = pure ((qs ++ [x]).zip full) := by
  unfold bindArgs
  simp only [h1, h2, h3, h4, h5, h6, List.map_nil, List.nil_append, List.forIn_nil, pure_bind, Option.isNone_none, Bool.and_true, List.append_nil]
  refine ⟨_, rfl, ?_⟩
  have nq : x ∉ qs := fun h => (List.nodup_append.mp nd).2.2 x h x (by simp) rfl
  have ndq : qs.Nodup := (List.nodup_append.mp nd).1
  have lq : (qs ++ [x]).length = qs.length + 1 := by simp
  have hu : ¬ us.length > (qs ++ [x]).length := by
    rcases hl with e | e
    · rw [e, hf]; omega
    · have := congrArg List.length e
      simp at this hf ⊢
      omega
  have e2 : ((some #[Value.none]).getD #[]).toList = [Value.none] := rfl
  simp only [e2, lq, List.length_cons, List.length_nil, Nat.zero_add]
  have h7 : decide (us.length > qs.length + 1) = false := decide_eq_false (by rw [← lq]; exact hu)
  have d0 : List.drop (1 - (qs.length + 1)) [Value.none] = [Value.none] := by
    rw [show 1 - (qs.length + 1) = 0 by omega]; rfl
  rw [if_neg (by rw [h7]; exact Bool.false_ne_true)]
  simp only [d0, List.length_cons, List.length_nil, Nat.zero_add, Nat.add_sub_cancel]
  have tk : List.take qs.length (qs ++ [x]) = qs := by simp
  have dr : List.drop qs.length (qs ++ [x]) = [x] := by simp
  have look : ∀ (i : Nat) (y : Str), qs[i]? = some y → (List.lookup y ((qs ++ [x]).zip us)).isSome = true := fun i y hy => by
    have hi := (List.getElem?_eq_some_iff.mp hy).1
    have hlen : i < us.length := by
      rcases hl with e | e
      · rw [e, hf]; simp; omega
      · have := congrArg List.length e
        simp at this hf
        omega
    rw [bd_lookup nd (i := i) (by rw [List.getElem?_append_left hi]; exact hy) (List.getElem?_eq_getElem hlen)]
    rfl
  have h8 : List.filter (fun n => (List.lookup n ((qs ++ [x]).zip us)).isNone) qs = [] := by
    refine List.filter_eq_nil_iff.mpr fun y hy => ?_
    obtain ⟨i, hi⟩ := List.getElem?_of_mem hy
    have := look i y hi
    simp only [Option.isNone_iff_eq_none]
    intro e
    rw [e] at this
    cases this
  simp only [tk, dr, h8, List.isEmpty_nil, Bool.not_true, Bool.false_eq_true, if_false, List.zip_cons_cons, List.zip_nil_right, List.forIn_cons, List.forIn_nil]
  rcases hl with e | e
  · subst e
    have hx : (List.lookup x ((qs ++ [x]).zip us)).isNone = false := by
      have hlen : qs.length < us.length := by rw [hf]; simp
      rw [bd_lookup nd (i := qs.length) (by simp) (List.getElem?_eq_getElem hlen)]
      rfl
    simp only [hx, Bool.false_eq_true, if_false, pure_bind, List.isEmpty_nil, Bool.not_true]
    rw [bd_self hf.symm _ fun i y u a b => bd_lookup nd a b]
  · have lu : us.length = qs.length := by
      have := congrArg List.length e
      simp at this hf
      omega
    have hx : (List.lookup x ((qs ++ [x]).zip us)).isNone = true := by
      rw [bd_short lu, bd_none]
      · rfl
      · intro h
        obtain ⟨p, hp, ep⟩ := List.mem_map.mp h
        exact nq (ep ▸ (List.of_mem_zip (a := p.1) (b := p.2) hp).1)
    simp only [hx, if_true, pure_bind, List.isEmpty_nil, Bool.not_true, Bool.false_eq_true, if_false]
    subst e
    rw [bd_short lu, ← bd_zip lu]
    rw [bd_self (us := us ++ [Value.none]) (by simp [lu]) _ fun i y u a b => bd_lookup nd a b]
variable {rp : Bool}
variable {rp : Bool}
theorem PS.nox' {X : Cx} {st : Stmt} {t : TS} (h : PS X.nox st t) : PS X st t := ⟨fun pins s σ H D I hw =>
  wpAny_mono (h.run pins s σ H D (I.wish _) hw) (fun _ _ q => q.unwish) fun _ _ z => False.elim z⟩
noncomputable abbrev HdL := List (Value × Option Nat × (Addr → Value → Option Addr → TS))
variable {rp : Bool}
variable {rp : Bool}
variable {rpf : Bool}
variable {rp : Bool}
end DL
namespace DL
open PySem PySem.Calls PySem.Spec PyProof.Rows L2
theorem method_eq {o e : Expr} {name : Str} {apos pos : Pos} {env : Env} (hline : (apos.endLine == pos.line) = true) {pl : Sem Bool} (hpl : pl = (do return (← importBound o env).getD true)) (hs : starEach [e] env = [(false, eval e env)] := by rfl) :
    eval (.Call (.Attribute o name apos) [e] [] pos) env = (do
      let ov ← attributeBase o name env (eval o env)
      standAt apos.atName
      let (f, first) ← holding [ov] (getMethod ov name pl)
      callWith pos f first (backTo pos (starEach [e] env)) []) := by
  subst hpl
  rw [arm_eval_Call]
  have hform : methodCallForm ([e].length + ([] : List Keyword).length) (backTo pos (starEach [e] env)) (backToKw pos (keywordEach [] env)) = true := by rw [hs]; rfl
  have hpos : methodCallPos true o env apos pos = pure pos := by unfold methodCallPos; simp [hline]
  unfold methodCall
  rw [hform, hpos]
  rfl
section
variable {P : Program} {w : World} {K : PySem.W.Frag} {mg mb : Str → Option Value} {A : Around} {R : Result → Shared → Prop} {hp : Heap} {g : Array GenState} {d : Drawn} {t : Nat} {os : OsState} {C fI e t0 : Addr} {fld se x : Str} {st : Stmt} {u : Value}
theorem sup_initG {args : Args} (hbind : ∀ fd : FuncData, fd.params = defArgs st → fd.defaults = .none → bindArgs fd args = pure [(se, .ref e), (x, u)]) (S : SupI P K C fI fld st se x) (KX : K.In hp) (gl : hp.Ns mainGlobals mg) (bl : hp.Ns builtinsNs mb) (hmb : ∀ x : Str, x ≠ "__name__" → mb x = bootBuiltins x) (lim : hp.NoLimit) (hroom : A.depth < recursionLimit)
    (he : hp.get? e = some (PySem.HandSPX.excO C t0)) (eK : K.lookup e = none)
    (hq : ∀ h' tk' dx t1, (∀ b o, b ≠ e → hp.get? b = some o → h'.get? b = some o) → hp.objs.size ≤ dx → dx ≠ e → h'.get? e = some ({ cls := .ref C, dict := some dx, data := .fields #[.ref t1, .none, .none, .none, .bool false, .none] } : Obj) →
      h'.Ns1 dx (fun y => if y = fld then some u else none) → R (.ok (.ret .none)) ⟨h', g, d, tk', os⟩) :
    codeAny (model P w) A (.call (.ref fI) args) R ⟨hp, g, d, t, os⟩ := by
  obtain ⟨name, qual, oc, od, kV, doc, pm, an, cda, cc, ct, osl, ccl, cdd, vs, ccs, file, tf, cl, cld, csl, lk, hcd, lcd, hvs, hfile, lcc⟩ := S.fn
  obtain ⟨p1, p2, p3, p4, p5⟩ := S.pl
  obtain ⟨nm, q, N, bs, bm, sn, sub, ab, col, dd, k0, k1, k2, k3, k5, hC, hbm⟩ := S.oex.cls
  have hcl : PySem.W.clsIn K C = some { name := nm, bases := bs, mro := .ref C :: bm, ns := N, qualname := q, hasDict := true, slotNames := sn, subclasses := sub, abstract := ab, collection := col, hasDel := false } := by unfold PySem.W.clsIn; rw [hC] <;> rfl
  have T := S.sc
  have nd : [se, x].Nodup := List.nodup_cons.mpr ⟨by simpa using T.ne, by simp⟩
  refine ks_codeAny_call_defAt (fd := PySem.W.ksFn name qual (defArgs st) (defBody st) (defScope st) .none kV doc pm an (.ref cda) ct cc) (body := defBody st) (binds := [(se, .ref e), (x, u)]) hroom (KX _ _ lk) rfl lim (PySem.W.codeRec_of KX hcd) rfl
    (.of_eq (hbind _ rfl rfl)) T.cell (fun y hy => ?_) (fun h1 hns hk => ?_) T.co T.gen T.kind
  · rcases List.mem_cons.mp hy with rfl | hy
    · exact T.ls
    · rcases List.mem_cons.mp hy with rfl | hy
      · exact T.lx
      · cases hy
  have tx := S.tx
  unfold supT at tx
  split at tx
  rotate_left
  · cases tx
  rename_i su q1 q2 ini q3 x1 q4 q5 q6 se1 q7 f1 q8 x2 q9 q10 hbody
  simp only [Bool.and_eq_true, decide_eq_true_eq] at tx
  obtain ⟨⟨⟨⟨⟨⟨rfl, rfl⟩, rfl⟩, rfl⟩, rfl⟩, rfl⟩, hline⟩ := tx
  have henv : callEnv (PySem.W.ksFn name qual (defArgs st) (defBody st) (defScope st) .none kV doc pm an (.ref cda) ct cc) hp.objs.size fI = PySem.W.ksEnv qual (defScope st) hp.objs.size fI (.ref cda) cc := rfl
  simp only [henv]
  rw [hbody]
  have X1 : K.In h1 := KX.keeps hk
  have ms : ([(se1, Value.ref e), (x2, u)] : List (Str × Value)).reverse.lookup se1 = some (.ref e) := by
    have : (se1 == x2) = false := beq_eq_false_iff_ne.mpr T.ne
    simp [List.lookup, this]
  have mx : ([(se1, Value.ref e), (x2, u)] : List (Str × Value)).reverse.lookup x2 = some u := by simp [List.lookup]
  have hnsE : h1.Ns (PySem.W.ksEnv qual (defScope st) hp.objs.size fI (.ref cda) cc).locals fun y => ([(se1, Value.ref e), (x2, u)] : List (Str × Value)).reverse.lookup y := hns
  obtain ⟨ar, har, ear⟩ : ∃ ar, ((defArgs st).posonlyargs ++ (defArgs st).args).head? = some ar ∧ ar.arg = se1 := by
    rw [p1, List.nil_append]
    cases hA : (defArgs st).args with
    | nil => rw [hA] at p2; cases p2
    | cons a r => rw [hA] at p2; exact ⟨a, rfl, (List.cons.inj p2).1⟩
  have hD := X1 _ _ hC
  have eC : e ≠ C := fun z => by
    rw [z] at he
    have y := KX _ _ hC
    rw [he] at y
    cases y
  have hint : interactive (PySem.W.ksEnv qual (defScope st) hp.objs.size fI (.ref cda) cc) = false := by
    show ((defScope st).kind == .module && _) = false
    rw [T.kind]
    rfl
  refine ks_wpAt_execs_cons (ks_wpAt_Expr_any (hi := hint) (ks_wpAt_MethodCall (he := method_eq hline rfl) (ks_wpAt_super_base (f := fI) (cc := cda) (ar := ar) T.su T.fr (by decide) rfl (X1 _ _ lk) rfl har rfl (X1 _ _ lcd) rfl hvs hfile S.top ?_)))
  refine PySem.W.ks_loadName_global T.kind T.su (loadGlobal_builtin (gl.keeps hk) (PySem.W.mg_none_of KX gl S.sup) (bl.keeps hk) ((hmb _ (by decide +kernel)).trans (by boot_by_name)) ⟨rfl, ?_⟩)
  refine wpAny_loadName_free (c := cc) T.kind T.fr rfl ⟨_, X1 _ _ lcc, rfl⟩ ?_
  rw [ear]
  refine wpAny_loadName_local T.kind T.ls hnsE ms ?_
  refine ks_wpAny_isType_cls hD rfl ⟨rfl, ?_⟩
  refine ks_wpAny_call_super hD rfl (hk _ _ he) rfl (fun c z => by cases z) (PySem.W.looks_mroIn X1 S.mro) (fun h2 hso k2 => ?_)
  have X2 : K.In h2 := X1.keeps k2
  have hns2 : h2.Ns (PySem.W.ksEnv qual (defScope st) hp.objs.size fI (.ref cda) cc).locals fun y => ([(se1, Value.ref e), (x2, u)] : List (Str × Value)).reverse.lookup y := hnsE.keeps k2
  have he2 := k2 _ _ (hk _ _ he)
  have I2 : PySem.W.InstAt h2 e (PySem.HandSPX.excO C t0) C none := ⟨he2, rfl, rfl, trivial⟩
  have hm := S.ks
  unfold PySem.W.ks_superIn at hm
  rw [hcl] at hm
  refine PySem.W.kxs_getMethod PySem.W.kxs_ValueError hso (PySem.W.looks_opaque X2 S.opq) (l₀ := .ref C :: bm) (fun A Q E s k q => wpAny_bind ((PySem.W.looks_clsIn X2 hcl) A _ E s k (wpAny_pure q))) rfl X2 hm (I2.type.andThen (PySem.W.looks_subIn X2 S.ve)) eC (by decide) ?_
  have k3 : ∀ b o, h2.get? b = some o → (h2.push (PySem.W.kxs_mw "ValueError.__init__" e)).get? b = some o := fun b o z => Heap.get?_push_of_some _ z
  have X3 := X2.keeps k3
  have hns3 := hns2.keeps k3
  have he3 := k3 _ _ he2
  have hmw : (h2.push (PySem.W.kxs_mw "ValueError.__init__" e)).get? h2.objs.size = some (PySem.W.kxs_mw "ValueError.__init__" e) := Heap.get?_push_at rfl rfl
  refine PySem.W.kxs_callWith (i := "ValueError.__init__") (x := e) (by rw [show starEach [Expr.Name x2 q4] (PySem.W.ksEnv qual (defScope st) hp.objs.size fI (.ref cda) cc) = [(false, eval (Expr.Name x2 q4) (PySem.W.ksEnv qual (defScope st) hp.objs.size fI (.ref cda) cc))] from rfl]; rfl) ?_
  rw [show starEach [Expr.Name x2 q4] (PySem.W.ksEnv qual (defScope st) hp.objs.size fI (.ref cda) cc) = [(false, eval (Expr.Name x2 q4) (PySem.W.ksEnv qual (defScope st) hp.objs.size fI (.ref cda) cc))] from rfl]
  refine evalArgs_plain (show wpAny _ _ (spliced (backTo q5 (starEach [Expr.Name x2 q4] (PySem.W.ksEnv qual (defScope st) hp.objs.size fI (.ref cda) cc)))) _ _ _ from ?_)
  refine wpAny_items_cons (wpAny_Name (wpAny_loadName_local T.kind T.lx hns3 mx ?_) T.dx)
  refine wpAny_items_nil ⟨hmw, ?_⟩
  have hex := PySem.HandSPX.refsVE_contains "BaseException" bm hbm
  have h3C := X3 _ _ hC
  refine wpAny_call (codeAny_of_tree ?_)
  show wpAny _ ((A.deeper _)).in1 (callAny (.ref h2.objs.size) ⟨[u], []⟩) _ _ _
  simp only [callAny]
  refine wpAny_bind (wpAny_load hmw ?_)
  simp only [PySem.W.kxs_mw, show (Value.type "method-wrapper" == Value.type "method" || Value.type "method-wrapper" == Value.type "builtin_function_or_method" || Value.type "method-wrapper" == Value.type "method-wrapper") = true by decide, if_true]
  refine PySem.W.KFB.if_so (by decide) ?_
  refine wpAny_bind (PySem.W.check_bound_init F.excBase_ValueError.toExcCallFacts h3C he3 rfl ?_)
  refine wpAny_bind (wpAny_pure (wpAny_pure ?_))
  refine ⟨plainId_quiet F.excBase_ValueError.init.plain _, codeAny_builtin F.excBase_ValueError.initEntry ?_⟩
  refine PySem.W.exc_init_tree (cls := .ref C) (t0 := t0) (dv := none) (c2 := .none) (c3 := .none) (b4 := .bool false) he3 (by rw [sizeLine_eq]; simp) (fun h4 k4 he4 ht4 => ?_)
  have X4 : K.In h4 := fun b o z => k4 b o (fun y => by rw [y, eK] at z; cases z) (X3 b o z)
  have eL : (PySem.W.ksEnv qual (defScope st) hp.objs.size fI (.ref cda) cc).locals ≠ e := fun z => by
    have y := Heap.lt_size he
    rw [← z] at y
    exact absurd y (Nat.lt_irrefl _)
  have hns4 := hns3.at fun o z => k4 _ o eL z
  have he4' : h4.get? e = some (PySem.HandSPX.excO C (h2.push (PySem.W.kxs_mw "ValueError.__init__" e)).objs.size) := he4
  refine ks_wpAt_execs_cons (ks_wpAt_Assign_Attr (wpAt_of_wpAny (wpAny_Name (wpAny_loadName_local T.kind T.lx hns4 mx (wpAny_Name (wpAny_loadName_local T.kind T.ls hns4 ms ?_) T.dse)) T.dx)))
  refine PySem.W.set_plain X4 (ox := PySem.HandSPX.excO C (h2.push (PySem.W.kxs_mw "ValueError.__init__" e)).objs.size) (od := none) ⟨he4', rfl, rfl, trivial⟩ S.oex.sa ?_
  refine PySem.HandSPX.exc_osa X4 he4' hcl (show PySem.HandSPX.refsVE (.ref C :: bm) = true from hbm) rfl S.no (fun h' tk' dx k5 dn dne hx hn => ?_)
  refine wpAt_of_wpAny (wpAny_execs_nil ?_)
  have kk : ∀ b o, b ≠ e → hp.get? b = some o → h'.get? b = some o := fun b o ne z => k5 b o ne (k4 b o ne (k3 b o (k2 b o (hk b o z))))
  obtain ⟨oL, esL, epL, hL, _⟩ := hns4
  exact hq h' _ dx _ kk (Nat.le_trans (Nat.le_of_lt (Heap.lt_size hL)) dn) dne hx hn
end
theorem bindSK {fd : FuncData} {a u : Value} {se x : Str} (h1 : fd.params.posonlyargs = []) (h2 : fd.params.args.map (·.arg) = [se, x]) (h3 : fd.params.vararg = none) (h4 : fd.params.kwonlyargs = []) (h5 : fd.params.kwarg = none) (h6 : fd.defaults = .none)
    (ne : se ≠ x) : bindArgs fd ⟨[a], [(x, u)]⟩ = pure [(se, a), (x, u)] := by
  unfold bindArgs
  have e1 : seqItems? (.none : Value) = pure none := rfl
  have b1 : (x == se) = false := beq_eq_false_iff_ne.mpr (Ne.symm ne)
  have b2 : (se == x) = false := beq_eq_false_iff_ne.mpr ne
  simp [h1, h2, h3, h4, h5, h6, e1, List.lookup, b1, b2]
section
variable {P : Program} {w : World} {K : PySem.W.Frag} {mg mb : Str → Option Value} {A : Around} {R : Result → Shared → Prop} {hp : Heap} {g : Array GenState} {d : Drawn} {t : Nat} {os : OsState} {C fI e t0 : Addr} {fld se x : Str} {st : Stmt} {u : Value}
theorem sup_init (S : SupI P K C fI fld st se x) (KX : K.In hp) (gl : hp.Ns mainGlobals mg) (bl : hp.Ns builtinsNs mb) (hmb : ∀ x : Str, x ≠ "__name__" → mb x = bootBuiltins x) (lim : hp.NoLimit) (hroom : A.depth < recursionLimit)
    (he : hp.get? e = some (PySem.HandSPX.excO C t0)) (eK : K.lookup e = none)
    (hq : ∀ h' tk' dx t1, (∀ b o, b ≠ e → hp.get? b = some o → h'.get? b = some o) → hp.objs.size ≤ dx → dx ≠ e → h'.get? e = some ({ cls := .ref C, dict := some dx, data := .fields #[.ref t1, .none, .none, .none, .bool false, .none] } : Obj) →
      h'.Ns1 dx (fun y => if y = fld then some u else none) → R (.ok (.ret .none)) ⟨h', g, d, tk', os⟩) :
    codeAny (model P w) A (.call (.ref fI) ⟨[.ref e, u], []⟩) R ⟨hp, g, d, t, os⟩ :=
  sup_initG (fun fd h1 h2 => by
    obtain ⟨p1, p2, p3, p4, p5⟩ := S.pl
    exact bindPlain (ps := [se, x]) (by rw [h1]; exact p1) (by rw [h1]; exact p2) (by rw [h1]; exact p3) (by rw [h1]; exact p4) (by rw [h1]; exact p5) h2 (List.nodup_cons.mpr ⟨by simpa using S.sc.ne, by simp⟩) rfl) S KX gl bl hmb lim hroom he eK hq
theorem sup_initK (S : SupI P K C fI fld st se x) (KX : K.In hp) (gl : hp.Ns mainGlobals mg) (bl : hp.Ns builtinsNs mb) (hmb : ∀ x : Str, x ≠ "__name__" → mb x = bootBuiltins x) (lim : hp.NoLimit) (hroom : A.depth < recursionLimit)
    (he : hp.get? e = some (PySem.HandSPX.excO C t0)) (eK : K.lookup e = none)
    (hq : ∀ h' tk' dx t1, (∀ b o, b ≠ e → hp.get? b = some o → h'.get? b = some o) → hp.objs.size ≤ dx → dx ≠ e → h'.get? e = some ({ cls := .ref C, dict := some dx, data := .fields #[.ref t1, .none, .none, .none, .bool false, .none] } : Obj) →
      h'.Ns1 dx (fun y => if y = fld then some u else none) → R (.ok (.ret .none)) ⟨h', g, d, tk', os⟩) :
    codeAny (model P w) A (.call (.ref fI) ⟨[.ref e], [(x, u)]⟩) R ⟨hp, g, d, t, os⟩ :=
  sup_initG (fun fd h1 h2 => by
    obtain ⟨p1, p2, p3, p4, p5⟩ := S.pl
    exact bindSK (by rw [h1]; exact p1) (by rw [h1]; exact p2) (by rw [h1]; exact p3) (by rw [h1]; exact p4) (by rw [h1]; exact p5) h2 S.sc.ne) S KX gl bl hmb lim hroom he eK hq
end
noncomputable def excOk (C : Addr) (d : Option Addr) (o : Obj) : Prop := o.cls = .ref C ∧ o.dict = d ∧ ∃ vs, o.data = .fields vs
noncomputable abbrev anyE : HO := .ext fun _ => True
theorem pe_exn0 {X : Cx} {c : Str} {Ca : Addr} {p pos : Pos} (gC : X.mg c = some (.ref Ca)) (kC : PySem.W.keepIn X.K (.ref Ca) = true) (q : PySem.W.excIn X.K Ca [.type "ValueError", .type "Exception", .type "BaseException", .type "object"] "ValueError.__new__" = true) (hg : Gl X c) (hdb : (c == ("__debug__" : Str)) = false) :
    PE X (.Call (.Name c p) [] [] pos) (fun _ H Q => ∀ a o, H a = none → excOk Ca none o → Q (.ref a) (upd H a (.frz o anyE))) := by
  refine ⟨fun pins s σ H Q I h => ?_⟩
  refine wpAny_Call_Name_kw (ld_glob I hg gC ?_ hdb)
  refine PySem.W.callWith_K0 I.kIn kC ?_
  obtain ⟨bm, Nn, nm, qn, bs, hdct, sn, sub, ab, col, dd, k0, k1, k2, k3, k5, mN, hC, hN, hni, T⟩ := exc_obj I.kIn q
  refine wpAny_call_exc_subT F.excBase_ValueError T hC hN hni (fun h' e hm => ?_) (Nat.zero_le _)
  have hn : H e = none := I.hok.gone hm.new
  obtain ⟨t, ht, _, _⟩ := hm.there
  exact (fun (o : Obj) (ho : h'.get? e = some o) (ok : excOk Ca none o) => ⟨.ref e, upd H e (.frz o anyE), I.laidN hm.keeps hm.new hn ⟨ho, trivial, ⟨_, ho⟩, fun _ _ _ _ => trivial⟩, rfl, h e o hn ok⟩) _ ht ⟨rfl, rfl, _, rfl⟩
theorem Inv.laid2 {X : Cx} {pins : List (Addr × Obj)} {σ : L2.St} {H : Hp} {hp G h' : Heap} {g : Array GenState} {dr : Drawn} {tk tk' : Nat} {os : OsState} {C dx e : Addr} {fld : Str} {y : V} {u : Value} {oe : Obj} (I : Inv X pins σ H ⟨hp, g, dr, tk, os⟩) (he : hp.get? e = none) (hH : H e = none)
    (k : ∀ b o, b ≠ e → hp.get? b = some o → h'.get? b = some o) (dn : hp.objs.size ≤ dx) (dne : dx ≠ e) (hx : h'.get? e = some oe) (hn : h'.Ns1 dx (fun z => if z = fld then some u else none)) (ry : RelV y u) :
    ∃ od, H dx = none ∧ Inv X pins σ (upd (upd H dx (.frz od (.xd [(fld, y)]))) e (.frz oe anyE)) ⟨h', g, dr, tk', os⟩ := by
  obtain ⟨G, g1', g2'⟩ := restrict h' fun b => decide (b ≠ e)
  have gk : ∀ b, b ≠ e → G.get? b = h'.get? b := fun b hb => g1' b (decide_eq_true hb)
  have ge : G.get? e = none := g2' _ (by simp)
  have k2 : ∀ b o, hp.get? b = some o → G.get? b = some o := fun b o z => by
    have nb : b ≠ e := fun w => by rw [w, he] at z; cases z
    rw [gk b nb]
    exact k b o nb z
  have hG : G.Ns1 dx (fun z => if z = fld then some u else none) := hn.at fun o w => (gk dx dne).trans w
  obtain ⟨od, hod⟩ : ∃ od, G.get? dx = some od := by
    obtain ⟨o, _, _, ho, _⟩ := hG
    exact ⟨o, ho⟩
  have hdx : H dx = none := I.hok.fresh dn
  have J : Inv X pins σ (upd H dx (.frz od (.xd [(fld, y)]))) ⟨G, g, dr, tk', os⟩ :=
    I.laid (t' := tk') (a := dx) (o := .frz od (.xd [(fld, y)])) (h' := G) k2 dn ⟨hod, _, hG, relO_put (fs := []) ry fun g => True.intro⟩
  refine ⟨od, hdx, J.laidN (h' := h') (a := e) (fun b u q => ?_) ge (by rw [upd_ne (Ne.symm dne)]; exact hH) ⟨hx, trivial, ⟨_, hx⟩, fun _ _ _ _ => trivial⟩⟩
  have nb : b ≠ e := fun w => by
    have q : G.get? b = some u := q
    rw [w, ge] at q
    cases q
  exact (gk b nb).symm.trans q
noncomputable abbrev tSup (C : Addr) (fld : Str) (y : V) : Hp → VK → Prop := fun H1 Q => ∀ a dx o od, H1 a = none → H1 dx = none → dx ≠ a → excOk C (some dx) o → Q (.ref a) (upd (upd H1 dx (.frz od (.xd [(fld, y)]))) a (.frz o anyE))
theorem pe_exn1 {X : Cx} {C fI : Addr} {c fld se x : Str} {st : Stmt} {e : Expr} {ta : TA} {p pos : Pos} (S : SupI X.prog X.K C fI fld st se x) (gC : X.mg c = some (.ref C)) (hg : Gl X c) (hdb : (c == ("__debug__" : Str)) = false) (ha : PA X [e] ta) (hr : Room 1 X.A)
    (he : starEach [e] X.env = (false, eval e X.env) :: starEach [] X.env) (hpl : (backTo pos (starEach [] X.env)).any (·.1) = false) :
    PE X (.Call (.Name c p) [e] [] pos) (fun σ H Q => ta σ H fun vs H1 => ∃ y, vs = [y] ∧ tSup C fld y H1 Q) := by
  refine ⟨fun pins s σ H Q I h => ?_⟩
  obtain ⟨nm, q, N, bs, bm, sn, sub, ab, col, dd, k0, k1, k2, k3, k5, hC, hbm⟩ := S.oex.cls
  refine wpAny_Call_Name_kw (ld_glob I hg gC ?_ hdb)
  refine PySem.W.callWith_K (h₀ := X.base) I.ok.mod.kin S.oex.kC (thn (ha.run pos pins s σ H _ I h) fun us s1 ⟨vs, H1, I1, r1, y, hv, q1⟩ => ⟨I1.kIn, ?_⟩) he hpl
  subst hv
  show wpAny _ _ (call (.ref C) us) _ _ _
  obtain ⟨u, rfl, ry⟩ : ∃ u, us = [u] ∧ RelV y u := by
    cases r1 with
    | cons a b => cases b with
      | nil => exact ⟨_, rfl, a⟩
  obtain ⟨hp, g, dr, tk, os⟩ := s1
  have kk : ∀ b o, hp.get? b = some o → ((hp.push (PySem.W.kdv_tup [u])).push (PySem.HandSPX.excO C hp.objs.size)).get? b = some o := fun b o e => Heap.get?_push_of_some _ (Heap.get?_push_of_some _ e)
  have hget : ((hp.push (PySem.W.kdv_tup [u])).push (PySem.HandSPX.excO C hp.objs.size)).get? (hp.objs.size + 1) = some (PySem.HandSPX.excO C hp.objs.size) := by heap_get
  have hnone : hp.get? (hp.objs.size + 1) = none := Heap.get?_none_of_le (Nat.le_add_right _ _)
  have hH1 : H1 (hp.objs.size + 1) = none := I1.hok.fresh (Nat.le_succ _)
  obtain ⟨mb, hmb1, hmb2⟩ := I1.ok.mod.blt
  have bk := I1.bk
  have KI := I1.kIn
  have gl : hp.Ns mainGlobals X.mg := I1.ok.mod.glob.keeps bk
  have bl : hp.Ns builtinsNs mb := hmb1.keeps bk
  have hsz : hp.objs.size ≤ ((hp.push (PySem.W.kdv_tup [u])).push (PySem.HandSPX.excO C hp.objs.size)).objs.size := by rw [Heap.size_push, Heap.size_push]; omega
  refine wpAny_call (PySem.HandSPX.call_own F.excBase_ValueError (fun Y => PySem.HandSPX.refsVE_contains Y bm hbm) (KI _ _ hC) (PySem.W.looks_findIn KI S.init) (fun self => PySem.W.bind_fn KI self S.tI) (by rw [sizeLine_eq]; simp)
    (sup_init S (KI.keeps kk) (gl.keeps kk) (bl.keeps kk) hmb2 (I1.nolimit.keeps kk) ?_ hget ?_ fun h' tk' dx t1 k dn dne hx hn => ?_))
  · exact (Room.make (k := 0) hr C [u] []).depth
  · cases hk : X.K.lookup (hp.objs.size + 1) with
    | none => rfl
    | some o => rw [KI _ _ hk] at hnone; cases hnone
  · obtain ⟨od, hdx, J⟩ := Inv.laid2 (tk' := tk') (G := hp) (C := C) I1 hnone hH1 (fun b o nb z => k b o nb (kk b o z)) (Nat.le_trans hsz dn) dne hx hn ry
    exact ⟨rfl, .ref (hp.objs.size + 1), _, J, rfl, q1 _ dx _ od hH1 hdx dne ⟨rfl, rfl, _, rfl⟩⟩
theorem pe_exnK {X : Cx} {C fI : Addr} {c fld se x : Str} {st : Stmt} {e : Expr} {ta : TA} {p pos kp : Pos} (S : SupI X.prog X.K C fI fld st se x) (gC : X.mg c = some (.ref C)) (hg : Gl X c) (hdb : (c == ("__debug__" : Str)) = false) (ha : PK X [⟨some x, e, kp⟩] ta) (hr : Room 1 X.A) :
    PE X (.Call (.Name c p) [] [⟨some x, e, kp⟩] pos) (fun σ H Q => ta σ H fun vs H1 => ∃ y, vs = [y] ∧ tSup C fld y H1 Q) := by
  refine ⟨fun pins s σ H Q I h => ?_⟩
  obtain ⟨nm, q, N, bs, bm, sn, sub, ab, col, dd, k0, k1, k2, k3, k5, hC, hbm⟩ := S.oex.cls
  refine wpAny_Call_Name_kw (ld_glob I hg gC ?_ hdb)
  obtain ⟨e1, e2, e3⟩ := kw_each (kws := [⟨some x, e, kp⟩]) (ks := [x]) (env := X.env) (pos := pos) rfl
  refine PySem.W.callWith_KW0 (h₀ := X.base) I.ok.mod.kin S.oex.kC e1 (thn (ha.run pos pins s σ H _ I h) fun us s1 ⟨vs, H1, I1, r1, y, hv, q1⟩ => ⟨I1.kIn, ?_⟩) (by rw [e3]; rfl)
  rw [e2, List.append_nil]
  subst hv
  obtain ⟨u, rfl, ry⟩ : ∃ u, us = [u] ∧ RelV y u := by
    cases r1 with
    | cons a b => cases b with
      | nil => exact ⟨_, rfl, a⟩
  show wpAny _ _ (call (.ref C) [] [(x, u)]) _ _ _
  obtain ⟨hp, g, dr, tk, os⟩ := s1
  have kk : ∀ b o, hp.get? b = some o → ((hp.push (PySem.W.kdv_tup [])).push (PySem.HandSPX.excO C hp.objs.size)).get? b = some o := fun b o e => Heap.get?_push_of_some _ (Heap.get?_push_of_some _ e)
  have hget : ((hp.push (PySem.W.kdv_tup [])).push (PySem.HandSPX.excO C hp.objs.size)).get? (hp.objs.size + 1) = some (PySem.HandSPX.excO C hp.objs.size) := by heap_get
  have hnone : hp.get? (hp.objs.size + 1) = none := Heap.get?_none_of_le (Nat.le_add_right _ _)
  have hH1 : H1 (hp.objs.size + 1) = none := I1.hok.fresh (Nat.le_succ _)
  obtain ⟨mb, hmb1, hmb2⟩ := I1.ok.mod.blt
  have bk := I1.bk
  have KI := I1.kIn
  have gl : hp.Ns mainGlobals X.mg := I1.ok.mod.glob.keeps bk
  have bl : hp.Ns builtinsNs mb := hmb1.keeps bk
  have hsz : hp.objs.size ≤ ((hp.push (PySem.W.kdv_tup [])).push (PySem.HandSPX.excO C hp.objs.size)).objs.size := by rw [Heap.size_push, Heap.size_push]; omega
  refine wpAny_call (PySem.HandSPX.call_kw F.excBase_ValueError (fun Y => PySem.HandSPX.refsVE_contains Y bm hbm) (KI _ _ hC) (PySem.W.looks_findIn KI S.init) (fun self => PySem.W.bind_fn KI self S.tI) (Nat.zero_le _)
    (sup_initK S (KI.keeps kk) (gl.keeps kk) (bl.keeps kk) hmb2 (I1.nolimit.keeps kk) ?_ hget ?_ fun h' tk' dx t1 k dn dne hx hn => ?_))
  · exact (Room.make (k := 0) hr C [] [(x, u)]).depth
  · cases hk : X.K.lookup (hp.objs.size + 1) with
    | none => rfl
    | some o => rw [KI _ _ hk] at hnone; cases hnone
  · obtain ⟨od, hdx, J⟩ := Inv.laid2 (tk' := tk') (G := hp) (C := C) I1 hnone hH1 (fun b o nb z => k b o nb (kk b o z)) (Nat.le_trans hsz dn) dne hx hn ry
    exact ⟨rfl, .ref (hp.objs.size + 1), _, J, rfl, q1 _ dx _ od hH1 hdx dne ⟨rfl, rfl, _, rfl⟩⟩
section
variable {X : Cx} {c f : Str} {e : Expr} {ge : GE} {p pos kp : Pos}
theorem de_exn0 (E : EvAt X.prog X.K X.mg c none) (hg : Gl X c) (hdb : (c == ("__debug__" : Str)) = false) : PE X (.Call (.Name c p) [] [] pos) (up X.K (gExn0 c)) := by
  obtain ⟨C, E⟩ := E
  exact pe_imp (pe_exn0 E.gl E.kp E.mkd hg hdb) fun σ H Q ⟨δ, HD, Qd, _, R, h, l⟩ a o hn ⟨k1, k2, vs, k3⟩ =>
    l _ HD _ _ h ⟨a, C, o, anyE, vs, rfl, E.ns, upd_same, k1, k3, k2⟩ (R.new hn) (Frm.new hn)
theorem exn_read {C : Addr} (E : EvC X.prog X.K X.mg c C (some f)) {σ : L2.St} {H : Hp} {Q : VK} (h : up X.K (gExn1 c f ge) σ H Q) : upA X.K (DL.gCons ge DL.gNil) σ H fun vs H1 => ∃ y, vs = [y] ∧ tSup C f y H1 Q := by
  obtain ⟨δ, HD, Qd, E1, R, h, l⟩ := h
  refine ⟨δ, HD, exnQ c f Qd, E1, R, h, fun ds HD1 vs H1 q D1 R1 fr => ?_⟩
  unfold exnQ at q
  split at q
  · rename_i v
    obtain ⟨w, rfl, dw⟩ := da_one D1
    refine ⟨w, rfl, fun a dx o od ha hdx ne ⟨k1, k2, vs', k3⟩ => ?_⟩
    have ha' : upd H1 dx (.frz od (.xd [(f, w)])) a = none := (upd_ne (Ne.symm ne)).trans ha
    have fw : Fd X.K H1 w v := dw
    have x1 : Ext H1 (upd (upd H1 dx (.frz od (.xd [(f, w)]))) a (.frz o anyE)) := (Ext.new hdx).trans (Ext.new ha')
    exact l _ HD1 _ _ q ⟨a, C, o, anyE, vs', rfl, E.ns, upd_same, k1, k3, dx, od, w, k2, (upd_ne ne).trans upd_same, fw.ext x1⟩ ((R1.new hdx).new ha') (fr.trans ((Frm.new hdx).trans (Frm.new ha')))
  · exact q.elim
theorem de_exn1 (E : EvAt X.prog X.K X.mg c (some f)) (hg : Gl X c) (hdb : (c == ("__debug__" : Str)) = false) (ha : PE X e (up X.K ge)) (hs : noStar e = true) (hr : Room 1 X.A) : PE X (.Call (.Name c p) [e] [] pos) (up X.K (gExn1 c f ge)) := by
  obtain ⟨C, E⟩ := E
  obtain ⟨⟨fI, st, se, S⟩, _⟩ := E.mkd
  exact pe_imp (pe_exn1 S E.gl hg hdb (da_cons ha da_nil (star_of hs [] X.env)) hr (star_of hs _ _) (plain_of [] _ _ rfl)) fun σ H Q h => exn_read E h
theorem de_exnK (E : EvAt X.prog X.K X.mg c (some f)) (hg : Gl X c) (hdb : (c == ("__debug__" : Str)) = false) (ha : PE X e (up X.K ge)) (hr : Room 1 X.A) : PE X (.Call (.Name c p) [] [⟨some f, e, kp⟩] pos) (up X.K (gExn1 c f ge)) := by
  obtain ⟨C, E⟩ := E
  obtain ⟨⟨fI, st, se, S⟩, _⟩ := E.mkd
  exact pe_imp (pe_exnK S E.gl hg hdb (dk_cons (nm := some f) (kpos := kp) ha dk_nil) hr) fun σ H Q h => exn_read E h
end
noncomputable def rIsV (K : PySem.W.Frag) : List V → Hp → VK → Prop := fun xs H Q => ∃ (p : EO) (v c : V) (cv : Value) (b : Bool) (C : Addr), xs = [v, c] ∧ XOne K H v p ∧ (∀ u, RelV c u → u = cv) ∧ PySem.W.nsIn K mainGlobals p.1 = some (some (.ref C)) ∧ ExcC K C ∧ (PySem.W.clsIn K C).isSome = true ∧ PySem.W.kitOne K (.ref C) cv = some b ∧ Q (.bl b) H
theorem XOne.inst {X : Cx} {pins : List (Addr × Obj)} {σ : L2.St} {H : Hp} {s : Shared} {v : V} {p : EO} {C : Addr} (I : Inv X pins σ H s) (h : XOne X.K H v p) (hC : PySem.W.nsIn X.K mainGlobals p.1 = some (some (.ref C))) :
    ∃ a o od, v = .ref a ∧ PySem.W.InstAt s.heap a o C od := by
  obtain ⟨c, fv⟩ := p
  obtain ⟨a, Ca, o, u, vs, rfl, h2, h3, h4, h5, h6⟩ := h
  have e : Ca = C := by
    rw [hC] at h2
    cases h2
    rfl
  subst e
  obtain ⟨hget, _⟩ := I.hok a _ h3
  obtain ⟨oc, odd, oda, osl⟩ := o
  dsimp only at h4 h5 h6
  subst h4 h5
  cases fv with
  | none =>
    dsimp only at h6
    subst h6
    exact ⟨a, _, none, rfl, hget, rfl, rfl, trivial⟩
  | some q =>
    obtain ⟨f, x⟩ := q
    obtain ⟨dx, od, w, k1, k2, k3⟩ := h6
    subst k1
    obtain ⟨g2, _⟩ := I.hok dx _ k2
    exact ⟨a, _, some od, rfl, hget, rfl, rfl, g2⟩
theorem call_isV {X : Cx} : CallR X (.builtin "isinstance") (rIsV X.K) := by
  intro pins s σ H xs us Q I r h
  obtain ⟨p, v, c, cv, b, C, rfl, hx, hcv, hC, EC, cl, e, q⟩ := h
  cases r with
  | cons rx rr =>
    cases rr with
    | cons rt rr =>
      cases rr
      have ec := hcv _ rt
      subst ec
      obtain ⟨a, o, od, rfl, J⟩ := hx.inst I hC
      cases rx
      exact PySem.W.kia_one (PySem.W.kitx_exc cl EC.hg EC.hk EC.hs EC.ha EC.hn EC.ht EC.hm) I.kIn J e (fun z => nomatch z) fun tk => ⟨.bl b, H, I.kept (t' := tk) fun _ _ z => z, rfl, q⟩
theorem eisV_one {mg : Str → Option Value} {D : Str} {cv cv' : V} {u u' : Value} (h : EisV mg D cv u) (h' : EisV mg D cv' u') : cv = cv' ∧ u = u' := by
  rcases h with ⟨Da, rfl, rfl, h⟩ | ⟨T, rfl, rfl, h, h2, _⟩ <;> rcases h' with ⟨Da', rfl, rfl, h'⟩ | ⟨T', rfl, rfl, h', h2', _⟩
  · rw [h] at h'
    cases h'
    exact ⟨rfl, rfl⟩
  · rw [h] at h'
    cases h'
  · rw [h] at h'
    cases h'
  · rw [h2] at h2'
    cases h2'
    exact ⟨rfl, rfl⟩
theorem eisV_pe {X : Cx} {D : Str} {cv : V} {u : Value} {pos : Pos} (h : EisV X.mg D cv u) (hg : Gl X D) (hdb : (D == ("__debug__" : Str)) = false) : PE X (.Name D pos) (tC cv) ∧ ∀ z, RelV cv z → z = u := by
  rcases h with ⟨Da, rfl, rfl, h⟩ | ⟨T, rfl, rfl, h, h2, h3⟩
  · exact ⟨pe_glob hg h rfl hdb, fun z r => r⟩
  · exact ⟨pe_bltn hg h h2 rfl h3 hdb, fun z r => r⟩
section
variable {X : Cx} {G : Glb} {e : Expr} {ge : GE} {p q pos : Pos}
theorem de_exis {D : Str} {tb : List (Str × Bool)} (E : EvAll X.prog X.K X.mg G) (hgi : Gl X "isinstance") (hmi : X.mg "isinstance" = none) (hg : Gl X D) (hdb : (D == ("__debug__" : Str)) = false) (ne : tb ≠ []) (hall : ∀ p ∈ tb, (p.1, D, p.2) ∈ G.evi)
    (ha : PE X e (up X.K ge)) (hs : noStar e = true) : PE X (.Call (.Name "isinstance" p) [e, .Name D q] [] pos) (up X.K (gEis tb ge)) := by
  obtain ⟨t0, ht0⟩ := List.exists_mem_of_ne_nil _ ne
  obtain ⟨⟨C0, cv, u, _, hv, _⟩, _⟩ := E.isi _ (hall t0 ht0)
  obtain ⟨pn, hrel⟩ := eisV_pe (pos := q) hv hg hdb
  refine pe_imp (pe_callB (p := p) (pos := pos) call_isV hgi hmi (by decide +kernel) (pa_cons ha (pa_cons pn pa_nil (by rfl)) (star_of hs _ _)) (by decide +kernel) (by decide +kernel) (star_of hs _ _) (by rfl)) fun σ H Q ⟨δ, HD, Qd, E1, R, h, l⟩ => ?_
  refine ⟨δ, HD, _, E1, R, h, fun y HD1 v H1 h1 d1 R1 fr => ?_⟩
  split at h1
  · rename_i po
    split at h1
    · rename_i b hb
      have hm : (po.1, b) ∈ tb := by
        have := List.lookup_eq_some_iff.mp hb
        obtain ⟨l1, l2, e1, _⟩ := this
        rw [e1]
        simp
      obtain ⟨⟨C, cv', u', hC, hv', hk⟩, hl⟩ := E.isi _ (hall _ hm)
      obtain ⟨e1, e2⟩ := eisV_one hv hv'
      subst e1 e2
      obtain ⟨fo, hfo⟩ := Option.isSome_iff_exists.mp hl
      obtain ⟨C', EC⟩ := E.one _ _ hfo
      have ec : C' = C := by
        have := EC.ns
        have hC2 : PySem.W.nsIn X.K mainGlobals po.1 = some (some (.ref C)) := hC
        rw [hC2] at this
        cases this
        rfl
      subst ec
      exact ⟨po, v, cv, u, b, C', rfl, d1, hrel, hC, EC.ex, EC.cl, hk, l _ _ _ _ h1 (Fd.bl _) R1 fr⟩
    · exact h1.elim
  · exact h1.elim
theorem de_exfl {f : Str} {cs : List Str} (E : EvAll X.prog X.K X.mg G) (hcs : ∀ c ∈ cs, G.evs.lookup c = some (some f)) (ha : PE X e (up X.K ge)) (hb : baseB e = true) : PE X (.Attribute e f pos) (up X.K (gEfl f cs ge)) := by
  refine ⟨fun pins s σ H Q I ⟨δ, HD, Qd, E1, R, h, l⟩ => ?_⟩
  refine attr_of (base_of hb) (thn (ha.run pins s σ H (fun v H1 => ∃ po : EO, XOne X.K H1 v po ∧ ∃ x, po.2 = some (f, x) ∧ po.1 ∈ cs ∧ ∀ w, Fd X.K H1 w x → Q w H1) I ⟨δ, HD, _, E1, R, h, fun y HD1 v H1 h1 d1 R1 fr => ?_⟩) fun u s1 hh => ?_)
  · split at h1
    · rename_i c g x
      obtain ⟨⟨h2, h3⟩, h4⟩ := h1
      subst h3
      exact ⟨_, d1, x, rfl, h2, fun w hw => l _ _ _ _ h4 hw R1 fr⟩
    · exact h1.elim
  · obtain ⟨v, H1, I1, rv, ⟨c, fv⟩, hx, x, e2, hc, q⟩ := hh
    have e2 : fv = some (f, x) := e2
    subst e2
    obtain ⟨C, EC⟩ := E.one _ _ (hcs c hc)
    obtain ⟨_, hno⟩ := EC.mkd
    obtain ⟨a, Ca, o, uu, vs, rfl, h2, h3, h4, h5, dx, od, w, k1, k2, k3⟩ := hx
    have e : Ca = C := by
      have h2' : PySem.W.nsIn X.K mainGlobals c = some (some (.ref Ca)) := h2
      rw [EC.ns] at h2'
      cases h2'
      rfl
    subst e
    obtain rfl : u = Value.ref a := rv
    obtain ⟨hget, _⟩ := I1.hok a _ h3
    obtain ⟨g2, mA, hns, hr⟩ := I1.hok dx _ k2
    obtain ⟨od', ho, hl⟩ := lookIn_ns hns
    obtain ⟨u, hu, ru⟩ := RelO.some_of (v := w) (o := mA f) (by
      have := hr f
      rwa [show ([(f, w)] : List (Str × V)).lookup f = some w from by simp] at this)
    have J : PySem.W.InstAt s1.heap a o Ca (some od') := ⟨hget, h4, by unfold PySem.W.notCls; rw [h5] <;> rfl, by rw [k1]; exact ho⟩
    exact HandSPX.exc_get I1.kIn J EC.xf.ga EC.xf.gg EC.xf.exC (PySem.W.findObj_own EC.xf.hdC hno rfl (by rw [hl, hu])) (handed_of ru) ⟨w, H1, I1.tok _, ru, q w k3⟩
end
end DL
namespace DL
open PySem PySem.Spec PyProof.Rows L2
theorem bi_boot (f : Bi) : bootBuiltins (biName f) = some (biVal f) := by
  cases f <;> first
    | decide +kernel
    | (rename_i o; cases o <;> decide +kernel)
theorem bi_in (f : Bi) : biName f ∈ bNames := by
  cases f <;> first
    | decide +kernel
    | (rename_i o; cases o <;> decide +kernel)
theorem bi_nm (f : Bi) : biName f ≠ "__name__" ∧ (biName f == ("__debug__" : Str)) = false := by
  cases f <;> first
    | decide +kernel
    | (rename_i o; cases o <;> decide +kernel)
section
variable {X : Cx} {G : Glb} {N : List Str} {C : CT} {k : Nat}
theorem de_bi' (E : Env1 G N C k X) (f : Bi) (hrp : (G.rp || noRp f) = true) {a : Expr} {ga : GE} {x : Str} {p pos : Pos} (hx : x = biName f) (hg : glB X.env.scope x = true) (hs : noStar a = true) (ha : PE X a (up X.K ga)) : PE X (.Call (.Name x p) [a] [] pos) (up X.K (gCall (dBi f) (gCons ga gNil))) := by
  subst hx
  have hc := call_dBi E.toOk f fun z => E.gd (by subst z; simpa [noRp] using hrp)
  have hb := bi_boot f
  have hm := E.bl _ (bi_in f)
  obtain ⟨h1, h2⟩ := bi_nm f
  cases hv : biVal f with
  | builtin id =>
    rw [hv] at hc hb
    exact de_bi hc (gl_of hg) hm hb ha h1 h2 (star_of hs [] _)
  | type T =>
    rw [hv] at hc hb
    exact de_ty hc (gl_of hg) hm hb ha h1 h2 (star_of hs [] _)
  | _ => cases f <;> simp [biVal] at hv
theorem ch_noStar (sc : Scope) : ∀ (as : RA) (es : List Expr), chA G N sc as es = true → es.all noStar = true
  | .nil, [], _ => rfl
  | .nil, _ :: _, h => by simp [chA] at h
  | .cons a as, [], h => by simp [chA] at h
  | .cons a as, e :: es, h => by
    simp only [chA, Bool.and_eq_true] at h
    simp only [List.all_cons, Bool.and_eq_true]
    exact ⟨h.1.1, ch_noStar sc as es h.2⟩
mutual
theorem sndP {sc : Scope} {df : Str → Bool} (nd : X.N.Nodup) (hN : X.N = N) (hc : X.calm = true) (hsc : X.env.scope = sc) (hdf : ∀ x, df x = true → X.fn x = true) : ∀ (p : RP) (e : Expr), chP N sc df p e = true → PG X e (gP X.K p)
  | .nm i, e, h => by
    unfold chP at h
    split at h
    · rename_i x pos
      simp only [Bool.and_eq_true, Bool.or_eq_true, decide_eq_true_eq] at h
      obtain ⟨⟨h1, h2⟩, h3⟩ := h
      subst hsc hN
      exact pg_name nd h1 (loc_of h2) (h3.imp (fun z => hdf x z) id)
    · cases h
  | .tp ps, e, h => by
    unfold chP at h
    split at h
    · rename_i es kk pos
      have h' := sndPs nd hN hc hsc hdf ps es h
      exact pg_tupL hc h'.1 h'.2.1 h'.2.2
    · cases h
theorem sndPs {sc : Scope} {df : Str → Bool} (nd : X.N.Nodup) (hN : X.N = N) (hc : X.calm = true) (hsc : X.env.scope = sc) (hdf : ∀ x, df x = true → X.fn x = true) : ∀ (ps : List RP) (es : List Expr), chPs N sc df ps es = true →
    PGs X es (gPs X.K ps) ∧ (assignEach es X.env).length = ps.length ∧ (assignEach es X.env).findIdx? (·.1) = none
  | [], [], _ => ⟨pgs_nil, rfl, rfl⟩
  | [], _ :: _, h => by simp [chPs] at h
  | _ :: _, [], h => by simp [chPs] at h
  | p :: ps, e :: es, h => by
    simp only [chPs, Bool.and_eq_true] at h
    obtain ⟨⟨h1, h2⟩, h3⟩ := h
    obtain ⟨a1, a2, a3⟩ := sndPs nd hN hc hsc hdf ps es h3
    have e1 : assignEach (e :: es) X.env = (false, assign e X.env) :: assignEach es X.env := by cases e <;> first | rfl | cases h1
    refine ⟨pgs_cons (sndP nd hN hc hsc hdf p e h2) a1 (by rw [e1]; rfl), by rw [e1]; simp [a2], ?_⟩
    rw [e1, List.findIdx?_cons, a3]
    rfl
end
end
section
variable {G : Glb} {N : List Str} {C : CT} {k : Nat}
theorem few1 {e : Expr} {env : Env} {cp : Pos} (h : noStar e = true) : ((backTo cp (starEach [e] env)).all (fun x => !x.1) && (backToKw cp (keywordEach [] env)).all (fun x => x.1.isSome)
    && decide ([e].length + ([] : List Keyword).length + (if ([] : List Keyword).isEmpty then 0 else 1) < 30)) = true := by
  rw [star_of h]
  rfl
noncomputable def upM (K : PySem.W.Frag) (m : Mt) : V → List V → Hp → VK → Prop := fun x xs H Q => ∃ dx ds HD Qd, DatV K H x dx ∧ DatAll K H xs ds ∧ RepH K H HD ∧ dMt m dx ds HD Qd ∧ Lk K H HD Qd Q
theorem mt_d {X : Cx} (un : X.A.units + 200 < cLine) (m : Mt) : MtM X (mtId m) (upM X.K m) := by
  intro pins s σ H x xs v us Q I rx rv h
  obtain ⟨dx, ds, HD, Qd, hx, ha, R, h, l⟩ := h
  exact mt_of un I rx rv hx ha R h l
theorem mt_read {K : PySem.W.Frag} {m : Mt} {go : GE} {ga : GA} {σ : L2.St} {H : Hp} {Q : VK} (h : up K (gMt m go ga) σ H Q) : tBM K "list" (upM K m) (up K go) (upA K ga) σ H Q := by
  obtain ⟨δ, HD, Qd, E, R, h, l⟩ := h
  refine ⟨δ, HD, _, E, R, h, fun d HD1 v H1 q dv R1 fr => ⟨isL_ty dv R1 q.1, δ, HD1, _, E.ext fr.1, R1, q.2, fun ds HD2 vs H2 q2 dv2 R2 fr2 => ?_⟩⟩
  exact ⟨d, ds, HD2, Qd, dv.ext fr2.1, dv2, R2, q2, l.ext (fr.trans fr2)⟩
theorem mt_read0 {K : PySem.W.Frag} {m : Mt} {go : GE} {σ : L2.St} {H : Hp} {Q : VK} (h : up K (gMt m go gNil) σ H Q) : tBM0 K "list" (upM K m) (up K go) σ H Q := by
  obtain ⟨δ, HD, Qd, E, R, h, l⟩ := h
  exact ⟨δ, HD, _, E, R, h, fun d HD1 v H1 q dv R1 fr => ⟨isL_ty dv R1 q.1, d, [], HD1, Qd, dv, .nil, R1, q.2, l.ext fr⟩⟩
theorem own_snd {N : List Str} {vs : List Nat} : (ownOf N vs).map (·.2) = vs := by
  unfold ownOf
  rw [List.map_map]
  exact List.map_id' vs
theorem sub_of {vs us : List Nat} (h : sub1 vs us = true) : ∀ i ∈ us, i ∈ vs := by
  intro i hi
  have := List.all_eq_true.mp h i hi
  simpa using this
theorem pw_of {X : Cx} {op : BoolOp} {es : List Expr} {pos : Pos} {t : TT} (h : PT X (.BoolOp op es pos) t) : PW X (.BoolOp op es pos) t := ⟨fun _ pins s σ H Q I q => h.run pins s σ H Q I q⟩
theorem yes_of {K : PySem.W.Frag} {σ : L2.St} {H : Hp} {Q : Bool → Hp → Prop} (h : upT K gYes σ H Q) : tYes σ H Q := by
  obtain ⟨δ, HD, Qd, E, R, h, l⟩ := h
  exact l _ _ _ h R Frm.refl
mutual
theorem sndE : ∀ (r : RE) (X : Cx) (e : Expr), Env1 G N C k X → chE G N X.env.scope r e = true → PE X e (up X.K (wE C r))
  | .var i, X, e, E, h => by
    conv at h => lhs; whnf
    split at h
    · simp only [Bool.and_eq_true, decide_eq_true_eq] at h
      obtain ⟨⟨h1, h2⟩, h3⟩ := h
      obtain ⟨q1, q2, _⟩ := nm_of h3
      exact de_var (pe_var (by rw [E.hN]; exact h1) (vis_of h2) q1 q2)
    · cases h
  | .cst x, X, e, E, h => by
    have h' : cstB x e = true := h
    unfold cstB at h'
    split at h'
    · have := of_decide_eq_true h'; subst this; exact de_c pe_int fun H => .int _
    · have := of_decide_eq_true h'; subst this; exact de_c pe_bl fun H => .bl _
    · have := of_decide_eq_true h'; subst this; exact de_c pe_str fun H => .str _
    · exact de_c pe_non fun H => .non
    · cases h'
  | .glob d, X, e, E, h => by
    conv at h => lhs; whnf
    split at h
    · rename_i x p
      simp only [Bool.and_eq_true] at h
      obtain ⟨⟨h1, h2⟩, h3⟩ := h
      split at h3
      · rename_i d' hd
        have e := eqB_eq h3
        subst e
        obtain ⟨u, v, a1, a2, a3⟩ := E.cs _ _ hd
        exact de_c (pe_glob (gl_of h1) a1 a2 (nm_of h2).1) a3
      · cases h3
    · cases h
  | .add own a b, X, e, E, h => by
    conv at h => lhs; whnf
    split at h
    · simp only [Bool.and_eq_true] at h
      exact de_op (op_dAdd own) (sndE a X _ E h.1) (sndE b X _ E h.2)
    · cases h
  | .arith op a b, X, e, E, h => by
    conv at h => lhs; whnf
    split at h
    · simp only [Bool.and_eq_true, decide_eq_true_eq] at h
      obtain ⟨⟨h1, h2⟩, h3⟩ := h
      subst h1
      exact de_op (op_dArith _) (sndE a X _ E h2) (sndE b X _ E h3)
    · cases h
  | .mul a b, X, e, E, h => by
    conv at h => lhs; whnf
    split at h
    · simp only [Bool.and_eq_true] at h
      exact de_op op_dMul (sndE a X _ E h.1) (sndE b X _ E h.2)
    · cases h
  | .cmp op a b, X, e, E, h => by
    conv at h => lhs; whnf
    split at h
    · simp only [Bool.and_eq_true, decide_eq_true_eq] at h
      obtain ⟨⟨⟨h1, h2⟩, h3⟩, h4⟩ := h
      subst h1
      exact de_cmp (op_dCmp E.toOk _) (sndE a X _ E h3) (sndE b X _ E h4) (marks_of h2 _)
    · cases h
  | .neg a, X, e, E, h => by
    conv at h => lhs; whnf
    split at h
    · exact de_neg (sndE a X _ E h)
    · cases h
  | .call f as, X, e, E, h => by
    conv at h => lhs; whnf
    split at h
    · rename_i x p es pos
      simp only [Bool.and_eq_true, decide_eq_true_eq] at h
      obtain ⟨⟨⟨h1, h2⟩, h3⟩, h4⟩ := h
      obtain ⟨fa, fps, a1, a2, a3⟩ := E.fn h3
      cases as with
      | nil =>
        unfold chA at h4
        split at h4
        · exact de_call0 a3 E.room0 E.gd (gl_of h1) a1 a2 (nm_of h2).1
        · cases h4
      | cons a as =>
        have hs := ch_noStar _ _ _ h4
        have ha := sndA (.cons a as) X es E h4
        cases es with
        | nil => simp [chA] at h4
        | cons e es => exact de_call a3 E.room0 E.gd (gl_of h1) a1 a2 hs ha (nm_of h2).1
    · cases h
  | .bi f a, X, e, E, h => by
    conv at h => lhs; whnf
    split at h
    · simp only [Bool.and_eq_true, decide_eq_true_eq] at h
      obtain ⟨⟨⟨⟨h1, h2⟩, h3⟩, h4⟩, h5⟩ := h
      exact de_bi' E f h5 h1 h2 h3 (sndE a X _ E h4)
    · cases h
  | .ix a i, X, e, E, h => by
    conv at h => lhs; whnf
    split at h
    · simp only [Bool.and_eq_true] at h
      exact de_ix (sndE a X _ E h.1.2) (sndE i X _ E h.2) (slice_of h.1.1)
    · cases h
  | .sl own a lo hi, X, e, E, h => by
    conv at h => lhs; whnf
    split at h
    · simp only [Bool.and_eq_true] at h
      exact de_sl (sndE a X _ E h.1.1) (sndO lo X _ E h.1.2) (sndO hi X _ E h.2)
    · cases h
  | .tup as, X, e, E, h => by
    conv at h => lhs; whnf
    split at h
    · exact de_tup (sndA as X _ E h)
    · cases h
  | .lst own as, X, e, E, h => by
    conv at h => lhs; whnf
    split at h
    · exact de_lst own (sndA as X _ E h)
    · cases h
  | .comp own vs p it ts x, X, e, E, h => by
    conv at h => lhs; whnf
    split at h
    · rename_i elt tg iter ifs s2 pos
      simp only [Bool.and_eq_true] at h
      obtain ⟨⟨⟨⟨⟨⟨h1, h2⟩, h3⟩, h4⟩, h5⟩, h6⟩, h7⟩ := h
      have ht : ∀ (s : Shared) (H : Hp) (C' : Addr) (cl : List (Str × Addr)) (fp : List Addr), PTs (X.blk s H s2 (compEnvC s2 cl C' X.env) fp) ifs (upT X.K (wT C ts)) := fun s H C' cl fp => by
        have Eb := E.blk s H s2 C' cl fp
        split at h6
        · cases ts <;> first
            | exact ⟨fun _ _ _ _ _ I h => pts_nil.run _ _ _ _ _ I (yes_of h)⟩
            | cases h6
        · exact pts_one (sndT ts _ _ Eb h6)
        · cases h6
      have q := pe_new own (pe_lc (elt := elt) (tg := tg) (iter := iter) (ifs := ifs) (pos := pos) (wi := upI X.K (wI C it)) (g := gP X.K p) (tt := upT X.K (wT C ts)) (te := up X.K (wE C x)) E.calm E.nd (sndI it X tg iter E h5) (blkOk_by (N := X.N) (sc := X.env.scope) (scope := s2) (own := ownOf N vs) (by rw [E.hN]; exact h3))
        (fun s H C' cl fp => sndP (X := X.blk s H s2 (compEnvC s2 cl C' X.env) fp) (N := N) E.nd E.hN E.calm rfl (fun _ z => z) p tg h4)
        ht
        (fun s H C' cl fp => sndE x _ elt (E.blk s H s2 C' cl fp) h7) (fun y => fold_of h1 _ y))
      rw [own_snd] at q
      exact pe_imp q fun σ H Q hq => comp_read (sub_of h2) hq
    · cases h
  | .meth m o as, X, e, E, h => by
    conv at h => lhs; whnf
    split at h
    · rename_i y nm ap es cp
      simp only [Bool.and_eq_true, decide_eq_true_eq] at h
      obtain ⟨⟨⟨⟨⟨h1, h2⟩, h3⟩, h4⟩, h5⟩, h6⟩ := h
      subst h1
      have hb : attributeBase y (methName m) X.env (eval y X.env) = eval y X.env := by cases y <;> first | rfl | cases h2
      have ho := sndE o X y E h5
      have ha := sndA as X es E h6
      have hs := ch_noStar _ _ _ h6
      split at h4
      · rename_i e1
        simp only [List.all_cons, Bool.and_eq_true] at hs
        exact pe_imp (pe_bm PySem.F.plainAttrs_list PySem.F.slot_list_append PySem.F.type_list_append (mt_d E.toOk.un .append) ho ha hb (few1 hs.1) h3 (star_of hs.1 _ _) (by rfl)) fun _ _ _ h => mt_read h
      · rename_i e1
        simp only [List.all_cons, Bool.and_eq_true] at hs
        exact pe_imp (pe_bm PySem.F.plainAttrs_list PySem.F.slot_list_extend PySem.F.type_list_extend (mt_d E.toOk.un .extend) ho ha hb (few1 hs.1) h3 (star_of hs.1 _ _) (by rfl)) fun _ _ _ h => mt_read h
      · rename_i e1
        simp only [List.all_cons, Bool.and_eq_true] at hs
        exact pe_imp (pe_bm PySem.F.plainAttrs_list PySem.F.slot_list_pop PySem.F.type_list_pop (mt_d E.toOk.un .popAt) ho ha hb (few1 hs.1) h3 (star_of hs.1 _ _) (by rfl)) fun _ _ _ h => mt_read h
      · rename_i e1
        simp only [List.all_cons, Bool.and_eq_true] at hs
        exact pe_imp (pe_bm PySem.F.plainAttrs_list PySem.F.slot_list_remove PySem.F.type_list_remove (mt_d E.toOk.un .remove) ho ha hb (few1 hs.1) h3 (star_of hs.1 _ _) (by rfl)) fun _ _ _ h => mt_read h
      · cases as with
        | nil => exact pe_imp (pe_bm0 PySem.F.plainAttrs_list PySem.F.slot_list_pop PySem.F.type_list_pop (mt_d E.toOk.un .pop) ho hb h3) fun _ _ _ h => mt_read0 h
        | cons _ _ => simp [chA] at h6
      · cases h4
    · cases h
  | .dct0, X, e, E, h => by
    conv at h => lhs; whnf
    split at h
    · exact de_dct0
    · cases h
  | .comp2 own vs vs1 p it ts p1 it1 ts1 x, X, e, E, h => by
    conv at h => lhs; whnf
    split at h
    · rename_i elt tg iter ifs tg1 iter1 ifs1 s2 pos
      simp only [Bool.and_eq_true] at h
      obtain ⟨⟨⟨⟨⟨⟨⟨⟨⟨⟨h1, h1'⟩, h2⟩, h2'⟩, h2''⟩, h3⟩, h4, h4'⟩, h5, h5'⟩, h6⟩, h6'⟩, h7⟩ := h
      have ht : ∀ (s : Shared) (H : Hp) (C' : Addr) (cl : List (Str × Addr)) (fp : List Addr), PTs (X.blk s H s2 (compEnvC s2 cl C' X.env) fp) ifs (upT X.K (wT C ts)) := fun s H C' cl fp => by
        have Eb := E.blk s H s2 C' cl fp
        split at h6
        · cases ts <;> first
            | exact ⟨fun _ _ _ _ _ I h => pts_nil.run _ _ _ _ _ I (yes_of h)⟩
            | cases h6
        · exact pts_one (sndT ts _ _ Eb h6)
        · cases h6
      have ht1 : ∀ (s : Shared) (H : Hp) (C' : Addr) (cl : List (Str × Addr)) (fp : List Addr), PTs (X.blk s H s2 (compEnvC s2 cl C' X.env) fp) ifs1 (upT X.K (wT C ts1)) := fun s H C' cl fp => by
        have Eb := E.blk s H s2 C' cl fp
        split at h6'
        · cases ts1 <;> first
            | exact ⟨fun _ _ _ _ _ I h => pts_nil.run _ _ _ _ _ I (yes_of h)⟩
            | cases h6'
        · exact pts_one (sndT ts1 _ _ Eb h6')
        · cases h6'
      have q := pe_new own (pe_lc2 (elt := elt) (tg := tg) (iter := iter) (ifs := ifs) (tg1 := tg1) (iter1 := iter1) (ifs1 := ifs1) (vs1 := vs1) (pos := pos) (wi := upI X.K (wI C it)) (g := gP X.K p) (tt := upT X.K (wT C ts)) (wi1 := upI X.K (wI C it1)) (g1 := gP X.K p1) (tt1 := upT X.K (wT C ts1)) (te := up X.K (wE C x)) E.calm E.nd (sndI it X tg iter E h5) (blkOk_by (N := X.N) (sc := X.env.scope) (scope := s2) (own := ownOf N vs) (by rw [E.hN]; exact h3))
        (by rw [own_snd]; exact sub_of h2'')
        (fun s H C' cl fp => sndP (X := X.blk s H s2 (compEnvC s2 cl C' X.env) fp) (N := N) E.nd E.hN E.calm rfl (fun _ z => z) p tg h4)
        ht (fun s H C' cl fp => sndI it1 _ tg1 iter1 (E.blk s H s2 C' cl fp) h5')
        (fun s H C' cl fp => sndP (X := X.blk s H s2 (compEnvC s2 cl C' X.env) fp) (N := N) E.nd E.hN E.calm rfl (fun _ z => z) p1 tg1 h4')
        ht1 (fun s H C' cl fp => sndE x _ elt (E.blk s H s2 C' cl fp) h7) (fun y => fold_of h1 _ y) (fun env y => fold_of h1' env y))
      rw [own_snd] at q
      exact pe_imp q fun σ H Q hq => comp2_read (sub_of h2) (sub_of h2') hq
    · cases h
  | .mulL own a b, X, e, E, h => by
    conv at h => lhs; whnf
    split at h
    · simp only [Bool.and_eq_true] at h
      exact de_op (op_dMulL own) (sndE a X _ E h.1) (sndE b X _ E h.2)
    · cases h
  | .exn0 x, X, e, E, h => by
    conv at h => lhs; whnf
    split at h
    · simp only [Bool.and_eq_true, decide_eq_true_eq] at h
      obtain ⟨⟨⟨h1, h2⟩, h3⟩, h4⟩ := h
      subst h1
      exact de_exn0 (E.ev.one _ _ h4) (gl_of h2) (nm_of h3).1
    · cases h
  | .exn1 x f kw a, X, e, E, h => by
    conv at h => lhs; whnf
    split at h
    · simp only [Bool.and_eq_true, decide_eq_true_eq] at h
      obtain ⟨⟨⟨⟨⟨⟨_, h1⟩, h2⟩, h3⟩, h4⟩, h5⟩, h6⟩ := h
      subst h1
      exact de_exn1 (E.ev.one _ _ h4) (gl_of h2) (nm_of h3).1 (sndE a X _ E h6) h5 (E.room.mono (by omega))
    · simp only [Bool.and_eq_true, decide_eq_true_eq] at h
      obtain ⟨⟨⟨⟨⟨⟨_, h1⟩, h2⟩, h3⟩, h4⟩, h5⟩, h6⟩ := h
      subst h1 h5
      exact de_exnK (E.ev.one _ _ h4) (gl_of h2) (nm_of h3).1 (sndE a X _ E h6) (E.room.mono (by omega))
    · cases h
  | .exis D tb a, X, e, E, h => by
    conv at h => lhs; whnf
    split at h
    · simp only [Bool.and_eq_true, decide_eq_true_eq] at h
      obtain ⟨⟨⟨⟨⟨⟨⟨h1, h2⟩, h3⟩, h4⟩, h5⟩, h6⟩, h7, h8⟩, h9⟩ := h
      subst h1 h3
      exact de_exis E.ev (gl_of h2) (E.bl _ (by decide +kernel)) (gl_of h4) (nm_of h5).1 (fun z => by rw [z] at h7; cases h7) (fun p hp => of_decide_eq_true (List.all_eq_true.mp h8 p hp)) (sndE a X _ E h9) h6
    · cases h
  | .exfl f cs a, X, e, E, h => by
    conv at h => lhs; whnf
    split at h
    · simp only [Bool.and_eq_true, decide_eq_true_eq] at h
      obtain ⟨⟨⟨h1, h2⟩, h3⟩, h4⟩ := h
      subst h1
      exact de_exfl E.ev (fun c hc => of_decide_eq_true (List.all_eq_true.mp h3 c hc)) (sndE a X _ E h4) h2
    · cases h
theorem sndD : ∀ (r : RD) (X : Cx) (pos : Pos) (ks : List (Option Expr)) (vs : List Expr), Env1 G N C k X → chD G N X.env.scope r ks vs = true →
    ∃ trs, PPs X pos ks vs trs ∧ ks.length = vs.length ∧ ks.all (·.isSome) = true ∧ ∀ σ H Q, upD X.K (wD C r) σ H Q → tPairs trs σ H Q
  | .nil, X, pos, ks, vs, E, h => by
    unfold chD at h
    split at h
    · exact ⟨[], pps_nil, rfl, rfl, fun σ H Q ⟨δ, HD, Qd, Er, R, h, l⟩ => l [] _ _ [] h .nil R Frm.refl⟩
    · cases h
  | .cons kk v r, X, pos, ks, vs, E, h => by
    unfold chD at h
    split at h
    · simp only [Bool.and_eq_true] at h
      obtain ⟨trs, a, b, c, d⟩ := sndD r X pos _ _ E h.2
      refine ⟨_, pps_cons (sndE kk X _ E h.1.1) (sndE v X _ E h.1.2) a, by simp [b], by simp [c], fun σ H Q ⟨δ, HD, Qd, Er, R, h, l⟩ => ?_⟩
      refine ⟨δ, HD, _, Er, R, h, fun dx HD1 v1 H1 q1 d1 R1 f1 => ⟨δ, HD1, _, Er.ext f1.1, R1, q1, fun dy HD2 v2 H2 q2 d2 R2 f2 => ?_⟩⟩
      split at q2
      · exact d _ _ _ ⟨δ, HD2, _, Er.ext (f1.1.trans f2.1), R2, q2.2, fun ps HD3 H3 vs q3 pr R3 f3 => l _ _ _ _ q3 (.cons ⟨q2.1, d1.ext (f2.1.trans f3.1), d2.ext f3.1⟩ pr) R3 (f1.trans (f2.trans f3))⟩
      · exact q2.elim
    · cases h
theorem sndA : ∀ (r : RA) (X : Cx) (es : List Expr), Env1 G N C k X → chA G N X.env.scope r es = true → PA X es (upA X.K (wA C r))
  | .nil, X, es, E, h => by
    unfold chA at h
    split at h
    · exact da_nil
    · cases h
  | .cons a as, X, es, E, h => by
    unfold chA at h
    split at h
    · simp only [Bool.and_eq_true] at h
      exact da_cons (sndE a X _ E h.1.2) (sndA as X _ E h.2) (star_of h.1.1 _ _)
    · cases h
theorem sndN : ∀ (r : RA) (X : Cx) (es : List Expr), Env1 G N C k X → chN G N X.env.scope r es = true → ∃ ga : GA, (wA C r = fun δ HD Q => ga δ HD fun ds HD1 => Q (ds ++ [.d .none]) HD1) ∧ PA X es (upA X.K ga)
  | .nil, X, es, E, h => by
    unfold chN at h
    cases h
  | .cons a as, X, es, E, h => by
    unfold chN at h
    split at h
    · rename_i e es
      simp only [Bool.and_eq_true] at h
      obtain ⟨⟨h1, h2⟩, h3⟩ := h
      split at h3
      · exact ⟨DL.gCons (wE C a) DL.gNil, rfl, da_cons (sndE a X _ E h2) da_nil (star_of h1 _ _)⟩
      · obtain ⟨ga, e1, e2⟩ := sndN as X es E h3
        refine ⟨DL.gCons (wE C a) ga, ?_, da_cons (sndE a X _ E h2) e2 (star_of h1 _ _)⟩
        show DL.gCons (wE C a) (wA C as) = _
        rw [e1]
        rfl
    · cases h
theorem sndK : ∀ (r : RA) (X : Cx) (kws : List Keyword), Env1 G N C k X → chA G N X.env.scope r (kws.map (·.value)) = true → PK X kws (upA X.K (wA C r))
  | .nil, X, [], E, h => dk_nil
  | .nil, X, _ :: _, E, h => by simp [chA] at h
  | .cons a as, X, [], E, h => by simp [chA] at h
  | .cons a as, X, ⟨nm, e, kp⟩ :: kws, E, h => by
    simp only [List.map_cons, chA, Bool.and_eq_true] at h
    exact dk_cons (sndE a X _ E h.1.2) (sndK as X _ E h.2)
theorem sndT : ∀ (r : RT) (X : Cx) (e : Expr), Env1 G N C k X → chT G N X.env.scope r e = true → PT X e (upT X.K (wT C r))
  | .yes, X, e, E, h => by cases (show false = true from h)
  | .val a, X, e, E, h => by
    have h : (byVal e && chE G N X.env.scope a e) = true := h
    simp only [Bool.and_eq_true] at h
    exact dt_valI (sndE a X _ E h.2) (val_of h.1 _)
  | .cmp op a b, X, e, E, h => by
    conv at h => lhs; whnf
    split at h
    · simp only [Bool.and_eq_true, decide_eq_true_eq] at h
      obtain ⟨⟨⟨h1, h2⟩, h3⟩, h4⟩ := h
      subst h1
      exact dt_cmp (op_dCmp E.toOk _) (sndE a X _ E h3) (sndE b X _ E h4) (marks_of h2 _)
    · cases h
  | .not t, X, e, E, h => by
    conv at h => lhs; whnf
    split at h
    · exact dt_not (sndT t X _ E h)
    · cases h
  | .and a b, X, e, E, h => by
    conv at h => lhs; whnf
    split at h
    · simp only [Bool.and_eq_true] at h
      exact (dw_and (sndT a X _ E h.1) (pw_and1 (sndT b X _ E h.2))).pt
    · simp only [Bool.and_eq_true] at h
      exact (dw_and (sndT a X _ E h.1) (pw_of (sndT b X _ E h.2))).pt
    · cases h
  | .or a b, X, e, E, h => by
    conv at h => lhs; whnf
    split at h
    · simp only [Bool.and_eq_true] at h
      exact (dw_or (sndT a X _ E h.1) (pw_or1 (sndT b X _ E h.2))).pt
    · simp only [Bool.and_eq_true] at h
      exact (dw_or (sndT a X _ E h.1) (pw_of (sndT b X _ E h.2))).pt
    · cases h
theorem sndO : ∀ (r : RO) (X : Cx) (e : Option Expr), Env1 G N C k X → chO G N X.env.scope r e = true → PO X e (upO X.K (wO C r))
  | .none, X, e, E, h => by
    conv at h => lhs; whnf
    split at h
    · exact do_none
    · cases h
  | .some a, X, e, E, h => by
    conv at h => lhs; whnf
    split at h
    · exact do_some (sndE a X _ E h)
    · cases h
theorem sndI : ∀ (r : RI) (X : Cx) (tg e : Expr), Env1 G N C k X → chI G N X.env.scope r tg e = true → PI X tg e (upI X.K (wI C r))
  | .seq a, X, tg, e, E, h => by
    conv at h => lhs; whnf
    exact di_seq (sndE a X _ E h)
  | .enum a, X, tg, e, E, h => by
    conv at h => lhs; whnf
    split at h
    · split at h
      · simp only [Bool.and_eq_true, decide_eq_true_eq] at h
        obtain ⟨⟨⟨h1, h2⟩, h3⟩, h4⟩ := h
        subst h1
        exact di_enum (gl_of h2) (E.bl _ (by decide +kernel)) (sndE a X _ E h4) (star_of h3 [] _)
      · cases h
    · cases h
  | .zip a b, X, tg, e, E, h => by
    conv at h => lhs; whnf
    split at h
    · split at h
      · simp only [Bool.and_eq_true, decide_eq_true_eq] at h
        obtain ⟨⟨⟨⟨⟨h1, h2⟩, h3⟩, h4⟩, h5⟩, h6⟩ := h
        subst h1
        exact di_zip (gl_of h2) (E.bl _ (by decide +kernel)) (sndE a X _ E h5) (sndE b X _ E h6) (star_of h3 _ _) (star_of h4 [] _)
      · cases h
    · cases h
  | .zipS a, X, tg, e, E, h => by
    conv at h => lhs; whnf
    split at h
    · split at h
      · simp only [Bool.and_eq_true, decide_eq_true_eq] at h
        obtain ⟨⟨h1, h2⟩, h3⟩ := h
        subst h1
        exact di_zipS (gl_of h2) (E.bl _ (by decide +kernel)) (sndE a X _ E h3) rfl
      · cases h
    · cases h
  | .rng1 a, X, tg, e, E, h => by
    conv at h => lhs; whnf
    split at h
    · simp only [Bool.and_eq_true, decide_eq_true_eq] at h
      obtain ⟨⟨⟨h1, h2⟩, h3⟩, h4⟩ := h
      subst h1
      exact di_rng1 (gl_of h2) (E.bl _ (by decide +kernel)) (sndE a X _ E h4) (star_of h3 [] _)
    · cases h
  | .rng2 a b, X, tg, e, E, h => by
    conv at h => lhs; whnf
    split at h
    · simp only [Bool.and_eq_true, decide_eq_true_eq] at h
      obtain ⟨⟨⟨⟨⟨h1, h2⟩, h3⟩, h4⟩, h5⟩, h6⟩ := h
      subst h1
      exact di_rng2 (gl_of h2) (E.bl _ (by decide +kernel)) (sndE a X _ E h5) (sndE b X _ E h6) (by rw [star_of h3, star_of h4]; rfl) (star_of h4 [] _)
    · cases h
  | .rng3 a b c, X, tg, e, E, h => by
    conv at h => lhs; whnf
    split at h
    · simp only [Bool.and_eq_true, decide_eq_true_eq] at h
      obtain ⟨⟨⟨⟨⟨⟨⟨h1, h2⟩, h3⟩, h4⟩, h5⟩, h6⟩, h7⟩, h8⟩ := h
      subst h1
      exact di_rng3 (gl_of h2) (E.bl _ (by decide +kernel)) (sndE a X _ E h6) (sndE b X _ E h7) (sndE c X _ E h8) (star_of h3 _ _) (star_of h4 _ _) (star_of h5 [] _)
    · cases h
  | .keys a, X, tg, e, E, h => by
    conv at h => lhs; whnf
    exact di_keys (sndE a X _ E h)
  | .keysF a, X, tg, e, E, h => by
    conv at h => lhs; whnf
    exact di_keysF (sndE a X _ E h)
end
end
noncomputable def nsB (sc : Scope) (tg e : Expr) : Bool := match tg with
  | .Tuple ts _ _ => (match e with
    | .Tuple vs _ _ => !(ts.length == 2 || ts.length == 3) || vs.length != ts.length || (ts.any fun
      | .Name x _ => !decide (sc.names.lookup x = some .local)
      | _ => true)
    | _ => true)
  | .List _ _ => false
  | _ => true
noncomputable def sw3B (N : List Str) (sc : Scope) (p : RP) (tg e : Expr) : Bool := match p, tg, e with
  | .tp [.nm i, .nm j, .nm l], .Tuple [.Name x px, .Name y py, .Name z pz] _ _, .Tuple [u, v, w] _ _ =>
    decide (N[i]? = some x) && decide (N[j]? = some y) && decide (N[l]? = some z) && decide (sc.names.lookup x = some .local) && decide (sc.names.lookup y = some .local) && decide (sc.names.lookup z = some .local)
      && (py.line == px.line) && (pz.line == px.line) && !(x == y) && !(x == z) && !(y == z) && (noStar u && noStar v && noStar w) && !([u, v, w].all (foldedForSure 8)) && !([u, v, w].all (constantsAlone 8))
  | _, _, _ => false
section
variable (G : Glb) (N : List Str)
mutual
noncomputable def chS (sc : Scope) : RS → Stmt → Bool
  | .ret e, st => match st with
    | .Return (some x) _ => chE G N sc e x
    | _ => false
  | .drop e, st => match st with
    | .Expr x _ => noComp x && chE G N sc e x
    | _ => false
  | .asg p e, st => match st with
    | .Assign [tg] x _ => noStar tg && chP N sc (fun _ => true) p tg && (nsB sc tg x || sw3B N sc p tg x) && chE G N sc e x && (noComp x || (match p, e, tg with
      | .nm _, .comp _ _ _ _ _ _, .Name _ _ => true
      | .nm _, .comp2 _ _ _ _ _ _ _ _ _ _, .Name _ _ => true
      | .tp _, _, .Tuple _ _ _ => true
      | _, _, _ => false))
    | _ => false
  | .set o i e, st => match st with
    | .Assign [.Subscript x y _] z _ => noSlice y && noComp z && chE G N sc o x && chE G N sc i y && chE G N sc e z
    | _ => false
  | .ifs t a b, st => match st with
    | .If c xs ys _ => chT G N sc t c && chB sc a xs && chB sc b ys
    | _ => false
  | .loop p it b, st => match st with
    | .For tg iter xs [] _ => noSet iter && chP N sc (fun _ => true) p tg && chI G N sc it tg iter && chB sc b xs
    | _ => false
noncomputable def chB (sc : Scope) : List RS → List Stmt → Bool
  | [], xs => match xs with
    | [] => true
    | _ => false
  | s :: ss, xs => match xs with
    | x :: xs => chS sc s x && chB sc ss xs
    | _ => false
end
end
theorem block_fn {env : Env} (h : env.scope.kind = .function) : env.blockKind = .function := by
  unfold Env.blockKind
  rw [h]
  rfl
theorem fm_lt {α β : Type} {f : α → Option β} {t : α} (hf : f t = none) : ∀ {ts : List α}, t ∈ ts → (ts.filterMap f).length ≠ ts.length
  | a :: ts, h => by
    have hle : (ts.filterMap f).length ≤ ts.length := List.length_filterMap_le f ts
    by_cases e : f a = none
    · rw [List.filterMap_cons_none e, List.length_cons]
      omega
    · obtain ⟨b, e⟩ := Option.ne_none_iff_exists'.mp e
      rcases List.mem_cons.mp h with z | z
      · subst z; rw [hf] at e; cases e
      · have := fm_lt hf z
        rw [List.filterMap_cons_some e, List.length_cons, List.length_cons]
        omega
theorem ns_of {env : Env} {tg e : Expr} (h : nsB env.scope tg e = true) : swappedStores [tg] e env = pure none := by
  cases tg with
  | Tuple ts a b =>
    cases e with
    | Tuple vs c d =>
      unfold swappedStores
      simp only [nsB, Bool.or_eq_true, List.any_eq_true] at h
      simp only [pure_bind]
      rcases h with (h | h) | h
      · rw [if_pos (by simp [h])]
      · rw [if_pos (by simp [h])]
      · obtain ⟨t, ht, hq⟩ := h
        split
        · rfl
        · split
          · rfl
          · rw [if_pos]
            rw [Bool.or_eq_true]
            left
            have : ∀ {a b : Nat}, a ≠ b → (a != b) = true := fun h => by simpa using h
            refine this (fm_lt (t := t) ?_ ht)
            cases t <;> first
              | rfl
              | (rename_i x p
                 have q : env.kindOf x ≠ some .local := by
                   show ¬ env.scope.names.lookup x = some .local
                   simpa using hq
                 simp [q])
    | _ => rfl
  | List _ _ => cases h
  | _ => rfl
theorem sw3_of {env : Env} {x y z : Str} {px py pz pt pt2 : Pos} {u v w : Expr} {k k2 : Nat} (hk : env.scope.kind = .function) (e1 : env.scope.names.lookup x = some .local) (e2 : env.scope.names.lookup y = some .local) (e3 : env.scope.names.lookup z = some .local)
    (l1 : py.line = px.line) (l2 : pz.line = px.line) (n1 : ¬ x = y) (n2 : ¬ x = z) (n3 : ¬ y = z) (s1 : noStar u = true) (s2 : noStar v = true) (s3 : noStar w = true) (c1 : [u, v, w].all (foldedForSure 8) = false) (c2 : [u, v, w].all (constantsAlone 8) = false) :
    swappedStores [.Tuple [.Name x px, .Name y py, .Name z pz] k pt] (.Tuple [u, v, w] k2 pt2) env = pure (some [x, y, z]) := by
  unfold swappedStores
  have hb := block_fn hk
  have e1 : env.kindOf x = some .local := e1
  have e2 : env.kindOf y = some .local := e2
  have e3 : env.kindOf z = some .local := e3
  have hns : ([u, v, w].any fun | .Starred .. => true | _ => false) = false := by
    have one : ∀ a : Expr, noStar a = true → (match a with | .Starred .. => true | _ => false) = false := fun a h => by cases a <;> first | rfl | simp_all [noStar]
    simp only [List.any_cons, List.any_nil, one u s1, one v s2, one w s3, Bool.or_false]
  have hp : (Expr.Name x px).pos = px := rfl
  have hd : [x, y, z].eraseDups = [x, y, z] := by
    have a1 : (y == x) = false := by simpa using fun e => n1 e.symm
    have a2 : (z == x) = false := by simpa using fun e => n2 e.symm
    have a3 : (z == y) = false := by simpa using fun e => n3 e.symm
    simp [List.eraseDups_cons, a1, a2, a3]
  simp only [pure_bind]
  rw [if_neg (by simp [hb])]
  split
  · rename_i hh
    exact absurd (hns.symm.trans hh) Bool.false_ne_true
  have hf : ∀ (f : Expr → Option Str), f (.Name x px) = some x → f (.Name y py) = some y → f (.Name z pz) = some z → List.filterMap f [.Name x px, .Name y py, .Name z pz] = [x, y, z] := fun f a b c => by
    rw [List.filterMap_cons_some a, List.filterMap_cons_some b, List.filterMap_cons_some c]
    rfl
  rw [hf _ (by simp [e1, hp]) (by simp [e2, hp, l1]) (by simp [e3, hp, l2])]
  rw [hd, c1, c2]
  rfl
theorem ps_asg3 {X : Cx} {e : Expr} {te : TE} {i j l : Nat} {x y z : Str} {px py pz pt pos : Pos} {kt : Nat} (hc : X.calm = true) (hN : X.N.Nodup) (hi : X.N[i]? = some x) (hj : X.N[j]? = some y) (hl : X.N[l]? = some z) (nij : i ≠ j) (nil' : i ≠ l) (njl : j ≠ l)
    (hx : X.env.scope.names.lookup x = some .local) (hy : X.env.scope.names.lookup y = some .local) (hz : X.env.scope.names.lookup z = some .local) (he : PE X e te)
    (hs : swapsWithSole [.Tuple [.Name x px, .Name y py, .Name z pz] kt pt] e pos.line X.env = pure false) (hw : swappedStores [.Tuple [.Name x px, .Name y py, .Name z pz] kt pt] e X.env = pure (some [x, y, z])) :
    PS X (.Assign [.Tuple [.Name x px, .Name y py, .Name z pz] kt pt] e pos) (tAsg te (gTupL X.K 3 (L2.gCons (gName i) (L2.gCons (gName j) (L2.gCons (gName l) L2.gNil))))) := by
  refine ⟨fun pins s σ H D I h => ?_⟩
  refine Assign_Tuple_swapped (names := [x, y, z]) ?_ hs hw
  have hrun := he.run pins s σ H _ I h
  refine wpAny_mono hrun (fun v s1 hh => ?_) fun _ _ e => e
  obtain ⟨xv, H1, I1, r1, q1⟩ := hh
  obtain ⟨a, xs, e1, hq, _, q1⟩ := q1
  subst e1
  obtain ⟨v1, r2, e2, q1⟩ := q1
  subst e2
  obtain ⟨v2, r3, e3, q1⟩ := q1
  subst e3
  obtain ⟨v3, r4, e4, q1⟩ := q1
  subst e4
  obtain ⟨e5, q⟩ := q1
  subst e5
  obtain rfl : v = .ref a := r1
  have fin : ∀ its : List Value, Vals [v1, v2, v3] its → ∃ u1 u2 u3, its = [u1, u2, u3] ∧ RelV v1 u1 ∧ RelV v2 u2 ∧ RelV v3 u3 := fun its rv => by
    cases rv with
    | cons p1 rv =>
      cases rv with
      | cons p2 rv =>
        cases rv with
        | cons p3 rv =>
          cases rv
          exact ⟨_, _, _, rfl, p1, p2, p3⟩
  have go : ∀ {u1 u2 u3 : Value}, RelV v1 u1 → RelV v2 u2 → RelV v3 u3 → ∀ h' : Heap, Heap.ExtBut s1.heap.objs.size s1.heap h' → wpAny (model X.prog X.w) X.A (assignInOrder [fun v => bindName X.env z v, fun v => bindName X.env y v, fun v => bindName X.env x v] [u3, u2, u1]) (fun _ s' => SP X pins D .next s') X.xe { s1 with heap := h' } := fun {u1 u2 u3} w1 w2 w3 h' hx' => by
    have I3 := I1.kept (h' := h') (t' := s1.toks) fun b o e => hx' b o (Nat.ne_of_lt (Heap.lt_size e)) e
    refine assignInOrder_cons (wpAny_bindName (store_ok I3 hN hl (.inl hz) w3 (fun s2 I4 => ?_) (.inr hz)))
    refine assignInOrder_cons (wpAny_bindName (store_ok I4 hN hj (.inl hy) w2 (fun s3 I5 => ?_) (.inr hy)))
    refine assignInOrder_cons (wpAny_bindName (store_ok I5 hN hi (.inl hx) w1 (fun s4 I6 => assignInOrder_nil ?_) (.inr hx)))
    rw [List.set_comm _ _ (Ne.symm njl), List.set_comm _ _ (Ne.symm nil'), List.set_comm _ _ (Ne.symm nij)] at I6
    exact ⟨_, H1, I6, q⟩
  rcases hq with hq | hq
  · obtain ⟨its, rv, ht, _⟩ := I1.tuple hq
    obtain ⟨u1, u2, u3, rfl, w1, w2, w3⟩ := fin its rv
    refine unpackItems_tuple (items := #[u1, u2, u3]) (I.ok.hd hc) ht fun h' hx' => ?_
    exact go w1 w2 w3 h' hx'
  · obtain ⟨its, rv, pl, _⟩ := I1.list hq
    obtain ⟨u1, u2, u3, rfl, w1, w2, w3⟩ := fin its rv
    refine unpackItems_list (items := #[u1, u2, u3]) (I.ok.hd hc) pl.isList fun h' hx' => ?_
    exact go w1 w2 w3 h' hx'
theorem ds_sw3 {X : Cx} {G : Glb} {N : List Str} {C : CT} {k : Nat} (E : Env1 G N C k X) (hk : X.env.scope.kind = .function) {p : RP} {tg e : Expr} {pos : Pos} {ga : GE} (h : sw3B N X.env.scope p tg e = true) (he : PE X e (up X.K ga)) : PS X (.Assign [tg] e pos) (upS X.K (gAsg p ga)) := by
  unfold sw3B at h
  split at h
  · simp only [Bool.and_eq_true, decide_eq_true_eq, Bool.not_eq_true', beq_iff_eq, beq_eq_false_iff_ne] at h
    obtain ⟨⟨⟨⟨⟨⟨⟨⟨⟨⟨⟨⟨⟨a1, a2⟩, a3⟩, b1⟩, b2⟩, b3⟩, l1⟩, l2⟩, n1⟩, n2⟩, n3⟩, ⟨s1, s2⟩, s3⟩, c1⟩, c2⟩ := h
    have ne : ∀ {i j : Nat} {x y : Str}, N[i]? = some x → N[j]? = some y → x ≠ y → i ≠ j := fun {i j x y} h1 h2 h3 z => by
      subst z
      rw [h1] at h2
      exact h3 (Option.some.inj h2)
    rw [← E.hN] at a1 a2 a3 ne
    exact ps_imp (ps_asg3 E.calm E.nd a1 a2 a3 (ne a1 a2 n1) (ne a1 a3 n2) (ne a2 a3 n3) b1 b2 b3 he rfl (sw3_of hk b1 b2 b3 l1 l2 n1 n2 n3 s1 s2 s3 c1 c2)) fun D σ H q => asg_of q
  · cases h
theorem lc_mono {K : PySem.W.Frag} {gi : GI} {g : TG} {tt : TT} {te : TE} {vs : List Nat} {σ : L2.St} {H : Hp} {Q Q' : VK} (h : tLc (upI K gi) g tt te vs σ H Q) (i : ∀ v H, Q v H → Q' v H) : tLc (upI K gi) g tt te vs σ H Q' := by
  obtain ⟨δ, HD, Qd, E, R, h, l⟩ := h
  refine ⟨δ, HD, Qd, E, R, h, fun src xs HD' J H' q a b c d P hP => ?_⟩
  obtain ⟨W, w0, hW⟩ := l src xs HD' J H' q a b c d P hP
  exact ⟨W, w0, fun i' m H hw => (hW i' m H hw).imp (fun ⟨x, y⟩ => ⟨x, i _ _ y⟩) id⟩
theorem ps_after {X : Cx} {st : Stmt} {t : TS} {i : Nat} (own : Bool) (h : PS X st t) : PS X st (fun D σ H => t { D with nx := fun σ' H' => if own = true then D.nx σ' H' else ∃ p vs, H' p = some (.lst vs) ∧ ∀ o, D.nx σ' (upd H' p (.frz o (.lst vs))) } σ H) := by
  refine ⟨fun pins s σ H D I q => thn (h.run pins s σ H _ I q) fun f s' hq => ?_⟩
  cases f with
  | next =>
    obtain ⟨σ', H', I', q'⟩ := hq
    dsimp only at q'
    split at q'
    · exact ⟨σ', H', I', q'⟩
    · obtain ⟨p, vs, hp, q'⟩ := q'
      obtain ⟨o, I1⟩ := Inv.lock I' hp trivial
      exact ⟨σ', _, I1, q' o⟩
  | ret v => exact hq
  | brk => exact hq
  | cont => exact hq
section
variable {G : Glb} {N : List Str} {C : CT} {k : Nat}
noncomputable def upSet (K : PySem.W.Frag) : V → V → V → Hp → (Hp → Prop) → Prop := fun o i v H Q => ∃ do' di dx HD Qd, DatV K H o do' ∧ DatV K H i di ∧ DatV K H v dx ∧ RepH K H HD ∧ dSet do' di dx HD Qd ∧ ∀ HD' H', Qd HD' → RepH K H' HD' → Frm H HD H' HD' → Q H'
theorem set_set {X : Cx} : PSet X (upSet X.K) := by
  intro pins s σ H o i v ov iv u Q I ro ri rv h
  obtain ⟨do', di, dx, HD, Qd, a, b, c, R, h, l⟩ := h
  exact set_d I ro ri rv a b c R h l
theorem ds_set {X : Cx} {o i e : Expr} {go gi ge : GE} {p1 p2 : Pos} (ho : PE X o (up X.K go)) (hi : PE X i (up X.K gi)) (he : PE X e (up X.K ge)) (hs : noSlice i = true) (hc : noComp e = true) :
    PS X (.Assign [.Subscript o i p1] e p2) (upS X.K (gSetS go gi ge)) :=
  ps_imp (ps_asg he (pg_sub ho hi set_set (fun v => by cases i <;> first | rfl | cases hs)) (show swapsWith e (some (.Subscript o i p1)) p2.line X.env = pure false from swaps_of hc _ _ _) (by rfl) rfl) fun D σ H ⟨δ, HD, Dd, E, R, h, l⟩ => by
    refine ⟨δ, HD, _, E, R, h, fun d HD1 v H1 h1 d1 R1 f1 => ?_⟩
    refine ⟨δ, HD1, _, E.ext f1.1, R1, h1, fun d2 HD2 v2 H2 h2 dd2 R2 f2 => ?_⟩
    refine ⟨δ, HD2, _, E.ext (f1.1.trans f2.1), R2, h2, fun d3 HD3 v3 H3 h3 dd3 R3 f3 => ?_⟩
    refine ⟨d2, d3, d, HD3, _, dd2.ext f3.1, dd3, d1.ext (f2.1.trans f3.1), R3, h3, fun HD4 H4 h4 R4 f4 => ?_⟩
    have fA := f1.trans (f2.trans (f3.trans f4))
    exact l.nx _ _ _ _ h4 (E.ext fA.1) R4 fA
theorem ds_asgC {X : Cx} (E : Env1 G N C k X) (hk : X.env.scope.kind = .function) {i : Nat} {own : Bool} {vs : List Nat} {p : RP} {it : RI} {ts : RT} {x : RE} {y : Str} {py pos : Pos} {e : Expr} (hi : X.N[i]? = some y) (hg : PG X (.Name y py) (gP X.K (.nm i)))
    (h : chE G N X.env.scope (.comp own vs p it ts x) e = true) : PS X (.Assign [.Name y py] e pos) (upS X.K (gAsg (.nm i) (wE C (.comp own vs p it ts x)))) := by
  have he := sndE _ X e E h
  conv at h => lhs; whnf
  split at h
  rotate_left
  · cases h
  rename_i elt tg iter ifs s2 p2
  by_cases hb : (X.env.scope.names.lookup y = some .local ∧ (py.line == p2.line) = true ∧ (s2.names.any fun (n, k) => n == y && (k == .local || k == .cell)) = false)
  · obtain ⟨b1, b2, b3⟩ := hb
    simp only [Bool.and_eq_true] at h
    obtain ⟨⟨⟨⟨⟨⟨h1, h2⟩, h3⟩, h4⟩, h5⟩, h6⟩, h7⟩ := h
    have ht : ∀ (s : Shared) (H : Hp) (C' : Addr) (cl : List (Str × Addr)) (fp : List Addr), PTs (X.blk s H s2 (compEnvC s2 cl C' X.env) fp) ifs (upT X.K (wT C ts)) := fun s H C' cl fp => by
      have Eb := E.blk s H s2 C' cl fp
      split at h6
      · cases ts <;> first
          | exact ⟨fun _ _ _ _ _ I h => pts_nil.run _ _ _ _ _ I (yes_of h)⟩
          | cases h6
      · exact pts_one (sndT ts _ _ Eb h6)
      · cases h6
    have q := ps_after (i := i) own (ps_setLc (i := i) (y := y) (py := py) (elt := elt) (tg := tg) (iter := iter) (ifs := ifs) (pos := p2) (spos := pos) (wi := upI X.K (wI C it)) (g := gP X.K p) (tt := upT X.K (wT C ts)) (te := up X.K (wE C x)) E.calm E.nd hi b1
      (sw_true hk b1 b2 b3) (sndI it X tg iter E h5) (blkOk_by (N := X.N) (sc := X.env.scope) (scope := s2) (own := ownOf N vs) (by rw [E.hN]; exact h3))
      (fun s H C' cl fp => sndP (X := X.blk s H s2 (compEnvC s2 cl C' X.env) fp) (N := N) E.nd E.hN E.calm rfl (fun _ z => z) p tg h4)
      ht (fun s H C' cl fp => sndE x _ elt (E.blk s H s2 C' cl fp) h7) (fun y => fold_of h1 _ y))
    rw [own_snd] at q
    refine ps_imp q fun D σ H hu => ?_
    have h8 := asg_of hu
    refine lc_mono (comp_read (sub_of h2) h8) fun v H' hq => ?_
    dsimp only at hq ⊢
    show if own = true then D.nx (σ.set i (some v)) H' else _
    split at hq
    · rename_i ho
      rw [if_pos ho]
      exact hq
    · rename_i ho
      rw [if_neg ho]
      obtain ⟨pp, ws, rfl, a, b⟩ := hq
      exact ⟨pp, ws, a, b⟩
  · refine ds_asg he hg ?_ rfl rfl
    show swapsWith (.ListComp elt [⟨tg, iter, ifs, 0⟩] s2 p2) (some (.Name y py)) pos.line X.env = pure false
    have e1 : X.env.kindOf y = X.env.scope.names.lookup y := rfl
    unfold swapsWith
    simp only [block_fn hk, e1, pure_bind]
    have : (X.env.scope.names.lookup y == some .local && py.line == (Expr.ListComp elt [⟨tg, iter, ifs, 0⟩] s2 p2).pos.line && !(s2.names.any fun (n, k) => n == y && (k == .local || k == .cell))) = false := by
      apply Bool.eq_false_iff.mpr
      intro hh
      simp only [Bool.and_eq_true, Bool.not_eq_true'] at hh
      exact hb ⟨by simpa using hh.1.1, hh.1.2, hh.2⟩
    simp only [beq_self_eq_true, Bool.true_and, this]
theorem lc2_mono {K : PySem.W.Frag} {gi : GI} {wi1 : TI} {g g1 : TG} {tt tt1 : TT} {te : TE} {vs vs1 : List Nat} {σ : L2.St} {H : Hp} {Q Q' : VK} (h : tLc2 (upI K gi) g tt wi1 g1 tt1 te vs vs1 σ H Q) (i : ∀ v H, Q v H → Q' v H) : tLc2 (upI K gi) g tt wi1 g1 tt1 te vs vs1 σ H Q' := by
  obtain ⟨δ, HD, Qd, E, R, h, l⟩ := h
  refine ⟨δ, HD, Qd, E, R, h, fun src xs HD' J H' q a b c d P hP => ?_⟩
  obtain ⟨W, w0, hW⟩ := l src xs HD' J H' q a b c d P hP
  exact ⟨W, w0, fun i' m H hw => (hW i' m H hw).imp (fun ⟨x, y⟩ => ⟨x, i _ _ y⟩) id⟩
theorem ds_asgC2 {X : Cx} (E : Env1 G N C k X) (hk : X.env.scope.kind = .function) {i : Nat} {own : Bool} {vs vs1 : List Nat} {p p1 : RP} {it it1 : RI} {ts ts1 : RT} {x : RE} {y : Str} {py pos : Pos} {e : Expr} (hi : X.N[i]? = some y) (hg : PG X (.Name y py) (gP X.K (.nm i)))
    (h : chE G N X.env.scope (.comp2 own vs vs1 p it ts p1 it1 ts1 x) e = true) : PS X (.Assign [.Name y py] e pos) (upS X.K (gAsg (.nm i) (wE C (.comp2 own vs vs1 p it ts p1 it1 ts1 x)))) := by
  have he := sndE _ X e E h
  conv at h => lhs; whnf
  split at h
  rotate_left
  · cases h
  rename_i elt tg iter ifs tg1 iter1 ifs1 s2 p2
  by_cases hb : (X.env.scope.names.lookup y = some .local ∧ (py.line == p2.line) = true ∧ (s2.names.any fun (n, k) => n == y && (k == .local || k == .cell)) = false)
  · obtain ⟨b1, b2, b3⟩ := hb
    simp only [Bool.and_eq_true] at h
    obtain ⟨⟨⟨⟨⟨⟨⟨⟨⟨⟨h1, h1'⟩, h2⟩, h2'⟩, h2''⟩, h3⟩, h4, h4'⟩, h5, h5'⟩, h6⟩, h6'⟩, h7⟩ := h
    have ht : ∀ (s : Shared) (H : Hp) (C' : Addr) (cl : List (Str × Addr)) (fp : List Addr), PTs (X.blk s H s2 (compEnvC s2 cl C' X.env) fp) ifs (upT X.K (wT C ts)) := fun s H C' cl fp => by
      have Eb := E.blk s H s2 C' cl fp
      split at h6
      · cases ts <;> first
          | exact ⟨fun _ _ _ _ _ I h => pts_nil.run _ _ _ _ _ I (yes_of h)⟩
          | cases h6
      · exact pts_one (sndT ts _ _ Eb h6)
      · cases h6
    have ht1 : ∀ (s : Shared) (H : Hp) (C' : Addr) (cl : List (Str × Addr)) (fp : List Addr), PTs (X.blk s H s2 (compEnvC s2 cl C' X.env) fp) ifs1 (upT X.K (wT C ts1)) := fun s H C' cl fp => by
      have Eb := E.blk s H s2 C' cl fp
      split at h6'
      · cases ts1 <;> first
          | exact ⟨fun _ _ _ _ _ I h => pts_nil.run _ _ _ _ _ I (yes_of h)⟩
          | cases h6'
      · exact pts_one (sndT ts1 _ _ Eb h6')
      · cases h6'
    have q := ps_after (i := i) own (ps_setLc2 (i := i) (y := y) (py := py) (elt := elt) (tg := tg) (iter := iter) (ifs := ifs) (tg1 := tg1) (iter1 := iter1) (ifs1 := ifs1) (vs1 := vs1) (pos := p2) (spos := pos) (wi := upI X.K (wI C it)) (g := gP X.K p) (tt := upT X.K (wT C ts)) (wi1 := upI X.K (wI C it1)) (g1 := gP X.K p1) (tt1 := upT X.K (wT C ts1)) (te := up X.K (wE C x)) E.calm E.nd hi b1
      (sw_true hk b1 b2 b3) (sndI it X tg iter E h5) (blkOk_by (N := X.N) (sc := X.env.scope) (scope := s2) (own := ownOf N vs) (by rw [E.hN]; exact h3))
      (by rw [own_snd]; exact sub_of h2'')
      (fun s H C' cl fp => sndP (X := X.blk s H s2 (compEnvC s2 cl C' X.env) fp) (N := N) E.nd E.hN E.calm rfl (fun _ z => z) p tg h4)
      ht (fun s H C' cl fp => sndI it1 _ tg1 iter1 (E.blk s H s2 C' cl fp) h5')
      (fun s H C' cl fp => sndP (X := X.blk s H s2 (compEnvC s2 cl C' X.env) fp) (N := N) E.nd E.hN E.calm rfl (fun _ z => z) p1 tg1 h4')
      ht1 (fun s H C' cl fp => sndE x _ elt (E.blk s H s2 C' cl fp) h7) (fun y => fold_of h1 _ y) (fun env y => fold_of h1' env y))
    rw [own_snd] at q
    refine ps_imp q fun D σ H hu => ?_
    have h8 := asg_of hu
    refine lc2_mono (comp2_read (sub_of h2) (sub_of h2') h8) fun v H' hq => ?_
    dsimp only at hq ⊢
    show if own = true then D.nx (σ.set i (some v)) H' else _
    split at hq
    · rename_i ho
      rw [if_pos ho]
      exact hq
    · rename_i ho
      rw [if_neg ho]
      obtain ⟨pp, ws, rfl, a, b⟩ := hq
      exact ⟨pp, ws, a, b⟩
  · refine ds_asg he hg ?_ rfl rfl
    show swapsWith (.ListComp elt [⟨tg, iter, ifs, 0⟩, ⟨tg1, iter1, ifs1, 0⟩] s2 p2) (some (.Name y py)) pos.line X.env = pure false
    have e1 : X.env.kindOf y = X.env.scope.names.lookup y := rfl
    unfold swapsWith
    simp only [block_fn hk, e1, pure_bind]
    have : (X.env.scope.names.lookup y == some .local && py.line == (Expr.ListComp elt [⟨tg, iter, ifs, 0⟩, ⟨tg1, iter1, ifs1, 0⟩] s2 p2).pos.line && !(s2.names.any fun (n, k) => n == y && (k == .local || k == .cell))) = false := by
      apply Bool.eq_false_iff.mpr
      intro hh
      simp only [Bool.and_eq_true, Bool.not_eq_true'] at hh
      exact hb ⟨by simpa using hh.1.1, hh.1.2, hh.2⟩
    simp only [beq_self_eq_true, Bool.true_and, this]
mutual
theorem sndS : ∀ (r : RS) (X : Cx) (st : Stmt), Env1 G N C k X → (∀ x, X.fn x = true) → X.env.scope.kind = .function → chS G N X.env.scope r st = true → PS X st (upS X.K (wS C r))
  | .ret e, X, st, E, hf, hk, h => by
    conv at h => lhs; whnf
    split at h
    · exact ds_ret (sndE e X _ E h)
    · cases h
  | .drop e, X, st, E, hf, hk, h => by
    conv at h => lhs; whnf
    split at h
    · simp only [Bool.and_eq_true] at h
      exact ds_drop (sndE e X _ E h.2) (swaps_of h.1 _ _ _)
    · cases h
  | .asg p e, X, st, E, hf, hk, h => by
    conv at h => lhs; whnf
    split at h
    · rename_i tg x pos
      simp only [Bool.and_eq_true, Bool.or_eq_true] at h
      obtain ⟨⟨⟨⟨h1, h2⟩, h3⟩, h4⟩, h5⟩ := h
      have hg := sndP (X := X) (N := N) E.nd E.hN E.calm rfl (fun x _ => hf x) p tg h2
      have ha : (assignEach [tg] X.env).map (·.2) = [assign tg X.env] := by cases tg <;> first | rfl | cases h1
      rcases h3 with h3 | h3
      rotate_left
      · exact ds_sw3 E hk h3 (sndE e X _ E h4)
      rcases h5 with h5 | h5
      · exact ds_asg (sndE e X _ E h4) hg (swaps_of h5 _ _ _) (ns_of h3) ha
      · cases p with
        | nm i =>
          cases e with
          | comp own vs p2 it ts x2 =>
            cases tg with
            | Name y py =>
              unfold chP at h2
              simp only [Bool.and_eq_true, decide_eq_true_eq] at h2
              exact ds_asgC E hk (by rw [E.hN]; exact h2.1.1) hg h4
            | _ => simp at h5
          | comp2 own vs vs1 p2 it ts p3 it1 ts1 x2 =>
            cases tg with
            | Name y py =>
              unfold chP at h2
              simp only [Bool.and_eq_true, decide_eq_true_eq] at h2
              exact ds_asgC2 E hk (by rw [E.hN]; exact h2.1.1) hg h4
            | _ => simp at h5
          | _ => simp at h5
        | tp ps =>
          cases tg with
          | Tuple ts kk pt =>
            refine ds_asg (sndE e X _ E h4) hg ?_ (ns_of h3) ha
            show swapsWith x (some (.Tuple ts kk pt)) pos.line X.env = pure false
            unfold swapsWith
            cases x <;> rfl
          | _ => simp at h5
    · cases h
  | .set o i e, X, st, E, hf, hk, h => by
    conv at h => lhs; whnf
    split at h
    · rename_i x y p1 z p2
      simp only [Bool.and_eq_true] at h
      obtain ⟨⟨⟨⟨h1, h2⟩, h3⟩, h4⟩, h5⟩ := h
      exact ds_set (sndE o X _ E h3) (sndE i X _ E h4) (sndE e X _ E h5) h1 h2
    · cases h
  | .ifs t a b, X, st, E, hf, hk, h => by
    conv at h => lhs; whnf
    split at h
    · simp only [Bool.and_eq_true] at h
      exact ds_if (sndT t X _ E h.1.1) (sndB a X _ E hf hk h.1.2) (sndB b X _ E hf hk h.2)
    · cases h
  | .loop p it b, X, st, E, hf, hk, h => by
    conv at h => lhs; whnf
    split at h
    · simp only [Bool.and_eq_true] at h
      obtain ⟨⟨⟨h1, h2⟩, h3⟩, h4⟩ := h
      exact ds_for E.nox E.calm (sndI it X _ _ E h3) (sndP (X := X) (N := N) E.nd E.hN E.calm rfl (fun x _ => hf x) p _ h2) (sndB b X _ E hf hk h4) (fun x => fold_of h1 _ x)
    · cases h
theorem sndB : ∀ (r : List RS) (X : Cx) (st : List Stmt), Env1 G N C k X → (∀ x, X.fn x = true) → X.env.scope.kind = .function → chB G N X.env.scope r st = true → PSs X st (upS X.K (wB C r))
  | [], X, st, E, hf, hk, h => by
    unfold chB at h
    split at h
    · exact dss_nil
    · cases h
  | s :: ss, X, st, E, hf, hk, h => by
    unfold chB at h
    split at h
    · simp only [Bool.and_eq_true] at h
      exact dss_cons (sndS s X _ E hf hk h.1) (sndB ss X _ E hf hk h.2)
    · cases h
end
end
section
variable (G : Glb) (N : List Str)
noncomputable def chC (sc : Scope) (f : Nat) (as : RA) : Expr → Bool
  | .Call (.Name y _) (e :: es) [] _ => glB sc y && nmB y && funB G f y (es.length + 1) && (e :: es).all noStar && chA G N sc as (e :: es)
  | _ => false
noncomputable def chX (sc : Scope) : RX → List Stmt → Bool
  | .no, _ => true
  | .raise c f as, b => match b with
    | .Raise (some (.Call (.Name y _) es [] _)) none _ :: _ => decide (y = c) && decide (G.excs.lookup c = some f) && glB sc y && nmB y && (match f, as, es with
      | none, .nil, [] => true
      | some _, .cons _ .nil, [_] => chA G N sc as es && es.all noStar
      | _, _, _ => false)
    | _ => false
  | .run s r, b => match b with
    | st :: rest => chS G N sc s st && chX sc r rest
    | _ => false
  | .ifT t r, b => match b with
    | .If e x _ _ :: _ => chT G N sc t e && chX sc r x
    | _ => false
  | .ifF t r, b => match b with
    | .If e _ x _ :: _ => chT G N sc t e && chX sc r x
    | _ => false
  | .callS f as, b => match b with
    | .Expr e _ :: _ => chC G N sc f as e
    | .For _ (.Call (.Name en _) [e] [] _) _ [] _ :: _ => decide (en = "enumerate") && glB sc en && noStar e && chC G N sc f as e
    | .Assign [.Name z _] (.List [e] _) _ :: _ => chC G N sc f as e && noStar e && locB sc z && decide (N[N.idxOf z]? = some z)
    | _ => false
  | .callA f as, b => match b with
    | .Assign [.Name z _] e _ :: _ => chC G N sc f as e && locB sc z && decide (N[N.idxOf z]? = some z)
    | _ => false
  | .ret f as, b => match b with
    | .Return (some e) _ :: _ => chC G N sc f as e
    | _ => false
  | .alt x y, b => chX sc x b && chX sc y b
  | .loop p it bd r, b => match b with
    | .For tg iter xs [] _ :: _ => noSet iter && chP N sc (fun _ => true) p tg && chI G N sc it tg iter && chB G N sc bd xs && chX sc r xs
    | _ => false
end
noncomputable def ExcAt (P : Program) (K : PySem.W.Frag) (mg : Str → Option Value) (c : Str) : Option Str → Prop
  | none => ∃ Ca, mg c = some (.ref Ca) ∧ PySem.W.keepIn K (.ref Ca) = true ∧ PySem.W.excIn K Ca [.type "ValueError", .type "Exception", .type "BaseException", .type "object"] "ValueError.__new__" = true ∧ PySem.W.subIn K (.ref Ca) (.type "BaseException") = some true ∧ PySem.W.typeIn K (.ref Ca) = some (.type "type")
  | some f => ∃ Ca fI st se x, mg c = some (.ref Ca) ∧ SupI P K Ca fI f st se x
section
variable {X : Cx} {E : XK} {G : Glb} {N : List Str} {C : CT} {k : Nat}
theorem PA.nox' {es : List Expr} {t : TA} (h : PA X.nox es t) : PA X es t := ⟨fun pos pins s σ H Q I hw =>
  wpAny_mono (h.run pos pins s σ H Q (I.wish _) hw) (fun _ _ ⟨v, H', I', r, q⟩ => ⟨v, H', I'.unwish, r, q⟩) fun _ _ z => False.elim z⟩
theorem PI.nox' {tg e : Expr} {wi : TI} (h : PI X.nox tg e wi) : PI X tg e wi := ⟨fun pins s σ H R I hw =>
  wpAny_mono (h.run pins s σ H R (I.wish _) hw) (fun _ _ h1 => wpAny_mono h1 (fun _ _ ⟨it, fp, tn, J, H', e, I', T, st, fk, q⟩ => ⟨it, fp, tn, J, H', e, I'.unwish, T, st, fk, q⟩) fun _ _ z => False.elim z) fun _ _ z => False.elim z⟩
end
structure FnB where
  np : Nat
  ns : Nat
  body : List RS
  /-- the def's name, where it makes a lambda by which it sorts -/
  lam : Option Str
noncomputable def tabKey (x : Str) : Str := ("tab " : Str) ++ x
noncomputable def stOf (A : Str → Option Addr) : Option Str → Option (Addr × Str)
  | none => none
  | some x => (A (tabKey x)).map fun P => (P, (x ++ ".<locals>.") ++ "<lambda>")
noncomputable def tabsOf (T : List FnB) (A : Str → Option Addr) : List (Addr × Str) := T.filterMap fun b => stOf A b.lam
noncomputable def dStart (ns : Nat) (ds : List DV) : DEnv := ds.map some ++ List.replicate (ns - ds.length) none
noncomputable def dEnds (Q : DQ) : DEnds := ⟨fun _ HD => Q (.d .none) HD, Q, fun _ _ => False, fun _ _ => False⟩
noncomputable def wFn (T : List FnB) (A : Str → Option Addr) : Nat → Nat → GC
  | 0, _ => fun _ _ _ => False
  | n + 1, f => fun ds HD Q => match T[f]? with
    | some b => ds.length = b.np ∧ wB ⟨wFn T A n, A, fun _ _ _ _ => False, none, stOf A b.lam, tabsOf T A⟩ b.body (dEnds Q) (dStart b.ns ds) HD
    | none => False
noncomputable def wCall (T : List FnB) (A : Str → Option Addr) (n : Nat) : CT := ⟨wFn T A n, A, fun _ _ _ _ => False, none, none, tabsOf T A⟩
noncomputable def wCallS (T : List FnB) (A : Str → Option Addr) (n : Nat) (x : Option Str) : CT := ⟨wFn T A n, A, fun _ _ _ _ => False, none, stOf A x, tabsOf T A⟩
theorem wCall_at {T : List FnB} {A : Str → Option Addr} {n f : Nat} {b : FnB} {ds : List DV} {HD : HDt} {Q : DQ} (hT : T[f]? = some b) : (wCall T A (n + 1)) f ds HD Q = (ds.length = b.np ∧ wB (wCallS T A n b.lam) b.body (dEnds Q) (dStart b.ns ds) HD) := by
  show (match T[f]? with
    | some b => ds.length = b.np ∧ wB ⟨wFn T A n, A, fun _ _ _ _ => False, none, stOf A b.lam, tabsOf T A⟩ b.body (dEnds Q) (dStart b.ns ds) HD
    | none => False) = _
  rw [hT]
  rfl
theorem forIn_yield {m : Type → Type} [Monad m] [LawfulMonad m] {α β : Type} {f : α → β → m (ForInStep β)} (g : β → α → β) (I : List α → β → Prop) : ∀ {l : List α} {s : β}, (∀ x r s, I (x :: r) s → f x s = pure (.yield (g s x)) ∧ I r (g s x)) → I l s → forIn l s f = pure (l.foldl g s)
  | [], s, _, _ => by simp
  | x :: l, s, h, i => by
    obtain ⟨e, i'⟩ := h x l s i
    rw [List.forIn_cons, e, pure_bind, List.foldl_cons]
    exact forIn_yield g I h i'
theorem lookup_none : ∀ {L : List (Str × Value)} {x : Str}, x ∉ L.map (·.1) → L.lookup x = none
  | [], x, _ => rfl
  | (y, v) :: L, x, h => by
    rw [List.map_cons, List.mem_cons, not_or] at h
    have : (x == y) = false := beq_eq_false_iff_ne.mpr h.1
    rw [List.lookup_cons, this]
    exact lookup_none h.2
theorem bindKw {fd : FuncData} {us ws : List Value} {ps ks : List Str} (h1 : fd.params.posonlyargs = []) (h2 : fd.params.args.map (·.arg) = ps) (h3 : fd.params.vararg = none) (h4 : fd.params.kwonlyargs = []) (h5 : fd.params.kwarg = none) (h6 : fd.defaults = .none)
    (nd : ps.Nodup) (ndk : ks.Nodup) (hl : ps.length = us.length) (hk : ks.length = ws.length) (sub : ∀ k ∈ ks, k ∈ ps) (at' : ∀ (i : Nat) (x : Str) (u : Value), ps[i]? = some x → us[i]? = some u → (ks.zip ws).lookup x = some u) : bindArgs fd ⟨[], ks.zip ws⟩ = pure (ps.zip us) := by
  unfold bindArgs
  have e1 : seqItems? (.none : Value) = pure none := rfl
  have km : (ks.zip ws).map (·.1) = ks := List.map_fst_zip (by omega)
  simp only [h1, h2, h3, h4, h5, h6, e1, List.map_nil, List.nil_append, List.zip_nil_right, Option.isNone_none, Bool.and_true, List.append_nil]
  rw [forIn_yield (fun (s : List (Str × Value) × List (Str × Value)) x => (s.1 ++ [x], s.2)) (fun l s => (∀ p ∈ l, p.1 ∈ ps) ∧ (s.1.map (·.1) ++ l.map (·.1)).Nodup) (fun x r s ⟨i1, i2⟩ => by
    have c1 : (ps.contains x.1 || ([] : List Str).contains x.1) = true := by
      rw [List.contains_iff_mem.mpr (i1 x List.mem_cons_self)]
      rfl
    have c2 : s.1.lookup x.1 = none := lookup_none fun hm => (List.nodup_append.mp i2).2.2 _ hm _ (by simp) rfl
    refine ⟨?_, fun p hp => i1 p (List.mem_cons_of_mem _ hp), by simpa using i2⟩
    rw [if_pos c1, c2]
    rfl) ⟨fun p hp => by
    have : p.1 ∈ (ks.zip ws).map (·.1) := List.mem_map.mpr ⟨p, hp, rfl⟩
    rw [km] at this
    exact sub _ this, by rw [km]; simpa using ndk⟩]
  have fold : ∀ (l : List (Str × Value)) (s : List (Str × Value) × List (Str × Value)), l.foldl (fun s x => (s.1 ++ [x], s.2)) s = (s.1 ++ l, s.2) := by
    intro l
    induction l with
    | nil => intro s; simp
    | cons x l ih => intro s; rw [List.foldl_cons, ih]; simp
  have all : ∀ x ∈ ps, ((ks.zip ws).lookup x).isSome = true := fun x hx => by
    obtain ⟨i, hi⟩ := List.getElem?_of_mem hx
    have hi2 : i < us.length := by have := (List.getElem?_eq_some_iff.mp hi).1; omega
    rw [at' i x us[i] hi (List.getElem?_eq_getElem hi2)]
    rfl
  simp only [pure_bind, fold, List.nil_append]
  have h7 : (decide (([] : List Value).length > ps.length)) = false := decide_eq_false (by simp)
  have h8 : List.filter (fun n => (List.lookup n (ks.zip ws)).isNone) (List.take ps.length ps) = [] := by
    rw [List.take_length]
    refine List.filter_eq_nil_iff.mpr fun x hx => ?_
    have := all x hx
    simp only [Option.isNone_iff_eq_none]
    intro e
    rw [e] at this
    cases this
  have h9 := zip_self hl nd (ks.zip ws) at'
  have e2 : ((none : Option (Array Value)).getD #[]).toList = [] := rfl
  rw [if_neg (by rw [h7]; exact Bool.false_ne_true)]
  simp only [e2, List.drop_nil, List.length_nil, Nat.sub_zero, h8, List.isEmpty_nil, Bool.not_true, Bool.false_eq_true, if_false, List.zip_nil_right, List.forIn_nil, pure_bind]
  rw [h9]
end DL
namespace DL
open PySem PySem.Spec PyProof.Rows L2 GenW
noncomputable def isAsg : RS → Bool
  | .asg _ _ => true
  | _ => false
noncomputable def gnB (G : Glb) (N : List Str) (sc : Scope) (pre : List RS) (vs : List Nat) (q : RP) (it : RI) (x : RE) (b : List Stmt) : Bool := match b.reverse with
  | .For tg iter [.Expr (.Yield (some ye) _) _] [] _ :: r => chB G N sc pre r.reverse && pre.all isAsg && noSet iter && chP N sc (fun _ => true) q tg && chI G N sc it tg iter && chE G N sc x ye && (slotsP q).all fun i => vs.contains i
  | _ => false
noncomputable def tGPre (K : PySem.W.Frag) (C : CT) : List RS → TGn → TGn
  | [], u => u
  | s :: ss, u => tGThen (tPlain (upS K (wS C s))) (tGPre K C ss u)
theorem gss_pre {X : Cx} {G : Glb} {N : List Str} {C : CT} {k : Nat} {rest : List Stmt} {u : TGn} (E1 : Env1 G N C k X.nox) (hf : ∀ x, X.fn x = true) (hk : X.env.scope.kind = .function) (hr : GSs X rest u) : ∀ (r : List RS) (l : List Stmt), chB G N X.env.scope r l = true → GSs X (l ++ rest) (tGPre X.K C r u)
  | [], l, h => by
    unfold chB at h
    split at h
    · exact hr
    · cases h
  | s :: ss, l, h => by
    unfold chB at h
    split at h
    · simp only [Bool.and_eq_true] at h
      exact gss_cons (gs_ps (PS.nox' (sndS s X.nox _ E1 hf hk h.1))) (gss_pre E1 hf hk hr ss _ h.2)
    · cases h
theorem gpre_of {K : PySem.W.Frag} {C : CT} {u : TGn} {Dg : GEnds} {x : RE} {Qd : DQ} {H0 : Hp} {HD0 : HDt} (k : ∀ δ HD' σ H', EnvR K H' σ δ → RepH K H' HD' → wE C x δ HD' Qd → Frm H0 HD0 H' HD' → u Dg [] σ H') :
    ∀ (pre : List RS), pre.all isAsg = true → ∀ (δ : DEnv) (HD : HDt) (σ : L2.St) (H : Hp), EnvR K H σ δ → RepH K H HD → wB C (pre ++ [.ret x]) (dEnds Qd) δ HD → Frm H0 HD0 H HD → tGPre K C pre u Dg [] σ H
  | [], _, δ, HD, σ, H, E, R, h, fr => k δ HD σ H E R h fr
  | s :: ss, c, δ, HD, σ, H, E, R, h, fr => by
    rw [List.all_cons, Bool.and_eq_true] at c
    cases s with
    | asg p e =>
      refine ⟨δ, HD, ⟨wB C (ss ++ [.ret x]) (dEnds Qd), fun _ _ => False, fun _ _ => False, fun _ _ => False⟩, E, R, ?_, fun δ1 HD1 σ1 H1 q1 E1 R1 f1 => ?_, fun _ _ _ _ z => z.elim, fun _ _ _ _ z => z.elim, fun _ _ _ _ z => z.elim⟩
      · exact h
      · exact gpre_of k ss c.2 δ1 HD1 σ1 H1 E1 R1 q1 (fr.trans f1)
    | _ => cases c.1
theorem wipe_at {σ : L2.St} : ∀ {vs : List Nat} {i : Nat} {v : V}, (wipe σ vs)[i]? = some (some v) → σ[i]? = some (some v)
  | [], _, _, h => h
  | w :: ws, i, v, h => by
    have h : ((wipe σ ws).set w none)[i]? = some (some v) := h
    by_cases z : w = i
    · subst z
      by_cases hl : w < (wipe σ ws).length
      · rw [List.getElem?_set_self hl] at h; cases h
      · rw [List.getElem?_eq_none (by simp; omega)] at h; cases h
    · rw [List.getElem?_set_ne z] at h
      exact wipe_at h
theorem wipe_len {σ : L2.St} : ∀ {vs : List Nat}, (wipe σ vs).length = σ.length
  | [] => rfl
  | w :: ws => by
    show ((wipe σ ws).set w none).length = _
    rw [List.length_set, wipe_len]
theorem unw_env {K : PySem.W.Frag} {H : Hp} {σ : L2.St} {δ : DEnv} {vs : List Nat} (E : EnvR K H (wipe σ vs) δ) : EnvR K H σ δ :=
  ⟨by rw [E.len, wipe_len], fun i x h => let ⟨v, a, b⟩ := E.at' i x h; ⟨v, wipe_at a, b⟩⟩
theorem gfor_of {K : PySem.W.Frag} {C : CT} {vs : List Nat} {q : RP} {it : RI} {e : RE} {Qd : DQ} {Q : List V → Hp → Prop} {Dg : GEnds} {H0 H : Hp} {HD0 HD : HDt} {δ : DEnv} {σ : L2.St} (hv : ∀ i ∈ slotsP q, i ∈ vs) (hD : ∀ ys σ H, Q ys H → Dg.nx ys σ H)
    (l : LkG K H0 HD0 Qd Q) (E : EnvR K H σ δ) (R : RepH K H HD) (h : wE C (.comp false vs q it .yes e) δ HD Qd) (fr0 : Frm H0 HD0 H HD) :
    tGThen (tGFor (upI K (wI C it)) (gP K q) (tGThen (tGYield (up K (wE C e))) tG0)) tG0 Dg [] σ H := by
  have h : gComp false vs (wI C it) (bindP q) gYes (wE C e) δ HD Qd := h
  refine ⟨δ, HD, _, E, R, h, fun src xs HD1 J H1 hq it so R1 fr => ?_⟩
  obtain ⟨hsz, hq⟩ := hq
  refine ⟨fun i m ys σ' H' => ∃ HD' acc, wipe σ' vs = wipe σ vs ∧ RepH K H' HD' ∧ DatAll K H' ys acc ∧ compW src (bindP q) gYes (wE C e) (dwipe δ vs) xs (xs.drop i) HD' (fun zs HD3 => mkL false (acc ++ zs) HD3 Qd) ∧ Frm H1 HD1 H' HD' ∧ ys.length ≤ i ∧ i ≤ xs.length ∧ m = xs.length - i,
    ⟨xs.length, HD1, [], rfl, R1, .nil, hq, Frm.refl, Nat.le_refl _, Nat.zero_le _, by simp⟩, ?_⟩
  rintro i m ys σ2 H2 ⟨HD2, acc, ew, R2, D2, f2, fr2, hyi, il, em⟩
  by_cases hlt : i < xs.length
  · right
    obtain ⟨y, hy, hdr⟩ := drop_at hlt
    rw [hdr] at f2
    obtain ⟨so2, f2⟩ := f2
    refine ⟨it.go i HD2 H2 fr2.1 R2 so2 hlt, fun ys' σ' H' => ∃ HD' acc, wipe σ' vs = wipe σ vs ∧ RepH K H' HD' ∧ DatAll K H' ys' acc ∧ compW src (bindP q) gYes (wE C e) (dwipe δ vs) xs (xs.drop (i + 1)) HD' (fun zs HD3 => mkL false (acc ++ zs) HD3 Qd) ∧ Frm H1 HD1 H' HD' ∧ ys'.length ≤ i + 1,
      fun ys' σ' H' ⟨HD', acc, a1, a2, a3, a4, a5, a6⟩ => ⟨xs.length - (i + 1), by omega, HD', acc, a1, a2, a3, a4, a5, a6, hlt, rfl⟩, fun x H3 hyl => ?_⟩
    obtain ⟨y', hy', dy, R3, fr3⟩ := it.yld i HD2 H2 x H3 fr2.1 R2 so2 hlt hyl
    rw [hy] at hy'
    cases hy'
    split at f2
    · rename_i δ3 hb3
      have E2 : EnvR K H3 σ2 (dwipe δ vs) := by
        have := (E.wipe vs).ext (fr.1.trans (fr2.1.trans fr3.1))
        rw [← ew] at this
        exact unw_env this
      obtain ⟨σ3, E3, wp, c⟩ := gP_bind q hb3 dy E2
      refine c _ ⟨by omega, δ3, HD2, _, E3, R3, f2, fun z HD5 v H5 q5 d5 R5 fr5 => ?_⟩
      refine ⟨HD5, acc ++ [z], (wp vs hv).trans ew, R5, Paired.app (D2.ext (fr3.1.trans fr5.1)) (.cons d5 .nil), ?_, fr2.trans (fr3.trans fr5), by simp; omega⟩
      have e : (fun (ys : List DV) HD3 => mkL false (acc ++ [z] ++ ys) HD3 Qd) = fun ys HD3 => mkL false (acc ++ z :: ys) HD3 Qd := by
        funext ys HD3
        simp
      rw [e]
      exact q5
    · exact f2.elim
  · left
    have hdr : xs.drop i = [] := List.drop_eq_nil_of_le (by omega)
    rw [hdr] at f2
    refine ⟨it.stop i HD2 H2 fr2.1 R2 f2.1 (by omega), ?_⟩
    have q : mkL false (acc ++ []) HD2 Qd := f2.2
    rw [List.append_nil] at q
    unfold mkL at q
    rw [if_neg (by simp)] at q
    split at q
    · rename_i ds hds
      have e := dats_some hds
      subst e
      exact hD _ _ _ (l ds HD2 ys H2 q D2.fd R2 (fr0.trans (fr.trans fr2)))
    · exact q.elim
end DL
namespace DL
open PySem PySem.Spec PyProof.Rows L2
theorem env_start {K : PySem.W.Frag} {H : Hp} {N : List Str} {vs : List V} {ds : List DV} (D : DatAll K H vs ds) : EnvR K H (start N vs) (dStart N.length ds) := by
  have hl := Paired.length D
  refine ⟨by simp [dStart, L2.start, hl], fun i x h => ?_⟩
  unfold dStart at h
  unfold L2.start
  by_cases hi : i < ds.length
  · rw [List.getElem?_append_left (by simpa using hi), List.getElem?_map] at h
    rw [List.getElem?_append_left (by simp; omega), List.getElem?_map]
    cases e : ds[i]? with
    | none => rw [e] at h; simp at h
    | some y =>
      rw [e] at h
      simp at h
      subst h
      obtain ⟨v, hv, d⟩ := Paired.get2 D e
      exact ⟨v, by rw [hv]; rfl, d⟩
  · rw [List.getElem?_append_right (by simpa using Nat.le_of_not_lt hi)] at h
    rw [List.getElem?_replicate] at h
    split at h <;> cases h
structure FnAt (K : PySem.W.Frag) (G : Glb) (st : Stmt) (N ps : List Str) (b : FnB) (fa : Addr) (d : Bool) : Prop where
  at' : ∃ (name qual : Str) (oc : Value) (od : Option Addr) (dV kV doc pm : Value) (an : Option Addr) (cdv ct : Value) (osl : Array (Option Value)),
    K.lookup fa = some ⟨oc, od, .func (PySem.W.fnOf name qual (defArgs st) (defBody st) (defScope st) dV kV doc pm an cdv ct), osl⟩ ∧ PySem.W.codeIn K cdv qual = true ∧ (d = false → dV = .none) ∧ (d = true → ps ≠ [] ∧ ∃ T o n, dV = .ref T ∧ K.lookup T = some o ∧ o.data = .seq #[.none] n)
  kp : PySem.W.keepIn K (.ref fa) = true
  sc : FnScope N ps (defScope st)
  pl : (defArgs st).posonlyargs = [] ∧ (defArgs st).args.map (·.arg) = ps ∧ (defArgs st).vararg = none ∧ (defArgs st).kwonlyargs = [] ∧ (defArgs st).kwarg = none
  np : b.np = ps.length
  ns : b.ns = N.length
  ch : chB G N (defScope st) b.body (defBody st) = true
structure GnAt (K : PySem.W.Frag) (G : Glb) (st : Stmt) (N : List Str) (p : Str) (b : FnB) (fa : Addr) : Prop where
  at' : ∃ (name qual : Str) (oc : Value) (od : Option Addr) (kV doc pm : Value) (an : Option Addr) (cdv ct : Value) (osl : Array (Option Value)),
    K.lookup fa = some ⟨oc, od, .func (PySem.W.fnOf name qual (defArgs st) (defBody st) (defScope st) .none kV doc pm an cdv ct), osl⟩ ∧ PySem.W.codeIn K cdv qual = true
  kp : PySem.W.keepIn K (.ref fa) = true
  sc : GScope N [p] (defScope st)
  pl : (defArgs st).posonlyargs = [] ∧ (defArgs st).args.map (·.arg) = [p] ∧ (defArgs st).vararg = none ∧ (defArgs st).kwonlyargs = [] ∧ (defArgs st).kwarg = none
  np : b.np = 1
  ns : b.ns = N.length
  lam : b.lam = none
  ch : ∃ pre vs q it x, b.body = pre ++ [.ret (.comp false vs q it .yes x)] ∧ gnB G N (defScope st) pre vs q it x (defBody st) = true
noncomputable def B_on (g : Nat) : List RS := [.ret (.call g (.cons (.var 0) .nil))]
structure TopAt (P : Program) (K : PySem.W.Frag) (mg : Str → Option Value) (G : Glb) (T : List FnB) : Prop where
  bl : ∀ x ∈ bNames, mg x = none
  cs : ∀ x d, G.consts.lookup x = some d → ∃ u v, mg x = some u ∧ RelV v u ∧ ∀ H, Fd K H v d
  ds : ∀ x kvs, G.dicts.lookup x = some kvs → ∃ a, mg x = some (.ref a) ∧ GDct K a kvs
  fs : ∀ (f : Nat) x ps, G.funs[f]? = some (x, ps) → ∃ fa st N b d, AtN K mg x fa ∧ T[f]? = some b ∧ FnAt K G st N ps b fa d ∧ (x ∈ G.dfl → d = true) ∧ ∀ y, x = .glob y → d = false
  ks : ∀ c fl, G.clss.lookup c = some fl → ∃ Ca, mg c = some (.ref Ca) ∧ ClsK K Ca fl
  td : ∀ x sp, G.tolds.lookup x = some sp → ToldAt K mg x sp
  ec : ∀ c fo, G.excs.lookup c = some fo → ExcAt P K mg c fo
  rf : ∀ x sp, G.refs.lookup x = some sp → RefAt K mg x sp
  tc : ∀ x y sp ps, G.tcs.lookup x = some (y, sp, ps) → TcAt K mg x y sp ps
  gn : ∀ x f, G.gens.lookup x = some f → ∃ fa st N p b g, G.rp = false ∧ mg x = some (.ref fa) ∧ T[f]? = some ⟨1, 1, B_on g, none⟩ ∧ T[g]? = some b ∧ GnAt K G st N p b fa
  ev : EvAll P K mg G
noncomputable def GnOk (P : Program) (w : World) (K : PySem.W.Frag) (mg : Str → Option Value) (base : Heap) (n : Nat) (x : Str) (g : GC) : Prop :=
  ∃ fa kk, mg x = some (.ref fa) ∧ PySem.W.keepIn K (.ref fa) = true ∧ ((kk + 3 ≤ 2 * n + 1 ∧ DGn P w K mg base kk fa g) ∨ ∀ ds HD Q, ¬ g ds HD Q)
section
variable {P : Program} {w : World} {K : PySem.W.Frag} {mg : Str → Option Value} {base : Heap} {G : Glb} {T : List FnB}
theorem guards_deeper {rp : Bool} {A : Around} {env : Env} (h : GdOk rp A) : GdOk rp (A.deeper env) := h
theorem arr_at {α : Type} {ks : List Str} {xs : List α} : ∀ {ps : List Str} {i : Nat} {x : Str} {u : α}, (∀ p ∈ ps, ((ks.zip xs).lookup p).isSome = true) → ps[i]? = some x → (arrK ps ks xs)[i]? = some u → (ks.zip xs).lookup x = some u
  | p :: ps, i, x, u, h, h1, h2 => by
    obtain ⟨y, hy⟩ := Option.isSome_iff_exists.mp (h p List.mem_cons_self)
    have e : arrK (p :: ps) ks xs = y :: arrK ps ks xs := by
      unfold arrK
      simp only [List.filterMap_cons, hy]
    rw [e] at h2
    cases i with
    | zero =>
      simp at h1 h2
      rw [← h1, hy, h2]
    | succ i => exact arr_at (fun q hq => h q (List.mem_cons_of_mem _ hq)) (by simpa using h1) (by simpa using h2)
noncomputable def LamsAt (K : PySem.W.Frag) (mg : Str → Option Value) (base : Heap) (G : Glb) (T : List FnB) (A : Str → Option Addr) : Prop := ∀ (f : Nat) (b : FnB) (x : FName) (m : List Str) (fa Pt : Addr) (q : Str), T[f]? = some b → G.funs[f]? = some (x, m) → AtN K mg x fa → stOf A b.lam = some (Pt, q) →
  ∀ (oc : Value) (od : Option Addr) (fd : FuncData) (osl : Array (Option Value)), K.lookup fa = some ⟨oc, od, .func fd, osl⟩ → ∃ c, fd.code = .ref c ∧ LamX.TabB base mg c Pt ∧ q = (fd.qualname ++ ".<locals>.") ++ "<lambda>"
theorem lams_no {A : Str → Option Addr} (h : ∀ b ∈ T, b.lam = none) : LamsAt K mg base G T A := fun f b x m fa Pt q hT _ _ e => by
  rw [h b (List.mem_of_getElem? hT)] at e
  cases e
theorem dfn_gen (top : TopAt P K mg G T) (n kk : Nat) {C' : CT} (hcl : ∀ c fl, G.clss.lookup c = some fl → C'.cls c = clsOf mg c)
    (ih : ∀ (f : Nat) x m, G.funs[f]? = some (x, m) → ∃ fa d, AtN K mg x fa ∧ DFn G.rp P w K mg base (2 * n) fa m d (C' f) ∧ (x ∈ G.dfl → d = true) ∧ ∀ y, x = .glob y → d = false)
    (ihg : ∀ x f, G.gens.lookup x = some f → GnOk P w K mg base n x (C' f))
    (hfx : ∀ f x ps fa, G.funs[f]? = some (x, ps) → AtN K mg x fa → RunX G.rp P w K mg base (2 * n) fa (C'.ex f)) (h1 : 2 * (n + 1) ≤ kk)
    {fa : Addr} {st : Stmt} {N ps : List Str} {b : FnB} {d : Bool} (F : FnAt K G st N ps b fa d)
    (hlm : ∀ P q, C'.lt = some (P, q) → 2 * n + 3 ≤ kk ∧ ∀ (name qual : Str) (oc : Value) (od : Option Addr) (dV kV doc pm : Value) (an : Option Addr) (cdv ct : Value) (osl : Array (Option Value)), K.lookup fa = some ⟨oc, od, .func (PySem.W.fnOf name qual (defArgs st) (defBody st) (defScope st) dV kV doc pm an cdv ct), osl⟩ →
      ∃ c, cdv = .ref c ∧ LamX.TabB base mg c P ∧ q = (qual ++ ".<locals>.") ++ "<lambda>")
    (hsm : ∀ Pt q, C'.st = some (Pt, q) → ∀ (oc : Value) (od : Option Addr) (fd : FuncData) (osl : Array (Option Value)), K.lookup fa = some ⟨oc, od, .func fd, osl⟩ → ∃ c, fd.code = .ref c ∧ LamX.TabB base mg c Pt ∧ q = (fd.qualname ++ ".<locals>.") ++ "<lambda>") :
    DFn G.rp P w K mg base kk fa ps d fun (ds : List DV) HD Q => ds.length = b.np ∧ wB C' b.body (dEnds Q) (dStart b.ns ds) HD := by
  obtain ⟨name, qual, oc, od, dV, kV, doc, pm, an, cdv, ct, osl, lk, hcd, dv0, dv1⟩ := F.at'
  obtain ⟨p1, p2, p3, p4, p5⟩ := F.pl
  have S := F.sc
  have ndp : ps.Nodup := by
    have := S.pre
    rw [← this]
    exact S.nd.sublist (List.take_sublist _ _)
  have main : ∀ (A : Around) (outer : List Env) (s : Shared) (H : Hp) (args : Args) (us : List Value) (vs : List V) (Q : VK), Room kk A → GdOk G.rp A → Env0 P w K mg base A outer s H → Vals vs us →
      (ps.length = us.length → BindsTo s (PySem.W.fnOf name qual (defArgs st) (defBody st) (defScope st) dV kV doc pm an cdv ct) args (ps.zip us)) → upC K (fun (ds : List DV) HD Q => ds.length = b.np ∧ wB C' b.body (dEnds Q) (dStart b.ns ds) HD) vs H Q → codeAny (model P w) A (.call (.ref fa) args) (CR CX0 outer P w H s Q E0) s := by
    intro A outer s H args us vs Q hr hgd e0 r hbind hsp
    obtain ⟨ds, HD, Qd, D, R, h, l⟩ := hsp
    obtain ⟨hlen, h⟩ := h
    have el := Paired.length D
    have rl := r.length
    have hl : vs.length = ps.length := by rw [el, hlen, F.np]
    have KX : K.In s.heap := e0.mod.kin.keeps fun b o e => (e0.bs b o e).1
    have lim : s.heap.NoLimit := e0.mod.nolimit.keeps fun b o e => (e0.bs b o e).1
    have hkind : ∀ y ∈ ps.zip us, (defScope st).names.lookup y.1 = some .local ∨ ((defScope st).names.lookup y.1 = some .cell ∧ ((cellsFrom (s.heap.objs.size + 1) (defScope st).names []).lookup y.1).isSome = true) := fun y hy => by
      have hm : y.1 ∈ ps := (List.of_mem_zip (a := y.1) (b := y.2) hy).1
      exact (S.par _ hm).imp id fun q => ⟨q, PySem.W.cellsFrom_some _ _ _ (.inl q)⟩
    have hb := hbind (by omega)
    refine codeAny_call_function hr.depth (KX _ _ lk) rfl S.co S.gen rfl (PySem.W.codeRec_of KX hcd) (hb _ _ _ _ ?_)
    refine wpAny_newFunctionEnv_cells S.kind hkind fun env he s1 x => ?_
    subst he
    refine ⟨lim.keeps x.toInCall.keep, codeAny_func ?_⟩
    generalize hX : cxOf CX0 P w K mg base N qual (defScope st) fa cdv A outer s H E0 = X
    have I : Inv X [] (start N vs) H s1 := by rw [← hX]; exact inv_start S hr.hd e0 hl r x
    have Ex : Env1 G N C' n X.nox := by
      rw [← hX]
      have r1 := Room.deeper (k := 2 * n + 1) (hr.mono h1) (envOfC qual (defScope st) s.heap.objs.size fa cdv)
      refine ⟨⟨S.nd, rfl, ?_⟩, rfl, rfl, top.bl, top.cs, top.ds, ih, guards_deeper hgd, ihg, hcl, top.ks, r1, top.td, fun Pt q e => ?_, hfx, top.rf, (fun Pt q e => let ⟨c, h1, h2, h3⟩ := hsm Pt q e _ _ _ _ lk; ⟨c, h1, h2, h3⟩), top.tc, top.ev⟩
      rotate_left
      · obtain ⟨h2, h3⟩ := hlm Pt q e
        obtain ⟨c, e1, e2, e3⟩ := h3 _ _ _ _ _ _ _ _ _ _ _ _ lk
        exact ⟨Room.deeper (k := 2 * n + 2) (hr.mono h2) _, c, e1, e2, e3⟩
      have := r1.un
      show (A.deeper _).units + 200 < cLine
      omega
    have hk : X.nox.env.scope = defScope st := by rw [← hX]; rfl
    have body := sndB (C := C') b.body X.nox (defBody st) Ex (by rw [← hX]; exact fun _ => rfl) (by rw [hk]; exact S.kind) (by rw [hk]; exact F.ch)
    have hq : upS K (wB C' b.body) { nx := fun _ H' => Q .non H', rt := Q } (start N vs) H := by
      refine ⟨_, HD, dEnds Qd, env_start D, R, by rw [F.ns] at h; exact h, fun δ HD' σ' H' q E' R' fr => ?_, l, fun δ HD' σ' H' q => q.elim, fun δ HD' σ' H' q => q.elim⟩
      exact l _ _ _ _ q Fd.non R' fr
    have hK : X.nox.K = K := by rw [← hX]; rfl
    rw [hK] at body
    have done := body.nox.run [] s1 (start N vs) H _ I hq
    subst hX
    refine wpAny_mono done (fun fl s' hs => ?_) fun e s' hs => hs
    match fl, hs with
    | .ret u, ⟨v, σ', H', J, rv, q⟩ => exact ⟨v, H', J.os, J.bare, J.base, J.hok, rv, q⟩
    | .next, ⟨σ', H', J, q⟩ => exact ⟨V.non, H', J.os, J.bare, J.base, J.hok, rfl, q⟩
    | .brk, ⟨_, _, _, q⟩ => exact q.elim
    | .cont, ⟨_, _, _, q⟩ => exact q.elim
  have byD : d = true → ∀ (P' : Program) (w' : World) (mg' : Str → Option Value) (base' : Heap) (A : Around) (outer : List Env) (s : Shared) (H : Hp) (us full : List Value), Env0 P' w' K mg' base' A outer s H → ps.length = full.length → us = full ∨ full = us ++ [.none] →
      BindsTo s (PySem.W.fnOf name qual (defArgs st) (defBody st) (defScope st) dV kV doc pm an cdv ct) ⟨us, []⟩ (ps.zip full) := by
    intro hd P' w' mg' base' A outer s H us full e0 hl hu
    obtain ⟨pne, T0, o, n0, ed, lT, oT⟩ := dv1 hd
    subst ed
    have eps : ps = ps.dropLast ++ [ps.getLast pne] := (List.dropLast_concat_getLast pne).symm
    obtain ⟨k, e1, e2⟩ := bindD (fd := PySem.W.fnOf name qual (defArgs st) (defBody st) (defScope st) (.ref T0) kV doc pm an cdv ct) (us := us) (qs := ps.dropLast) (x := ps.getLast pne) p1 (by rw [← eps]; exact p2) p3 p4 p5 rfl (by rw [← eps]; exact ndp) full (by rw [← eps]; exact hl.symm) hu
    rw [← eps] at e2
    have KX : K.In s.heap := e0.mod.kin.keeps fun b o e => (e0.bs b o e).1
    refine BindsTo.of_looks fun M => ?_
    rw [e1]
    exact looks_items KX lT oT (.of_pure e2)
  refine ⟨fun A outer s H us vs Q hr hgd e0 r hsp => main A outer s H _ us vs Q hr hgd e0 r (fun hl => ?_) hsp, fun hd A outer s H ks ws zs Q hr hgd e0 r hk hl hsp => main A outer s H _ (arrK ps ks ws) (arrK ps ks zs) Q hr hgd e0 (arr_rel r ks ps) (fun hz => ?_) hsp,
    fun hd A outer s H us vs Q hr hgd e0 r hsp => ?_⟩
  · cases hd : d with
    | false =>
      have := dv0 hd
      subst this
      exact .of_eq (bindPlain p1 p2 p3 p4 p5 rfl ndp hl)
    | true => exact byD hd _ _ _ _ A outer s H us us e0 hl (.inl rfl)
  · have := dv0 hd
    subst this
    simp only [kwB, Bool.and_eq_true, decide_eq_true_eq, List.all_eq_true, List.contains_iff_mem] at hk
    obtain ⟨⟨⟨k1, k2⟩, k3⟩, k4⟩ := hk
    have lw : ks.length = ws.length := by rw [hl]; exact r.length
    exact .of_eq (bindKw p1 p2 p3 p4 p5 rfl ndp k1 hz lw k3 fun i x u hx hu => arr_at (fun p hp => zip_lookup lw (k4 p hp)) hx hu)
  · have r2 : Vals (vs ++ [.non]) (us ++ [.none]) := r.append (.cons rfl .nil)
    refine main A outer s H _ (us ++ [.none]) (vs ++ [.non]) Q hr hgd e0 r2 (fun hl => byD hd _ _ _ _ A outer s H us _ e0 hl (.inr rfl)) ?_
    obtain ⟨ds, HD, Qd, D, R, h, l⟩ := hsp
    exact ⟨ds ++ [.d .none], HD, Qd, Paired.app D (.cons (show DatV K H V.non (.d .none) from Fd.non) .nil), R, h, l⟩
theorem dfn_step (top : TopAt P K mg G T) {A : Str → Option Addr} (hA : ∀ c fl, G.clss.lookup c = some fl → A c = clsOf mg c) (hS : LamsAt K mg base G T A) (n : Nat)
    (ih : ∀ (f : Nat) x m, G.funs[f]? = some (x, m) → ∃ fa d, AtN K mg x fa ∧ DFn G.rp P w K mg base (2 * n) fa m d (wCall T A n f) ∧ (x ∈ G.dfl → d = true) ∧ ∀ y, x = .glob y → d = false)
    (ihg : ∀ x f, G.gens.lookup x = some f → GnOk P w K mg base n x (wCall T A n f))
    {f : Nat} {x : FName} {m : List Str} {fa : Addr} {st : Stmt} {N ps : List Str} {b : FnB} (hx : G.funs[f]? = some (x, m)) (hat : AtN K mg x fa) (hT : T[f]? = some b) {d : Bool} (F : FnAt K G st N ps b fa d) : DFn G.rp P w K mg base (2 * (n + 1)) fa ps d (wCall T A (n + 1) f) := by
  have e : wCall T A (n + 1) f = fun (ds : List DV) HD Q => ds.length = b.np ∧ wB (wCallS T A n b.lam) b.body (dEnds Q) (dStart b.ns ds) HD := by
    funext ds HD Q
    exact wCall_at hT
  rw [e]
  exact dfn_gen top n _ (C' := wCallS T A n b.lam) hA ih ihg (fun f x ps fa _ _ A outer s H us vs E _ _ _ _ ⟨_, _, _, _, _, h, _⟩ => h.elim) (Nat.le_refl _) F nofun fun Pt q e => hS f b x m fa Pt q hT hx hat e
theorem gn_step (top : TopAt P K mg G T) {A : Str → Option Addr} (hA : ∀ c fl, G.clss.lookup c = some fl → A c = clsOf mg c) (n : Nat)
    (ih : ∀ (f : Nat) x m, G.funs[f]? = some (x, m) → ∃ fa d, AtN K mg x fa ∧ DFn G.rp P w K mg base (2 * n) fa m d (wCall T A n f) ∧ (x ∈ G.dfl → d = true) ∧ ∀ y, x = .glob y → d = false)
    (ihg : ∀ x f, G.gens.lookup x = some f → GnOk P w K mg base n x (wCall T A n f)) (x : Str) (f : Nat) (hx : G.gens.lookup x = some f) : GnOk P w K mg base (n + 2) x (wCall T A (n + 2) f) := by
  obtain ⟨fa, st, N, p, b, g, hrp, h1, hf, hg, F⟩ := top.gn x f hx
  refine ⟨fa, 2 * n + 2, h1, F.kp, .inl ⟨by omega, ?_⟩⟩
  obtain ⟨name, qual, oc, od, kV, doc, pm, an, cdv, ct, osl, lk, hcd⟩ := F.at'
  obtain ⟨p1, p2, p3, p4, p5⟩ := F.pl
  obtain ⟨pre, vs, q, it, e, hb, hch⟩ := F.ch
  have S := F.sc
  refine ⟨_, p, gfn_of (k := 2 * n + 1) (sp := spG K (wCall T A (n + 2) f)) lk hcd S (fun ws H Q E ⟨ds, HD, Qd, D, R, h, l⟩ => ?_) fun A' outer s H ws Q E pn hr ⟨ds, HD, Qd, D, R, h, l⟩ => ?_, Binds.all fun us hl => bindPlain p1 p2 p3 p4 p5 rfl (by simp) hl.symm⟩
  · rw [wCall_at hf] at h
    rw [Paired.length D, h.1]
    rfl
  · rw [wCall_at hf] at h
    obtain ⟨hl, h⟩ := h
    match ds, hl with
    | [d], _ =>
    have h : wCall T A (n + 1) g [d] HD Qd := h
    rw [wCall_at hg] at h
    obtain ⟨_, h⟩ := h
    rw [hb, F.ns, F.lam] at h
    generalize hX : gcxOf P w K mg base N qual (defScope st) fa cdv A' outer s H E pn = X
    have hk : X.env.scope = defScope st := by rw [← hX]; rfl
    have hK : X.K = K := by rw [← hX]; rfl
    have Ex : Env1 G N (wCallS T A n none) n X.nox := by
      rw [← hX]
      refine ⟨⟨S.nd, rfl, ?_⟩, rfl, rfl, top.bl, top.cs, top.ds, ih, (fun z => by rw [hrp] at z; cases z), ihg, hA, top.ks, hr, top.td, nofun, fun f x ps fa _ _ A outer s H us vs E _ _ _ _ ⟨_, _, _, _, _, h, _⟩ => h.elim, top.rf, nofun, top.tc, top.ev⟩
      have := hr.un
      show (A'.deeper _).units + 200 < cLine
      omega
    have hfn : ∀ y, X.fn y = true := by rw [← hX]; exact fun _ => rfl
    have own : PassesOwn (model X.prog X.w) X.A X.env X.xe := by
      rw [← hX]
      exact owns_gcx
    unfold gnB at hch
    split at hch
    · rename_i tg iter ye yp ep fp r hrev
      have hst : defBody st = r.reverse ++ [.For tg iter [.Expr (.Yield (some ye) yp) ep] [] fp] := by
        have := congrArg List.reverse hrev
        simpa using this
      simp only [Bool.and_eq_true] at hch
      obtain ⟨⟨⟨⟨⟨⟨c1, c2⟩, c3⟩, c4⟩, c5⟩, c6⟩, c7⟩ := hch
      have hv : ∀ i ∈ slotsP q, i ∈ vs := fun i hi => List.contains_iff_mem.mp (List.all_eq_true.mp c7 i hi)
      have hE : PE X ye (up K (wE (wCallS T A n none) e)) := by
        have := PE.nox (X := X) (sndE (C := wCallS T A n none) e X.nox ye Ex (by rw [show X.nox.env.scope = defScope st from hk]; exact c6))
        rw [show X.nox.K = K from hK] at this
        exact this
      have hI : PI X tg iter (upI K (wI (wCallS T A n none) it)) := by
        have := PI.nox' (X := X) (sndI (C := wCallS T A n none) it X.nox tg iter Ex (by rw [show X.nox.env.scope = defScope st from hk]; exact c5))
        rw [show X.nox.K = K from hK] at this
        exact this
      have hG : PG X tg (gP K q) := by
        have := sndP (X := X) (N := N) (sc := defScope st) (df := fun _ => true) Ex.nd Ex.hN Ex.calm hk (fun y _ => hfn y) q tg c4
        rw [hK] at this
        exact this
      have loop : L2.GS X (.For tg iter [.Expr (.Yield (some ye) yp) ep] [] fp) _ := gs_for own (by rw [← hX]; rfl) hI hG (gss_cons (gs_yield hE (by rw [hk]; exact S.co) (by simp [interactive, hk, S.kind])) gss_nil) fun y => fold_of c3 _ y
      have body := gss_pre Ex hfn (by rw [hk]; exact S.kind) (gss_cons loop gss_nil) pre r.reverse (by rw [hk]; exact c1)
      rw [hK] at body
      refine ⟨_, by rw [hst]; exact body, ?_⟩
      refine gpre_of (Qd := Qd) (H0 := H) (HD0 := HD) (fun δ HD' σ H' E' R' h' fr => ?_) pre c2 _ HD _ H (env_start D) R h Frm.refl
      exact gfor_of hv (fun _ _ _ z => z) l E' R' h' fr
    · cases hch
theorem all_both (top : TopAt P K mg G T) {A : Str → Option Addr} (hA : ∀ c fl, G.clss.lookup c = some fl → A c = clsOf mg c) (hS : LamsAt K mg base G T A) : ∀ n,
    ((∀ (f : Nat) x m, G.funs[f]? = some (x, m) → ∃ fa d, AtN K mg x fa ∧ DFn G.rp P w K mg base (2 * n) fa m d (wCall T A n f) ∧ (x ∈ G.dfl → d = true) ∧ ∀ y, x = .glob y → d = false) ∧ (∀ x f, G.gens.lookup x = some f → GnOk P w K mg base n x (wCall T A n f))) ∧
    ∀ x f, G.gens.lookup x = some f → GnOk P w K mg base (n + 1) x (wCall T A (n + 1) f)
  | 0 => by
    refine ⟨⟨fun f x m h => ?_, fun x f hx => ?_⟩, fun x f hx => ?_⟩
    · obtain ⟨fa, st, N, b, d, h1, _, F, h3⟩ := top.fs f x m h
      exact ⟨fa, d, h1, ⟨fun A outer s H us vs Q _ _ _ _ ⟨_, _, _, _, _, h, _⟩ => h.elim, fun _ A outer s H ks ws zs Q _ _ _ _ _ _ ⟨_, _, _, _, _, h, _⟩ => h.elim, fun _ A outer s H us vs Q _ _ _ _ ⟨_, _, _, _, _, h, _⟩ => h.elim⟩, h3⟩
    · obtain ⟨fa, st, N, p, b, g, hrp, h1, hf, hg, F⟩ := top.gn x f hx
      exact ⟨fa, 0, h1, F.kp, .inr fun ds HD Q h => h.elim⟩
    · obtain ⟨fa, st, N, p, b, g, hrp, h1, hf, hg, F⟩ := top.gn x f hx
      refine ⟨fa, 0, h1, F.kp, .inr fun ds HD Q h => ?_⟩
      rw [wCall_at hf] at h
      obtain ⟨hl, h⟩ := h
      match ds, hl with
      | [d], _ =>
      have h : wCall T A 0 g [d] HD Q := h
      exact h.elim
  | n + 1 => by
    obtain ⟨⟨h1, h2⟩, h3⟩ := all_both top hA hS n
    refine ⟨⟨fun f x m h => ?_, h3⟩, gn_step top hA n h1 h2⟩
    obtain ⟨fa, st, N, b, d, a1, a2, F, a3⟩ := top.fs f x m h
    exact ⟨fa, d, a1, dfn_step top hA hS n h1 h2 h a1 a2 F, a3⟩
theorem all_dfn (top : TopAt P K mg G T) {A : Str → Option Addr} (hA : ∀ c fl, G.clss.lookup c = some fl → A c = clsOf mg c) (hS : LamsAt K mg base G T A) (n f : Nat) (x : FName) (m : List Str) (h : G.funs[f]? = some (x, m)) : ∃ fa d, AtN K mg x fa ∧ DFn G.rp P w K mg base (2 * n) fa m d (wCall T A n f) ∧ (x ∈ G.dfl → d = true) ∧ ∀ y, x = .glob y → d = false :=
  (all_both top hA hS n).1.1 f x m h
end
theorem law_end {rp : Bool} {P : Program} {w : World} {K : PySem.W.Frag} {mg mb : Str → Option Value} {k : Nat} {fa a : Addr} {g : GC} {s₁ : Shared} {vs : List Value} {ns : List Int}
    (KX : K.In s₁.heap) (hns : s₁.heap.Ns mainGlobals mg) (hb : s₁.heap.Ns builtinsNs mb) (hbb : ∀ x : Str, x ≠ "__name__" → mb x = bootBuiltins x) (hlim : s₁.heap.NoLimit) (hg : s₁.gens = #[])
    (ha : s₁.heap.get? a = some { cls := .type "list", data := .seq vs.toArray }) (hi : IntsAre vs ns) (hl : ns.length ≤ sizeLine) (hr : Room k callerA)
    (F : ∀ base : Heap, K.In base → base.Ns mainGlobals mg → ∃ ps d, DFn rp P w K mg base k fa ps d g) (hsp : g [.w ns] (fun _ => none) fun d _ => d = .d (.bool true)) :
    codeAny (model P w) callerA (.call (.ref fa) ⟨[.ref a], []⟩) (fun r s' => r = .ok (.ret (.bool true)) ∧ OldK s₁.heap s'.heap ∧ s'.os = s₁.os ∧ AllBare s'.gens) s₁ := by
  have rv := vals_ints hi
  have lenV := hi.length
  have core : ∀ H : Hp, Only H → SqW K H a (ns.map V.int) → HOk P w H s₁.heap → (∀ b, H b ≠ none → b = a) → (H a ≠ none → K.lookup a = none) →
      codeAny (model P w) callerA (.call (.ref fa) ⟨[.ref a], []⟩) (fun r s' => r = .ok (.ret (.bool true)) ∧ OldK s₁.heap s'.heap ∧ s'.os = s₁.os ∧ AllBare s'.gens) s₁ := by
    intro H hO hS hok hA hK
    have noA : ∀ {b : Addr} {o : Obj} {es : Array DictEntry} {ep : Nat}, s₁.heap.get? b = some o → o.data = .dict es ep → H b = none := fun {b o es ep} e d => by
      cases q : H b with
      | none => rfl
      | some u =>
        cases hA b (by rw [q]; simp)
        rw [ha] at e
        cases e
        cases d
    have nsK : ∀ {b : Addr} {m : Str → Option Value}, s₁.heap.Ns b m → (hidT s₁.heap H).Ns b m := fun {b m} ⟨o, es, ep, e, d, r⟩ => ⟨o, es, ep, hidT_get e (noA e d), d, r⟩
    have hKb : K.In (hidT s₁.heap H) := fun b o e => hidT_get (KX b o e) (by
      cases q : H b with
      | none => rfl
      | some u =>
        cases hA b (by rw [q]; simp)
        rw [hK (by rw [q]; simp)] at e
        cases e)
    have hM : Mod K mg (hidT s₁.heap H) := ⟨hKb, nsK hns, ⟨mb, nsK hb, hbb⟩, let ⟨mc, h1, h2⟩ := hlim; ⟨mc, nsK h1, h2⟩⟩
    have e0 : Env0 P w K mg (hidT s₁.heap H) callerA [] s₁ H :=
      ⟨rfl, hM, fun b o e => of_hidT e, Nat.le_of_eq (hidT_size _ _), trivial, fun b hb => absurd (show b ∈ ([] : List Addr) from hb) (by simp), hok, .of_eq hg⟩
    obtain ⟨_, _, Fn⟩ := F _ hKb (nsK hns)
    refine codeAny_mono (Fn.run callerA [] s₁ H [.ref a] [.ref a] (fun v _ => v = .bl true) hr (fun _ => rfl) e0 (.cons rfl .nil) ?_) fun r s' h => ?_
    · refine ⟨[.w ns], fun _ => none, _, .cons ⟨a, rfl, hS⟩ .nil, (fun p c hc => by cases hc), hsp, fun d HD' v H' q dv _ _ => ?_⟩
      have q' : d = .d (.bool true) := q
      subst q'
      exact fd_bool dv
    · match r, h with
      | .ok (.ret u), ⟨v, H', os, bare, un, hok', r', q⟩ =>
        have q' : v = .bl true := q
        subst q'
        obtain rfl : u = Value.bool true := r'
        refine ⟨rfl, OldK.of_keep fun b o e => ?_, os, bare⟩
        cases q : H b with
        | none => exact un.keep b o e q (by intro z; exact absurd (show b ∈ ([] : List Addr) from z) (by simp)) (by simp)
        | some u =>
          rcases hO b with z | ⟨ob, xs, z⟩
          · rw [q] at z; cases z
          · obtain ⟨e1, _⟩ := hok b _ z
            obtain ⟨e2, _⟩ := hok' b _ (un.frzs b ob _ z)
            rw [e] at e1
            cases e1
            exact e2
      | .ok .next, h => exact h.elim
      | .ok .brk, h => exact h.elim
      | .ok .cont, h => exact h.elim
      | .error e, h => exact h.elim
  cases hk : K.lookup a with
  | some o =>
    have e := KX a o hk
    rw [ha] at e
    cases e
    refine core (fun _ => none) (fun _ => .inl rfl) (.inr ⟨⟨_, hk⟩, fun H' => .inr ⟨_, vs.toArray, _, hk, rfl, rfl, rfl, by rw [List.size_toArray, lenV]; exact hl, by simpa using rv⟩⟩)
      (fun b u z => by cases (show (none : Option HO) = some u from z)) (fun b z => absurd rfl z) fun z => absurd rfl z
  | none =>
    have hit : ∀ {b : Addr} {u : HO}, (if b = a then some (HO.frz { cls := .type "list", data := .seq vs.toArray } (.lst (ns.map V.int))) else none) = some u → b = a ∧ u = .frz { cls := .type "list", data := .seq vs.toArray } (.lst (ns.map V.int)) := fun {b u} z => by
      split at z
      · cases z; exact ⟨by assumption, rfl⟩
      · cases z
    refine core (fun b => if b = a then some (.frz { cls := .type "list", data := .seq vs.toArray } (.lst (ns.map V.int))) else none) (fun b => ?_) (.inl ⟨{ cls := .type "list", data := .seq vs.toArray }, if_pos rfl⟩) (fun b u z => ?_) (fun b z => ?_) fun _ => hk
    · by_cases hb : b = a
      · exact .inr ⟨_, _, if_pos hb⟩
      · exact .inl (if_neg hb)
    · obtain ⟨e1, e2⟩ := hit z
      subst e1 e2
      exact ⟨ha, by rw [List.length_map]; exact hl, vs, _, rv, ha⟩
    · cases q : (if b = a then some (HO.frz { cls := .type "list", data := .seq vs.toArray } (.lst (ns.map V.int))) else none) with
      | none => exact absurd q z
      | some u => exact (hit q).1
theorem walk_end {lps : List Str} {l : PySem.W.OpenLaw} {n k lf : Nat} {q : Program} {loose : List Str} {XP : (Str → Option Value) → Heap → Prop} {YP : World → Heap → Prop} {d : DefRec} {K : Params → PySem.W.Frag} {G : Glb} {T : List FnB}
    (hn : l.most = some n) (hn2 : n ≤ sizeLine) (hdf : d.params.defaults = []) (hr : Room (2 * k) callerA) (hlf : G.funs[lf]? = some (.glob d.name, lps))
    (hY : ∀ (w : World) (h : Heap), YP w h → (K w.params).In h) (hT0 : ∀ b ∈ T, b.lam = none)
    (top : ∀ (w : World) (mg : Str → Option Value) (h : Heap), (K w.params).In h → h.Ns mainGlobals mg → TopAt l.prog (K w.params) mg G T)
    (hsp : ∀ (A : Str → Option Addr) (ns : List Int), (∀ c fl, G.clss.lookup c = some fl → ∃ Ca, A c = some Ca) → ns.length ≤ n → wCall T A k lf [.w ns] (fun _ => none) fun d _ => d = .d (.bool true)) :
    PySem.W.WalkO q loose XP YP l.row.toRowW d [] (fun f vs => PySem.call f vs) := by
  refine Att.attach_call hn hdf fun w s₀ s₁ mg mb fa o pm cd doc a vs ns G' Y ho hd hcd hmg hobj hints hlen hg => ?_
  have KX := hY w _ Y
  have T1 := top w mg _ KX G'.T.g
  refine law_end (rp := G.rp) (k := 2 * k) (g := wCall T (clsOf mg) k lf) KX G'.T.g G'.T.b G'.T.builtins G'.T.nolimit hg hobj hints (Nat.le_trans hlen hn2) hr (fun base KB hb => ?_) (hsp _ ns (fun c fl hc => let ⟨Ca, h1, _⟩ := T1.ks c fl hc
    ⟨Ca, by rw [clsOf, h1]⟩) hlen)
  obtain ⟨fa', d', ⟨h1, _⟩, F, _⟩ := all_dfn (P := l.prog) (w := w) (mg := mg) (base := base) T1 (A := clsOf mg) (fun _ _ _ => rfl) (lams_no hT0) k lf _ _ hlf
  rw [hmg] at h1
  cases h1
  exact ⟨_, _, F⟩
inductive CsAll (K : PySem.W.Frag) (mg : Str → Option Value) : List (Str × PyData) → Prop
  | nil : CsAll K mg []
  | cons {x : Str} {d : PyData} {u : Value} {r : List (Str × PyData)} : mg x = some u → (∃ v, RelV v u ∧ ∀ H, Fd K H v d) → CsAll K mg r → CsAll K mg ((x, d) :: r)
theorem CsAll.get {K : PySem.W.Frag} {mg : Str → Option Value} : ∀ {L : List (Str × PyData)}, CsAll K mg L → ∀ x d, L.lookup x = some d → ∃ u v, mg x = some u ∧ RelV v u ∧ ∀ H, Fd K H v d
  | _, .nil, x, d, h => by cases h
  | _, .cons (x := y) (d := e) a b r, x, d, h => by
    rw [List.lookup_cons] at h
    split at h
    · rename_i q
      have := eq_of_beq q
      subst this
      cases h
      obtain ⟨v, b1, b2⟩ := b
      exact ⟨_, v, a, b1, b2⟩
    · exact CsAll.get r x d h
inductive DsAll (K : PySem.W.Frag) (mg : Str → Option Value) : List (Str × List (Int × Int)) → Prop
  | nil : DsAll K mg []
  | cons {x : Str} {kvs : List (Int × Int)} {a : Addr} {r : List (Str × List (Int × Int))} : mg x = some (.ref a) → GDct K a kvs → DsAll K mg r → DsAll K mg ((x, kvs) :: r)
theorem DsAll.get {K : PySem.W.Frag} {mg : Str → Option Value} : ∀ {L : List (Str × List (Int × Int))}, DsAll K mg L → ∀ x kvs, L.lookup x = some kvs → ∃ a, mg x = some (.ref a) ∧ GDct K a kvs
  | _, .nil, x, d, h => by cases h
  | _, .cons (x := y) (kvs := e) a b r, x, d, h => by
    rw [List.lookup_cons] at h
    split at h
    · rename_i q
      have := eq_of_beq q
      subst this
      cases h
      exact ⟨_, a, b⟩
    · exact DsAll.get r x d h
inductive FsAll (K : PySem.W.Frag) (mg : Str → Option Value) (G : Glb) : List (FName × List Str) → List FnB → Prop
  | nil {T : List FnB} : FsAll K mg G [] T
  | cons {x : FName} {r : List (FName × List Str)} {b : FnB} {T : List FnB} {fa : Addr} {st : Stmt} {N ps : List Str} : AtN K mg x fa → FnAt K G st N ps b fa false → x ∉ G.dfl → FsAll K mg G r T → FsAll K mg G ((x, ps) :: r) (b :: T)
  | consD {c m : Str} {r : List (FName × List Str)} {b : FnB} {T : List FnB} {fa : Addr} {st : Stmt} {N ps : List Str} : AtN K mg (.meth c m) fa → FnAt K G st N ps b fa true → FsAll K mg G r T → FsAll K mg G ((.meth c m, ps) :: r) (b :: T)
theorem FsAll.get {K : PySem.W.Frag} {mg : Str → Option Value} {G : Glb} : ∀ {L : List (FName × List Str)} {T : List FnB}, FsAll K mg G L T → ∀ (f : Nat) x ps, L[f]? = some (x, ps) → ∃ fa st N b d, AtN K mg x fa ∧ T[f]? = some b ∧ FnAt K G st N ps b fa d ∧ (x ∈ G.dfl → d = true) ∧ ∀ y, x = .glob y → d = false
  | _, _, .nil, f, x, n, h => by simp at h
  | _, _, .cons a b nx r, 0, x, n, h => by
    simp at h
    obtain ⟨rfl, rfl⟩ := h
    exact ⟨_, _, _, _, _, a, rfl, b, fun z => absurd z nx, fun _ _ => rfl⟩
  | _, _, .cons a b _ r, f + 1, x, n, h => by
    obtain ⟨fa, st, N, b, d, h1, h2, h3⟩ := FsAll.get r f x n (by simpa using h)
    exact ⟨fa, st, N, b, d, h1, by simpa using h2, h3⟩
  | _, _, .consD a b r, 0, x, n, h => by
    simp at h
    obtain ⟨rfl, rfl⟩ := h
    exact ⟨_, _, _, _, _, a, rfl, b, fun _ => rfl, fun _ z => nomatch z⟩
  | _, _, .consD a b r, f + 1, x, n, h => by
    obtain ⟨fa, st, N, b, d, h1, h2, h3⟩ := FsAll.get r f x n (by simpa using h)
    exact ⟨fa, st, N, b, d, h1, by simpa using h2, h3⟩
theorem fnAt_mk {K : PySem.W.Frag} {G : Glb} {st : Stmt} {N ps : List Str} {b : FnB} {fa : Addr} {name qual : Str} {oc : Value} {od : Option Addr} {kV doc pm : Value} {an : Option Addr} {cdv ct : Value} {osl : Array (Option Value)}
    (lk : K.lookup fa = some ⟨oc, od, .func (PySem.W.fnOf name qual (defArgs st) (defBody st) (defScope st) .none kV doc pm an cdv ct), osl⟩) (cd : PySem.W.codeIn K cdv qual = true) (kp : PySem.W.keepIn K (.ref fa) = true) (sc : FnScope N ps (defScope st))
    (pl : (defArgs st).posonlyargs = [] ∧ (defArgs st).args.map (·.arg) = ps ∧ (defArgs st).vararg = none ∧ (defArgs st).kwonlyargs = [] ∧ (defArgs st).kwarg = none) (np : b.np = ps.length) (ns : b.ns = N.length) (ch : chB G N (defScope st) b.body (defBody st) = true) : FnAt K G st N ps b fa false :=
  ⟨⟨name, qual, oc, od, .none, kV, doc, pm, an, cdv, ct, osl, lk, cd, fun _ => rfl, nofun⟩, kp, sc, pl, np, ns, ch⟩
theorem atG {K : PySem.W.Frag} {mg : Str → Option Value} {x : Str} {fa : Addr} (h : mg x = some (.ref fa)) (k : PySem.W.keepIn K (.ref fa) = true) : AtN K mg (.glob x) fa := ⟨h, k⟩
inductive KsAll (K : PySem.W.Frag) (mg : Str → Option Value) : List (Str × List Str) → Prop
  | nil : KsAll K mg []
  | cons {x : Str} {fl : List Str} {Ca : Addr} {r : List (Str × List Str)} : mg x = some (.ref Ca) → ClsK K Ca fl → KsAll K mg r → KsAll K mg ((x, fl) :: r)
theorem KsAll.get {K : PySem.W.Frag} {mg : Str → Option Value} : ∀ {L : List (Str × List Str)}, KsAll K mg L → ∀ x fl, L.lookup x = some fl → ∃ Ca, mg x = some (.ref Ca) ∧ ClsK K Ca fl
  | _, .nil, x, d, h => by cases h
  | _, .cons (x := y) (fl := e) a b r, x, d, h => by
    rw [List.lookup_cons] at h
    split at h
    · rename_i q
      have := eq_of_beq q
      subst this
      cases h
      exact ⟨_, a, b⟩
    · exact KsAll.get r x d h
inductive NoAll (mg : Str → Option Value) : List Str → Prop
  | nil : NoAll mg []
  | cons {x : Str} {r : List Str} : mg x = none → NoAll mg r → NoAll mg (x :: r)
theorem NoAll.get {mg : Str → Option Value} : ∀ {L : List Str}, NoAll mg L → ∀ x ∈ L, mg x = none
  | _, .nil, x, h => by cases h
  | _, .cons a r, x, h => by
    rcases List.mem_cons.mp h with z | z
    · subst z
      exact a
    · exact NoAll.get r x z
theorem cst_int {K : PySem.W.Frag} {i : Int} {t : Tok} : ∃ v, RelV v (.int i t) ∧ ∀ H, Fd K H v (.int i) := ⟨.int i, ⟨_, rfl⟩, fun _ => .int i⟩
inductive TdAll (K : PySem.W.Frag) (mg : Str → Option Value) : List (Str × TSp) → Prop
  | nil : TdAll K mg []
  | cons {x : Str} {sp : TSp} {r : List (Str × TSp)} : ToldAt K mg x sp → TdAll K mg r → TdAll K mg ((x, sp) :: r)
theorem TdAll.get {K : PySem.W.Frag} {mg : Str → Option Value} : ∀ {L : List (Str × TSp)}, TdAll K mg L → ∀ x sp, L.lookup x = some sp → ToldAt K mg x sp
  | _, .nil, x, sp, h => by cases h
  | _, .cons (x := y) a r, x, sp, h => by
    rw [List.lookup_cons] at h
    split at h
    · rename_i q
      have := eq_of_beq q
      subst this
      cases h
      exact a
    · exact TdAll.get r x sp h
inductive RfAll (K : PySem.W.Frag) (mg : Str → Option Value) : List (Str × RSp) → Prop
  | nil : RfAll K mg []
  | cons {x : Str} {sp : RSp} {r : List (Str × RSp)} : RefAt K mg x sp → RfAll K mg r → RfAll K mg ((x, sp) :: r)
theorem RfAll.get {K : PySem.W.Frag} {mg : Str → Option Value} : ∀ {L : List (Str × RSp)}, RfAll K mg L → ∀ x sp, L.lookup x = some sp → RefAt K mg x sp
  | _, .nil, x, sp, h => by cases h
  | _, .cons (x := y) a r, x, sp, h => by
    rw [List.lookup_cons] at h
    split at h
    · rename_i q
      have := eq_of_beq q
      subst this
      cases h
      exact a
    · exact RfAll.get r x sp h
inductive EcAll (P : Program) (K : PySem.W.Frag) (mg : Str → Option Value) : List (Str × Option Str) → Prop
  | nil : EcAll P K mg []
  | cons {x : Str} {f : Option Str} {r : List (Str × Option Str)} : ExcAt P K mg x f → EcAll P K mg r → EcAll P K mg ((x, f) :: r)
theorem EcAll.get {P : Program} {K : PySem.W.Frag} {mg : Str → Option Value} : ∀ {L : List (Str × Option Str)}, EcAll P K mg L → ∀ x f, L.lookup x = some f → ExcAt P K mg x f
  | _, .nil, x, sp, h => by cases h
  | _, .cons (x := y) a r, x, sp, h => by
    rw [List.lookup_cons] at h
    split at h
    · rename_i q
      have := eq_of_beq q
      subst this
      cases h
      exact a
    · exact EcAll.get r x sp h
inductive TcAll (K : PySem.W.Frag) (mg : Str → Option Value) : List (Str × Str × TSp × List Str) → Prop
  | nil : TcAll K mg []
  | cons {x y : Str} {sp : TSp} {ps : List Str} {L : List (Str × Str × TSp × List Str)} (a : TcAt K mg x y sp ps) (t : TcAll K mg L) : TcAll K mg ((x, y, sp, ps) :: L)
theorem TcAll.get {K : PySem.W.Frag} {mg : Str → Option Value} : ∀ {L : List (Str × Str × TSp × List Str)}, TcAll K mg L → ∀ x y sp ps, L.lookup x = some (y, sp, ps) → TcAt K mg x y sp ps
  | _, .nil, x, y, sp, ps, h => by cases h
  | _, .cons a t, x, y, sp, ps, h => by
    rw [List.lookup_cons] at h
    split at h
    · rename_i q
      have := eq_of_beq q
      subst this
      cases h
      exact a
    · exact TcAll.get t x y sp ps h
structure XAt (K : PySem.W.Frag) (mg : Str → Option Value) (G : Glb) (T : List FnB) (f : Nat) (r : RX) : Prop where
  at' : ∃ (x : Str) (ps : List Str) (fa : Addr) (st : Stmt) (N : List Str) (b : FnB), G.funs[f]? = some (.glob x, ps) ∧ AtN K mg (.glob x) fa ∧ T[f]? = some b ∧ FnAt K G st N ps b fa false ∧ chX G N (defScope st) r (defBody st) = true
inductive XsAll (K : PySem.W.Frag) (mg : Str → Option Value) (G : Glb) (T : List FnB) : List (Nat × RX) → Prop
  | nil : XsAll K mg G T []
  | cons {f : Nat} {r : RX} {L : List (Nat × RX)} : XAt K mg G T f r → XsAll K mg G T L → XsAll K mg G T ((f, r) :: L)
noncomputable def rtOf (L : List (Nat × RX)) : Nat → RX := fun f => (L.lookup f).getD .no
theorem XsAll.get {K : PySem.W.Frag} {mg : Str → Option Value} {G : Glb} {T : List FnB} : ∀ {L : List (Nat × RX)}, XsAll K mg G T L → ∀ f, rtOf L f = .no ∨ XAt K mg G T f (rtOf L f)
  | _, .nil, f => .inl rfl
  | _, .cons (f := g) (r := r) (L := L) a t, f => by
    unfold rtOf
    rw [List.lookup_cons]
    split
    · rename_i q
      have := eq_of_beq q
      subst this
      exact .inr a
    · exact XsAll.get t f
end DL
namespace DL
open PySem PySem.Calls PySem.Spec PyProof.Rows L2
theorem sup_mk {P : Program} {K : PySem.W.Frag} {mg : Str → Option Value} {c f : Str} {C fI cda cc : Addr} {st : Stmt} {se name qual : Str} {oc : Value} {od : Option Addr} {kV doc pm : Value} {an : Option Addr} {ct : Value} {osl : Array (Option Value)} {ccl : Value} {cdd : Option Addr} {vs : Array Value} {ccs : Array (Option Value)} {file : Str} {tf : Tok} {cl : Value} {cld : Option Addr} {csl : Array (Option Value)}
    {nm q : Str} {N : Addr} {bs bm : List Value} {sn : List Str} {sub : List Value} {ab : Bool} {col : Option Bool} {dd : Option Addr} {k0 k1 k2 k3 k5 : Option Value}
    (ha : mg c = some (.ref C)) (hb : PySem.W.findIn K (.ref C) "__init__" = some (some (.ref fI))) (hc : PySem.W.typeIn K (.ref fI) = some (.type "function"))
    (hd : K.lookup fI = some ⟨oc, od, .func (PySem.W.ksFn name qual (defArgs st) (defBody st) (defScope st) .none kV doc pm an (.ref cda) ct cc), osl⟩) (he : PySem.W.codeIn K (.ref cda) qual = true)
    (hf : K.lookup cda = some ⟨ccl, cdd, .fields vs, ccs⟩) (hg : vs[2]? = some (.str file tf)) (hh : ((P.main.file : Str) == file) = true) (hi : K.lookup cc = some ⟨cl, cld, .cell (some (.ref C)), csl⟩)
    (hj : (P.main.scope.names.lookup ("super" : Str)).isSome = false) (tx : supT se f f st = true) (sc : SupS se f st) (pl : (defArgs st).posonlyargs = [] ∧ (defArgs st).args.map (·.arg) = [se, f] ∧ (defArgs st).vararg = none ∧ (defArgs st).kwonlyargs = [] ∧ (defArgs st).kwarg = none)
    (hk : PySem.W.nsIn K mainGlobals "super" = some none) (hl : PySem.W.ks_superIn K C C "__init__" = some (some (.builtin "ValueError.__init__"))) (hm : PySem.W.nsIn K PySem.cStatics "thirdparty.any" = some none) (hn : PySem.W.subIn K (.ref C) (.type "ValueError") = some true) (ho : PySem.W.mroIn K C (.ref C) = some true)
    (hp : K.lookup C = some (excClassObj nm q C N bs bm true sn sub ab col dd k0 k1 k2 k3 k5 "ValueError.__new__")) (hq : PySem.HandSPX.refsVE bm = true) (hr : PySem.W.findIn K (.ref C) "__setattr__" = some (some (.builtin "object.__setattr__"))) (hs : PySem.W.subIn K (.ref C) (.type "BaseException") = some true)
    (ht : PySem.W.typeIn K (.ref C) = some (.type "type")) (hu : PySem.W.keepIn K (.ref C) = true) (hv : PySem.W.findIn K (.ref C) f = some none) : ∃ fI st se, SupI P K C fI f st se f :=
  ⟨fI, st, se, hb, hc, ⟨name, qual, oc, od, kV, doc, pm, an, cda, cc, ct, osl, ccl, cdd, vs, ccs, file, tf, cl, cld, csl, hd, he, hf, hg, hh, hi⟩, hj, tx, sc, pl, hk, hl, hm, hn, ho, ⟨⟨nm, q, N, bs, bm, sn, sub, ab, col, dd, k0, k1, k2, k3, k5, hp, hq⟩, hr, hs, ht, hu⟩, hv⟩
noncomputable def evB (K : PySem.W.Frag) (D : Addr) : Bool :=
  decide (PySem.W.findIn K (.ref D) "__getattribute__" = some (some (.builtin "BaseException.__getattribute__"))) && decide (PySem.W.findIn K (.ref D) "__getattr__" = some none) && decide (PySem.W.subIn K (.ref D) (.type "BaseException") = some true) && PySem.W.hasDictIn K D &&
  decide (PySem.W.findIn K (.ref D) "__class__" = some (some (.builtin "object.__class__"))) && decide (PySem.W.specialIn K (.builtin "object.__class__") "__get__" = some (some (.builtin "getset_descriptor.__get__"))) && decide (PySem.W.takesIn K (.builtin "object.__class__") = some true) && decide (PySem.W.mroIn K D (.type "object") = some true) &&
  (PySem.W.clsIn K D).isSome
theorem evB_ok {K : PySem.W.Frag} {D : Addr} (h : evB K D = true) : ExcC K D ∧ XfC K D ∧ (PySem.W.clsIn K D).isSome = true := by
  unfold evB at h
  simp only [Bool.and_eq_true, decide_eq_true_eq] at h
  obtain ⟨⟨⟨⟨⟨⟨⟨⟨h1, h2⟩, h3⟩, h4⟩, h5⟩, h6⟩, h7⟩, h8⟩, h9⟩ := h
  exact ⟨⟨h1, h2, h3, h4, h5, h6, h7, h8⟩, ⟨h1, h2, h3, h4⟩, h9⟩
section
variable {P : Program} {K : PySem.W.Frag} {mg : Str → Option Value} {h : Heap}
theorem ev_mk0 {x : Str} {C : Addr} (KX : K.In h) (Gh : h.Ns mainGlobals mg) (h1 : PySem.W.nsIn K mainGlobals x = some (some (.ref C))) (h2 : PySem.W.keepIn K (.ref C) = true) (h3 : evB K C = true)
    (h4 : PySem.W.excIn K C [.type "ValueError", .type "Exception", .type "BaseException", .type "object"] "ValueError.__new__" = true) : EvAt P K mg x none :=
  let ⟨a, b, c⟩ := evB_ok h3
  ⟨C, h1, PySem.W.mg_of KX Gh h1, h2, a, b, c, h4⟩
theorem ev_mk1 {x f : Str} {C : Addr} (KX : K.In h) (Gh : h.Ns mainGlobals mg) (h1 : PySem.W.nsIn K mainGlobals x = some (some (.ref C))) (h2 : PySem.W.keepIn K (.ref C) = true) (h3 : evB K C = true)
    (h4 : ∃ fI st se, SupI P K C fI f st se f) (h6 : PySem.W.findIn K (.ref C) f = some none) : EvAt P K mg x (some f) :=
  let ⟨a, b, c⟩ := evB_ok h3
  ⟨C, h1, PySem.W.mg_of KX Gh h1, h2, a, b, c, h4, h6⟩
noncomputable def eisB (K : PySem.W.Frag) (p : Str × Str × Bool) : Bool := match PySem.W.nsIn K mainGlobals p.1 with
  | some (some (.ref C)) => (match PySem.W.nsIn K mainGlobals p.2.1 with
    | some (some (.ref Da)) => decide (PySem.W.kitOne K (.ref C) (.ref Da) = some p.2.2)
    | some none => (match bootBuiltins p.2.1 with
      | some (.type T) => decide (PySem.W.kitOne K (.ref C) (.type T) = some p.2.2) && decide (p.2.1 ≠ "__name__")
      | _ => false)
    | _ => false)
  | _ => false
theorem eis_of (KX : K.In h) (Gh : h.Ns mainGlobals mg) {p : Str × Str × Bool} (e : eisB K p = true) : EisAt K mg p.1 p.2.1 p.2.2 := by
  unfold eisB at e
  split at e
  · rename_i C hC
    split at e
    · rename_i Da hD
      exact ⟨C, .ref Da, .ref Da, hC, .inl ⟨Da, rfl, rfl, PySem.W.mg_of KX Gh hD⟩, of_decide_eq_true e⟩
    · rename_i hD
      split at e
      · rename_i T hT
        rw [Bool.and_eq_true] at e
        exact ⟨C, .ty T, .type T, hC, .inr ⟨T, rfl, rfl, PySem.W.mg_none_of KX Gh hD, hT, of_decide_eq_true e.2⟩, of_decide_eq_true e.1⟩
      · cases e
    · cases e
  · cases e
inductive EvsAll (P : Program) (K : PySem.W.Frag) (mg : Str → Option Value) : List (Str × Option Str) → Prop
  | nil : EvsAll P K mg []
  | cons {x : Str} {f : Option Str} {r : List (Str × Option Str)} : EvAt P K mg x f → EvsAll P K mg r → EvsAll P K mg ((x, f) :: r)
theorem EvsAll.get : ∀ {L : List (Str × Option Str)}, EvsAll P K mg L → ∀ x f, L.lookup x = some f → EvAt P K mg x f
  | _, .nil, x, f, e => by cases e
  | _, .cons (x := y) a t, x, f, e => by
    rw [List.lookup_cons] at e
    split at e
    · rename_i q
      have := eq_of_beq q
      subst this
      cases e
      exact a
    · exact EvsAll.get t x f e
theorem ev_all {G : Glb} (KX : K.In h) (Gh : h.Ns mainGlobals mg) (a : EvsAll P K mg G.evs) (b : G.evi.all (eisB K) = true) (c : G.evi.all (fun p => (G.evs.lookup p.1).isSome) = true) : EvAll P K mg G :=
  ⟨a.get, fun p hp => ⟨eis_of KX Gh (List.all_eq_true.mp b p hp), List.all_eq_true.mp c p hp⟩⟩
end
end DL
namespace DL
open PySem PySem.Spec PyProof.Rows L2
inductive GnAll (K : PySem.W.Frag) (mg : Str → Option Value) (G : Glb) (T : List FnB) : List (Str × Nat) → Prop
  | nil : GnAll K mg G T []
  | cons {x : Str} {f : Nat} {r : List (Str × Nat)} {fa : Addr} {st : Stmt} {N : List Str} {p : Str} {b : FnB} {g : Nat} (h0 : G.rp = false) (h1 : mg x = some (.ref fa)) (h2 : T[f]? = some ⟨1, 1, B_on g, none⟩) (h3 : T[g]? = some b) (h4 : GnAt K G st N p b fa) (t : GnAll K mg G T r) :
      GnAll K mg G T ((x, f) :: r)
theorem GnAll.get {K : PySem.W.Frag} {mg : Str → Option Value} {G : Glb} {T : List FnB} : ∀ {L : List (Str × Nat)}, GnAll K mg G T L → ∀ x f, L.lookup x = some f → ∃ fa st N p b g, G.rp = false ∧ mg x = some (.ref fa) ∧ T[f]? = some ⟨1, 1, B_on g, none⟩ ∧ T[g]? = some b ∧ GnAt K G st N p b fa
  | _, .nil, x, f, h => by cases h
  | _, .cons (x := y) h0 h1 h2 h3 h4 t, x, f, h => by
    rw [List.lookup_cons] at h
    split at h
    · rename_i q
      have := eq_of_beq q
      subst this
      cases h
      exact ⟨_, _, _, _, _, _, h0, h1, h2, h3, h4⟩
    · exact GnAll.get t x f h
section
variable {src : Src} {bd : DV → DEnv → Option DEnv} {gt : GT} {ge : GE} {δ0 : DEnv} {all : List DV} {HD : HDt} {Q : List DV → HDt → Prop}
theorem compW_pure (p : DV → Bool) (f : DV → DV) (so : srcOk src all HD) : ∀ {xs : List DV} {Q : List DV → HDt → Prop},
    (∀ x ∈ xs, ∃ δ', bd x δ0 = some δ' ∧ (∀ K : Bool → HDt → Prop, K (p x) HD → gt δ' HD K) ∧ (p x = true → ∀ K : DQ, K (f x) HD → ge δ' HD K)) → Q ((xs.filter p).map f) HD → compW src bd gt ge δ0 all xs HD Q
  | [], Q, _, q => ⟨so, q⟩
  | x :: xs, Q, h, q => by
    refine ⟨so, ?_⟩
    obtain ⟨δ', h1, h2, h3⟩ := h x (by simp)
    rw [h1]
    refine h2 _ ?_
    by_cases e : p x = true
    · rw [if_pos e]
      refine h3 e _ (compW_pure p f so (fun y hy => h y (by simp [hy])) ?_)
      simpa [List.filter_cons_of_pos e] using q
    · rw [if_neg e]
      refine compW_pure p f so (fun y hy => h y (by simp [hy])) ?_
      simpa [List.filter_cons_of_neg e] using q
theorem compW_map (f : DV → DV) (so : srcOk src all HD) {xs : List DV} {Q : List DV → HDt → Prop} (h : ∀ x ∈ xs, ∃ δ', bd x δ0 = some δ' ∧ ∀ K : DQ, K (f x) HD → ge δ' HD K) (q : Q (xs.map f) HD) : compW src bd gYes ge δ0 all xs HD Q :=
  compW_pure (fun _ => true) f so (fun x hx => let ⟨δ', h1, h2⟩ := h x hx
    ⟨δ', h1, fun K k => k, fun _ => h2⟩) (by rw [List.filter_eq_self.mpr (by simp)]; exact q)
end
theorem gVar_0 {x : DV} {δ : DEnv} {HD : HDt} {Q : DQ} : gVar 0 (some x :: δ) HD Q = Q x HD := rfl
theorem gVar_s {i : Nat} {y : Option DV} {δ : DEnv} {HD : HDt} {Q : DQ} : gVar (i + 1) (y :: δ) HD Q = gVar i δ HD Q := rfl
noncomputable def DeckAt (a b : Addr) (HD : HDt) : Prop := a ≠ b ∧ ∃ (zs cs : List Int) (k : Int), HD a = some (.lst [.r b, .d (.list (cs.map .int)), .d (.int k)]) ∧ HD b = some (.lst (zs.map fun z => .d (.int z))) ∧ cs ≠ []
structure Dk (a b : Addr) (H0 HD : HDt) : Prop where
  deck : DeckAt a b HD
  same : ∀ p c, H0 p = some c → p ≠ a → p ≠ b → HD p = some c
section
variable {a b : Addr} {H0 H1 H2 : HDt}
theorem Dk.refl (h : DeckAt a b H0) : Dk a b H0 H0 := ⟨h, fun _ _ e _ _ => e⟩
theorem Dk.trans (x : Dk a b H0 H1) (y : Dk a b H1 H2) : Dk a b H0 H2 := ⟨y.deck, fun p c e h1 h2 => y.same p c (x.same p c e h1 h2) h1 h2⟩
end
noncomputable def B_draw : List RS := [
    .ifs (.cmp .NotEq (.ix (.var 0) (.cst (.int 0))) (.lst false (.nil))) [.asg (.nm 4) (.ix (.ix (.var 0) (.cst (.int 0))) (.cst (.int 0))),
    .set (.ix (.var 0) (.cst (.int 0))) (.cst (.int 0)) (.arith .FloorDiv (.var 4) (.var 1)),
    .ifs (.cmp .Eq (.ix (.ix (.var 0) (.cst (.int 0))) (.cst (.int 0))) (.cst (.int 0))) [.drop (.meth .popAt (.ix (.var 0) (.cst (.int 0))) (.cons (.cst (.int 0)) (.nil)))] [],
    .ret (.arith .Mod (.bi .int (.var 4)) (.var 1))] [],
    .set (.var 0) (.cst (.int 2)) (.add false (.ix (.var 0) (.cst (.int 2))) (.cst (.int 1))),
    .asg (.nm 2) (.ix (.ix (.var 0) (.cst (.int 1))) (.arith .Mod (.bi .int (.ix (.var 0) (.cst (.int 2)))) (.bi .len (.ix (.var 0) (.cst (.int 1)))))),
    .asg (.nm 3) (.arith .Mod (.bi .int (.add false (.arith .Mod (.bi .int (.var 2)) (.cst (.int 4294966297))) (.mul (.cst (.int 1640531527)) (.ix (.var 0) (.cst (.int 2)))))) (.cst (.int 4294966297))),
    .asg (.nm 3) (.arith .Mod (.bi .int (.add false (.mul (.var 3) (.var 3)) (.mul (.cst (.int 122949823)) (.ix (.var 0) (.cst (.int 2)))))) (.cst (.int 4294966237))),
    .ret (.arith .Mod (.arith .FloorDiv (.arith .Mod (.bi .int (.mul (.var 3) (.var 3))) (.cst (.int 4294966187))) (.cst (.int 1024))) (.var 1))]
noncomputable def clsMem (s : Stmt) (j : Nat) : Stmt := match s with
  | .ClassDef _ _ _ body _ _ _ _ _ _ _ => body.getD j (.Pass ⟨0, 0, 0, 0⟩)
  | _ => .Pass ⟨0, 0, 0, 0⟩
inductive NoF (K : PySem.W.Frag) (Ca : Addr) : List Str → Prop
  | nil : NoF K Ca []
  | cons {f : Str} {r : List Str} : PySem.W.findIn K (.ref Ca) f = some none → NoF K Ca r → NoF K Ca (f :: r)
theorem NoF.get {K : PySem.W.Frag} {Ca : Addr} : ∀ {L : List Str}, NoF K Ca L → ∀ f ∈ L, NoAttr K Ca f
  | _, .nil, x, h => by cases h
  | _, .cons a r, x, h => by
    rcases List.mem_cons.mp h with z | z
    · subst z
      exact a
    · exact NoF.get r x z
theorem atI_0 {α : Type} {x : α} {xs : List α} : atI (x :: xs) 0 = some x := by
  simp [atI, ixN]
theorem atI_1 {α : Type} {x y : α} {xs : List α} : atI (x :: y :: xs) 1 = some y := by
  have : (1 : Int) < (xs.length : Int) + 1 + 1 := by omega
  simp [atI, ixN, this]
theorem atI_2 {α : Type} {x y z : α} {xs : List α} : atI (x :: y :: z :: xs) 2 = some z := by
  have : (2 : Int) < (xs.length : Int) + 1 + 1 + 1 := by omega
  simp [atI, ixN, this]
theorem ixN_0 {n : Nat} : ixN (n + 1) 0 = some 0 := by
  have : (0 : Int) < ((n + 1 : Nat) : Int) := by omega
  simp [ixN, this]
theorem ixN_2 {n : Nat} : ixN (n + 1 + 1 + 1) 2 = some 2 := by
  have : (2 : Int) < (n : Int) + 1 + 1 + 1 := by omega
  simp [ixN, this]
theorem seqIndex_0 {n : Nat} : seqIndex? 0 (n + 1) = some 0 := by
  have : (0 : Int) < ((n + 1 : Nat) : Int) := by omega
  simp [seqIndex?, this]
theorem atI_nn {α : Type} {xs : List α} {j : Nat} {x : α} (h : xs[j]? = some x) : atI xs (j : Int) = some x := by
  have hl : j < xs.length := (List.getElem?_eq_some_iff.mp h).1
  have : (j : Int) < (xs.length : Int) := by omega
  simp [atI, ixN, this, h]
local macro_rules | `(tactic| simp_arith! [$args,*]) => `(tactic| simp [wB, wS, wE, wA, wT, wO, wI, gSeq2, gNext, gRet, gAndV, gOrV, gNotV, gIsi, gVar, gC, gChain, g2, dCmp, dv, dStart, dEnds, tyD, tyP, Ty.sub, PySem.W.alike, PySem.W.dataLt_int, PyData.depth, gVal, gBool, gNotT, gAndT, gOrT, gIfE, gIfS, gAsg, gDrop, gSetS, dSet, bindP, bindPs, dIx, dArith, dAdd, dMul, gMt, isL, dMt, gCons, gNil, gCall, dBi, seqD, listD, gLst, gTup, mkL, dats, PyData.eqv, dset_same, eqOk, PyData.eqvAll, List.map_cons, List.map_nil, atI_0, atI_1, atI_2, ixN_0, ixN_2, seqIndex_0, dset_ne, CMul, $args,*])
theorem canLay_ints : ∀ zs : List Int, PyData.canLayAll0 (zs.map .int) = true
  | [] => rfl
  | z :: zs => by simp [PyData.canLayAll0, PyData.canLay0, canLay_ints zs]
theorem depth_ints : ∀ zs : List Int, PyData.depthAll (zs.map .int) = 0
  | [] => rfl
  | z :: zs => by simp [PyData.depthAll, PyData.depth, depth_ints zs]
theorem shaped_ints (zs : List Int) : SeqAt.shaped (.list (zs.map .int)) = true := by
  simp [SeqAt.shaped, PyData.canLay0, canLay_ints, PyData.depth, depth_ints]
theorem shaped_nil : SeqAt.shaped (.list []) = true := by decide
theorem shaped_int (i : Int) : SeqAt.shaped (.int i) = true := by simp [SeqAt.shaped, PyData.canLay0, PyData.depth]
theorem dats_ints (zs : List Int) : dats (zs.map fun z => DV.d (.int z)) = some (zs.map .int) := by
  have := dats_map (zs.map PyData.int)
  rw [List.map_map] at this
  exact this
theorem draw_spec {T : List FnB} {A : Str → Option Addr} {n f : Nat} {a b : Addr} {many : Int} {HD : HDt} {Q : DQ} (hT : T[f]? = some ⟨2, 5, B_draw, none⟩) (hm : 0 < many) (hM : many < 170141183460469231731687303715884105728) (D : DeckAt a b HD)
    (q : ∀ r HD', Dk a b HD HD' → 0 ≤ r → r < many → Q (.d (.int r)) HD') : wCall T A (n + 1) f [.r a, .d (.int many)] HD Q := by
  obtain ⟨hab, zs, cs, k, ha, hb, hc⟩ := D
  simp only [wCall, wFn, hT]
  refine ⟨rfl, ?_⟩
  have hl : 0 < cs.length := List.length_pos_iff.mpr hc
  have h0 : (0 : Int) < (cs.length : Int) := by omega
  obtain ⟨j, hj⟩ : ∃ j : Nat, (k + 1).fmod (cs.length : Int) = (j : Int) := ⟨((k + 1).fmod cs.length).toNat, (Int.toNat_of_nonneg (Int.fmod_nonneg_of_pos _ h0)).symm⟩
  have hjl : j < cs.length := by
    have := Int.fmod_lt_of_pos (k + 1) h0
    omega
  have hat : atI (cs.map fun c => DV.d (.int c)) (j : Int) = some (.d (.int cs[j])) := atI_nn (by simp [hjl])
  have hlen : ¬ (cs.length = 0) := by omega
  have mk : ∀ m : Int, (0 : Int) ≤ m.fmod many ∧ m.fmod many < many := fun m => ⟨Int.fmod_nonneg_of_pos _ hm, Int.fmod_lt_of_pos _ hm⟩
  have fm : ∀ (x y : Int), 0 < y → y < 18446744073709551616 → (-18446744073709551616 < x.fmod y ∧ x.fmod y < 18446744073709551616) := fun x y h1 h2 => by
    have a1 := Int.fmod_nonneg_of_pos x h1
    have a2 := Int.fmod_lt_of_pos x h1
    omega
  have hne : many ≠ 0 := by omega
  have hab' : b ≠ a := fun z => hab z.symm
  have new : ∀ HD', (∃ (zs cs : List Int) (k : Int), HD' a = some (.lst [.r b, .d (.list (cs.map .int)), .d (.int k)]) ∧ HD' b = some (.lst (zs.map fun z => .d (.int z))) ∧ cs ≠ []) → (∀ p c, HD p = some c → p ≠ a → p ≠ b → HD' p = some c) → Dk a b HD HD' :=
    fun HD' h1 h2 => ⟨⟨hab, h1⟩, h2⟩
  have he : (DV.d ∘ PyData.int) = fun c => DV.d (.int c) := rfl
  cases zs with
  | nil =>
    have hb' : HD b = some (.lst []) := hb
    simp_arith! [B_draw, ha, hb', shaped_nil, he, hj, hat, hlen, hne, hc]
    refine ⟨fm _ _ (by decide) (by decide), fm _ _ (by decide) (by decide), q _ _ (new _ ⟨[], cs, k + 1, dset_same, ?_, hc⟩ ?_) (mk _).1 (mk _).2⟩
    · rw [dset_ne hab']
      exact hb'
    · intro p c e h1 h2
      rw [dset_ne h1]
      exact e
  | cons z zs =>
    have hb' : HD b = some (.lst (.d (.int z) :: zs.map fun z => .d (.int z))) := hb
    have hsh : SeqAt.shaped (.list (.int z :: zs.map PyData.int)) = true := shaped_ints (z :: zs)
    have fr : ∀ xs, ∀ p c, HD p = some c → p ≠ a → p ≠ b → dset HD b (.lst xs) p = some c := fun xs p c e h1 h2 => by
      rw [dset_ne h2]
      exact e
    have stay : ∀ (zs' : List Int) (r : Int), 0 ≤ r → r < many → Q (.d (.int r)) (dset HD b (.lst (zs'.map fun z => .d (.int z)))) := fun zs' r r1 r2 => q _ _ (new _ ⟨zs', cs, k, (dset_ne hab).trans ha, dset_same, hc⟩ (fr _)) r1 r2
    simp_arith! [B_draw, ha, hb', shaped_nil, hsh, dats_ints, hne, shaped_int, hab, dset_dset]
    refine ⟨by omega, ?_⟩
    by_cases hz : z.fdiv many = 0
    · rw [if_pos hz]
      exact stay zs _ (mk _).1 (mk _).2
    · rw [if_neg hz]
      exact stay (z.fdiv many :: zs) _ (mk _).1 (mk _).2
mutual
noncomputable def sz : PyData → Nat
  | .list xs => 3 + szs xs
  | .tuple xs => 3 + szs xs
  | .dict kvs => (PyData.shown (.dict kvs)).length
  | .none => 4
  | .bool _ => 5
  | .int i => (PyData.shown (.int i)).length
  | .str x => (PyData.shown (.str x)).length
noncomputable def szs : List PyData → Nat
  | [] => 0
  | d :: r => sz d + 2 + szs r
end
theorem textFrom_up : ∀ (ts : List Str) (k : Nat) (acc : Str), (textFrom k acc ts).length ≤ acc.length + piled ts
  | [], k, acc => by simp [textFrom]
  | t :: r, k, acc => by
    have h := textFrom_up r (k + 1) (acc ++ (if k > 0 then ", " else "" : String) ++ t)
    rw [piled_cons]
    rw [strLen_append, strLen_append] at h
    have h2 : (((if k > 0 then ", " else "" : String) : Str)).length ≤ 2 := by split <;> decide
    show (textFrom (k + 1) _ r).length ≤ _
    omega
theorem join_up (ts : List Str) : (Str.join ", " ts).length ≤ piled ts := by
  by_cases h : ts = []
  · subst h; decide
  · have := join_length_add ts h
    omega
mutual
theorem shown_le : ∀ d : PyData, d.shown.length ≤ sz d
  | .list xs => by
    have h := shownAll_le xs
    have h2 := textFrom_up (PyData.shownAll xs) 0 "["
    rw [PyData.shown, sz, listText, strLen_append]
    have e1 : (("[" : String) : Str).length = 1 := by decide
    have e2 : (("]" : String) : Str).length = 1 := by decide
    omega
  | .tuple xs => by
    have h := shownAll_le xs
    have h2 := join_up (PyData.shownAll xs)
    rw [PyData.shown, sz, tupleText, strLen_append, strLen_append]
    have e1 : (("(" : String) : Str).length = 1 := by decide
    have e2 : (((if (PyData.shownAll xs).length == 1 then ",)" else ")" : String)) : Str).length ≤ 2 := by split <;> decide
    omega
  | .dict kvs => by rw [sz]; exact Nat.le_refl _
  | .none => by decide
  | .bool true => by decide
  | .bool false => by decide
  | .int i => by rw [sz]; exact Nat.le_refl _
  | .str x => by rw [sz]; exact Nat.le_refl _
theorem shownAll_le : ∀ ds : List PyData, piled (PyData.shownAll ds) ≤ szs ds
  | [] => by simp [PyData.shownAll, piled, szs]
  | d :: r => by
    rw [PyData.shownAll, piled_cons, szs]
    have h1 := shown_le d
    have h2 := shownAll_le r
    omega
end
mutual
noncomputable def isPl : PyData → Bool
  | .int i => decide (0 ≤ i) && decide (i ≤ 2050)
  | .tuple xs => isPls xs
  | .str x => PyData.strOk x
  | .none => true
  | _ => false
noncomputable def isPls : List PyData → Bool
  | [] => true
  | d :: r => isPl d && isPls r
end
mutual
theorem pl_show : ∀ {d : PyData}, isPl d = true → d.showable = true ∧ d.hasDict = false ∧ noList d = true ∧ d.canLay0 = true
  | .int i, h => by
    simp only [isPl, Bool.and_eq_true, decide_eq_true_eq] at h
    refine ⟨?_, rfl, rfl, rfl⟩
    rw [PyData.showable]
    have h1 : i.natAbs < 2 ^ 1920 := Nat.lt_of_le_of_lt (show i.natAbs ≤ 4000 by omega) (by decide)
    by_cases z : i.natAbs = 0
    · rw [z]; decide
    · exact decide_eq_true ((Nat.log2_lt z).mpr h1)
  | .tuple xs, h => by
    have := pls_show (show isPls xs = true from h)
    simpa [PyData.showable, PyData.hasDict, noList, PyData.canLay0] using this
  | .none, h => by simp [PyData.showable, PyData.hasDict, noList, PyData.canLay0]
  | .bool _, h => by cases h
  | .str x, h => by
    have h' : PyData.strOk x = true := h
    simp [PyData.showable, PyData.hasDict, noList, PyData.canLay0, h']
  | .list _, h => by cases h
  | .dict _, h => by cases h
theorem pls_show : ∀ {xs : List PyData}, isPls xs = true → PyData.showableAll xs = true ∧ PyData.hasDictAll xs = false ∧ noLists xs = true ∧ PyData.canLayAll0 xs = true
  | [], _ => ⟨rfl, rfl, rfl, rfl⟩
  | x :: xs, h => by
    simp only [isPls, Bool.and_eq_true] at h
    have h1 := pl_show h.1
    have h2 := pls_show h.2
    simp [PyData.showableAll, PyData.hasDictAll, noLists, PyData.canLayAll0, h1, h2]
end
mutual
noncomputable def sgB : PyData → Bool
  | .str x => PyData.strOk x
  | .list xs => sgBs xs
  | .tuple xs => sgBs xs
  | .dict kvs => sgKv kvs
  | _ => true
noncomputable def sgBs : List PyData → Bool
  | [] => true
  | d :: r => sgB d && sgBs r
noncomputable def sgKv : List (PyData × PyData) → Bool
  | [] => true
  | (k, v) :: r => sgB k && sgB v && sgKv r
end
mutual
theorem pl_ch : ∀ {d : PyData}, isPl d = true → sgB d = true
  | .int i, _ => by simp [sgB]
  | .tuple xs, h => by
    rw [sgB]
    exact pls_ch h
  | .none, _ => by simp [sgB]
  | .bool _, _ => by simp [sgB]
  | .str x, h => by
    rw [sgB]
    exact h
  | .list _, h => by cases h
  | .dict _, h => by cases h
theorem pls_ch : ∀ {xs : List PyData}, isPls xs = true → sgBs xs = true
  | [], _ => rfl
  | x :: xs, h => by
    simp only [isPls, Bool.and_eq_true] at h
    rw [sgBs, pl_ch h.1, pls_ch h.2]
    rfl
end
structure Rp (dep m : Nat) (d : PyData) : Prop where
  sh : d.showable = true
  le : sz d ≤ m
  dp : d.depth ≤ dep
  ok : d.hasDict = false ∨ noList d = true
  ch : sgB d = true
theorem Rp.mono {dep dep' m m' : Nat} {d : PyData} (h : Rp dep m d) (h1 : dep ≤ dep') (h2 : m ≤ m') : Rp dep' m' d := ⟨h.sh, Nat.le_trans h.le h2, Nat.le_trans h.dp h1, h.ok, h.ch⟩
theorem Rp.rep {dep m : Nat} {d : PyData} (h : Rp dep m d) (h1 : dep ≤ 64) (h2 : m ≤ sizeLine) : d.showable = true ∧ d.shown.length ≤ sizeLine ∧ d.depth ≤ 64 :=
  ⟨h.sh, Nat.le_trans (shown_le d) (Nat.le_trans h.le h2), Nat.le_trans h.dp h1⟩
theorem Rp.pl {dep : Nat} {d : PyData} (h : isPl d = true) (hd : d.depth ≤ dep) : Rp dep (sz d) d := let ⟨a, b, _, _⟩ := pl_show h
  ⟨a, Nat.le_refl _, hd, .inl b, pl_ch h⟩
local macro_rules | `(tactic| simp_arith! [$args,*]) => `(tactic| simp [wB, wS, wE, wA, wT, wO, wI, gSeq2, gNext, gRet, gAndV, gOrV, gNotV, gNeg, gIsi, ↓gVar_0, ↓gVar_s, gC, gChain, g2, dCmp, dv, dStart, dEnds, tyD, tyP, Ty.sub, PySem.W.alike, PySem.W.dataLt_int, PyData.depth, gVal, gBool, gNotT, gAndT, gOrT, gIfE, gIfS, gAsg, gDrop, gSetS, dSet, bindP, bindPs, dIx, dArith, dAdd, dMul, gMt, isL, dMt, DL.gCons, DL.gNil, gCall, dBi, seqD, listD, gLst, DL.gTup, mkL, dats, PyData.eqv, dset_same, eqOk, PyData.eqvAll, List.map_cons, List.map_nil, atI_0, atI_1, atI_2, ixN_0, ixN_2, seqIndex_0, dset_ne, CMul, gFor, gRng1, gRng2, rngQ1, rngQ2, gSeq, gComp, gSl, gPart, gNoPart, dSl, gRev, gEnum, enumQ, gFrz, dIsN, isNone, gPar2, parQ, gRetN, gYes, srcOf, dwipe, shaped_int, $args,*])
theorem cutD_map {α β : Type} (f : α → β) (xs : List α) (lo hi : Option Int) : cutD (xs.map f) lo hi = (cutD xs lo hi).map f := by
  simp [cutD, List.map_drop, List.map_take]
noncomputable def B_deck : List RS := [
    .asg (.nm 1) (.comp false [2] (.nm 2) (.seq (.sl false (.var 0) .none (.some (.cst (.int 63))))) .yes (.bi .abs (.var 2))),
    .ret (.lst true (.cons (.comp true [2] (.nm 2) (.seq (.var 1)) (.cmp .GtE (.var 2) (.arith .Pow (.cst (.int 10)) (.cst (.int 18)))) (.var 2)) (.cons (.add false (.var 1) (.lst false (.cons (.add false (.cst (.int 11239)) (.bi .len (.var 1))) (.nil)))) (.cons (.cst (.int 0)) (.nil)))))]
theorem deck_specG {T : List FnB} {A : Str → Option Addr} {n f : Nat} {ns : List Int} {HD : HDt} {Q : DQ} (hT : T[f]? = some ⟨1, 3, B_deck, none⟩) (hn : ns.length ≤ 63) (q : ∀ a b HD', DeckAt a b HD' → (∀ p c, HD p = some c → HD' p = some c ∧ p ≠ a ∧ p ≠ b) → Q (.r a) HD') : wCall T A (n + 1) f [.w ns] HD Q := by
  rw [wCall_at hT]
  refine ⟨rfl, ?_⟩
  let cs := (cutD ns none (some 63)).map fun i : Int => if i < 0 then -i else i
  have hc : cs.length ≤ 63 := by
    have : (cutD ns none (some 63)).length ≤ ns.length := by
      simp [cutD]
      omega
    simp only [cs, List.length_map]
    omega
  have he : (DV.d ∘ PyData.int) = fun c => DV.d (.int c) := rfl
  have hl : (cutD ns none (some 63)).length ≤ sizeLine := by
    have := hc
    simp only [cs, List.length_map] at this
    exact Nat.le_trans this (by decide)
  simp_arith! [B_deck, cutD_map, dats_ints, he, hl]
  refine compW_map (fun x => match x with
    | .d (.int i) => .d (.int (if i < 0 then -i else i))
    | x => x) (show srcOk none _ _ from trivial) (fun x hx => ?_) ?_
  · obtain ⟨i, _, rfl⟩ := List.mem_map.mp hx
    refine ⟨_, rfl, fun K k => ?_⟩
    simp_arith! []
    exact k
  have e1 : ((cutD ns none (some 63)).map fun i => DV.d (.int i)).map (fun x => match x with
    | .d (.int i) => DV.d (.int (if i < 0 then -i else i))
    | x => x) = cs.map fun c => DV.d (.int c) := by
    simp only [cs, List.map_map]
    apply List.map_congr_left
    intro i _
    rfl
  rw [e1]
  have hl2 : cs.length ≤ sizeLine := Nat.le_trans hc (by decide)
  simp_arith! [dats_ints, he, hl2]
  have hp : (18 : Int) ≤ 1000000 := by decide
  refine compW_pure (fun x => match x with
    | .d (.int i) => !decide (i < 10 ^ 18)
    | _ => false) id (show srcOk none _ _ from trivial) (fun x hx => ?_) ?_
  · obtain ⟨i, _, rfl⟩ := List.mem_map.mp hx
    refine ⟨_, rfl, fun K k => ?_, fun _ K k => ?_⟩
    · simp_arith! []
      simpa using k
    · simp_arith! []
      exact k
  intro b hb
  have e2 : (List.filter (fun x => match x with
    | DV.d (.int i) => !decide (i < 10 ^ 18)
    | _ => false) (cs.map fun c => DV.d (.int c))).map id = (cs.filter fun i => !decide (i < 10 ^ 18)).map fun c => DV.d (.int c) := by
    rw [List.map_id, List.filter_map]
    rfl
  rw [e2]
  have e3 : (cs.map fun c => DV.d (.int c)) ++ [DV.d (.int (11239 + (cs.length : Int)))] = (cs ++ [11239 + (cs.length : Int)]).map fun c => DV.d (.int c) := by simp
  have h1 : cs.length + 1 ≤ sizeLine := Nat.le_trans (show _ ≤ 64 by omega) (by decide)
  have e4 : dats ((cs.map fun c => DV.d (.int c)) ++ [DV.d (.int (11239 + (cs.length : Int)))]) = some ((cs ++ [11239 + (cs.length : Int)]).map .int) := by
    rw [e3]
    exact dats_ints _
  rw [e4]
  refine ⟨by decide, h1, ?_⟩
  refine ⟨by decide, ?_⟩
  intro a ha
  have hab : a ≠ b := fun z => by
    subst z
    rw [dset_same] at ha
    cases ha
  have ha0 : HD a = none := by
    rw [dset_ne hab] at ha
    exact ha
  refine q a b _ ⟨hab, cs.filter (fun i => !decide (i < 10 ^ 18)), cs ++ [11239 + (cs.length : Int)], 0, ?_, ?_, by simp⟩ fun p c e => ?_
  · exact dset_same
  · rw [dset_ne (fun z => hab z.symm), dset_same]
  · have n1 : p ≠ a := fun z => by
      subst z
      rw [ha0] at e
      cases e
    have n2 : p ≠ b := fun z => by
      subst z
      rw [hb] at e
      cases e
    exact ⟨by rw [dset_ne n1, dset_ne n2]; exact e, n1, n2⟩
noncomputable def B_one (dr : Nat) : List RS := [
    .ret (.ix (.var 1) (.call dr (.cons (.var 0) (.cons (.bi .len (.var 1)) (.nil)))))]
theorem one_spec {T : List FnB} {A : Str → Option Addr} {n f dr : Nat} {a b : Addr} {x : PyData} {xs : List PyData} {HD : HDt} {Q : DQ} (hT : T[f]? = some ⟨2, 2, B_one dr, none⟩) (hd : T[dr]? = some ⟨2, 5, B_draw, none⟩) (hx : x = .list xs ∨ x = .tuple xs) (h0 : xs ≠ []) (hl : xs.length < 1073741824) (D : DeckAt a b HD)
    (q : ∀ y HD', Dk a b HD HD' → y ∈ xs → Q (.d y) HD') : wCall T A (n + 2) f [.r a, .d x] HD Q := by
  rw [wCall_at hT]
  refine ⟨rfl, ?_⟩
  have hp : 0 < xs.length := List.length_pos_iff.mpr h0
  have fin : ∀ (j : Int) HD', Dk a b HD HD' → 0 ≤ j → j < (xs.length : Int) → ∃ y, atI (xs.map DV.d) j = some (.d y) ∧ Q (.d y) HD' := fun j HD' h1 h2 h3 => by
    obtain ⟨k, rfl⟩ : ∃ k : Nat, j = (k : Int) := ⟨j.toNat, by omega⟩
    have hk : k < xs.length := by omega
    exact ⟨xs[k], atI_nn (by simp [hk]), q _ _ h1 (List.getElem_mem hk)⟩
  rcases hx with rfl | rfl
  · simp_arith! [B_one]
    refine draw_spec (A := A) (n := n) (many := (xs.length : Int)) hd (by omega) (by omega) D fun r HD' h1 h2 h3 => ?_
    obtain ⟨y, e, k⟩ := fin r HD' h1 h2 h3
    simpa only [e] using k
  · simp_arith! [B_one]
    refine draw_spec (A := A) (n := n) (many := (xs.length : Int)) hd (by omega) (by omega) D fun r HD' h1 h2 h3 => ?_
    obtain ⟨y, e, k⟩ := fin r HD' h1 h2 h3
    simpa only [e] using k
section
variable {x y z : PyData} {xs : List PyData} {i j : Int} {HD : HDt} {Q : DQ} {ge : GE} {ga : GA} {δ : DEnv} {c : Bool}
theorem e_mk {ds : List PyData} : mkL false (ds.map DV.d) HD Q = Q (.d (.list ds)) HD := by simp [mkL, dats_map]
end
end DL
namespace TL
open PySem PySem.Spec PyProof.Rows L2 DL
class WM (M : Type → Type) [Monad M] where
  wp : {α : Type} → M α → (α → Prop) → Prop
  ofO : {α : Type} → Option α → M α
  mono : ∀ {α : Type} {m : M α} {P Q : α → Prop}, (∀ a, P a → Q a) → wp m P → wp m Q
  wpure : ∀ {α : Type} {a : α} {Q : α → Prop}, wp (pure a : M α) Q → Q a
  wbind : ∀ {α β : Type} {m : M α} {k : α → M β} {Q : β → Prop}, wp (m >>= k) Q → wp m fun a => wp (k a) Q
  wof : ∀ {α : Type} {o : Option α} {Q : α → Prop}, wp (ofO o : M α) Q → ∃ a, o = some a ∧ Q a
instance : WM Option where
  wp m Q := ∃ a, m = some a ∧ Q a
  ofO o := o
  mono h := fun ⟨a, e, q⟩ => ⟨a, e, h a q⟩
  wpure := fun ⟨_, e, q⟩ => by cases e; exact q
  wbind := fun {_ _ m k Q} ⟨b, e, q⟩ => by
    cases m with
    | none => cases e
    | some a => exact ⟨a, rfl, b, e, q⟩
  wof h := h
structure W (α : Type) where
  p : (α → Prop) → Prop
  mono : ∀ {P Q : α → Prop}, (∀ a, P a → Q a) → p P → p Q
instance : Monad W where
  pure a := ⟨fun Q => Q a, fun h => h a⟩
  bind m k := ⟨fun Q => m.p fun a => (k a).p Q, fun h => m.mono fun a => (k a).mono h⟩
instance : WM W where
  wp m Q := m.p Q
  ofO o := ⟨fun Q => ∃ a, o = some a ∧ Q a, fun h ⟨a, e, q⟩ => ⟨a, e, h a q⟩⟩
  mono {_ m _ _} h q := m.mono h q
  wpure h := h
  wbind h := h
  wof h := h
open WM
noncomputable def needs {M : Type → Type} [Monad M] [WM M] {α : Type} (p : Prop) [Decidable p] (m : M α) : M α := if p then m else ofO none
theorem wneeds {M : Type → Type} [Monad M] [WM M] {α : Type} {p : Prop} [Decidable p] {m : M α} {Q : α → Prop} (h : wp (needs p m) Q) : p ∧ wp m Q := by
  unfold needs at h
  split at h
  · exact ⟨‹_›, h⟩
  · obtain ⟨a, e, _⟩ := wof h
    cases e
noncomputable def letB {α β : Type} (a : α) (k : α → β) : β := k a
structure Codec (α : Type) where
  enc : α → PyData
noncomputable def cI : Codec Int := ⟨.int⟩
noncomputable def cB : Codec Bool := ⟨.bool⟩
noncomputable def cS : Codec Str := ⟨.str⟩
noncomputable def cN : Codec Unit := ⟨fun _ => .none⟩
noncomputable def cA : Codec PyData := ⟨id⟩
noncomputable def cT {α : Type} (c : Codec α) : Codec (List α) := ⟨fun xs => .tuple (xs.map c.enc)⟩
noncomputable def cL {α : Type} (c : Codec α) : Codec (List α) := ⟨fun xs => .list (xs.map c.enc)⟩
noncomputable def cO {α : Type} (c : Codec α) : Codec (Option α) := ⟨fun x => match x with
  | none => .none
  | some a => c.enc a⟩
noncomputable def cP {α β : Type} (c : Codec α) (d : Codec β) : Codec (α × β) := ⟨fun x => .tuple [c.enc x.1, d.enc x.2]⟩
noncomputable def c3 {α β γ : Type} (c : Codec α) (d : Codec β) (e : Codec γ) : Codec (α × β × γ) := ⟨fun x => .tuple [c.enc x.1, d.enc x.2.1, e.enc x.2.2]⟩
noncomputable def c4 {α β γ η : Type} (c : Codec α) (d : Codec β) (e : Codec γ) (f : Codec η) : Codec (α × β × γ × η) := ⟨fun x => .tuple [c.enc x.1, d.enc x.2.1, e.enc x.2.2.1, f.enc x.2.2.2]⟩
inductive FV where
  | d (x : PyData)
  | lst (xs : List PyData)
  | dct (t : Bool) (kvs : List (PyData × PyData))
inductive Slot where
  | no
  | val (d : PyData)
  | cell (xs : List PyData)
  | dct (t : Bool) (kvs : List (PyData × PyData))
  | deck
  | ob (a : Option Addr) (Ca : Addr) (fs : List (Str × FV))
  | obR (Ca : Addr) (fs : List (Str × FV))
  | cellR (xs : List PyData)
  | dctR (t : Bool) (kvs : List (PyData × PyData))
  | tabS (P : Addr) (q : Str)
  | cellP (p : Addr) (xs : List PyData)
  | dctP (p : Addr) (kvs : List (PyData × PyData))
  /-- a list made here, of whatever stands; a value that stands and is no data -/
  | cx (xs : List DV)
  | vx (E : EV)
noncomputable def toCell : Slot → Option Cell
  | .cell xs => some (.lst (xs.map .d))
  | .dct t kvs => some (.dct t kvs)
  | .cx xs => some (.lst xs)
  | _ => none
noncomputable def okId : Option Addr → Addr → Prop
  | some a, p => p = a
  | none, _ => True
noncomputable def refs (ds : List (Str × DV)) : List Addr := ds.filterMap fun x => match x.2 with
  | .r q => some q
  | _ => none
noncomputable def FOk (HD : HDt) (P : Addr → Prop) : FV → DV → Prop
  | .d x, v => v = .d x
  | .lst xs, v => ∃ q, v = .r q ∧ HD q = some (.lst (xs.map .d)) ∧ P q
  | .dct t kvs, v => ∃ q, v = .r q ∧ HD q = some (.dct t kvs) ∧ P q
noncomputable abbrev FsOk (HD : HDt) (P : Addr → Prop) : List (Str × FV) → List (Str × DV) → Prop := Paired fun (a : Str × FV) (b : Str × DV) => a.1 = b.1 ∧ FOk HD P a.2 b.2
theorem FOk.to {HD HD' : HDt} {P P' : Addr → Prop} {a : FV} {v : DV} (h : FOk HD P a v) (k : ∀ q c, v = .r q → P q → HD q = some c → HD' q = some c ∧ P' q) : FOk HD' P' a v := by
  cases a with
  | d x => exact h
  | lst xs =>
    obtain ⟨q, rfl, h1, h2⟩ := h
    obtain ⟨k1, k2⟩ := k q _ rfl h2 h1
    exact ⟨q, rfl, k1, k2⟩
  | dct t kvs =>
    obtain ⟨q, rfl, h1, h2⟩ := h
    obtain ⟨k1, k2⟩ := k q _ rfl h2 h1
    exact ⟨q, rfl, k1, k2⟩
theorem FsOk.to {HD HD' : HDt} {P P' : Addr → Prop} : ∀ {fs : List (Str × FV)} {ds : List (Str × DV)}, FsOk HD P fs ds → (∀ q c, q ∈ refs ds → P q → HD q = some c → HD' q = some c ∧ P' q) → FsOk HD' P' fs ds
  | _, _, .nil, _ => .nil
  | _, _, .cons (b := (f, v)) ⟨h1, h2⟩ t, k => .cons ⟨h1, h2.to fun q c e => k q c (by
      have e : v = .r q := e
      subst e
      simp [refs])⟩ (FsOk.to t fun q c hq => k q c (by
      unfold refs at hq ⊢
      rw [List.filterMap_cons]
      split
      · exact hq
      · exact List.mem_cons_of_mem _ hq))
theorem FsOk.ref {HD : HDt} {P : Addr → Prop} {q : Addr} : ∀ {fs : List (Str × FV)} {ds : List (Str × DV)}, FsOk HD P fs ds → q ∈ refs ds → P q ∧ ((∃ xs, HD q = some (.lst xs)) ∨ ∃ t kvs, HD q = some (.dct t kvs))
  | _, _, .nil, h => by simp [refs] at h
  | _, _, .cons (a := (f, a)) (b := (g, v)) ⟨h1, h2⟩ t, h => by
    unfold refs at h
    rw [List.filterMap_cons] at h
    cases a with
    | d x =>
      have h2 : v = .d x := h2
      subst h2
      exact FsOk.ref t h
    | lst xs =>
      obtain ⟨z, e, h3, h4⟩ := h2
      have e : v = .r z := e
      subst e
      rcases List.mem_cons.mp h with w | w
      · subst w
        exact ⟨h4, .inl ⟨_, h3⟩⟩
      · exact FsOk.ref t w
    | dct b kvs =>
      obtain ⟨z, e, h3, h4⟩ := h2
      have e : v = .r z := e
      subst e
      rcases List.mem_cons.mp h with w | w
      · subst w
        exact ⟨h4, .inr ⟨_, _, h3⟩⟩
      · exact FsOk.ref t w
noncomputable def DP (_ : List (Addr × Str)) : Type := Option (Addr × Addr)
noncomputable def TabsIn (tb : List (Addr × Str)) (HD : HDt) : Prop := ∀ P q, (P, q) ∈ tb → HD P = some (.tab q)
noncomputable def DeckOk {tb : List (Addr × Str)} : DP tb → HDt → Prop
  | none, _ => True
  | some (a, b), HD => DeckAt a b HD
structure DkOk {tb : List (Addr × Str)} (D : DP tb) (HD : HDt) : Prop where
  dk : DeckOk D HD
  tb : TabsIn tb HD
noncomputable def inDk {tb : List (Addr × Str)} : DP tb → Addr → Prop
  | none, _ => False
  | some (a, b), p => p = a ∨ p = b
noncomputable def inD {tb : List (Addr × Str)} (D : DP tb) (p : Addr) : Prop := inDk D p ∨ ∃ q, (p, q) ∈ tb
structure Fr {tb : List (Addr × Str)} (D : DP tb) (H0 HD : HDt) : Prop where
  deck : DkOk D HD
  same : ∀ p c, H0 p = some c → ¬ inD D p → HD p = some c
theorem Fr.refl {tb : List (Addr × Str)} {D : DP tb} {H0 : HDt} (h : DkOk D H0) : Fr D H0 H0 := ⟨h, fun _ _ e _ => e⟩
theorem Fr.trans {tb : List (Addr × Str)} {D : DP tb} {H0 H1 H2 : HDt} (a : Fr D H0 H1) (b : Fr D H1 H2) : Fr D H0 H2 := ⟨b.deck, fun p c e n => b.same p c (a.same p c e n) n⟩
theorem DkOk.there {tb : List (Addr × Str)} {D : DP tb} {HD : HDt} {p : Addr} (h : DkOk D HD) (e : HD p = none) : ¬ inD D p := by
  obtain ⟨h, ht⟩ := h
  rintro (z | ⟨q, z⟩)
  · match D, h, z with
    | none, _, z => exact z
    | some (a, b), ⟨_, zs, cs, k, h1, h2, _⟩, z =>
      rcases z with rfl | rfl
      · rw [h1] at e; cases e
      · rw [h2] at e; cases e
  · rw [ht p q z] at e
    cases e
theorem Fr.gone {tb : List (Addr × Str)} {D : DP tb} {H0 HD : HDt} {p : Addr} (f : Fr D H0 HD) (e : HD p = none) : H0 p = none := by
  cases h : H0 p with
  | none => rfl
  | some c =>
    rw [f.same p c h (f.deck.there e)] at e
    cases e
theorem DkOk.put {tb : List (Addr × Str)} {D : DP tb} {HD : HDt} {p : Addr} {c : Cell} (h : DkOk D HD) (n : ¬ inD D p) : DkOk D (dset HD p c) := by
  obtain ⟨h, ht⟩ := h
  refine ⟨?_, fun P q hq => (dset_ne fun (z : P = p) => n (.inr ⟨q, z ▸ hq⟩)).trans (ht P q hq)⟩
  match D, h, n with
  | none, _, _ => trivial
  | some (a, b), ⟨ne, zs, cs, k, h1, h2, hc⟩, n =>
    have na : a ≠ p := fun z => n (.inl (.inl z.symm))
    have nb : b ≠ p := fun z => n (.inl (.inr z.symm))
    exact ⟨ne, zs, cs, k, (dset_ne na).trans h1, (dset_ne nb).trans h2, hc⟩
theorem DkOk.del {tb : List (Addr × Str)} {D : DP tb} {HD : HDt} {p : Addr} (h : DkOk D HD) (n : ¬ inD D p) : DkOk D (ddel HD p) := by
  obtain ⟨h, ht⟩ := h
  refine ⟨?_, fun P q hq => (if_neg fun (z : P = p) => n (.inr ⟨q, z ▸ hq⟩)).trans (ht P q hq)⟩
  match D, h, n with
  | none, _, _ => trivial
  | some (a, b), ⟨ne, zs, cs, k, h1, h2, hc⟩, n =>
    have na : a ≠ p := fun z => n (.inl (.inl z.symm))
    have nb : b ≠ p := fun z => n (.inl (.inr z.symm))
    exact ⟨ne, zs, cs, k, (if_neg na).trans h1, (if_neg nb).trans h2, hc⟩
theorem Fr.put {tb : List (Addr × Str)} {D : DP tb} {H0 HD : HDt} {p : Addr} {c : Cell} (f : Fr D H0 HD) (e : H0 p = none) (n : ¬ inD D p) : Fr D H0 (dset HD p c) :=
  ⟨f.deck.put n, fun q u h m => (dset_ne (fun z => by subst z; rw [e] at h; cases h)).trans (f.same q u h m)⟩
theorem Fr.del {tb : List (Addr × Str)} {D : DP tb} {H0 HD : HDt} {p : Addr} (f : Fr D H0 HD) (e : H0 p = none) (n : ¬ inD D p) : Fr D H0 (ddel HD p) :=
  ⟨f.deck.del n, fun q u h m => (if_neg (fun z => by subst z; rw [e] at h; cases h)).trans (f.same q u h m)⟩
noncomputable def SlotOk {tb : List (Addr × Str)} (D : DP tb) (H0 HD : HDt) (x : Option (Option DV)) : Slot → Prop
  | .no => True
  | .val d => x = some (some (.d d))
  | .cell xs => ∃ p, x = some (some (.r p)) ∧ HD p = some (.lst (xs.map .d)) ∧ H0 p = none ∧ ¬ inD D p
  | .dct t kvs => ∃ p, x = some (some (.r p)) ∧ HD p = some (.dct t kvs) ∧ H0 p = none ∧ ¬ inD D p
  | .deck => ∃ a b, D = some (a, b) ∧ x = some (some (.r a))
  | .ob a Ca fs => ∃ p ds, x = some (some (.r p)) ∧ HD p = some (.obj Ca ds) ∧ (H0 p = none ∧ ¬ inD D p) ∧ okId a p ∧ FsOk HD (fun q => H0 q = none ∧ ¬ inD D q) fs ds ∧ (refs ds).Nodup
  | .obR Ca fs => ∃ p ds, x = some (some (.r p)) ∧ H0 p = some (.obj Ca ds) ∧ ¬ inD D p ∧ FsOk H0 (fun q => ¬ inD D q) fs ds
  | .cellR xs => ∃ p, x = some (some (.r p)) ∧ H0 p = some (.lst (xs.map .d)) ∧ ¬ inD D p
  | .dctR t kvs => ∃ p, x = some (some (.r p)) ∧ H0 p = some (.dct t kvs) ∧ ¬ inD D p
  | .tabS P q => H0 P = some (.tab q) ∧ ¬ inD D P
  | .cellP p xs => x = some (some (.r p)) ∧ H0 p = some (.lst (xs.map .d)) ∧ ¬ inD D p
  | .dctP p kvs => x = some (some (.r p)) ∧ H0 p = some (.dlk kvs) ∧ ¬ inD D p
  | .cx xs => ∃ p, x = some (some (.r p)) ∧ HD p = some (.lst xs) ∧ H0 p = none ∧ ¬ inD D p
  | .vx E => x = some (some (.x E))
noncomputable def isCell : Slot → Bool
  | .cell _ => true
  | .dct _ _ => true
  | .ob _ _ _ => true
  | .cx _ => true
  | _ => false
theorem slot_cell {tb : List (Addr × Str)} {D : DP tb} {H0 HD : HDt} {x : Option (Option DV)} {s : Slot} {c : Cell} (e : toCell s = some c) : SlotOk D H0 HD x s ↔ ∃ p, x = some (some (.r p)) ∧ HD p = some c ∧ H0 p = none ∧ ¬ inD D p := by
  cases s <;> simp [toCell] at e <;> subst e <;> exact Iff.rfl
theorem is_toCell {s : Slot} {c : Cell} (h : toCell s = some c) : isCell s = true := by
  cases s <;> first | rfl | cases h
noncomputable def foot (HD : HDt) (v : DV) (q : Addr) : Prop := v = .r q ∨ ∃ p Ca ds, v = .r p ∧ HD p = some (.obj Ca ds) ∧ q ∈ refs ds
theorem foot_own {tb : List (Addr × Str)} {D : DP tb} {H0 HD : HDt} {v : DV} {s : Slot} {q : Addr} (h : SlotOk D H0 HD (some (some v)) s) (ic : isCell s = true) (f : foot HD v q) : (∃ c, HD q = some c) ∧ H0 q = none ∧ ¬ inD D q := by
  cases s with
  | cx xs =>
    obtain ⟨p, e, h1, h2, h3⟩ := h
    cases e
    rcases f with f | ⟨p', Ca, ds, f1, f2, f3⟩
    · cases f; exact ⟨⟨_, h1⟩, h2, h3⟩
    · cases f1; rw [h1] at f2; cases f2
  | cell xs =>
    obtain ⟨p, e, h1, h2, h3⟩ := h
    cases e
    rcases f with f | ⟨p', Ca, ds, f1, f2, f3⟩
    · cases f; exact ⟨⟨_, h1⟩, h2, h3⟩
    · cases f1; rw [h1] at f2; cases f2
  | dct t xs =>
    obtain ⟨p, e, h1, h2, h3⟩ := h
    cases e
    rcases f with f | ⟨p', Ca, ds, f1, f2, f3⟩
    · cases f; exact ⟨⟨_, h1⟩, h2, h3⟩
    · cases f1; rw [h1] at f2; cases f2
  | ob a Ca fs =>
    obtain ⟨p, ds, e, h1, h2, h3, h4, h5⟩ := h
    cases e
    rcases f with f | ⟨p', Ca', ds', f1, f2, f3⟩
    · cases f; exact ⟨⟨_, h1⟩, h2⟩
    · cases f1; rw [h1] at f2; cases f2
      obtain ⟨k1, k2⟩ := h4.ref f3
      rcases k2 with ⟨xs, k2⟩ | ⟨t, kvs, k2⟩
      · exact ⟨⟨_, k2⟩, k1⟩
      · exact ⟨⟨_, k2⟩, k1⟩
  | _ => cases ic
theorem SlotOk.stay {tb : List (Addr × Str)} {D : DP tb} {H0 HD HD' : HDt} {v : DV} {s : Slot} (h : SlotOk D H0 HD (some (some v)) s) (k : ∀ q c, isCell s = true → foot HD v q → HD q = some c → HD' q = some c) : SlotOk D H0 HD' (some (some v)) s := by
  cases s with
  | cx xs =>
    obtain ⟨p, e, h1, h2⟩ := h
    cases e
    exact ⟨p, rfl, k p _ rfl (.inl rfl) h1, h2⟩
  | cell xs =>
    obtain ⟨p, e, h1, h2⟩ := h
    cases e
    exact ⟨p, rfl, k p _ rfl (.inl rfl) h1, h2⟩
  | dct t xs =>
    obtain ⟨p, e, h1, h2⟩ := h
    cases e
    exact ⟨p, rfl, k p _ rfl (.inl rfl) h1, h2⟩
  | ob a Ca fs =>
    obtain ⟨p, ds, e, h1, h2, h3, h4, h5⟩ := h
    cases e
    exact ⟨p, ds, rfl, k p _ rfl (.inl rfl) h1, h2, h3, h4.to fun q c hq hp hc => ⟨k q c rfl (.inr ⟨p, Ca, ds, rfl, h1, hq⟩) hc, hp⟩, h5⟩
  | _ => exact h
theorem SlotOk.some_of {tb : List (Addr × Str)} {D : DP tb} {H0 HD : HDt} {x : Option (Option DV)} {s : Slot} (h : SlotOk D H0 HD x s) (ic : isCell s = true) : ∃ v, x = some (some v) := by
  cases s with
  | cx xs => obtain ⟨p, e, _⟩ := h; exact ⟨_, e⟩
  | cell xs => obtain ⟨p, e, _⟩ := h; exact ⟨_, e⟩
  | dct t xs => obtain ⟨p, e, _⟩ := h; exact ⟨_, e⟩
  | ob a Ca fs => obtain ⟨p, ds, e, _⟩ := h; exact ⟨_, e⟩
  | _ => cases ic
theorem SlotOk.fix {tb : List (Addr × Str)} {D : DP tb} {H0 HD HD' : HDt} {x : Option (Option DV)} {s : Slot} (h : SlotOk D H0 HD x s) (ic : isCell s = false) : SlotOk D H0 HD' x s := by
  cases s <;> first | exact h | cases ic
noncomputable abbrev Env := List Slot
structure Rep {tb : List (Addr × Str)} (D : DP tb) (H0 : HDt) (Γ : Env) (δ : DEnv) (HD : HDt) : Prop where
  fr : Fr D H0 HD
  len : δ.length = Γ.length
  at' : ∀ (i : Nat) s, Γ[i]? = some s → SlotOk D H0 HD δ[i]? s
  sep : ∀ (i j : Nat) s t, i ≠ j → Γ[i]? = some s → Γ[j]? = some t → isCell s = true → isCell t = true → ∀ v w q, δ[i]? = some (some v) → δ[j]? = some (some w) → foot HD v q → ¬ foot HD w q
section
variable {tb : List (Addr × Str)} {D : DP tb} {H0 HD HD' : HDt} {Γ Γ' : Env} {δ : DEnv}
theorem Rep.deck (R : Rep D H0 Γ δ HD) : DkOk D HD := R.fr.deck
theorem SlotOk.ev {x : Option (Option DV)} {s : Slot} (f : Fr D HD HD') (h : SlotOk D H0 HD x s) : SlotOk D H0 HD' x s := by
  cases ic : isCell s with
  | false => exact h.fix ic
  | true =>
    obtain ⟨v, rfl⟩ := h.some_of ic
    exact h.stay fun q c _ ft hc => f.same q c hc (foot_own h ic ft).2.2
theorem foot_to {v : DV} {s : Slot} {q : Addr} (h : SlotOk D H0 HD (some (some v)) s) (ic : isCell s = true) (k : ∀ q c, foot HD v q → HD q = some c → HD' q = some c) (f : foot HD' v q) : foot HD v q := by
  rcases f with f | ⟨p, Ca, ds, f1, f2, f3⟩
  · exact .inl f
  · obtain ⟨⟨c, hc⟩, _⟩ := foot_own h ic (.inl f1)
    have := k p c (.inl f1) hc
    rw [f2] at this
    cases this
    exact .inr ⟨p, Ca, ds, f1, hc, f3⟩
theorem Rep.ev (R : Rep D H0 Γ δ HD) (f : Fr D HD HD') : Rep D H0 Γ δ HD' := by
  refine ⟨R.fr.trans f, R.len, fun i s h => (R.at' i s h).ev f, fun i j s t ne e1 e2 c1 c2 v w q hv hw f1 f2 => ?_⟩
  have o1 := R.at' i s e1
  have o2 := R.at' j t e2
  rw [hv] at o1
  rw [hw] at o2
  exact R.sep i j s t ne e1 e2 c1 c2 v w q hv hw (foot_to o1 c1 (fun z c fz hc => f.same z c hc (foot_own o1 c1 fz).2.2) f1) (foot_to o2 c2 (fun z c fz hc => f.same z c hc (foot_own o2 c2 fz).2.2) f2)
inductive Le : Env → Env → Prop
  | nil : Le [] []
  | keep {s : Slot} {Γ Γ' : Env} : Le Γ Γ' → Le (s :: Γ) (s :: Γ')
  | drop {s : Slot} {Γ Γ' : Env} : Le Γ Γ' → Le (s :: Γ) (.no :: Γ')
theorem Le.length : ∀ {Γ Γ' : Env}, Le Γ Γ' → Γ'.length = Γ.length
  | _, _, .nil => rfl
  | _, _, .keep h => by simp [h.length]
  | _, _, .drop h => by simp [h.length]
theorem Le.at : ∀ {Γ Γ' : Env} {i : Nat} {s : Slot}, Le Γ Γ' → Γ'[i]? = some s → s = .no ∨ Γ[i]? = some s
  | _, _, _, _, .nil, e => by simp at e
  | _, _, 0, s, .keep h, e => .inr e
  | _, _, 0, s, .drop h, e => by simp at e; exact .inl e.symm
  | _, _, i + 1, s, .keep h, e => by simpa using h.at (i := i) (s := s) (by simpa using e)
  | _, _, i + 1, s, .drop h, e => by simpa using h.at (i := i) (s := s) (by simpa using e)
theorem Rep.le (R : Rep D H0 Γ δ HD) (h : Le Γ Γ') : Rep D H0 Γ' δ HD := by
  refine ⟨R.fr, R.len.trans h.length.symm, fun i s e => ?_, fun i j s t ne e1 e2 c1 c2 => ?_⟩
  · rcases h.at e with z | z
    · subst z; trivial
    · exact R.at' i s z
  · rcases h.at e1 with z1 | z1
    · subst z1; cases c1
    rcases h.at e2 with z2 | z2
    · subst z2; cases c2
    exact R.sep i j s t ne z1 z2 c1 c2
theorem get_set {α : Type} {xs : List α} {i j : Nat} {x y : α} (e : (xs.set i x)[j]? = some y) : (i = j ∧ y = x ∧ i < xs.length) ∨ (i ≠ j ∧ xs[j]? = some y) := by
  by_cases z : i = j
  · subst z
    have hl : i < xs.length := by
      have := (List.getElem?_eq_some_iff.mp e).1
      simpa using this
    rw [List.getElem?_set_self hl] at e
    cases e
    exact .inl ⟨rfl, rfl, hl⟩
  · rw [List.getElem?_set_ne z] at e
    exact .inr ⟨z, e⟩
theorem get_set_ne {α : Type} {xs : List α} {i j : Nat} {x : α} (h : i ≠ j) : (xs.set i x)[j]? = xs[j]? := List.getElem?_set_ne h
theorem Rep.setF {sl : Slot} {x : Option DV} (R : Rep D H0 Γ δ HD) (i : Nat) (ic : isCell sl = false) (ok : SlotOk D H0 HD (some x) sl) : Rep D H0 (Γ.set i sl) (δ.set i x) HD := by
  refine ⟨R.fr, by simp [R.len], fun j s e => ?_, fun j k s t ne e1 e2 c1 c2 v w q => ?_⟩
  · rcases get_set e with ⟨rfl, rfl, hl⟩ | ⟨z, e⟩
    · rw [List.getElem?_set_self (by rw [R.len]; exact hl)]
      exact ok
    · rw [get_set_ne z]
      exact R.at' j s e
  · rcases get_set e1 with ⟨rfl, rfl, hl⟩ | ⟨z1, e1⟩
    · rw [ic] at c1; cases c1
    rcases get_set e2 with ⟨rfl, rfl, hl⟩ | ⟨z2, e2⟩
    · rw [ic] at c2; cases c2
    rw [get_set_ne z1, get_set_ne z2]
    exact R.sep j k s t ne e1 e2 c1 c2 v w q
theorem Rep.setV (R : Rep D H0 Γ δ HD) (i : Nat) (d : PyData) : Rep D H0 (Γ.set i (.val d)) (δ.set i (some (.d d))) HD := R.setF i rfl rfl
theorem Rep.setN (R : Rep D H0 Γ δ HD) (i : Nat) (x : Option DV) : Rep D H0 (Γ.set i .no) (δ.set i x) HD := R.setF i rfl trivial
theorem Rep.setNew {v : DV} {sl : Slot} (R : Rep D H0 Γ δ HD) (f : Fr D HD HD') (i : Nat) (ic : isCell sl = true) (ok : SlotOk D HD HD' (some (some v)) sl) : Rep D H0 (Γ.set i sl) (δ.set i (some v)) HD' := by
  have R' := R.ev f
  have ok' : SlotOk D H0 HD' (some (some v)) sl := by
    cases sl with
    | cx xs =>
      obtain ⟨p, e, h1, h2, h3⟩ := ok
      exact ⟨p, e, h1, R.fr.gone h2, h3⟩
    | cell xs =>
      obtain ⟨p, e, h1, h2, h3⟩ := ok
      exact ⟨p, e, h1, R.fr.gone h2, h3⟩
    | dct t xs =>
      obtain ⟨p, e, h1, h2, h3⟩ := ok
      exact ⟨p, e, h1, R.fr.gone h2, h3⟩
    | ob a Ca fs =>
      obtain ⟨p, ds, e, h1, h2, h3, h4, h5⟩ := ok
      exact ⟨p, ds, e, h1, ⟨R.fr.gone h2.1, h2.2⟩, h3, h4.to fun q c _ hp hc => ⟨hc, R.fr.gone hp.1, hp.2⟩, h5⟩
    | _ => cases ic
  have dif : ∀ (j : Nat) s, Γ[j]? = some s → isCell s = true → ∀ w q, δ[j]? = some (some w) → foot HD' w q → ¬ foot HD' v q := fun j s e c w q hw f1 f2 => by
    have o := R.at' j s e
    rw [hw] at o
    have g := foot_to o c (fun z u fz hc => f.same z u hc (foot_own o c fz).2.2) f1
    obtain ⟨⟨u, hu⟩, _⟩ := foot_own o c g
    have := (foot_own ok ic f2).2.1
    rw [hu] at this
    cases this
  refine ⟨R'.fr, by simp [R.len], fun j s e => ?_, fun j k s t ne e1 e2 c1 c2 v1 w1 q hv hw f1 f2 => ?_⟩
  · rcases get_set e with ⟨rfl, rfl, hl⟩ | ⟨z, e⟩
    · rw [List.getElem?_set_self (by rw [R.len]; exact hl)]
      exact ok'
    · rw [get_set_ne z]
      exact R'.at' j s e
  · rcases get_set e1 with ⟨y1, y2, hl⟩ | ⟨z1, g1⟩
    · rcases get_set e2 with ⟨x1, _, _⟩ | ⟨z2, g2⟩
      · exact absurd (y1.symm.trans x1) ne
      rw [← y1, List.getElem?_set_self (by rw [R.len]; exact hl)] at hv
      cases hv
      rw [get_set_ne z2] at hw
      exact dif k t g2 c2 w1 q hw f2 f1
    · rw [get_set_ne z1] at hv
      rcases get_set e2 with ⟨y1, y2, hl⟩ | ⟨z2, g2⟩
      · rw [← y1, List.getElem?_set_self (by rw [R.len]; exact hl)] at hw
        cases hw
        exact dif j s g1 c1 v1 q hv f1 f2
      rw [get_set_ne z2] at hw
      exact R'.sep j k s t ne g1 g2 c1 c2 v1 w1 q hv hw f1 f2
theorem fr_put {p : Addr} {c : Cell} (h : DkOk D HD) (hp : HD p = none) : Fr D HD (dset HD p c) := (Fr.refl h).put hp (h.there hp)
theorem Rep.setG {p : Addr} {sl : Slot} {c : Cell} (R : Rep D H0 Γ δ HD) (i : Nat) (hs : toCell sl = some c) (hp : HD p = none) : Rep D H0 (Γ.set i sl) (δ.set i (some (.r p))) (dset HD p c) :=
  R.setNew (fr_put R.deck hp) i (is_toCell hs) ((slot_cell hs).mpr ⟨p, rfl, dset_same, hp, R.deck.there hp⟩)
structure FrO {tb : List (Addr × Str)} (D : DP tb) (F : Addr → Prop) (HD HD' : HDt) : Prop where
  deck : DkOk D HD'
  same : ∀ p c, HD p = some c → ¬ inD D p → ¬ F p → HD' p = some c
theorem Rep.upd {i : Nat} {v : DV} {sl sl' : Slot} (R : Rep D H0 Γ δ HD) (hi : Γ[i]? = some sl) (ic : isCell sl = true) (hv : δ[i]? = some (some v)) (fr : FrO D (foot HD v) HD HD') (ok : SlotOk D H0 HD' (some (some v)) sl') (ft : ∀ q, foot HD' v q → foot HD v q ∨ HD q = none) : Rep D H0 (Γ.set i sl') δ HD' := by
  have o := R.at' i sl hi
  rw [hv] at o
  have keep : ∀ (j : Nat) s, i ≠ j → Γ[j]? = some s → isCell s = true → ∀ w, δ[j]? = some (some w) → ∀ q c, foot HD w q → HD q = some c → HD' q = some c := fun j s ne e c w hw q u f hu => by
    have oj := R.at' j s e
    rw [hw] at oj
    exact fr.same q u hu (foot_own oj c f).2.2 fun z => R.sep i j sl s ne hi e ic c v w q hv hw z f
  refine ⟨⟨fr.deck, fun p c h0 nd => ?_⟩, by simp [R.len], fun j s e => ?_, fun j k s t ne e1 e2 c1 c2 v1 w1 q hv1 hw1 f1 f2 => ?_⟩
  · refine fr.same p c (R.fr.same p c h0 nd) nd fun z => ?_
    have := (foot_own o ic z).2.1
    rw [h0] at this
    cases this
  · rcases get_set e with ⟨rfl, rfl, hl⟩ | ⟨z, e⟩
    · rw [hv]
      exact ok
    · have q := R.at' j s e
      cases c : isCell s with
      | false => exact q.fix c
      | true =>
        obtain ⟨w, hw⟩ := q.some_of c
        rw [hw] at q ⊢
        exact q.stay fun y u _ f hu => keep j s z e c w hw y u f hu
  · have dif : ∀ (k : Nat) t, i ≠ k → Γ[k]? = some t → isCell t = true → ∀ w, δ[k]? = some (some w) → ∀ q, foot HD' w q → ¬ foot HD' v q := fun k t ne e c w hw q f1 f2 => by
      have ok := R.at' k t e
      rw [hw] at ok
      have g := foot_to ok c (fun z u fz hc => keep k t ne e c w hw z u fz hc) f1
      rcases ft q f2 with z | z
      · exact R.sep i k sl t ne hi e ic c v w q hv hw z g
      · obtain ⟨⟨u, hu⟩, _⟩ := foot_own ok c g
        rw [z] at hu
        cases hu
    rcases get_set e1 with ⟨y1, y2, hl⟩ | ⟨z1, g1⟩
    · rcases get_set e2 with ⟨x1, _, _⟩ | ⟨z2, g2⟩
      · exact absurd (y1.symm.trans x1) ne
      rw [← y1, hv] at hv1
      cases hv1
      exact dif k t z2 g2 c2 w1 hw1 q f2 f1
    · rcases get_set e2 with ⟨y1, y2, hl⟩ | ⟨z2, g2⟩
      · rw [← y1, hv] at hw1
        cases hw1
        exact dif j s z1 g1 c1 v1 hv1 q f1 f2
      have oj := R.at' j s g1
      have ok2 := R.at' k t g2
      rw [hv1] at oj
      rw [hw1] at ok2
      exact R.sep j k s t ne g1 g2 c1 c2 v1 w1 q hv1 hw1 (foot_to oj c1 (fun z u fz hc => keep j s z1 g1 c1 v1 hv1 z u fz hc) f1) (foot_to ok2 c2 (fun z u fz hc => keep k t z2 g2 c2 w1 hw1 z u fz hc) f2)
end
end TL
namespace TL
open PySem PySem.Spec PyProof.Rows L2 DL WM
section
variable {M : Type → Type} [Monad M] [WM M] (C : CT)
noncomputable def TK (Γ : Env) (e : RE) {α β : Type} (c : Codec α) (κ : α → M β) (m : M β) : Prop :=
  ∀ (D : DP C.tabs) (H0 : HDt) (δ : DEnv) (HD : HDt), Rep D H0 Γ δ HD → ∀ (Qb : β → Prop) (Q : DQ), wp m Qb →
    (∀ a HD', wp (κ a) Qb → Fr D HD HD' → Q (.d (c.enc a)) HD') → wE C e δ HD Q
noncomputable def TT (Γ : Env) (t : RT) {β : Type} (κ : Bool → M β) (m : M β) : Prop :=
  ∀ (D : DP C.tabs) (H0 : HDt) (δ : DEnv) (HD : HDt), Rep D H0 Γ δ HD → ∀ (Qb : β → Prop) (Q : Bool → HDt → Prop), wp m Qb →
    (∀ a HD', wp (κ a) Qb → Fr D HD HD' → Q a HD') → wT C t δ HD Q
noncomputable def TM (own : Bool) (Γ : Env) (e : RE) {α β : Type} (c : Codec α) (κ : List α → M β) (m : M β) : Prop :=
  ∀ (D : DP C.tabs) (H0 : HDt) (δ : DEnv) (HD : HDt), Rep D H0 Γ δ HD → ∀ (Qb : β → Prop) (Q : DQ), wp m Qb →
    (∀ xs HD', wp (κ xs) Qb → Fr D HD HD' → mkL own ((xs.map c.enc).map .d) HD' Q) → wE C e δ HD Q
noncomputable def ListLike (HD : HDt) (x : DV) (ds : List PyData) : Prop := x = .d (.list ds) ∨ ∃ p, x = .r p ∧ HD p = some (.lst (ds.map .d))
noncomputable def SeqLike (HD : HDt) (x : DV) (ds : List PyData) : Prop := x = .d (.tuple ds) ∨ ListLike HD x ds
noncomputable def TQ (Γ : Env) (e : RE) {α β : Type} (c : Codec α) (κ : List α → M β) (m : M β) : Prop :=
  ∀ (D : DP C.tabs) (H0 : HDt) (δ : DEnv) (HD : HDt), Rep D H0 Γ δ HD → ∀ (Qb : β → Prop) (Q : DQ), wp m Qb →
    (∀ xs HD' x, wp (κ xs) Qb → Fr D HD HD' → (∀ HD2, Fr D HD' HD2 → ListLike HD2 x (xs.map c.enc)) → Q x HD') → wE C e δ HD Q
noncomputable def TS (Γ : Env) (e : RE) {α β : Type} (c : Codec α) (κ : List α → M β) (m : M β) : Prop :=
  ∀ (D : DP C.tabs) (H0 : HDt) (δ : DEnv) (HD : HDt), Rep D H0 Γ δ HD → ∀ (Qb : β → Prop) (Q : DQ), wp m Qb →
    (∀ xs HD' x, wp (κ xs) Qb → Fr D HD HD' → (∀ HD2, Fr D HD' HD2 → SeqLike HD2 x (xs.map c.enc)) → Q x HD') → wE C e δ HD Q
noncomputable def TI (Γ : Env) (it : RI) {α β : Type} (c : Codec α) (κ : List α → M β) (m : M β) : Prop :=
  ∀ (D : DP C.tabs) (H0 : HDt) (δ : DEnv) (HD : HDt), Rep D H0 Γ δ HD → ∀ (Qb : β → Prop) (Q : Src → List DV → HDt → Prop), wp m Qb →
    (∀ xs HD' src, wp (κ xs) Qb → Fr D HD HD' → xs.length ≤ sizeLine → (∀ HD2, Fr D HD' HD2 → srcOk src ((xs.map c.enc).map .d) HD2) → Q src ((xs.map c.enc).map .d) HD') → wI C it δ HD Q
noncomputable def TI0 (Γ : Env) (it : RI) {α β : Type} (c : Codec α) (κ : List α → M β) (m : M β) : Prop :=
  ∀ (D : DP C.tabs) (H0 : HDt) (δ : DEnv) (HD : HDt), Rep D H0 Γ δ HD → ∀ (Qb : β → Prop) (Q : Src → List DV → HDt → Prop), wp m Qb →
    (∀ xs HD', wp (κ xs) Qb → Fr D HD HD' → xs.length ≤ sizeLine → Q none ((xs.map c.enc).map .d) HD') → wI C it δ HD Q
noncomputable def TO (Γ : Env) (o : RO) {β : Type} (κ : Option Int → M β) (m : M β) : Prop :=
  ∀ (D : DP C.tabs) (H0 : HDt) (δ : DEnv) (HD : HDt), Rep D H0 Γ δ HD → ∀ (Qb : β → Prop) (Q : Option Int → HDt → Prop), wp m Qb →
    (∀ a HD', wp (κ a) Qb → Fr D HD HD' → Q a HD') → wO C o δ HD Q
inductive AV where
  | v (d : PyData)
  | dk
  | ob (Ca : Addr) (fs : List (Str × FV))
  | cl (xs : List PyData)
  | dc (t : Bool) (kvs : List (PyData × PyData))
  | vx (E : EV)
noncomputable def ArgOk {tb : List (Addr × Str)} (D : DP tb) (HD : HDt) : AV → DV → Prop
  | .v d, x => x = .d d
  | .dk, x => ∃ a b, D = some (a, b) ∧ x = .r a
  | .ob Ca fs, x => ∃ p ds, x = .r p ∧ HD p = some (.obj Ca ds) ∧ ¬ inD D p ∧ FsOk HD (fun q => ¬ inD D q) fs ds
  | .cl xs, x => ∃ p, x = .r p ∧ HD p = some (.lst (xs.map .d)) ∧ ¬ inD D p
  | .dc t kvs, x => ∃ p, x = .r p ∧ HD p = some (.dct t kvs) ∧ ¬ inD D p
  | .vx E, x => x = .x E
noncomputable abbrev ArgsOk {tb : List (Addr × Str)} (D : DP tb) (HD : HDt) : List AV → List DV → Prop := Paired (ArgOk D HD)
noncomputable def TA (Γ : Env) (as : RA) {β : Type} (P : List AV → M β → Prop) (m : M β) : Prop :=
  ∀ (D : DP C.tabs) (H0 : HDt) (δ : DEnv) (HD : HDt), Rep D H0 Γ δ HD → ∀ (Qb : β → Prop) (Q : List DV → HDt → Prop), wp m Qb →
    (∀ args m' ds HD', P args m' → wp m' Qb → Fr D HD HD' → ArgsOk D HD' args ds → Q ds HD') → wA C as δ HD Q
noncomputable def TC (f : Nat) (args : List AV) {α : Type} (c : Codec α) (m : M α) : Prop :=
  ∀ (D : DP C.tabs) (HD : HDt) (ds : List DV), DkOk D HD → ArgsOk D HD args ds → ∀ (Qb : α → Prop) (Q : DQ), wp m Qb →
    (∀ a HD', Qb a → Fr D HD HD' → Q (.d (c.enc a)) HD') → C f ds HD Q
end
section
variable {M : Type → Type} [Monad M] [WM M] {C : CT} {Γ : Env} {α β γ η ι : Type} {c : Codec α} {d : Codec γ} {c' : Codec η} {e e1 e2 e3 : RE}
theorem tk_var {i : Nat} {a : α} {κ : α → M β} (c : Codec α) (h : Γ[i]? = some (.val (c.enc a))) : TK C Γ (.var i) c κ (κ a) := fun D H0 δ HD R Qb Q w q => by
  have s : δ[i]? = some (some (.d (c.enc a))) := R.at' i _ h
  show gVar i δ HD Q
  unfold gVar
  rw [s]
  exact q a HD w (Fr.refl R.deck)
theorem tk_cst {a : α} {x : PyData} {κ : α → M β} (c : Codec α) (h : c.enc a = x) : TK C Γ (.cst x) c κ (κ a) := fun D H0 δ HD R Qb Q w q => by
  subst h
  exact q a HD w (Fr.refl R.deck)
theorem tk_glob {a : α} {x : PyData} {κ : α → M β} (c : Codec α) (h : c.enc a = x) : TK C Γ (.glob x) c κ (κ a) := fun D H0 δ HD R Qb Q w q => by
  subst h
  exact q a HD w (Fr.refl R.deck)
theorem tk_co {c : Codec α} {d : Codec γ} (f : α → γ) (h : ∀ a, d.enc (f a) = c.enc a) {κ : γ → M β} {m : M β} (t : TK C Γ e c (fun a => κ (f a)) m) : TK C Γ e d κ m := fun D H0 δ HD R Qb Q w q =>
  t D H0 δ HD R Qb Q w fun a HD' w' fr => by
    rw [← h a]
    exact q (f a) HD' w' fr
theorem tk_any {κ : PyData → M β} {m : M β} (c : Codec α) (t : TK C Γ e c (fun a => κ (c.enc a)) m) : TK C Γ e cA κ m := tk_co c.enc (fun _ => rfl) t
theorem wpk {a : α} {κ : α → M β} {Qb : β → Prop} (h : wp (pure a : M α) fun a => wp (κ a) Qb) : wp (κ a) Qb := wpure (Q := fun a => wp (κ a) Qb) h
noncomputable def Op2 (M : Type → Type) [Monad M] [WM M] (g : G2) (c : Codec α) (d : Codec γ) (c' : Codec η) (F : ∀ {β : Type}, α → γ → (η → M β) → M β) : Prop :=
  ∀ {β : Type} (a : α) (b : γ) (κ : η → M β) (Qb : β → Prop) (HD : HDt) (Q : DQ), wp (F a b κ) Qb → (∀ r, wp (κ r) Qb → Q (.d (c'.enc r)) HD) → g (.d (c.enc a)) (.d (d.enc b)) HD Q
theorem tk_2 {g : G2} {F : ∀ {β : Type}, α → γ → (η → M β) → M β} {κ : η → M β} {m : M β} {m2 : α → M β} (he : wE C e = g2 g (wE C e1) (wE C e2)) (op : Op2 M g c d c' @F)
    (h1 : TK C Γ e1 c m2 m) (h2 : ∀ a, TK C Γ e2 d (fun b => F a b κ) (m2 a)) : TK C Γ e c' κ m := fun D H0 δ HD R Qb Q w q => by
  rw [he]
  refine h1 D H0 δ HD R Qb _ w fun a HD1 w1 f1 => ?_
  refine h2 a D H0 δ HD1 (R.ev f1) Qb _ w1 fun b HD2 w2 f2 => ?_
  exact op a b κ Qb HD2 Q w2 fun r w3 => q r HD2 w3 (f1.trans f2)
variable {F : ∀ {β : Type}, α → γ → (η → M β) → M β} {κ : η → M β} {m : M β} {m2 : α → M β}
theorem tk_arith {o : Operator} (op : Op2 M (dArith o) c d c' @F) (h1 : TK C Γ e1 c m2 m) (h2 : ∀ a, TK C Γ e2 d (fun b => F a b κ) (m2 a)) : TK C Γ (.arith o e1 e2) c' κ m := tk_2 rfl op h1 h2
theorem tk_cmp {o : CmpOp} {F : ∀ {β : Type}, α → γ → (Bool → M β) → M β} {κ : Bool → M β} (op : Op2 M (dCmp o) c d cB @F) (h1 : TK C Γ e1 c m2 m) (h2 : ∀ a, TK C Γ e2 d (fun b => F a b κ) (m2 a)) : TK C Γ (.cmp o e1 e2) cB κ m := tk_2 rfl op h1 h2
theorem tt_val {κ : Bool → M β} (h : TK C Γ e cB κ m) : TT C Γ (.val e) κ m := fun D H0 δ HD R Qb Q w q =>
  h D H0 δ HD R Qb _ w fun a HD' w' fr => q a HD' w' fr
theorem tt_cmp {o : CmpOp} {κ : Bool → M β} (h : TK C Γ (.cmp o e1 e2) cB κ m) : TT C Γ (.cmp o e1 e2) κ m := fun D H0 δ HD R Qb Q w q =>
  h D H0 δ HD R Qb _ w fun a HD' w' fr => q a HD' w' fr
theorem tt_yes {κ : Bool → M β} : TT C Γ .yes κ (κ true) := fun D H0 δ HD R Qb Q w q => q true HD w (Fr.refl R.deck)
variable {t t1 t2 : RT} {κb : Bool → M β}
theorem tt_not (h : TT C Γ t (fun b => κb (!b)) m) : TT C Γ (.not t) κb m := fun D H0 δ HD R Qb Q w q =>
  h D H0 δ HD R Qb _ w fun a HD' w' fr => q (!a) HD' w' fr
theorem tt_or {mb : M Bool} (h1 : TT C Γ t1 (fun x => (if x = true then pure true else mb) >>= κb) m) (h2 : TT C Γ t2 pure mb) : TT C Γ (.or t1 t2) κb m := fun D H0 δ HD R Qb Q w q =>
  h1 D H0 δ HD R Qb _ w fun a HD' w' fr => by
    have w2 := wbind w'
    cases a with
    | false => exact h2 D H0 δ HD' (R.ev fr) _ _ w2 fun b HD2 w3 f2 => q b HD2 (wpk w3) (fr.trans f2)
    | true =>
      rw [if_pos rfl] at w2
      exact q true HD' (wpk w2) fr
theorem tk_neg {κi : Int → M β} (h : TK C Γ e cI (fun b => κi (-b)) m) : TK C Γ (.neg e) cI κi m := fun D H0 δ HD R Qb Q w q =>
  h D H0 δ HD R Qb _ w fun a HD' w' fr => q (-a) HD' w' fr
end
section
variable {M : Type → Type} [Monad M] [WM M] {C : CT} {Γ : Env} {α β γ η ι : Type} {c : Codec α} {d : Codec γ} {c' : Codec η} {e e1 e2 e3 : RE} {m : M β} {κ : α → M β}
theorem ta_nil {P : List AV → M β → Prop} (h : P [] m) : TA C Γ .nil P m := fun D H0 δ HD R Qb Q w q => q [] m [] HD h w (Fr.refl R.deck) .nil
theorem ta_cons {as : RA} {P : List AV → M β → Prop} {m2 : α → M β} (h1 : TK C Γ e c m2 m) (h2 : ∀ a, TA C Γ as (fun l => P (.v (c.enc a) :: l)) (m2 a)) : TA C Γ (.cons e as) P m := fun D H0 δ HD R Qb Q w q =>
  h1 D H0 δ HD R Qb _ w fun a HD1 w1 f1 => h2 a D H0 δ HD1 (R.ev f1) Qb _ w1 fun args m' ds HD2 p w2 f2 ok => q _ m' _ HD2 p w2 (f1.trans f2) (.cons rfl ok)
theorem ta_deck {as : RA} {i : Nat} {P : List AV → M β → Prop} (h : Γ[i]? = some .deck) (h2 : TA C Γ as (fun l => P (.dk :: l)) m) : TA C Γ (.cons (.var i) as) P m := fun D H0 δ HD R Qb Q w q => by
  obtain ⟨a, b, hD, s⟩ := R.at' i _ h
  show DL.gCons (gVar i) (wA C as) δ HD Q
  unfold DL.gCons gVar
  rw [s]
  exact h2 D H0 δ HD R Qb _ w fun args m' ds HD2 p w2 f2 ok => q _ m' _ HD2 p w2 f2 (.cons ⟨a, b, hD, rfl⟩ ok)
theorem tk_call {f : Nat} {as : RA} (h : TA C Γ as (fun args m' => ∃ r : M α, TC C f args c r ∧ m' = (r >>= κ)) m) : TK C Γ (.call f as) c κ m := fun D H0 δ HD R Qb Q w q =>
  h D H0 δ HD R Qb _ w fun args m' ds HD1 ⟨r, t, e⟩ w1 f1 ok => by
    subst e
    exact t D HD1 ds (R.ev f1).deck ok _ _ (wbind w1) fun a HD2 w2 f2 => q a HD2 w2 (f1.trans f2)
theorem tk_here {f : Nat} {args : List AV} {r : M α} (h : TC C f args c r) : ∃ r' : M α, TC C f args c r' ∧ (r >>= κ) = (r' >>= κ) := ⟨r, h, rfl⟩
theorem TC.up {f : Nat} {args : List AV} {r : Option α} (h : TC C f args c r) : TC C f args c (ofO r : M α) := fun D HD ds k ok Qb Q w q =>
  h D HD ds k ok Qb Q (wof w) q
theorem TC.co {f : Nat} {args : List AV} {r : M α} {d : Codec γ} (g : α → γ) (hg : ∀ a, d.enc (g a) = c.enc a) (h : TC C f args c r) : TC C f args d (r >>= fun a => pure (g a)) := fun D HD ds k ok Qb Q w q =>
  h D HD ds k ok _ Q (wbind w) fun a HD' w' fr => by
    rw [← hg a]
    exact q (g a) HD' (wpure w') fr
noncomputable def cnt : RA → Nat
  | .nil => 0
  | .cons _ as => cnt as + 1
noncomputable def TAh (C : CT) (Γ : Env) (as : RA) (c : Codec α) (κ : List α → M β) (m : M β) : Prop :=
  ∀ (D : DP C.tabs) (H0 : HDt) (δ : DEnv) (HD : HDt), Rep D H0 Γ δ HD → ∀ (Qb : β → Prop) (Q : List DV → HDt → Prop), wp m Qb →
    (∀ xs HD', wp (κ xs) Qb → Fr D HD HD' → xs.length = cnt as → Q ((xs.map c.enc).map .d) HD') → wA C as δ HD Q
theorem th_nil {κ : List α → M β} : TAh C Γ .nil c κ (κ []) := fun D H0 δ HD R Qb Q w q => q [] HD w (Fr.refl R.deck) rfl
theorem th_cons {as : RA} {κ : List α → M β} {m2 : α → M β} (h1 : TK C Γ e c m2 m) (h2 : ∀ a, TAh C Γ as c (fun l => κ (a :: l)) (m2 a)) : TAh C Γ (.cons e as) c κ m := fun D H0 δ HD R Qb Q w q =>
  h1 D H0 δ HD R Qb _ w fun a HD1 w1 f1 => h2 a D H0 δ HD1 (R.ev f1) Qb _ w1 fun xs HD2 w2 f2 hl => q (a :: xs) HD2 w2 (f1.trans f2) (by simp [cnt, hl])
theorem tk_tupH {as : RA} {κ : List α → M β} (hn : cnt as ≤ 1000) (h : TAh C Γ as c κ m) : TK C Γ (.tup as) (cT c) κ m := fun D H0 δ HD R Qb Q w q =>
  h D H0 δ HD R Qb _ w fun xs HD1 w1 f1 hl => by
    rw [dats_map]
    refine ⟨?_, q xs HD1 w1 f1⟩
    rw [List.length_map, hl]
    exact Nat.le_trans hn (by decide)
theorem tm_lst {own : Bool} {as : RA} {κ : List α → M β} (hn : cnt as ≤ 1000) (h : TAh C Γ as c κ m) : TM C own Γ (.lst own as) c κ m := fun D H0 δ HD R Qb Q w q =>
  h D H0 δ HD R Qb _ w fun xs HD1 w1 f1 hl => by
    refine ⟨?_, q xs HD1 w1 f1⟩
    rw [List.length_map, List.length_map, hl]
    exact Nat.le_trans hn (by decide)
theorem tk_mk {κ : List α → M β} (h : TM C false Γ e c κ m) : TK C Γ e (cL c) κ m := fun D H0 δ HD R Qb Q w q =>
  h D H0 δ HD R Qb _ w fun xs HD1 w1 f1 => by
    show mkL false _ _ _
    rw [e_mk]
    exact q xs HD1 w1 f1
theorem tk_p2 {κ : α × γ → M β} {m2 : α → M β} (h1 : TK C Γ e1 c m2 m) (h2 : ∀ a, TK C Γ e2 d (fun b => κ (a, b)) (m2 a)) : TK C Γ (.tup (.cons e1 (.cons e2 .nil))) (cP c d) κ m := fun D H0 δ HD R Qb Q w q =>
  h1 D H0 δ HD R Qb _ w fun a HD1 w1 f1 => h2 a D H0 δ HD1 (R.ev f1) Qb _ w1 fun b HD2 w2 f2 =>
    ⟨Nat.le_trans (show 2 ≤ 1000 by decide) (by decide), q (a, b) HD2 w2 (f1.trans f2)⟩
theorem tk_p3 {κ : α × γ × η → M β} {m2 : α → M β} {m3 : α → γ → M β} (h1 : TK C Γ e1 c m2 m) (h2 : ∀ a, TK C Γ e2 d (m3 a) (m2 a)) (h3 : ∀ a b, TK C Γ e3 c' (fun x => κ (a, b, x)) (m3 a b)) : TK C Γ (.tup (.cons e1 (.cons e2 (.cons e3 .nil)))) (c3 c d c') κ m := fun D H0 δ HD R Qb Q w q =>
  h1 D H0 δ HD R Qb _ w fun a HD1 w1 f1 => h2 a D H0 δ HD1 (R.ev f1) Qb _ w1 fun b HD2 w2 f2 => h3 a b D H0 δ HD2 ((R.ev f1).ev f2) Qb _ w2 fun x HD3 w3 f3 =>
    ⟨Nat.le_trans (show 3 ≤ 1000 by decide) (by decide), q (a, b, x) HD3 w3 (f1.trans (f2.trans f3))⟩
theorem tq_lst {κ : List α → M β} (h : TK C Γ e (cL c) κ m) : TQ C Γ e c κ m := fun D H0 δ HD R Qb Q w q =>
  h D H0 δ HD R Qb _ w fun xs HD1 w1 f1 => q xs HD1 _ w1 f1 fun _ _ => .inl rfl
theorem ListLike.listD {HD : HDt} {x : DV} {ds : List PyData} (h : ListLike HD x ds) : listD HD x = some (ds.map .d) := by
  rcases h with rfl | ⟨p, rfl, h⟩
  · rfl
  · simp only [DL.listD, h]
theorem tm_addl {own : Bool} {κ : List α → M β} {m2 : List α → M β} (h1 : TQ C Γ e1 c m2 m) (h2 : ∀ xs, TQ C Γ e2 c (fun ys => needs (xs.length + ys.length ≤ 16777216) (κ (xs ++ ys))) (m2 xs)) : TM C own Γ (.add own e1 e2) c κ m := fun D H0 δ HD R Qb Q w q => by
  refine h1 D H0 δ HD R Qb _ w fun xs HD1 x w1 f1 l1 => ?_
  refine h2 xs D H0 δ HD1 (R.ev f1) Qb _ w1 fun ys HD2 y w2 f2 l2 => ?_
  have a1 := l1 HD2 f2
  have a2 := l2 HD2 (Fr.refl ((R.ev f1).ev f2).deck)
  obtain ⟨hl, w3⟩ := wneeds w2
  have q' := q _ HD2 w3 (f1.trans f2)
  rw [List.map_append, List.map_append] at q'
  have hs : ((xs.map c.enc).map DV.d).length + ((ys.map c.enc).map DV.d).length ≤ sizeLine := by
    simp only [List.length_map]
    exact hl
  have e1 := a1.listD
  have e2 := a2.listD
  rcases a1 with rfl | ⟨p, rfl, _⟩ <;> rcases a2 with rfl | ⟨p', rfl, _⟩ <;> (show dAdd own _ _ HD2 Q; unfold dAdd; simp only [e1, e2]; exact ⟨hs, q'⟩)
theorem ti_of0 {it : RI} {κ : List α → M β} (h : TI0 C Γ it c κ m) : TI C Γ it c κ m := fun D H0 δ HD R Qb Q w q =>
  h D H0 δ HD R Qb _ w fun xs HD1 w1 f1 hl => q xs HD1 none w1 f1 hl fun _ _ => trivial
noncomputable def rangeI (lo hi : Int) : List Int := (List.range (hi - lo).toNat).map fun (k : Nat) => lo + (k : Int)
theorem rangeI_len (lo hi : Int) : (rangeI lo hi).length = (hi - lo).toNat := by simp [rangeI]
theorem t0_rng1 {κ : List Int → M β} (h : TK C Γ e cI (fun n => needs (-16777216 ≤ n ∧ n ≤ 16777216) (κ (rangeI 0 n))) m) : TI0 C Γ (.rng1 e) cI κ m := fun D H0 δ HD R Qb Q w q =>
  h D H0 δ HD R Qb _ w fun n HD1 w1 f1 => by
    obtain ⟨⟨h1, h2⟩, w2⟩ := wneeds w1
    refine ⟨⟨Int.le_trans (by decide) h1, Int.lt_of_le_of_lt h2 (by decide)⟩, ?_⟩
    have := q _ HD1 w2 f1 (by rw [rangeI_len]; exact (show _ ≤ 16777216 by omega))
    simp only [rangeI, List.map_map, Int.sub_zero] at this
    exact this
noncomputable def Bd (p : RP) (c : Codec α) (u : α → Env → Env) : Prop := ∀ {tb : List (Addr × Str)} (D : DP tb) (H0 : HDt) (Γ : Env) (δ : DEnv) (HD : HDt) (a : α), Rep D H0 Γ δ HD → ∃ δ', bindP p (.d (c.enc a)) δ = some δ' ∧ Rep D H0 (u a Γ) δ' HD
theorem bd_nm (i : Nat) (c : Codec α) : Bd (.nm i) c (fun a Γ => Γ.set i (.val (c.enc a))) := fun D H0 Γ δ HD a R => ⟨_, rfl, R.setV i _⟩
noncomputable def wipeE (Γ : Env) : List Nat → Env
  | [] => Γ
  | v :: vs => (wipeE Γ vs).set v .no
theorem Rep.wipe {tb : List (Addr × Str)} {D : DP tb} {H0 HD : HDt} {δ : DEnv} (R : Rep D H0 Γ δ HD) : ∀ vs : List Nat, Rep D H0 (wipeE Γ vs) (dwipe δ vs) HD
  | [] => R
  | v :: vs => (Rep.wipe R vs).setN v none
noncomputable def mapE (f : α → M γ) : List α → M (List γ)
  | [] => pure []
  | x :: xs => f x >>= fun y => mapE f xs >>= fun ys => pure (y :: ys)
noncomputable def filE (t : α → M Bool) (f : α → M γ) : List α → M (List γ)
  | [] => pure []
  | x :: xs => t x >>= fun b => if b = true then f x >>= fun y => filE t f xs >>= fun ys => pure (y :: ys) else filE t f xs
theorem TK.val {β : Type} {a : α} (h : ∀ κ : α → W Unit, TK C Γ e c κ (κ a)) {D : DP C.tabs} {H0 : HDt} {δ : DEnv} {HD : HDt} (R : Rep D H0 Γ δ HD) {Q : DQ} (q : ∀ HD', Fr D HD HD' → Q (.d (c.enc a)) HD') : wE C e δ HD Q :=
  h (fun b => ⟨fun _ => b = a, fun _ e => e⟩) D H0 δ HD R (fun _ => True) Q rfl fun b HD' w f => by
    have e : b = a := w
    subst e
    exact q HD' f
theorem TT.val {t : RT} {a : Bool} (h : ∀ κ : Bool → W Unit, TT C Γ t κ (κ a)) {D : DP C.tabs} {H0 : HDt} {δ : DEnv} {HD : HDt} (R : Rep D H0 Γ δ HD) {Q : Bool → HDt → Prop} (q : ∀ HD', Fr D HD HD' → Q a HD') : wT C t δ HD Q :=
  h (fun b => ⟨fun _ => b = a, fun _ e => e⟩) D H0 δ HD R (fun _ => True) Q rfl fun b HD' w f => by
    have e : b = a := w
    subst e
    exact q HD' f
theorem compW_val {D : DP C.tabs} {H0 : HDt} {src : Src} {p : RP} {t : RT} {u : α → Env → Env} {pm : α → Bool} {g : α → γ} {δ0 : DEnv} {all : List DV} (hb : Bd p c u)
    (ht : ∀ x (κ : Bool → W Unit), TT C (u x Γ) t κ (κ (pm x))) (hf : ∀ x (κ : γ → W Unit), TK C (u x Γ) e d κ (κ (g x))) : ∀ (xs : List α) (HD : HDt) (Q : List DV → HDt → Prop), Rep D H0 Γ δ0 HD → (∀ HD2, Fr D HD HD2 → srcOk src all HD2) →
    (∀ HD', Fr D HD HD' → Q ((((xs.filter pm).map g).map d.enc).map .d) HD') → compW src (bindP p) (wT C t) (wE C e) δ0 all ((xs.map c.enc).map .d) HD Q
  | [], HD, Q, R, so, q => ⟨so _ (Fr.refl R.deck), q HD (Fr.refl R.deck)⟩
  | x :: xs, HD, Q, R, so, q => by
    refine ⟨so _ (Fr.refl R.deck), ?_⟩
    obtain ⟨δ1, b1, R1⟩ := hb D H0 Γ δ0 HD x R
    rw [b1]
    refine TT.val (ht x) R1 fun HD1 f1 => ?_
    by_cases hp : pm x = true
    · rw [if_pos hp]
      rw [List.filter_cons_of_pos hp] at q
      refine TK.val (β := Unit) (hf x) (R1.ev f1) fun HD2 f2 => ?_
      have f12 := f1.trans f2
      exact compW_val hb ht hf xs HD2 _ (R.ev f12) (fun HD3 f3 => so _ (f12.trans f3)) fun HD3 f3 => q HD3 (f12.trans f3)
    · rw [if_neg hp]
      rw [List.filter_cons_of_neg hp] at q
      exact compW_val hb ht hf xs HD1 _ (R.ev f1) (fun HD3 f3 => so _ (f1.trans f3)) fun HD3 f3 => q HD3 (f1.trans f3)
theorem tm_compV {own : Bool} {vs : List Nat} {p : RP} {it : RI} {κ : List γ → M β} {u : α → Env → Env} {g : α → γ} (hb : Bd p c u) (hi : TI C Γ it c (fun xs => κ (xs.map g)) m) (hf : ∀ x (κ : γ → W Unit), TK C (u x (wipeE Γ vs)) e d κ (κ (g x))) :
    TM C own Γ (.comp own vs p it .yes e) d κ m := fun D H0 δ HD R Qb Q w q =>
  hi D H0 δ HD R Qb _ w fun xs HD1 src w1 f1 hl so => ⟨by simpa using hl, compW_val (pm := fun _ => true) hb (fun x κ => tt_yes) hf xs HD1 _ ((R.ev f1).wipe vs) so fun HD2 f2 => by
    rw [List.filter_eq_self.mpr (fun _ _ => rfl)]
    exact q _ HD2 w1 (f1.trans f2)⟩
end
structure Kont (R : Type) where
  nx : R → Env → Prop
  ct : R → Env → Prop
  bk : R → Env → Prop
  rt : R → PyData → Prop
  ro : {tb : List (Addr × Str)} → R → DV → DP tb → HDt → HDt → Prop := fun _ _ _ _ _ => False
noncomputable def Kont.rr {R : Type} (K : Kont R) (r : R) (x : DV) {tb : List (Addr × Str)} (D : DP tb) (H0 HD : HDt) : Prop := (∃ d, x = .d d ∧ K.rt r d) ∨ K.ro r x D H0 HD
theorem rrF {x : DV} (h : (∃ d : PyData, x = .d d ∧ False) ∨ False) : False := by
  rcases h with ⟨_, _, z⟩ | z <;> exact z
inductive Lo (σ R : Type) where
  | nx (s : σ)
  | bk (s : σ)
  | rt (r : R)
noncomputable def kF {ρ : Type} (c : Codec ρ) : Kont ρ := ⟨fun _ _ => False, fun _ _ => False, fun _ _ => False, fun r d => d = c.enc r, fun _ _ _ _ _ => False⟩
noncomputable def kL {σ R : Type} (emb : σ → Env) (K : Kont R) : Kont (Lo σ R) where
  nx o Γ := match o with
    | .nx s => Γ = emb s
    | _ => False
  ct o Γ := match o with
    | .nx s => Γ = emb s
    | _ => False
  bk o Γ := match o with
    | .bk s => Γ = emb s
    | _ => False
  rt o d := match o with
    | .rt r => K.rt r d
    | _ => False
  ro o x D H0 HD := match o with
    | .rt r => K.ro r x D H0 HD
    | _ => False
noncomputable def kX {R : Type} (K : Kont R) : Kont R := ⟨fun _ _ => False, K.ct, K.bk, K.rt, K.ro⟩
section
variable {M : Type → Type} [Monad M] [WM M] (C : CT)
noncomputable def TB (Γ : Env) (ss : List RS) {R : Type} (K : Kont R) (m : M R) : Prop :=
  ∀ (D : DP C.tabs) (H0 : HDt) (δ : DEnv) (HD : HDt), Rep D H0 Γ δ HD → ∀ (Qb : R → Prop) (Dd : DEnds), wp m Qb →
    (∀ r Γ' δ' HD', Qb r → K.nx r Γ' → Rep D H0 Γ' δ' HD' → Dd.nx δ' HD') → (∀ r Γ' δ' HD', Qb r → K.ct r Γ' → Rep D H0 Γ' δ' HD' → Dd.ct δ' HD') →
    (∀ r Γ' δ' HD', Qb r → K.bk r Γ' → Rep D H0 Γ' δ' HD' → Dd.bk δ' HD') → (∀ r x HD', Qb r → K.rr r x D H0 HD' → Fr D H0 HD' → Dd.rt x HD') → wB C ss Dd δ HD
end
section
variable {M : Type → Type} [Monad M] [WM M] {C : CT} {Γ : Env} {α β γ η ι R S σ : Type} {K : Kont R} {c : Codec α} {d : Codec γ} {c' : Codec η} {e e1 e2 e3 : RE} {m : M R} {ss : List RS}
theorem tb_nil {Γ' : Env} {r : R} (h : K.nx r Γ') (l : Le Γ Γ') : TB C Γ [] K (pure r : M R) := fun D H0 δ HD R Qb Dd w n _ _ _ => n r Γ' δ HD (wpure w) h (R.le l)
theorem tb_ret (g : α → R) (hg : ∀ a, K.rt (g a) (c.enc a)) (h : TK C Γ e c (fun a => pure (g a)) m) : TB C Γ (.ret e :: ss) K m := fun D H0 δ HD R Qb Dd w _ _ _ n =>
  h D H0 δ HD R Qb Dd.rt w fun a HD' w' fr => n (g a) _ HD' (wpure w') (.inl ⟨_, rfl, hg a⟩) (R.fr.trans fr)
theorem tb_asg {p : RP} {u : α → Env → Env} {k : α → M R} (hb : Bd p c u) (h : TK C Γ e c k m) (hs : ∀ a, TB C (u a Γ) ss K (k a)) : TB C Γ (.asg p e :: ss) K m := fun D H0 δ HD R Qb Dd w n1 n2 n3 n4 =>
  h D H0 δ HD R Qb _ w fun a HD1 w1 f1 => by
    obtain ⟨δ1, b1, R1⟩ := hb D H0 Γ δ HD1 a (R.ev f1)
    rw [b1]
    exact hs a D H0 δ1 HD1 R1 Qb Dd w1 n1 n2 n3 n4
theorem tb_let {p : RP} {u : α → Env → Env} {k : α → M R} (hb : Bd p c u) (h : TK C Γ e c (fun a => letB a k) m) (hs : ∀ a, TB C (u a Γ) ss K (k a)) : TB C Γ (.asg p e :: ss) K m := tb_asg hb h hs
end
section
variable {M : Type → Type} [Monad M] [WM M] {C : CT} {Γ : Env} {α β γ η ι R S σ ρ : Type} {K : Kont R} {c : Codec α} {d : Codec γ} {c' : Codec η} {e e1 e2 e3 : RE} {m : M R} {ss a b : List RS} {t : RT}
theorem wB_app : ∀ (a b : List RS) (Dd : DEnds) (δ : DEnv) (HD : HDt), wB C (a ++ b) Dd δ HD = wB C a ⟨wB C b Dd, Dd.rt, Dd.bk, Dd.ct⟩ δ HD
  | [], b, Dd, δ, HD => rfl
  | s :: a, b, Dd, δ, HD => by
    have : wB C (a ++ b) Dd = wB C a ⟨wB C b Dd, Dd.rt, Dd.bk, Dd.ct⟩ := by
      funext δ HD
      exact wB_app a b Dd δ HD
    show wS C s ⟨wB C (a ++ b) Dd, Dd.rt, Dd.bk, Dd.ct⟩ δ HD = wS C s ⟨wB C a ⟨wB C b Dd, Dd.rt, Dd.bk, Dd.ct⟩, Dd.rt, Dd.bk, Dd.ct⟩ δ HD
    rw [this]
theorem tb_ifX {ma mr : M R} (h : TT C Γ t (fun x => if x = true then ma else mr) m) (ha : TB C Γ a (kX K) ma) (hr : TB C Γ (b ++ ss) K mr) : TB C Γ (.ifs t a b :: ss) K m := fun D H0 δ HD R Qb Dd w n1 n2 n3 n4 =>
  h D H0 δ HD R Qb _ w fun x HD1 w1 f1 => by
    cases x with
    | true => exact ha D H0 δ HD1 (R.ev f1) Qb _ w1 (fun _ _ _ _ _ k => k.elim) n2 n3 n4
    | false =>
      have := hr D H0 δ HD1 (R.ev f1) Qb Dd w1 n1 n2 n3 n4
      rw [wB_app] at this
      exact this
noncomputable def Lo.go (o : Lo σ R) (k : σ → M R) : M R := match o with
  | .nx s => k s
  | .bk s => k s
  | .rt r => pure r
noncomputable def loopM (f : σ → α → M (Lo σ R)) (k : σ → M R) : List α → σ → M R
  | [], s => k s
  | x :: xs, s => f s x >>= fun o => match o with
    | .nx s => loopM f k xs s
    | .bk s => k s
    | .rt r => pure r
theorem tb_for {p : RP} {it : RI} {f : σ → α → M (Lo σ R)} {k : σ → M R} {u : α → Env → Env} {s0 : σ} (emb : σ → Env) (hb : Bd p c u) (le : Le Γ (emb s0)) (hi : TI0 C Γ it c (fun xs => loopM f k xs s0) m)
    (hf : ∀ s x, TB C (u x (emb s)) b (kL emb K) (f s x)) (hs : ∀ s, TB C (emb s) ss K (k s)) : TB C Γ (.loop p it b :: ss) K m := fun D H0 δ HD R Qb Dd w n1 n2 n3 n4 =>
  hi D H0 δ HD R Qb _ w fun xs HD1 w1 f1 hl => by
    have go : ∀ (ys : List α) (all : List DV) (s : σ) (δ : DEnv) (HD : HDt), Rep D H0 (emb s) δ HD → wp (loopM f k ys s) Qb → forW none (bindP p) (wB C b) ⟨wB C ss Dd, Dd.rt, Dd.bk, Dd.ct⟩ all ((ys.map c.enc).map .d) δ HD := by
      intro ys all
      induction ys with
      | nil => exact fun s δ HD R w => ⟨trivial, hs s D H0 δ HD R Qb Dd w n1 n2 n3 n4⟩
      | cons y ys ih =>
        intro s δ HD R w
        refine ⟨trivial, ?_⟩
        obtain ⟨δ1, b1, R1⟩ := hb D H0 _ δ HD y R
        simp only [b1]
        refine hf s y D H0 δ1 HD R1 _ _ (wbind w) (fun o Γ' δ' HD' q k' R' => ?_) (fun o Γ' δ' HD' q k' R' => ?_) (fun o Γ' δ' HD' q k' R' => ?_) fun o d HD' q k' fr => ?_
        · cases o with
          | nx s' => cases k'; exact ih s' δ' HD' R' q
          | bk s' => exact k'.elim
          | rt r => exact k'.elim
        · cases o with
          | nx s' => cases k'; exact ih s' δ' HD' R' q
          | bk s' => exact k'.elim
          | rt r => exact k'.elim
        · cases o with
          | bk s' => cases k'; exact hs s' D H0 δ' HD' R' Qb Dd q n1 n2 n3 n4
          | nx s' => exact k'.elim
          | rt r => exact k'.elim
        · cases o with
          | rt r => exact n4 r d HD' (wpure q) k' fr
          | nx s' => exact (rrF k').elim
          | bk s' => exact (rrF k').elim
    exact go xs _ s0 δ HD1 ((R.ev f1).le le) w1
end
section
variable {M : Type → Type} [Monad M] [WM M] {T : List FnB} {A : Str → Option Addr} {α ρ : Type}
noncomputable def slotOf : AV → Slot
  | .v d => .val d
  | .dk => .deck
  | .ob Ca fs => .obR Ca fs
  | .cl xs => .cellR xs
  | .dc t kvs => .dctR t kvs
  | .vx E => .vx E
theorem args_slot {tb : List (Addr × Str)} {D : DP tb} {HX : HDt} : ∀ {args : List AV} {ds : List DV}, ArgsOk D HX args ds → ∀ (i : Nat) s, (args.map slotOf)[i]? = some s → ∃ x, ds[i]? = some x ∧ ∀ HD, SlotOk D HX HD (some (some x)) s ∧ isCell s = false
  | _, _, .nil, i, s, h => by simp at h
  | a :: _, x :: _, .cons k t, 0, s, h => by
    simp at h
    subst h
    refine ⟨x, rfl, fun HD => ?_⟩
    cases a with
    | v d =>
      cases k
      exact ⟨rfl, rfl⟩
    | vx E =>
      cases k
      exact ⟨rfl, rfl⟩
    | dk =>
      obtain ⟨p, q, h1, h2⟩ := k
      subst h2
      exact ⟨⟨p, q, h1, rfl⟩, rfl⟩
    | ob Ca fs =>
      obtain ⟨p, ds, h1, h2, h3, h4⟩ := k
      subst h1
      exact ⟨⟨p, ds, rfl, h2, h3, h4⟩, rfl⟩
    | cl xs =>
      obtain ⟨p, h1, h2, h3⟩ := k
      subst h1
      exact ⟨⟨p, rfl, h2, h3⟩, rfl⟩
    | dc t kvs =>
      obtain ⟨p, h1, h2, h3⟩ := k
      subst h1
      exact ⟨⟨p, rfl, h2, h3⟩, rfl⟩
  | _, _, .cons k t, i + 1, s, h => by
    obtain ⟨x, h1, h2⟩ := args_slot t i s (by simpa using h)
    exact ⟨x, by simpa using h1, h2⟩
theorem rep_start {tb : List (Addr × Str)} {D : DP tb} {HD : HDt} {args : List AV} {ds : List DV} {n : Nat} (h : DkOk D HD) (ok : ArgsOk D HD args ds) : Rep D HD (args.map slotOf ++ List.replicate n .no) (ds.map some ++ List.replicate n none) HD := by
  have hl := Paired.length ok
  have old : ∀ (i : Nat) s, (args.map slotOf ++ List.replicate n Slot.no)[i]? = some s → s = .no ∨ ∃ x, (ds.map some ++ List.replicate n none)[i]? = some (some x) ∧ ∀ HD2, SlotOk D HD HD2 (some (some x)) s ∧ isCell s = false := fun i s e => by
    by_cases hi : i < args.length
    · rw [List.getElem?_append_left (by simpa using hi)] at e
      obtain ⟨x, h1, h2⟩ := args_slot ok i s e
      refine .inr ⟨x, ?_, h2⟩
      rw [List.getElem?_append_left (by simp; omega)]
      simp [h1]
    · rw [List.getElem?_append_right (by simp; omega)] at e
      have := List.mem_of_getElem? e
      exact .inl (List.eq_of_mem_replicate this)
  refine ⟨Fr.refl h, by simp [hl], fun i s e => ?_, fun i j s t ne e1 e2 c1 c2 => ?_⟩
  · rcases old i s e with rfl | ⟨x, h1, h2⟩
    · trivial
    · rw [h1]
      exact (h2 HD).1
  · rcases old i s e1 with rfl | ⟨x, h1, h2⟩
    · cases c1
    · rw [(h2 HD).2] at c1
      cases c1
theorem tc_fn {n f : Nat} {args : List AV} {c : Codec ρ} {m : M ρ} {np ns : Nat} {body : List RS} (hT : T[f]? = some ⟨np, ns, body, none⟩) (ha : args.length = np) (h : TB (wCall T A n) (args.map slotOf ++ List.replicate (ns - np) .no) body (kF c) m) : TC (wCall T A (n + 1)) f args c m :=
  fun D HD ds k ok Qb Q w q => by
    have hl := Paired.length ok
    rw [wCall_at hT]
    refine ⟨by show ds.length = np; omega, ?_⟩
    have R0 := rep_start (n := ns - np) k ok
    refine h D HD _ HD ?_ Qb (dEnds Q) w (fun _ _ _ _ _ k => k.elim) (fun _ _ _ _ _ k => k.elim) (fun _ _ _ _ _ k => k.elim) fun r d HD' hr e fr => ?_
    · have : ns - ds.length = ns - np := by omega
      unfold dStart
      rw [this]
      exact R0
    · rcases e with ⟨d, rfl, e⟩ | e
      · cases e
        exact q r HD' hr fr
      · exact e.elim
end
section
variable {α γ η : Type}
structure QC [DecidableEq α] (c : Codec α) (n : Nat) : Prop where
  lay : ∀ a, PyData.canLay0 (c.enc a) = true
  dep : ∀ a, (c.enc a).depth ≤ n
  eqv : ∀ a b, PyData.eqv (c.enc a) (c.enc b) = decide (a = b)
theorem QC.shaped [DecidableEq α] {c : Codec α} {n : Nat} (q : QC c n) (hn : n ≤ 64) (a : α) : SeqAt.shaped (c.enc a) = true := by
  simp [SeqAt.shaped, q.lay a, Nat.le_trans (q.dep a) hn]
theorem qI : QC cI 0 := ⟨fun _ => rfl, fun _ => by simp [cI, PyData.depth], fun a b => by simp [cI, PyData.eqv]; by_cases h : a = b <;> simp [h]⟩
theorem qB : QC cB 0 := ⟨fun _ => rfl, fun _ => by simp [cB, PyData.depth], fun a b => by simp [cB, PyData.eqv]; by_cases h : a = b <;> simp [h]⟩
theorem lays_map [DecidableEq α] {c : Codec α} {n : Nat} (q : QC c n) : ∀ xs : List α, PyData.canLayAll0 (xs.map c.enc) = true
  | [] => rfl
  | x :: xs => by simp [PyData.canLayAll0, q.lay x, lays_map q xs]
theorem deps_map [DecidableEq α] {c : Codec α} {n : Nat} (q : QC c n) : ∀ xs : List α, PyData.depthAll (xs.map c.enc) ≤ n
  | [] => by simp [PyData.depthAll]
  | x :: xs => by
    simp only [List.map_cons, PyData.depthAll]
    exact Nat.max_le.mpr ⟨q.dep x, deps_map q xs⟩
theorem eqvs_map [DecidableEq α] {c : Codec α} {n : Nat} (q : QC c n) : ∀ xs ys : List α, PyData.eqvAll (xs.map c.enc) (ys.map c.enc) = decide (xs = ys)
  | [], [] => by simp [PyData.eqvAll]
  | [], _ :: _ => by simp [PyData.eqvAll]
  | _ :: _, [] => by simp [PyData.eqvAll]
  | x :: xs, y :: ys => by
    simp only [List.map_cons, PyData.eqvAll, q.eqv, eqvs_map q xs ys, List.cons.injEq]
    by_cases h1 : x = y <;> by_cases h2 : xs = ys <;> simp [h1, h2]
theorem qT [DecidableEq α] {c : Codec α} {n : Nat} (q : QC c n) : QC (cT c) (n + 1) := by
  refine ⟨fun xs => ?_, fun xs => ?_, fun xs ys => ?_⟩
  · simpa [cT, PyData.canLay0] using lays_map q xs
  · simp only [cT, PyData.depth]
    have := deps_map q xs
    omega
  · simpa [cT, PyData.eqv] using eqvs_map q xs ys
theorem qL [DecidableEq α] {c : Codec α} {n : Nat} (q : QC c n) : QC (cL c) (n + 1) := by
  refine ⟨fun xs => ?_, fun xs => ?_, fun xs ys => ?_⟩
  · simpa [cL, PyData.canLay0] using lays_map q xs
  · simp only [cL, PyData.depth]
    have := deps_map q xs
    omega
  · simpa [cL, PyData.eqv] using eqvs_map q xs ys
theorem q3 [DecidableEq α] [DecidableEq γ] [DecidableEq η] {c : Codec α} {d : Codec γ} {e : Codec η} {n k l : Nat} (q : QC c n) (r : QC d k) (s : QC e l) : QC (c3 c d e) (max n (max k l) + 1) := by
  refine ⟨fun x => ?_, fun x => ?_, fun x y => ?_⟩
  · simp [c3, PyData.canLay0, PyData.canLayAll0, q.lay, r.lay, s.lay]
  · have h1 := q.dep x.1
    have h2 := r.dep x.2.1
    have h3 := s.dep x.2.2
    simp only [c3, PyData.depth, PyData.depthAll]
    omega
  · obtain ⟨x1, x2, x3⟩ := x
    obtain ⟨y1, y2, y3⟩ := y
    simp only [c3, PyData.eqv, PyData.eqvAll, q.eqv, r.eqv, s.eqv, Prod.mk.injEq]
    by_cases h1 : x1 = y1 <;> by_cases h2 : x2 = y2 <;> by_cases h3 : x3 = y3 <;> simp [h1, h2, h3]
structure OC [DecidableEq α] (c : Codec α) (n : Nat) (lt : α → α → Bool) : Prop extends QC c n where
  alike : ∀ a b, PySem.W.alike (c.enc a) (c.enc b) = true
  nn : ∀ a, c.enc a ≠ .none
  lt_eq : ∀ a b, PySem.W.dataLt (c.enc a) (c.enc b) = lt a b
noncomputable def ltT [DecidableEq α] (lt : α → α → Bool) : List α → List α → Bool
  | [], [] => false
  | [], _ :: _ => true
  | _ :: _, [] => false
  | x :: xs, y :: ys => if x = y then ltT lt xs ys else lt x y
theorem alikes_map [DecidableEq α] {c : Codec α} {n : Nat} {lt : α → α → Bool} (o : OC c n lt) : ∀ xs ys : List α, PySem.W.alikeAll (xs.map c.enc) (ys.map c.enc) = true
  | [], _ => by rw [List.map_nil, PySem.W.alikeAll]
  | _ :: _, [] => by rw [List.map_nil, List.map_cons, PySem.W.alikeAll]
  | x :: xs, y :: ys => by
    rw [List.map_cons, List.map_cons, PySem.W.alikeAll, o.alike x y, alikes_map o xs ys]
    rfl
theorem lts_map [DecidableEq α] {c : Codec α} {n : Nat} {lt : α → α → Bool} (o : OC c n lt) : ∀ xs ys : List α, PyProof.Rows.lexLt itemOrd (PySem.W.keyToksAll (xs.map c.enc)) (PySem.W.keyToksAll (ys.map c.enc)) = ltT lt xs ys
  | [], [] => lex_irrefl _
  | [], y :: ys => by
    rw [List.map_nil, List.map_cons, PySem.W.toks_all_cons]
    simp only [PySem.W.keyToksAll]
    rw [lex_diff (O := itemOrd) (by simp)]
    rfl
  | x :: xs, [] => by
    rw [List.map_nil, List.map_cons, PySem.W.toks_all_cons]
    simp only [PySem.W.keyToksAll]
    rw [lex_diff (O := itemOrd) (by simp)]
    rfl
  | x :: xs, y :: ys => by
    rw [List.map_cons, List.map_cons, ltT]
    by_cases h : x = y
    · rw [if_pos h, PySem.W.dataLt_all_yes (o.alike x y) (by rw [o.eqv, decide_eq_true_eq]; exact h), lts_map o xs ys]
    · rw [if_neg h, PySem.W.dataLt_all_no (o.alike x y) (by rw [o.eqv, decide_eq_false_iff_not]; exact h)]
      exact o.lt_eq x y
theorem oT [DecidableEq α] {c : Codec α} {n : Nat} {lt : α → α → Bool} (o : OC c n lt) : OC (cT c) (n + 1) (ltT lt) :=
  ⟨qT o.toQC, fun xs ys => by simp only [cT, PySem.W.alike]; exact alikes_map o xs ys, fun a e => (by cases e), fun xs ys => (PySem.W.dataLt_tuple _ _).trans (lts_map o xs ys)⟩
theorem oL [DecidableEq α] {c : Codec α} {n : Nat} {lt : α → α → Bool} (o : OC c n lt) : OC (cL c) (n + 1) (ltT lt) :=
  ⟨qL o.toQC, fun xs ys => by simp only [cL, PySem.W.alike]; exact alikes_map o xs ys, fun a e => (by cases e), fun xs ys => (PySem.W.dataLt_list _ _).trans (lts_map o xs ys)⟩
end
section
variable {M : Type → Type} [Monad M] [WM M] {α γ η : Type} {c : Codec α}
theorem op_sub : Op2 M (dArith .Sub) cI cI cI (fun a b κ => κ (a - b)) := fun a b κ Qb HD Q w q => q (a - b) w
theorem op_pow : Op2 M (dArith .Pow) cI cI cI (fun a b κ => needs (0 ≤ b ∧ b ≤ 1000000 ∧ a.natAbs < 2 ^ 64) (κ (a ^ b.toNat))) := fun a b κ Qb HD Q w q => let ⟨h, w⟩ := wneeds w
  ⟨h, q _ w⟩
theorem op_shr : Op2 M (dArith .RShift) cI cI cI (fun a b κ => needs (0 ≤ b) (κ (a / 2 ^ b.toNat))) := fun a b κ Qb HD Q w q => let ⟨h, w⟩ := wneeds w
  ⟨h, q _ w⟩
noncomputable def timesL (xs : List α) (k : Int) : List α := (List.replicate k.toNat xs).flatten
theorem eqOk_sh {d e : PyData} (h1 : SeqAt.shaped d = true) (h2 : SeqAt.shaped e = true) : eqOk d e := by
  unfold eqOk
  split
  · trivial
  · exact ⟨h1, h2⟩
section
variable [DecidableEq α] {n : Nat} {lt : α → α → Bool}
theorem op_eq (q : QC c n) (hn : n ≤ 64) : Op2 M (dCmp .Eq) c c cB (fun a b κ => κ (decide (a = b))) := fun a b κ Qb HD Q w k => by
  show eqOk _ _ ∧ _
  refine ⟨eqOk_sh (q.shaped hn a) (q.shaped hn b), ?_⟩
  rw [q.eqv]
  exact k _ w
theorem op_ne (q : QC c n) (hn : n ≤ 64) : Op2 M (dCmp .NotEq) c c cB (fun a b κ => κ (!decide (a = b))) := fun a b κ Qb HD Q w k => by
  show eqOk _ _ ∧ _
  refine ⟨eqOk_sh (q.shaped hn a) (q.shaped hn b), ?_⟩
  rw [q.eqv]
  exact k _ w
end
theorem op_neS : Op2 M (dCmp .NotEq) cS cS cB (fun a b κ => κ (!decide (a = b))) := fun a b κ Qb HD Q w k => by
  refine ⟨trivial, ?_⟩
  have : (PyData.eqv (cS.enc a) (cS.enc b)) = decide (a = b) := by
    simp only [cS, PyData.eqv]
    by_cases h : a = b <;> simp [h]
  rw [this]
  exact k _ w
variable {C : CT} {Γ : Env} {β : Type} {d : Codec γ} {c' : Codec η} {e e1 e2 e3 : RE} {m : M β}
theorem atI_map {α γ : Type} (f : α → γ) (xs : List α) (i : Int) : atI (xs.map f) i = (atI xs i).map f := by
  unfold atI
  rw [List.length_map]
  cases ixN xs.length i with
  | none => rfl
  | some j => simp
structure NN (c : Codec α) : Prop where
  nn : ∀ a, isNone (.d (c.enc a)) = false
theorem n3 {c : Codec α} {d : Codec γ} {e : Codec η} : NN (c3 c d e) := ⟨fun _ => rfl⟩
noncomputable def isT (T : Ty) (d : PyData) : Bool := (tyP d).sub T
noncomputable def decI : PyData → Option Int
  | .int i => some i
  | _ => none
noncomputable def decT : PyData → Option (List PyData)
  | .tuple i => some i
  | _ => none
theorem tk_dct0 {κ : PyData → M β} : TK C Γ .dct0 cA κ (κ (.dict [])) := fun D H0 δ HD R Qb Q w q => q _ HD w (Fr.refl R.deck)
noncomputable def okR (d : PyData) : Prop := d.showable = true ∧ d.shown.length ≤ 16777216 ∧ d.depth ≤ 64
noncomputable instance (d : PyData) : Decidable (okR d) := by unfold okR; infer_instance
theorem tk_repr {κ : Str → M β} (h : TK C Γ e c (fun a => needs (okR (c.enc a)) (κ (c.enc a).shown)) m) : TK C Γ (.bi .repr e) cS κ m := fun D H0 δ HD R Qb Q w k =>
  h D H0 δ HD R Qb _ w fun a HD1 w1 f1 => by
    obtain ⟨h, w2⟩ := wneeds w1
    exact ⟨h, k _ HD1 w2 f1⟩
end
noncomputable def oneW {α : Type} (xs : List α) : W α := ⟨fun Q => xs ≠ [] ∧ xs.length < 1073741824 ∧ ∀ x ∈ xs, Q x, fun h ⟨a, b, c⟩ => ⟨a, b, fun v x => h v (c v x)⟩⟩
theorem Fr.dk {tb : List (Addr × Str)} {a b : Addr} {H0 HD : HDt} (k : DkOk (tb := tb) (some (a, b)) H0) (d : Dk a b H0 HD) : Fr (tb := tb) (some (a, b)) H0 HD := by
  obtain ⟨⟨_, zs, cs, kk, h1, h2, _⟩, ht⟩ := k
  refine ⟨⟨d.deck, fun P q hq => d.same P _ (ht P q hq) (fun z => ?_) fun z => ?_⟩, fun p c e n => d.same p c e (fun z => n (.inl (.inl z))) fun z => n (.inl (.inr z))⟩
  · have h3 := ht P q hq
    rw [z, h1] at h3
    cases h3
  · have h3 := ht P q hq
    rw [z, h2] at h3
    cases h3
section
variable {T : List FnB} {A : Str → Option Addr} {f n : Nat}
theorem tc_oneL {dr : Nat} {α : Type} {c : Codec α} (hT : T[f]? = some ⟨2, 2, B_one dr, none⟩) (hd : T[dr]? = some ⟨2, 5, B_draw, none⟩) (xs : List α) : TC (wCall T A (n + 2)) f [.dk, .v ((cL c).enc xs)] c (oneW xs) := fun D HD ds k ok Qb Q w q => by
  match ds, ok with
  | [_, _], .cons ⟨a, b, hD, e1⟩ (.cons e2 .nil) =>
    subst e1 e2 hD
    obtain ⟨h1, h2, h3⟩ := w
    refine one_spec hT hd (x := .list (xs.map c.enc)) (xs := xs.map c.enc) (.inl rfl) (by simpa using h1) (by simpa using h2) k.dk fun y HD' d hy => ?_
    obtain ⟨z, hz, rfl⟩ := List.mem_map.mp hy
    exact q z HD' (h3 z hz) (Fr.dk k d)
theorem tabs_no {T : List FnB} {A : Str → Option Addr} {HD : HDt} (h : tabsOf T A = []) : TabsIn (tabsOf T A) HD := fun P q hq => by rw [h] at hq; cases hq
theorem law_start {lf de np ns : Nat} {body : List RS} {m : W Bool} {k : Nat} {is : List Int} (hT : T[lf]? = some ⟨1, ns, .asg (.nm 1) (.call de (.cons (.var 0) .nil)) :: body, none⟩) (hd : T[de]? = some ⟨1, 3, B_deck, none⟩) (hn : is.length ≤ 63)
    (h : TB (wCall T A (n + 1)) (.no :: .deck :: List.replicate k .no) body (kF cB) m) (hk : ns = k + 2) (w : m.p fun b => b = true) {HD0 : HDt} (ht : TabsIn (tabsOf T A) HD0) : wCall T A (n + 2) lf [.w is] HD0 (fun d _ => d = .d (.bool true)) := by
  rw [wCall_at hT]
  refine ⟨rfl, ?_⟩
  show gAsg (.nm 1) (gCall (wCall T A (n + 1) de) (DL.gCons (gVar 0) DL.gNil)) _ (dStart ns [.w is]) _
  have e0 : dStart ns [.w is] = some (.w is) :: none :: List.replicate k none := by
    subst hk
    simp [dStart, List.replicate_succ]
  rw [e0]
  show wCall T A (n + 1) de [.w is] HD0 _
  refine deck_specG hd hn fun a b HD' dk0 ol => ?_
  have dk : DkOk (tb := (wCall T A (n + 1)).tabs) (some (a, b)) HD' := ⟨dk0, fun P q hq => (ol P _ (ht P q hq)).1⟩
  refine h (some (a, b)) HD' _ HD' ⟨Fr.refl dk, by simp [bindP], fun i s e => ?_, fun i j s t ne e1 e2 c1 c2 => ?_⟩ (fun b => b = true) _ w (fun _ _ _ _ _ k => k.elim) (fun _ _ _ _ _ k => k.elim) (fun _ _ _ _ _ k => k.elim) fun r d HD2 hr e fr => ?_
  · match i, e with
    | 0, e => cases e; trivial
    | 1, e => cases e; exact ⟨a, b, rfl, rfl⟩
    | i + 2, e =>
      have : s ∈ List.replicate k Slot.no := List.mem_of_getElem? (i := i) (by simpa using e)
      rw [List.eq_of_mem_replicate this]
      trivial
  · match i, e1 with
    | 0, e => cases e; cases c1
    | 1, e => cases e; cases c1
    | i + 2, e =>
      have : s ∈ List.replicate k Slot.no := List.mem_of_getElem? (i := i) (by simpa using e)
      rw [List.eq_of_mem_replicate this] at c1
      cases c1
  · rcases e with ⟨d, rfl, e⟩ | e
    · cases e
      subst hr
      rfl
    · exact e.elim
end
theorem tc_E {C : CT} {f : Nat} {args : List AV} {α : Type} {c : Codec α} {M : Type → Type} [Monad M] [WM M] {m m' : M α} (h : TC C f args c m) (e : m = m') : TC C f args c m' := e ▸ h
theorem tb_E {C : CT} {Γ : Env} {ss : List RS} {R : Type} {K : Kont R} {M : Type → Type} [Monad M] [WM M] {m m' : M R} (h : TB C Γ ss K m) (e : m = m') : TB C Γ ss K m' := e ▸ h
section
variable {α β σ R : Type} {m : W α} {k : α → W β} {Q : β → Prop}
theorem w_ofb {o : Option α} {a : α} (h : o = some a) (q : (k a).p Q) : ((ofO o : W α) >>= k).p Q := ⟨a, h, q⟩
theorem w_needs {p : Prop} [Decidable p] {m : W α} {Q : α → Prop} (h : p) (q : m.p Q) : (needs p m).p Q := by
  unfold needs
  rw [if_pos h]
  exact q
theorem w_one {xs : List α} (h0 : xs ≠ []) (h1 : xs.length < 1073741824) (q : ∀ x ∈ xs, (k x).p Q) : (oneW xs >>= k).p Q := ⟨h0, h1, q⟩
theorem w_loop {f : σ → α → W (Lo σ R)} {k : σ → W R} (I : List α → σ → Prop) {Q : R → Prop} (step : ∀ x r s, I (x :: r) s → (f s x).p fun o => match o with
    | .nx s => I r s
    | .bk s => (k s).p Q
    | .rt r => Q r) (last : ∀ s, I [] s → (k s).p Q) : ∀ {xs : List α} {s : σ}, I xs s → (loopM f k xs s).p Q
  | [], s, i => last s i
  | x :: xs, s, i => by
    show (f s x).p _
    refine (f s x).mono (fun o h => ?_) (step x xs s i)
    cases o with
    | nx s' => exact w_loop I step last h
    | bk s' => exact h
    | rt r => exact h
theorem w_loop0 {f : Unit → α → W (Lo Unit R)} {k : Unit → W R} {Q : R → Prop} {xs : List α} (step : ∀ x ∈ xs, (f () x).p fun o => o = .nx ()) (last : (k ()).p Q) : (loopM f k xs ()).p Q :=
  w_loop (fun r _ => ∀ x ∈ r, x ∈ xs) (fun x r s h => (f () x).mono (fun o e => by subst e; exact fun y hy => h y (by simp [hy])) (step x (h x (by simp)))) (fun _ _ => last) fun _ h => h
end
section
variable {α β σ R : Type}
@[simp] theorem ofO_O (o : Option α) : (WM.ofO o : Option α) = o := rfl
@[simp] theorem letB_eq (a : α) (k : α → β) : letB a k = k a := rfl
@[simp] theorem some_bd (a : α) (k : α → Option β) : (some a >>= k) = k a := rfl
@[simp] theorem pure_bdO (a : α) (k : α → Option β) : ((pure a : Option α) >>= k) = k a := rfl
@[simp] theorem none_bd (k : α → Option β) : ((none : Option α) >>= k) = none := rfl
@[simp] theorem pureO (a : α) : (pure a : Option α) = some a := rfl
@[simp] theorem ite_bd (c : Prop) [Decidable c] (a b : Option α) (k : α → Option β) : ((if c then a else b) >>= k) = (if c then a >>= k else b >>= k) := by split <;> rfl
theorem W.ext {a b : W α} (h : ∀ Q, a.p Q ↔ b.p Q) : a = b := by
  obtain ⟨p, hp⟩ := a
  obtain ⟨q, hq⟩ := b
  have : p = q := by
    funext Q
    exact propext (h Q)
  subst this
  rfl
@[simp] theorem ofW_some (a : α) : (WM.ofO (some a) : W α) = pure a := W.ext fun Q => ⟨fun ⟨b, e, q⟩ => by cases e; exact q, fun q => ⟨a, rfl, q⟩⟩
@[simp] theorem pure_bdW (a : α) (k : α → W β) : ((pure a : W α) >>= k) = k a := rfl
theorem mapE_some {f : α → Option β} (g : α → β) : ∀ {xs : List α}, (∀ x ∈ xs, f x = some (g x)) → mapE f xs = some (xs.map g)
  | [], _ => rfl
  | x :: xs, h => by
    simp only [mapE, h x (by simp), some_bd, mapE_some g fun y hy => h y (List.mem_cons_of_mem _ hy), pureO, List.map_cons]
theorem filE_some {t : α → Option Bool} {f : α → Option β} (p : α → Bool) (g : α → β) : ∀ {xs : List α}, (∀ x ∈ xs, t x = some (p x)) → (∀ x ∈ xs, p x = true → f x = some (g x)) → filE t f xs = some ((xs.filter p).map g)
  | [], _, _ => rfl
  | x :: xs, h, h2 => by
    have ih := filE_some p g (fun y hy => h y (List.mem_cons_of_mem _ hy)) fun y hy => h2 y (List.mem_cons_of_mem _ hy)
    simp only [filE, h x (by simp), some_bd]
    by_cases hp : p x = true
    · rw [if_pos hp, h2 x (by simp) hp, List.filter_cons_of_pos hp, ih]
      rfl
    · rw [if_neg hp, List.filter_cons_of_neg hp, ih]
theorem atI_nat {xs : List α} {k : Nat} : atI xs (k : Int) = xs[k]? := by
  unfold atI ixN
  by_cases h : k < xs.length
  · have h' : (k : Int) < (xs.length : Int) := by omega
    simp [h']
  · have h' : ¬ ((k : Int) < (xs.length : Int)) := by omega
    simp [h']
    omega
end
theorem depth_ints : ∀ a : List Int, NestedKey.depthAll (nks (a.map cI.enc)) = 0
  | [] => rfl
  | x :: xs => by
    have := depth_ints xs
    simp [nks, NestedKey.depthAll, cI, nk, NestedKey.depth] at this ⊢
    exact this
section
variable {M : Type → Type} [Monad M] [WM M] {C : CT} {Γ : Env} {α β γ η ι R : Type} {c : Codec α} {e e1 e2 e3 : RE} {m : M β}
theorem tm_mulL {own : Bool} {κ : List α → M β} {m2 : List α → M β} (h1 : TQ C Γ e1 c m2 m) (h2 : ∀ xs, TK C Γ e2 cI (fun k => needs (-1000000 ≤ k ∧ k ≤ 1000000 ∧ xs.length * k.toNat ≤ 16777216) (κ (timesL xs k))) (m2 xs)) : TM C own Γ (.mulL own e1 e2) c κ m := fun D H0 δ HD R Qb Q w q =>
  h1 D H0 δ HD R Qb _ w fun xs HD1 x w1 f1 l => h2 xs D H0 δ HD1 (R.ev f1) Qb _ w1 fun k HD2 w2 f2 => by
    obtain ⟨hn, w3⟩ := wneeds w2
    have a1 := (l HD2 f2).listD
    show dMulL own x (.d (.int k)) HD2 Q
    have q' := q _ HD2 w3 (f1.trans f2)
    simp only [dMulL, a1]
    refine ⟨by simp only [List.length_map]; exact hn, ?_⟩
    have e1 : (List.replicate k.toNat ((xs.map c.enc).map DV.d)).flatten = ((timesL xs k).map c.enc).map DV.d := by
      unfold timesL
      rw [List.map_flatten, List.map_flatten, List.map_replicate, List.map_replicate]
    rw [e1]
    exact q'
end
section
variable {tb : List (Addr × Str)} {D : DP tb} {H0 HD : HDt} {Γ : Env} {δ : DEnv}
theorem ddel_ne {HD : HDt} {p q : Addr} (h : q ≠ p) : ddel HD p q = HD q := if_neg h
theorem Rep.frz {j : Nat} {xs : List PyData} (R : Rep D H0 Γ δ HD) (h : Γ[j]? = some (.cell xs)) : ∃ p, δ[j]? = some (some (.r p)) ∧ HD p = some (.lst (xs.map .d)) ∧ Rep D H0 (Γ.set j .no) δ (ddel HD p) := by
  obtain ⟨p, h1, h2, h3, h4⟩ := R.at' j _ h
  refine ⟨p, h1, h2, R.upd h rfl h1 ⟨R.deck.del h4, fun q u hu _ nf => (ddel_ne fun z => nf (.inl (by rw [z]))).trans hu⟩ trivial fun q f => ?_⟩
  rcases f with f | ⟨p', Ca, ds, f1, f2, f3⟩
  · exact .inl (.inl f)
  · cases f1
    unfold ddel at f2
    rw [if_pos rfl] at f2
    cases f2
end
noncomputable def putP (f : Str) (v : FV) : List (Str × FV) → List (Str × FV)
  | [] => [(f, v)]
  | (g, x) :: r => if g = f then (g, v) :: r else (g, x) :: putP f v r
noncomputable def FV.cell : FV → Option Cell
  | .d _ => none
  | .lst xs => some (.lst (xs.map .d))
  | .dct t kvs => some (.dct t kvs)
section
variable {HD : HDt} {P : Addr → Prop} {f : Str}
theorem refs_cons {g : Str} {v : DV} {r : List (Str × DV)} : refs ((g, v) :: r) = (match v with
  | .r q => q :: refs r
  | _ => refs r) := by
  unfold refs
  rw [List.filterMap_cons]
  cases v <;> rfl
theorem FsOk.len {fs : List (Str × FV)} {ds : List (Str × DV)} (h : FsOk HD P fs ds) : ds.length = fs.length := (Paired.length h).symm
theorem FsOk.get : ∀ {fs : List (Str × FV)} {ds : List (Str × DV)} {a : FV}, FsOk HD P fs ds → fs.lookup f = some a → ∃ v, ds.lookup f = some v ∧ FOk HD P a v ∧ ∀ q, v = .r q → q ∈ refs ds
  | _, _, a, .nil, e => by cases e
  | _, _, a, .cons (a := (g, x)) (b := (g', v)) ⟨h1, h2⟩ t, e => by
    simp only at h1
    subst h1
    rw [List.lookup_cons] at e ⊢
    split at e
    · rename_i q
      cases e
      exact ⟨v, rfl, h2, fun q e => by subst e; rw [refs_cons]; exact List.mem_cons_self⟩
    · obtain ⟨w, k1, k2, k3⟩ := FsOk.get t e
      refine ⟨w, k1, k2, fun q e => ?_⟩
      rw [refs_cons]
      cases v <;> first | exact k3 q e | exact List.mem_cons_of_mem _ (k3 q e)
theorem FsOk.no : ∀ {fs : List (Str × FV)} {ds : List (Str × DV)}, FsOk HD P fs ds → fs.lookup f = none → ds.lookup f = none
  | _, _, .nil, _ => rfl
  | _, _, .cons (a := (g, x)) (b := (g', v)) ⟨h1, h2⟩ t, e => by
    simp only at h1
    subst h1
    rw [List.lookup_cons] at e ⊢
    split at e
    · cases e
    · exact FsOk.no t e
theorem FsOk.put {a : FV} {v : DV} (hv : FOk HD P a v) : ∀ {fs : List (Str × FV)} {ds : List (Str × DV)}, FsOk HD P fs ds → FsOk HD P (putP f a fs) (putD f v ds)
  | _, _, .nil => .cons ⟨rfl, hv⟩ .nil
  | _, _, .cons (a := (g, x)) (b := (g', w)) ⟨h1, h2⟩ t => by
    simp only at h1
    subst h1
    unfold putP putD
    by_cases e : g = f
    · rw [if_pos e, if_pos e]
      exact .cons ⟨rfl, hv⟩ t
    · rw [if_neg e, if_neg e]
      exact .cons ⟨rfl, h2⟩ (FsOk.put hv t)
theorem FsOk.mut {q : Addr} {a a' : FV} {c' : Cell} (hc : FV.cell a' = some c') : ∀ {fs : List (Str × FV)} {ds : List (Str × DV)}, FsOk HD P fs ds → (refs ds).Nodup → fs.lookup f = some a → ds.lookup f = some (.r q) → FsOk (dset HD q c') P (putP f a' fs) ds
  | _, _, .nil, _, e, _ => by cases e
  | _, _, .cons (a := (g, x)) (b := (g', v)) (l₁ := fr) (l₂ := dr) ⟨h1, h2⟩ t, n, e, e2 => by
    simp only at h1
    subst h1
    have t : FsOk HD P fr dr := t
    have h2 : FOk HD P x v := h2
    unfold putP
    by_cases z : g = f
    · subst z
      rw [List.lookup_cons, beq_self_eq_true] at e e2
      have e : x = a := Option.some.inj e
      have e2 : v = .r q := Option.some.inj e2
      subst e2
      rw [if_pos rfl]
      rw [refs_cons] at n
      have nq := (List.nodup_cons.mp n).1
      have hP : P q := by
        cases x with
        | d y => cases h2
        | lst xs => obtain ⟨y, e, _, k⟩ := h2; cases e; exact k
        | dct t kvs => obtain ⟨y, e, _, k⟩ := h2; cases e; exact k
      refine .cons ⟨rfl, ?_⟩ (FsOk.to t fun y c hy hp hc' => ⟨(dset_ne fun w => nq (by rw [← w]; exact hy)).trans hc', hp⟩)
      cases a' with
      | d x => cases hc
      | lst xs => cases hc; exact ⟨q, rfl, dset_same, hP⟩
      | dct t kvs => cases hc; exact ⟨q, rfl, dset_same, hP⟩
    · have zf : (f == g) = false := beq_eq_false_iff_ne.mpr fun w => z w.symm
      have e : fr.lookup f = some a := by rw [List.lookup_cons, zf] at e; exact e
      have e2 : dr.lookup f = some (.r q) := by rw [List.lookup_cons, zf] at e2; exact e2
      rw [if_neg z]
      obtain ⟨w, k1, k2, k3⟩ := FsOk.get t e
      rw [e2] at k1
      cases k1
      have hq := k3 q rfl
      have nr : (refs dr).Nodup := by
        rw [refs_cons] at n
        cases v <;> first | exact n | exact (List.nodup_cons.mp n).2
      refine .cons ⟨rfl, h2.to fun y c ey hp hc' => ⟨(dset_ne fun w => ?_).trans hc', hp⟩⟩ (FsOk.mut hc t nr e e2)
      subst ey
      rw [refs_cons] at n
      rw [w] at n
      exact (List.nodup_cons.mp n).1 hq
end
section
variable {M : Type → Type} [Monad M] [WM M] {C : CT} {Γ : Env} {α β γ η ι R σ ρ : Type} {K : Kont R} {c : Codec α} {d : Codec γ} {e e1 e2 : RE} {m : M R} {mb : M β} {ss : List RS} {x f : Str} {i : Nat} {Ca : Addr} {ia : Option Addr} {fs : List (Str × FV)}
noncomputable def TCI (C : CT) (f : Nat) (Ca : Addr) (args : List AV) (emb : σ → List (Str × FV)) (m : M σ) : Prop :=
  ∀ (D : DP C.tabs) (HD : HDt) (p : Addr) (ds : List DV), DkOk D HD → HD p = none → ArgsOk D HD args ds → ∀ (Qb : σ → Prop) (Q : DQ), wp m Qb →
    (∀ s HD' fd, Qb s → Fr D HD HD' → HD' p = some (.obj Ca fd) → FsOk HD' (fun q => HD q = none ∧ ¬ inD D q) (emb s) fd → (refs fd).Nodup → Q (.d .none) HD') → C f (.r p :: ds) (dset HD p (.obj Ca [])) Q
noncomputable def minus (HD : HDt) (p : Addr) (fd : List (Str × DV)) : HDt := fun q => if q = p ∨ q ∈ refs fd then none else HD q
noncomputable def TCM (C : CT) (f : Nat) (Ca : Addr) (fs : List (Str × FV)) (args : List AV) (emb : σ → List (Str × FV)) (m : M σ) : Prop :=
  ∀ (D : DP C.tabs) (HD : HDt) (p : Addr) (fd : List (Str × DV)) (ds : List DV), DkOk D HD → HD p = some (.obj Ca fd) → ¬ inD D p → FsOk HD (fun q => ¬ inD D q) fs fd → (refs fd).Nodup → ArgsOk D HD args ds → ∀ (Qb : σ → Prop) (Q : DQ), wp m Qb →
    (∀ s HD' fd', Qb s → Fr D (minus HD p fd) HD' → HD' p = some (.obj Ca fd') → FsOk HD' (fun q => minus HD p fd q = none ∧ ¬ inD D q) (emb s) fd' → (refs fd').Nodup → Q (.d .none) HD') → C f (.r p :: ds) HD Q
theorem TCI.up {j : Nat} {args : List AV} {emb : σ → List (Str × FV)} {r : Option σ} (h : TCI C j Ca args emb r) : TCI C j Ca args emb (ofO r : M σ) := fun D HD p ds k hp ok Qb Q w q =>
  h D HD p ds k hp ok Qb Q (wof w) q
theorem TCM.up {j : Nat} {args : List AV} {emb : σ → List (Str × FV)} {r : Option σ} (h : TCM C j Ca fs args emb r) : TCM C j Ca fs args emb (ofO r : M σ) := fun D HD p fd ds k hp a b c ok Qb Q w q =>
  h D HD p fd ds k hp a b c ok Qb Q (wof w) q
noncomputable def kI (p Ca : Addr) (emb : σ → List (Str × FV)) : Kont σ := ⟨fun s Γ => Γ[0]? = some (.ob (some p) Ca (emb s)), fun _ _ => False, fun _ _ => False, fun _ _ => False, fun _ _ _ _ _ => False⟩
noncomputable def plainA : AV → Bool
  | .v _ => true
  | .dk => true
  | _ => false
noncomputable def TCL (C : CT) (f : Nat) (args : List AV) (c : Codec α) (m : M (List α)) : Prop :=
  ∀ (D : DP C.tabs) (HD : HDt) (ds : List DV), DkOk D HD → ArgsOk D HD args ds → ∀ (Qb : List α → Prop) (Q : DQ), wp m Qb →
    (∀ xs HD' p, Qb xs → Fr D HD HD' → HD' p = some (.lst ((xs.map c.enc).map .d)) → HD p = none → ¬ inD D p → Q (.r p) HD') → C f ds HD Q
theorem TCL.up {j : Nat} {args : List AV} {r : Option (List α)} (h : TCL C j args c r) : TCL C j args c (ofO r : M (List α)) := fun D HD ds k ok Qb Q w q =>
  h D HD ds k ok Qb Q (wof w) q
end
theorem TC.mono {C : CT} {f : Nat} {args : List AV} {α : Type} {c : Codec α} {m m' : W α} (h : TC C f args c m) (k : ∀ Q, m'.p Q → m.p Q) : TC C f args c m' := fun D HD ds a b Qb Q w q => h D HD ds a b Qb Q (k _ w) q
section
variable {M : Type → Type} [Monad M] [WM M] {C : CT} {Γ : Env} {α β γ R σ : Type} {K : Kont R} {c : Codec α} {d : Codec γ} {e e1 e2 : RE} {m : M R} {mb : M β} {ss a b : List RS} {x f : Str} {i : Nat} {Ca : Addr} {ia : Option Addr} {fs : List (Str × FV)}
noncomputable def TCV (C : CT) (f : Nat) (Ca : Addr) (fs : List (Str × FV)) (args : List AV) (c : Codec α) (emb : σ → List (Str × FV)) (m : M (α × σ)) : Prop :=
  ∀ (D : DP C.tabs) (HD : HDt) (p : Addr) (fd : List (Str × DV)) (ds : List DV), DkOk D HD → HD p = some (.obj Ca fd) → ¬ inD D p → FsOk HD (fun q => ¬ inD D q) fs fd → (refs fd).Nodup → ArgsOk D HD args ds → ∀ (Qb : α × σ → Prop) (Q : DQ), wp m Qb →
    (∀ r HD' fd', Qb r → Fr D (minus HD p fd) HD' → HD' p = some (.obj Ca fd') → FsOk HD' (fun q => minus HD p fd q = none ∧ ¬ inD D q) (emb r.2) fd' → (refs fd').Nodup → Q (.d (c.enc r.1)) HD') → C f (.r p :: ds) HD Q
theorem TCV.up {j : Nat} {args : List AV} {emb : σ → List (Str × FV)} {r : Option (α × σ)} (h : TCV C j Ca fs args c emb r) : TCV C j Ca fs args c emb (ofO r : M (α × σ)) := fun D HD p fd ds k hp a b c ok Qb Q w q =>
  h D HD p fd ds k hp a b c ok Qb Q (wof w) q
end
section
variable {M : Type → Type} [Monad M] [WM M] {C : CT} {Γ : Env} {α β γ R σ : Type} {K : Kont R} {e1 e2 e3 : RE} {m : M R} {mb : M β} {ss : List RS} {x : Str} {i : Nat} {Ca : Addr}
noncomputable def TCO (C : CT) (f : Nat) (Ca : Addr) (args : List AV) (emb : σ → List (Str × FV)) (m : M σ) : Prop :=
  ∀ (D : DP C.tabs) (HD : HDt) (ds : List DV), DkOk D HD → ArgsOk D HD args ds → ∀ (Qb : σ → Prop) (Q : DQ), wp m Qb →
    (∀ s HD' p fd, Qb s → Fr D HD HD' → HD' p = some (.obj Ca fd) → (HD p = none ∧ ¬ inD D p) → FsOk HD' (fun q => HD q = none ∧ ¬ inD D q) (emb s) fd → (refs fd).Nodup → Q (.r p) HD') → C f ds HD Q
theorem TCO.up {j : Nat} {args : List AV} {emb : σ → List (Str × FV)} {r : Option σ} (h : TCO C j Ca args emb r) : TCO C j Ca args emb (ofO r : M σ) := fun D HD ds k ok Qb Q w q =>
  h D HD ds k ok Qb Q (wof w) q
end
noncomputable def plainS : Slot → Bool
  | .obR _ _ => false
  | .cellR _ => false
  | .cellP _ _ => false
  | .dctP _ _ => false
  | _ => true
noncomputable def plainB : Nat → Env → Bool
  | _, [] => true
  | 0, _ :: r => r.all plainS
  | k + 1, s :: r => plainS s && plainB k r
theorem plainB_at : ∀ {Γ : Env} {k i : Nat} {s : Slot}, plainB k Γ = true → i ≠ k → Γ[i]? = some s → plainS s = true
  | [], k, i, s, _, _, e => by simp at e
  | a :: r, 0, i, s, h, n, e => by
    cases i with
    | zero => exact absurd rfl n
    | succ i => exact List.all_eq_true.mp h s (List.mem_of_getElem? (i := i) (by simpa using e))
  | a :: r, k + 1, i, s, h, n, e => by
    simp only [plainB, Bool.and_eq_true] at h
    cases i with
    | zero =>
      simp at e
      subst e
      exact h.1
    | succ i => exact plainB_at h.2 (fun z => n (congrArg (· + 1) z)) (by simpa using e)
section
variable {tb : List (Addr × Str)} {D : DP tb} {H0 HD : HDt} {Γ : Env} {δ : DEnv} {k : Nat} {zs : List PyData} {q : Addr}
theorem set_at {Γ : Env} {k i : Nat} {sl s : Slot} (hk : Γ[k]? ≠ none) (e : (Γ.set k sl)[i]? = some s) : i = k ∧ s = sl ∨ i ≠ k ∧ Γ[i]? = some s := by
  by_cases z : i = k
  · subst z
    have hl : i < Γ.length := by
      cases h : Γ[i]? with
      | none => exact absurd h hk
      | some _ => exact (List.getElem?_eq_some_iff.mp h).1
    rw [List.getElem?_set_self hl] at e
    cases e
    exact .inl ⟨rfl, rfl⟩
  · exact .inr ⟨z, by rwa [List.getElem?_set_ne (fun y => z y.symm)] at e⟩
end
noncomputable def adD (H0 : HDt) (q : Addr) (ks : List (PyData × PyData)) : HDt := fun b => if b = q then some (.dlk ks) else H0 b
section
variable {tb : List (Addr × Str)} {D : DP tb} {H0 HD : HDt} {Γ : Env} {δ : DEnv} {k : Nat} {ks : List (PyData × PyData)} {q : Addr}
theorem adD_at : adD H0 q ks q = some (.dlk ks) := if_pos rfl
theorem adD_ne {b : Addr} (h : b ≠ q) : adD H0 q ks b = H0 b := if_neg h
theorem backD_slot {x : Option (Option DV)} {s : Slot} (hn : H0 q = none) (hp : plainS s = true) (h : SlotOk D (adD H0 q ks) HD x s) : SlotOk D H0 HD x s := by
  have ne : ∀ {b}, adD H0 q ks b = none → H0 b = none := fun {b} e => by
    by_cases z : b = q
    · rw [z]; exact hn
    · rwa [adD_ne z] at e
  cases s with
  | cx xs =>
    obtain ⟨p, e, h1, h2, h3⟩ := h
    exact ⟨p, e, h1, ne h2, h3⟩
  | cell xs =>
    obtain ⟨p, e, h1, h2, h3⟩ := h
    exact ⟨p, e, h1, ne h2, h3⟩
  | dct t xs =>
    obtain ⟨p, e, h1, h2, h3⟩ := h
    exact ⟨p, e, h1, ne h2, h3⟩
  | ob a Ca fs =>
    obtain ⟨p, ds, e, h1, h2, h3, h4, h5⟩ := h
    exact ⟨p, ds, e, h1, ⟨ne h2.1, h2.2⟩, h3, h4.to fun r c hr hp hc => ⟨hc, ne hp.1, hp.2⟩, h5⟩
  | tabS P q' =>
    obtain ⟨h1, h2⟩ := h
    by_cases z : P = q
    · rw [z, adD_at] at h1; cases h1
    · exact ⟨(adD_ne z).symm.trans h1, h2⟩
  | dctR t kvs =>
    obtain ⟨p, e, h1, h2⟩ := h
    by_cases z : p = q
    · rw [z, adD_at] at h1; cases h1
    · exact ⟨p, e, (adD_ne z).symm.trans h1, h2⟩
  | no => trivial
  | vx d => exact h
  | val d => exact h
  | deck => exact h
  | obR _ _ => cases hp
  | cellR _ => cases hp
  | cellP _ _ => cases hp
  | dctP _ _ => cases hp
theorem Fr.unadD (hn : H0 q = none) (f : Fr D (adD H0 q ks) HD) : Fr D H0 HD := ⟨f.deck, fun p c e n => f.same p c ((adD_ne fun z => by rw [z, hn] at e; cases e).trans e) n⟩
theorem Rep.gone (R : Rep D (adD H0 q ks) Γ δ HD) (hn : H0 q = none) (hk : Γ[k]? = some (.dctP q ks)) (hp : plainB k Γ = true) : Rep D H0 (Γ.set k .no) δ HD := by
  refine ⟨R.fr.unadD hn, by rw [List.length_set]; exact R.len, fun i s e => ?_, fun i j s t ne e1 e2 c1 c2 => ?_⟩
  · rcases set_at (by rw [hk]; nofun) e with ⟨z, z2⟩ | ⟨z, z2⟩
    · subst z2
      trivial
    · exact backD_slot hn (plainB_at hp z z2) (R.at' i s z2)
  · rcases set_at (by rw [hk]; nofun) e1 with ⟨z, z2⟩ | ⟨z, z2⟩
    · subst z2; cases c1
    · rcases set_at (by rw [hk]; nofun) e2 with ⟨y, y2⟩ | ⟨y, y2⟩
      · subst y2; cases c2
      · exact R.sep i j s t ne z2 y2 c1 c2
end
noncomputable abbrev ex1 (p : EO) : DV := .x (.one p)
noncomputable def exL (L : List EO) : List DV := L.map ex1
noncomputable def flE (f : Str) (cs : List Str) (p : EO) : Option PyData := match p.2 with
  | some (g, v) => if g = f ∧ p.1 ∈ cs then some v else none
  | none => none
noncomputable def isX (L : List EO) (tb : List (Str × Bool)) (k : Int) : Option Bool := (atI L k).bind fun p => tb.lookup p.1
noncomputable def flX (L : List EO) (f : Str) (cs : List Str) (k : Int) : Option PyData := (atI L k).bind (flE f cs)
section
variable {M : Type → Type} [Monad M] [WM M] {C : CT} {Γ : Env} {α β γ R : Type} {c : Codec α} {ss : List RS} {KO : Kont R} {L : List EO} {i : Nat}
theorem ex_ix {ek : RE} {m2 : Int → M β} {m : M β} (h : Γ[i]? = some (.cx (exL L))) (hk : TK C Γ ek cI m2 m) (D : DP C.tabs) (H0 : HDt) (δ : DEnv) (HD : HDt) (R : Rep D H0 Γ δ HD) (Qb : β → Prop) (Q : DQ) (w : wp m Qb)
    (q : ∀ k HD', wp (m2 k) Qb → Fr D HD HD' → ∃ p, atI L k = some p ∧ Q (ex1 p) HD') : wE C (.ix (.var i) ek) δ HD Q := by
  obtain ⟨p, s, h1, h2, h3⟩ := R.at' i _ h
  show g2 dIx (gVar i) (wE C ek) δ HD Q
  unfold g2 gVar
  rw [s]
  refine hk D H0 δ HD R Qb _ w fun k HD1 w1 f1 => ?_
  have l1 : HD1 p = some (.lst (exL L)) := f1.same p _ h1 h3
  show dIx (.r p) (.d (.int k)) HD1 Q
  unfold dIx
  have e1 : seqD HD1 (.r p) = some (exL L) := by simp [seqD, listD, l1]
  obtain ⟨e, he, hq⟩ := q k HD1 w1 f1
  have e2 : atI (exL L) k = some (ex1 e) := by unfold exL; rw [atI_map, he]; rfl
  simp only [e1, e2]
  exact hq
theorem tk_exis {Dn : Str} {tb : List (Str × Bool)} {ek : RE} {κ : Bool → M β} {m : M β} (h : Γ[i]? = some (.cx (exL L))) (hk : TK C Γ ek cI (fun k => ofO (isX L tb k) >>= κ) m) : TK C Γ (.exis Dn tb (.ix (.var i) ek)) cB κ m := fun D H0 δ HD R Qb Q w q => by
  show gEis tb (wE C (.ix (.var i) ek)) δ HD Q
  unfold gEis
  refine ex_ix h hk D H0 δ HD R Qb _ w fun k HD1 w1 f1 => ?_
  obtain ⟨b, hb, w2⟩ := wof (wbind w1)
  unfold isX at hb
  obtain ⟨p, hp, hb⟩ := Option.bind_eq_some_iff.mp hb
  refine ⟨p, hp, ?_⟩
  show (match tb.lookup p.1 with
    | some b => Q (.d (.bool b)) HD1
    | none => False)
  rw [hb]
  exact q b HD1 w2 f1
theorem tk_exisV {Dn : Str} {tb : List (Str × Bool)} {p : EO} {κ : Bool → M β} (h : Γ[i]? = some (.vx (.one p))) : TK C Γ (.exis Dn tb (.var i)) cB κ (ofO (tb.lookup p.1) >>= κ) := fun D H0 δ HD R Qb Q w q => by
  have s : δ[i]? = some (some (.x (.one p))) := R.at' i _ h
  show gEis tb (gVar i) δ HD Q
  unfold gEis gVar
  rw [s]
  obtain ⟨b, hb, w2⟩ := wof (wbind w)
  show (match tb.lookup p.1 with
    | some b => Q (.d (.bool b)) HD
    | none => False)
  rw [hb]
  exact q b HD w2 (Fr.refl R.deck)
theorem fl_ok {f : Str} {cs : List Str} {p : EO} {v : PyData} {HD : HDt} {Q : DQ} (h : flE f cs p = some v) (q : Q (.d v) HD) : (match (ex1 p) with
    | .x (.one (c, some (g, v))) => (c ∈ cs ∧ g = f) ∧ Q (.d v) HD
    | _ => False) := by
  obtain ⟨c, fv⟩ := p
  cases fv with
  | none => cases h
  | some z =>
    obtain ⟨g, u⟩ := z
    unfold flE at h
    dsimp only at h
    split at h
    · rename_i hc
      cases h
      exact ⟨⟨hc.2, hc.1⟩, q⟩
    · cases h
theorem tk_exfl {f : Str} {cs : List Str} {ek : RE} {κ : PyData → M β} {m : M β} (h : Γ[i]? = some (.cx (exL L))) (hk : TK C Γ ek cI (fun k => ofO (flX L f cs k) >>= κ) m) : TK C Γ (.exfl f cs (.ix (.var i) ek)) cA κ m := fun D H0 δ HD R Qb Q w q => by
  show gEfl f cs (wE C (.ix (.var i) ek)) δ HD Q
  unfold gEfl
  refine ex_ix h hk D H0 δ HD R Qb _ w fun k HD1 w1 f1 => ?_
  obtain ⟨v, ev, w2⟩ := wof (wbind w1)
  unfold flX at ev
  obtain ⟨p, hp, ev⟩ := Option.bind_eq_some_iff.mp ev
  exact ⟨p, hp, fl_ok (Q := Q) ev (q v HD1 w2 f1)⟩
theorem tk_exnfl {x f : Str} {cs : List Str} {kw : Bool} {e : RE} {κ : PyData → M β} {m : M β} (h : TK C Γ e cA κ m) (hc : x ∈ cs) : TK C Γ (.exfl f cs (.exn1 x f kw e)) cA κ m := fun D H0 δ HD R Qb Q w q =>
  h D H0 δ HD R Qb _ w fun a HD1 w1 f1 => ⟨⟨hc, rfl⟩, q a HD1 w1 f1⟩
theorem ta_ex {ek : RE} {as : RA} {P : List AV → M β → Prop} {m2 : EO → M β} {m : M β} (h : Γ[i]? = some (.cx (exL L))) (hk : TK C Γ ek cI (fun k => ofO (atI L k) >>= m2) m) (h2 : ∀ p, TA C Γ as (fun l => P (.vx (.one p) :: l)) (m2 p)) : TA C Γ (.cons (.ix (.var i) ek) as) P m := fun D H0 δ HD R Qb Q w q =>
  ex_ix h hk D H0 δ HD R Qb _ w fun k HD1 w1 f1 => by
    obtain ⟨p, hp, w2⟩ := wof (wbind w1)
    exact ⟨p, hp, h2 p D H0 δ HD1 (R.ev f1) Qb _ w2 fun args m' ds HD2 pp w2 f2 ok => q _ m' _ HD2 pp w2 (f1.trans f2) (.cons rfl ok)⟩
noncomputable def TXA (C : CT) (Γ : Env) (as : RA) (xs : List DV) : Prop := ∀ (D : DP C.tabs) (H0 : HDt) (δ : DEnv) (HD : HDt), Rep D H0 Γ δ HD → ∀ Q : List DV → HDt → Prop, Q xs HD → wA C as δ HD Q
theorem txa_nil : TXA C Γ .nil (exL []) := fun D H0 δ HD R Q q => q
theorem txa_0 {x : Str} {as : RA} {xs : List EO} (h : TXA C Γ as (exL xs)) : TXA C Γ (.cons (.exn0 x) as) (exL ((x, none) :: xs)) := fun D H0 δ HD R Q q => by
  show DL.gCons (gExn0 x) (wA C as) δ HD Q
  unfold DL.gCons gExn0
  exact h D H0 δ HD R _ q
theorem txa_1 {x f : Str} {kw : Bool} {j : Nat} {d : PyData} {as : RA} {xs : List EO} (hj : Γ[j]? = some (.val d)) (h : TXA C Γ as (exL xs)) : TXA C Γ (.cons (.exn1 x f kw (.var j)) as) (exL ((x, some (f, d)) :: xs)) := fun D H0 δ HD R Q q => by
  have s : δ[j]? = some (some (.d d)) := R.at' j _ hj
  show DL.gCons (gExn1 x f (gVar j)) (wA C as) δ HD Q
  unfold DL.gCons gExn1 gVar
  rw [s]
  exact h D H0 δ HD R _ q
noncomputable def TXL (C : CT) (Γ : Env) (e : RE) (L : List EO) : Prop := ∀ (D : DP C.tabs) (H0 : HDt) (δ : DEnv) (HD : HDt), Rep D H0 Γ δ HD → ∀ Q : DQ, (∀ HD' p, Fr D HD HD' → HD' p = none → Q (.r p) (dset HD' p (.lst (exL L)))) → wE C e δ HD Q
theorem txl_lst {as : RA} (h : TXA C Γ as (exL L)) (hl : L.length ≤ 1000) : TXL C Γ (.lst true as) L := fun D H0 δ HD R Q q => by
  show DL.gLst true (wA C as) δ HD Q
  unfold DL.gLst
  refine h D H0 δ HD R _ ⟨by unfold exL; rw [List.length_map]; exact Nat.le_trans hl (by decide), ?_⟩
  unfold mkL
  rw [if_pos rfl]
  exact fun p hp => q HD p (Fr.refl R.deck) hp
theorem txl_add {e : RE} {L1 : List EO} (h : Γ[i]? = some (.cx (exL L))) (hx : TXL C Γ e L1) (hl : L.length + L1.length ≤ 1000) : TXL C Γ (.add true (.var i) e) (L ++ L1) := fun D H0 δ HD R Q q => by
  obtain ⟨p, s, h1, h2, h3⟩ := R.at' i _ h
  show g2 (dAdd true) (gVar i) (wE C e) δ HD Q
  unfold g2 gVar
  rw [s]
  refine hx D H0 δ HD R _ fun HD1 p1 f1 hp1 => ?_
  have l1 : HD1 p = some (.lst (exL L)) := f1.same p _ h1 h3
  have ne : p ≠ p1 := fun z => by rw [z, hp1] at l1; cases l1
  have e1 : listD (dset HD1 p1 (.lst (exL L1))) (.r p) = some (exL L) := by simp only [listD, dset_ne ne, l1]
  have e2 : listD (dset HD1 p1 (.lst (exL L1))) (.r p1) = some (exL L1) := by simp only [listD, dset_same]
  show (match listD (dset HD1 p1 (.lst (exL L1))) (.r p), listD (dset HD1 p1 (.lst (exL L1))) (.r p1) with
    | some a, some b => a.length + b.length ≤ sizeLine ∧ mkL true (a ++ b) (dset HD1 p1 (.lst (exL L1))) Q
    | _, _ => False)
  rw [e1, e2]
  refine ⟨by unfold exL; rw [List.length_map, List.length_map]; exact Nat.le_trans hl (by decide), ?_⟩
  unfold mkL
  rw [if_pos rfl]
  intro p2 hp2
  have := q _ p2 (f1.trans (fr_put f1.deck hp1)) hp2
  unfold exL at this ⊢
  rw [List.map_append] at this
  exact this
theorem tb_asgX {e : RE} {m : M R} (hx : TXL C Γ e L) (hs : TB C (Γ.set i (.cx (exL L))) ss KO m) : TB C Γ (.asg (.nm i) e :: ss) KO m := fun D H0 δ HD R Qb Dd w n1 n2 n3 n4 =>
  hx D H0 δ HD R _ fun HD1 p f1 hp => hs D H0 _ _ ((R.ev f1).setG i (sl := .cx (exL L)) rfl hp) Qb Dd w n1 n2 n3 n4
noncomputable def kFX : Kont (List EO) := ⟨fun _ _ => False, fun _ _ => False, fun _ _ => False, fun _ _ => False, fun r x D H0 HD => ∃ p, x = .r p ∧ HD p = some (.lst (exL r)) ∧ H0 p = none ∧ ¬ inD D p⟩
theorem tb_retX {e : RE} (hx : TXL C Γ e L) : TB C Γ (.ret e :: ss) kFX (pure L : M (List EO)) := fun D H0 δ HD R Qb Dd w _ _ _ n =>
  hx D H0 δ HD R Dd.rt fun HD1 p f1 hp => by
    have R1 := R.ev f1
    exact n L _ _ (wpure w) (.inr ⟨p, rfl, dset_same, R1.fr.gone hp, R1.deck.there hp⟩) (R1.fr.trans (fr_put R1.deck hp))
noncomputable def TCE (C : CT) (f : Nat) (args : List AV) (m : M (List EO)) : Prop :=
  ∀ (D : DP C.tabs) (HD : HDt) (ds : List DV), DkOk D HD → ArgsOk D HD args ds → ∀ (Qb : List EO → Prop) (Q : DQ), wp m Qb →
    (∀ xs HD' p, Qb xs → Fr D HD HD' → HD' p = some (.lst (exL xs)) → HD p = none → ¬ inD D p → Q (.r p) HD') → C f ds HD Q
theorem TCE.up {j : Nat} {args : List AV} {r : Option (List EO)} (h : TCE C j args r) : TCE C j args (ofO r : M (List EO)) := fun D HD ds k ok Qb Q w q =>
  h D HD ds k ok Qb Q (wof w) q
theorem tce_E {j : Nat} {args : List AV} {m m' : M (List EO)} (h : TCE C j args m) (e : m = m') : TCE C j args m' := e ▸ h
theorem tc_fnX {T : List FnB} {A : Str → Option Addr} {n f : Nat} {args : List AV} {m : M (List EO)} {np ns : Nat} {body : List RS} (hT : T[f]? = some ⟨np, ns, body, none⟩) (ha : args.length = np) (h : TB (wCall T A n) (args.map slotOf ++ List.replicate (ns - np) .no) body kFX m) : TCE (wCall T A (n + 1)) f args m :=
  fun D HD ds k ok Qb Q w q => by
    have hl := Paired.length ok
    rw [wCall_at hT]
    refine ⟨by show ds.length = np; omega, ?_⟩
    have R0 := rep_start (n := ns - np) k ok
    refine h D HD _ HD ?_ Qb (dEnds Q) w (fun _ _ _ _ _ k => k.elim) (fun _ _ _ _ _ k => k.elim) (fun _ _ _ _ _ k => k.elim) fun r x HD' hr e fr => ?_
    · have : ns - ds.length = ns - np := by omega
      unfold dStart
      rw [this]
      exact R0
    · rcases e with ⟨_, _, z⟩ | ⟨p, rfl, h1, h2, h3⟩
      · exact z.elim
      · exact q r HD' p hr fr h1 h2 h3
theorem tb_asgE {j : Nat} {as : RA} {k : List EO → M R} {m : M R} (h : TA C Γ as (fun args m' => ∃ r : M (List EO), TCE C j args r ∧ m' = (r >>= k)) m) (hs : ∀ xs, TB C (Γ.set i (.cx (exL xs))) ss KO (k xs)) : TB C Γ (.asg (.nm i) (.call j as) :: ss) KO m := fun D H0 δ HD R Qb Dd w n1 n2 n3 n4 =>
  h D H0 δ HD R Qb _ w fun args m' ds HD1 ⟨r, t, e⟩ w1 f1 ok => by
    subst e
    refine t D HD1 ds (R.ev f1).deck ok _ _ (wbind w1) fun xs HD2 p w2 f2 hp hn hd => ?_
    have R2 : Rep D H0 Γ δ (ddel HD2 p) := (R.ev f1).ev (f2.del hn hd)
    have hd2 : ddel HD2 p p = none := if_pos rfl
    have R3 := R2.setG i (sl := .cx (exL xs)) rfl hd2
    have e : dset (ddel HD2 p) p (.lst (exL xs)) = HD2 := by
      funext z
      by_cases hz : z = p
      · rw [hz, dset_same, hp]
      · rw [dset_ne hz]
        exact if_neg hz
    rw [e] at R3
    exact hs xs D H0 _ HD2 R3 Qb Dd w2 n1 n2 n3 n4
end
end TL
namespace Lib
open PySem PySem.Spec PyProof.Rows L2 DL TL WM
noncomputable def f_is_integer (a1 : PyData) (a2 : Int) (a3 : Int) : Option Bool :=
  ((if (isT .int a1) = true then ((if (!((isT .bool a1))) = true then (ofO (decI a1) >>= fun v4 => pure (((decide (a2 ≤ v4)) && (decide (v4 ≤ a3))))) else pure false) >>= fun v3 => pure v3) else pure false) >>= fun v2 => pure v2)
noncomputable def f_is_row (a1 : PyData) (a2 : Int) : Option Bool :=
  ((if (isT .tuple a1) = true then (ofO (decT a1) >>= fun v8 => ((if (decide ((v8.length : Int) = a2)) = true then (ofO (decT a1) >>= fun v7 => (mapE (fun (x1 : PyData) => (f_is_integer x1 (0 : Int) (1 : Int) >>= fun v6 => pure v6)) v7 >>= fun y5 => pure ((y5.all id)))) else pure false) >>= fun v4 => pure v4)) else pure false) >>= fun v3 => pure v3)
noncomputable def f_law_odd  : W PyData :=
  (needs (0 ≤ (30 : Int) ∧ (30 : Int) ≤ 1000000 ∧ (10 : Int).natAbs < 2 ^ 64) ((letB ([PyData.none, (PyData.bool true), (PyData.bool false), (PyData.int 0), (PyData.int 1), (PyData.int 2), (cI.enc ((-(1 : Int)))), (cI.enc (((10 : Int) ^ (30 : Int).toNat))), (PyData.str ""), (PyData.str "0"), (PyData.str "2: 01"), ((cT cA).enc (([] : List PyData))), ((cL cA).enc (([] : List PyData))), (PyData.dict []), ((cT cI).enc ([(0 : Int)])), ((cT cI).enc ([(1 : Int)])), ((cT cI).enc ([(0 : Int), (1 : Int)])), ((cP cB cI).enc ((true, (0 : Int))))]) fun (x1 : (List PyData)) => (needs (x1.length + ([((cL cI).enc ([(0 : Int)])), ((cT cI).enc ([(0 : Int), (2 : Int)])), ((cT (cT cI)).enc ([[(0 : Int), (1 : Int)]])), ((cP cI (cT (cT cI))).enc (((1 : Int), [[(0 : Int)]]))), ((cP cI (cT cI)).enc (((0 : Int), [(0 : Int)]))), ((cP cI (cT cI)).enc (((0 : Int), [(0 : Int), (0 : Int)]))), ((cP (cT cI) cI).enc (([(0 : Int)], (1 : Int)))), ((cP (cT cA) (cT cA)).enc ((([] : List PyData), ([] : List PyData))))]).length ≤ 16777216) ((letB ((x1 ++ [((cL cI).enc ([(0 : Int)])), ((cT cI).enc ([(0 : Int), (2 : Int)])), ((cT (cT cI)).enc ([[(0 : Int), (1 : Int)]])), ((cP cI (cT (cT cI))).enc (((1 : Int), [[(0 : Int)]]))), ((cP cI (cT cI)).enc (((0 : Int), [(0 : Int)]))), ((cP cI (cT cI)).enc (((0 : Int), [(0 : Int), (0 : Int)]))), ((cP (cT cI) cI).enc (([(0 : Int)], (1 : Int)))), ((cP (cT cA) (cT cA)).enc ((([] : List PyData), ([] : List PyData))))])) fun (x2 : (List PyData)) => (needs (x2.length + ([((c3 cS (cT cA) cI).enc ((("clash" : Str), ([] : List PyData), (0 : Int)))), ((cT cN).enc ([()])), ((cT cI).enc ([(-(1 : Int))])), ((cP cI (cT cI)).enc (((0 : Int), [(-(1 : Int))]))), ((cP cI (cP cB cI)).enc (((0 : Int), (true, (0 : Int))))), ((cP cI (cP (cT cI) (cT cI))).enc (((2 : Int), ([(0 : Int), (1 : Int)], [(0 : Int), (1 : Int)]))))]).length ≤ 16777216) ((letB ((x2 ++ [((c3 cS (cT cA) cI).enc ((("clash" : Str), ([] : List PyData), (0 : Int)))), ((cT cN).enc ([()])), ((cT cI).enc ([(-(1 : Int))])), ((cP cI (cT cI)).enc (((0 : Int), [(-(1 : Int))]))), ((cP cI (cP cB cI)).enc (((0 : Int), (true, (0 : Int))))), ((cP cI (cP (cT cI) (cT cI))).enc (((2 : Int), ([(0 : Int), (1 : Int)], [(0 : Int), (1 : Int)]))))])) fun (x3 : (List PyData)) => (needs (x3.length + ([((cT (cT cI)).enc ([[(0 : Int), (0 : Int), (1 : Int)]])), ((cT cI).enc ([(0 : Int), (0 : Int), (0 : Int)]))]).length ≤ 16777216) ((letB ((x3 ++ [((cT (cT cI)).enc ([[(0 : Int), (0 : Int), (1 : Int)]])), ((cT cI).enc ([(0 : Int), (0 : Int), (0 : Int)]))])) fun (x4 : (List PyData)) => (oneW x4 >>= fun v6 => pure v6)))))))))))))
noncomputable def f_law_whole (a1 : PyData) (a2 : Int) (a3 : Int) : Option Bool :=
  ((if (isT .int a1) = true then ((if (!((isT .bool a1))) = true then (ofO (decI a1) >>= fun v4 => pure (((decide (a2 ≤ v4)) && (decide (v4 ≤ a3))))) else pure false) >>= fun v3 => pure v3) else pure false) >>= fun v2 => pure v2)
noncomputable def f_law_is_row (a1 : PyData) (a2 : Int) : Option Bool :=
  ((if (isT .tuple a1) = true then (ofO (decT a1) >>= fun v8 => ((if (decide ((v8.length : Int) = a2)) = true then (ofO (decT a1) >>= fun v6 => (filE (fun (x1 : PyData) => (f_law_whole x1 (0 : Int) (1 : Int) >>= fun v7 => pure ((!v7)))) (fun x1 => pure (1 : Int)) v6 >>= fun y5 => pure ((decide (y5 = ([] : List Int)))))) else pure false) >>= fun v4 => pure v4)) else pure false) >>= fun v3 => pure v3)
end Lib
namespace TL
open PySem PySem.Spec PyProof.Rows L2 DL WM
noncomputable def okB (dep m : Nat) (d : PyData) : Bool := d.showable && (decide (sz d ≤ m) && (decide (d.depth ≤ dep) && ((!d.hasDict || noList d) && sgB d)))
theorem okB_rp {dep m : Nat} {d : PyData} (h : okB dep m d = true) : Rp dep m d := by
  unfold okB at h
  simp only [Bool.and_eq_true, decide_eq_true_eq, Bool.or_eq_true, Bool.not_eq_true'] at h
  exact ⟨h.1, h.2.1, h.2.2.1, h.2.2.2.1, h.2.2.2.2⟩
structure PlB (dep m : Nat) (d : PyData) : Prop where
  pl : isPl d = true
  le : sz d ≤ m
  dp : d.depth ≤ dep
theorem PlB.rp {dep m : Nat} {d : PyData} (h : PlB dep m d) : Rp dep m d := (Rp.pl h.pl h.dp).mono (Nat.le_refl _) h.le
theorem PlB.mono {dep m dep' m' : Nat} {d : PyData} (h : PlB dep m d) (h1 : dep ≤ dep') (h2 : m ≤ m') : PlB dep' m' d := ⟨h.pl, Nat.le_trans h.le h2, Nat.le_trans h.dp h1⟩
end TL
namespace Lib
open PySem PySem.Spec PyProof.Rows L2 DL TL WM
noncomputable def isI (d : PyData) (lo hi : Int) : Bool := match d with
  | .int i => decide (lo ≤ i) && decide (i ≤ hi)
  | _ => false
@[simp] theorem is_integer_eq (d : PyData) (lo hi : Int) : f_is_integer d lo hi = some (isI d lo hi) := by
  cases d <;> simp [f_is_integer, isT, tyP, Ty.sub, decI, isI]
@[simp] theorem law_whole_eq (d : PyData) (lo hi : Int) : f_law_whole d lo hi = some (isI d lo hi) := by
  cases d <;> simp [f_law_whole, isT, tyP, Ty.sub, decI, isI]
noncomputable def isRow (d : PyData) (m : Int) : Bool := match d with
  | .tuple xs => decide ((xs.length : Int) = m) && xs.all fun x => isI x 0 1
  | _ => false
@[simp] theorem is_row_eq (d : PyData) (m : Int) : f_is_row d m = some (isRow d m) := by
  cases d with
  | tuple xs =>
    simp only [f_is_row, isT, tyP, Ty.sub, decT, isRow, ofO_O, some_bd, decide_true, if_true, is_integer_eq, pureO]
    by_cases h : (xs.length : Int) = m
    · simp only [h, decide_true, if_true, Bool.true_and]
      rw [mapE_some (fun x => isI x 0 1) fun x _ => rfl]
      simp [List.all_map, Function.comp_def]
    · simp [h]
  | _ => simp [f_is_row, isT, tyP, Ty.sub, isRow]
theorem all_not_filter {α : Type} (p : α → Bool) : ∀ xs : List α, decide (((xs.filter fun x => !p x).map fun _ => (1 : Int)) = []) = xs.all p
  | [] => by simp
  | x :: xs => by
    by_cases h : p x = true
    · rw [List.filter_cons_of_neg (by simp [h])]
      rw [all_not_filter p xs]
      simp [h]
    · rw [List.filter_cons_of_pos (by simp [h])]
      simp [h]
@[simp] theorem law_is_row_eq (d : PyData) (m : Int) : f_law_is_row d m = some (isRow d m) := by
  cases d with
  | tuple xs =>
    simp only [f_law_is_row, isT, tyP, Ty.sub, decT, isRow, ofO_O, some_bd, decide_true, if_true, law_whole_eq, pureO]
    by_cases h : (xs.length : Int) = m
    · simp only [h, decide_true, if_true, Bool.true_and]
      rw [filE_some (fun x => !isI x 0 1) (fun _ => (1 : Int)) (fun x _ => rfl) fun x _ _ => rfl]
      simp only [some_bd, all_not_filter]
    · simp [h]
  | _ => simp [f_law_is_row, isT, tyP, Ty.sub, isRow]
instance : Inhabited PyData := ⟨.none⟩
theorem atI_some {α : Type} {xs : List α} {i : Int} (h0 : 0 ≤ i) (h1 : i < xs.length) : ∃ x, atI xs i = some x ∧ x ∈ xs := by
  obtain ⟨k, rfl⟩ : ∃ k : Nat, i = (k : Int) := ⟨i.toNat, by omega⟩
  have hk : k < xs.length := by omega
  exact ⟨xs[k], by rw [TL.atI_nat]; exact List.getElem?_eq_getElem hk, List.getElem_mem hk⟩
end Lib
namespace TL
open WM
@[simp] theorem ite_bdW {α β : Type} (c : Prop) [Decidable c] (a b : W α) (k : α → W β) : ((if c then a else b) >>= k) = (if c then a >>= k else b >>= k) := by split <;> rfl
theorem w_use {α β : Type} {m : W α} {k : α → W β} {P : α → Prop} {Q : β → Prop} (h : m.p P) (q : ∀ a, P a → (k a).p Q) : (m >>= k).p Q := m.mono q h
end TL
namespace Lib
open PySem PySem.Spec PyProof.Rows L2 DL TL WM
noncomputable def tuplesL {α : Type} (xs : List α) : Nat → List (List α)
  | 0 => [[]]
  | m + 1 => (tuplesL xs m).flatMap fun r => xs.map fun x => r ++ [x]
theorem tuplesL_len {α : Type} (xs : List α) : ∀ m, (tuplesL xs m).length = xs.length ^ m
  | 0 => rfl
  | m + 1 => by
    have : ∀ L : List (List α), (L.flatMap fun r => xs.map fun x => r ++ [x]).length = L.length * xs.length := by
      intro L
      induction L with
      | nil => simp
      | cons r L ih => simp [List.flatMap_cons, ih, Nat.succ_mul, Nat.add_comm]
    rw [tuplesL, this, tuplesL_len xs m, Nat.pow_succ]
theorem tuplesL_row {α : Type} {xs : List α} : ∀ {m : Nat} {r : List α}, r ∈ tuplesL xs m → r.length = m ∧ ∀ x ∈ r, x ∈ xs
  | 0, r, h => by simp [tuplesL] at h; subst h; simp
  | m + 1, r, h => by
    obtain ⟨r0, h0, h1⟩ := List.mem_flatMap.mp h
    obtain ⟨x, hx, rfl⟩ := List.mem_map.mp h1
    obtain ⟨a, b⟩ := tuplesL_row h0
    refine ⟨by simp [a], fun y hy => ?_⟩
    rcases List.mem_append.mp hy with z | z
    · exact b y z
    · simp at z
      subst z
      exact hx
noncomputable def rowsL (m : Nat) : List (List Int) := tuplesL [0, 1] m
theorem rowsL_len (m : Nat) : (rowsL m).length = 2 ^ m := tuplesL_len [0, 1] m
theorem rowsL_row {m : Nat} {r : List Int} (h : r ∈ rowsL m) : r.length = m ∧ ∀ i ∈ r, i = 0 ∨ i = 1 := by
  obtain ⟨a, b⟩ := tuplesL_row h
  exact ⟨a, fun i hi => by simpa using b i hi⟩
structure RelOk (r : Int × List (List Int)) : Prop where
  ar : 1 ≤ r.1 ∧ r.1 ≤ 5
  sub : r.2.Sublist (rowsL r.1.toNat)
theorem RelOk.len {r : Int × List (List Int)} (h : RelOk r) : r.2.length ≤ 32 := by
  have h1 := h.sub.length_le
  rw [rowsL_len] at h1
  exact Nat.le_trans h1 (Nat.pow_le_pow_right (by decide) (by have := h.ar; omega : r.1.toNat ≤ 5))
theorem RelOk.row {r : Int × List (List Int)} (h : RelOk r) {x : List Int} (hx : x ∈ r.2) : (x.length : Int) = r.1 ∧ ∀ i ∈ x, i = 0 ∨ i = 1 := by
  obtain ⟨a, b⟩ := rowsL_row (h.sub.subset hx)
  have := h.ar
  exact ⟨by omega, b⟩
structure FactOk (st : List (Int × List (List Int))) (u : Int) (f : Int × List Int) : Prop where
  ix : 0 ≤ f.1 ∧ f.1 < st.length
  many : ∃ r, atI st f.1 = some r ∧ (f.2.length : Int) = r.1
  pl : ∀ p ∈ f.2, 0 ≤ p ∧ p < u
theorem odd_ok {Q : PyData → Prop} (q : ∀ d, Rp 4 120 d → Q d) : (f_law_odd).p Q := by
  unfold f_law_odd
  refine w_needs (by decide) ?_
  simp only [letB_eq]
  refine w_needs (by decide) (w_needs (by decide) (w_needs (by decide) ?_))
  refine w_one (by simp) (by decide) fun d hd => q d (okB_rp ?_)
  have : ∀ (L : List PyData) (y : PyData), L.all (okB 4 120) = true → y ∈ L → okB 4 120 y = true := fun L y h hy => List.all_eq_true.mp h y hy
  refine this _ d ?_ hd
  decide +kernel
end Lib
namespace TL
open PySem PySem.Spec PyProof.Rows L2 DL WM
structure Rn (dep m : Nat) (d : PyData) : Prop where
  sh : d.showable = true
  le : sz d ≤ m
  dp : d.depth ≤ dep
  nd : d.hasDict = false
  ch : sgB d = true
theorem Rn.rp {dep m : Nat} {d : PyData} (h : Rn dep m d) : Rp dep m d := ⟨h.sh, h.le, h.dp, .inl h.nd, h.ch⟩
theorem Rn.mono {dep m dep' m' : Nat} {d : PyData} (h : Rn dep m d) (h1 : dep ≤ dep') (h2 : m ≤ m') : Rn dep' m' d := ⟨h.sh, Nat.le_trans h.le h2, Nat.le_trans h.dp h1, h.nd, h.ch⟩
noncomputable def Good (d : PyData) : Prop := Rp 30 2000000 d
noncomputable def AllG (L : List PyData) : Prop := ∀ d ∈ L, Good d
theorem AllG.nil : AllG [] := by simp [AllG]
theorem AllG.cons {d : PyData} {L : List PyData} (h : Good d) (t : AllG L) : AllG (d :: L) := by
  intro x hx
  rcases List.mem_cons.mp hx with z | z
  · subst z; exact h
  · exact t x z
theorem AllG.app {L M : List PyData} (h : AllG L) (t : AllG M) : AllG (L ++ M) := fun x hx => (List.mem_append.mp hx).elim (h x) (t x)
noncomputable abbrev RowB (x : List Int) : Prop := x.length ≤ 10 ∧ ∀ i ∈ x, 0 ≤ i ∧ i ≤ 99
noncomputable abbrev RelB (r : Int × List (List Int)) : Prop := (0 ≤ r.1 ∧ r.1 ≤ 99) ∧ r.2.length ≤ 64 ∧ ∀ x ∈ r.2, RowB x
noncomputable abbrev FactB (f : Int × List Int) : Prop := (0 ≤ f.1 ∧ f.1 ≤ 99) ∧ RowB f.2
end TL
namespace Lib
open PySem PySem.Spec PyProof.Rows L2 DL TL WM
theorem RelOk.b {r : Int × List (List Int)} (h : RelOk r) : RelB r := ⟨by have := h.ar; omega, by have := h.len; omega, fun x hx => by
  obtain ⟨a, b⟩ := h.row hx
  have := h.ar
  exact ⟨by omega, fun i hi => by have := b i hi; omega⟩⟩
theorem FactOk.b {st : List (Int × List (List Int))} {u : Int} {f : Int × List Int} (h : FactOk st u f) (hs : ∀ r ∈ st, r.1 ≤ 10) (hl : st.length ≤ 50) (hu : u ≤ 60) : FactB f := by
  obtain ⟨r, h1, h2⟩ := h.many
  have hr : r ∈ st := by
    obtain ⟨x, e, hx⟩ := atI_some (xs := st) h.ix.1 h.ix.2
    rw [h1] at e
    cases e
    exact hx
  have h3 := hs r hr
  have h4 := h.ix
  exact ⟨by omega, by omega, fun p hp => by have := h.pl p hp; omega⟩
end Lib
namespace TL
open PySem PySem.Spec PyProof.Rows L2 DL WM
@[simp] theorem mapE_pure {α β : Type} (g : α → β) (xs : List α) : mapE (fun x => (some (g x) : Option β)) xs = some (xs.map g) := mapE_some g fun _ _ => rfl
@[simp] theorem filE_pure {α β : Type} (p : α → Bool) (g : α → β) (xs : List α) : filE (fun x => (some (p x) : Option Bool)) (fun x => some (g x)) xs = some ((xs.filter p).map g) := filE_some p g (fun _ _ => rfl) fun _ _ _ => rfl
@[simp] theorem filE_self {α : Type} (p : α → Bool) (xs : List α) : filE (fun x => (some (p x) : Option Bool)) some xs = some (xs.filter p) := by
  have := filE_pure p (fun x => x) xs
  rw [List.map_id'] at this
  exact this
@[simp] theorem mapE_map {α β γ : Type} (f : β → Option γ) (g : α → β) (xs : List α) : mapE f (xs.map g) = mapE (fun x => f (g x)) xs := by
  induction xs with
  | nil => rfl
  | cons x xs ih => simp only [List.map_cons, mapE, ih]
@[simp] theorem filE_map {α β γ : Type} (t : β → Option Bool) (f : β → Option γ) (g : α → β) (xs : List α) : filE t f (xs.map g) = filE (fun x => t (g x)) (fun x => f (g x)) xs := by
  induction xs with
  | nil => rfl
  | cons x xs ih => simp only [List.map_cons, filE, ih]
end TL
namespace Lib
open PySem PySem.Spec PyProof.Rows L2 DL TL WM
end Lib
namespace TL
open PySem PySem.Spec PyProof.Rows L2 DL WM
end TL
namespace Lib
open PySem PySem.Spec PyProof.Rows L2 DL TL WM
theorem rangeI_mem {m i : Int} (h : i ∈ rangeI 0 m) : 0 ≤ i ∧ i < m := by
  unfold rangeI at h
  obtain ⟨k, hk, rfl⟩ := List.mem_map.mp h
  have := List.mem_range.mp hk
  omega
end Lib
namespace Law
open PySem PySem.Spec PyProof.Rows L2 DL TL
noncomputable def top (i : Nat) : Stmt := PySem.Challenge.pw_sixkeepers_k00_errors_and_bounds.main.body.getD i (.Pass ⟨0, 0, 0, 0⟩)
noncomputable def eb_BadBatch : List (Str × Bool) := [("BadBatch", true), ("BadRow", false), ("BadStock", false), ("BadText", false), ("Busy", false), ("NoAnswers", false), ("NoNumber", false), ("NoRelation", false), ("NotOne", false), ("NothingToUndo", false), ("NoUnknown", false), ("NoVersion", false), ("Rejected", false), ("TooHard", false), ("TooManyEdits", false), ("Unfit", false)]
noncomputable def eb_BadRow : List (Str × Bool) := [("BadBatch", false), ("BadRow", true), ("BadStock", false), ("BadText", false), ("Busy", false), ("NoAnswers", false), ("NoNumber", false), ("NoRelation", false), ("NotOne", false), ("NothingToUndo", false), ("NoUnknown", false), ("NoVersion", false), ("Rejected", false), ("TooHard", false), ("TooManyEdits", false), ("Unfit", false)]
noncomputable def eb_BadStock : List (Str × Bool) := [("BadBatch", false), ("BadRow", false), ("BadStock", true), ("BadText", false), ("Busy", false), ("NoAnswers", false), ("NoNumber", false), ("NoRelation", false), ("NotOne", false), ("NothingToUndo", false), ("NoUnknown", false), ("NoVersion", false), ("Rejected", false), ("TooHard", false), ("TooManyEdits", false), ("Unfit", false)]
noncomputable def eb_BadText : List (Str × Bool) := [("BadBatch", false), ("BadRow", false), ("BadStock", false), ("BadText", true), ("Busy", false), ("NoAnswers", false), ("NoNumber", false), ("NoRelation", false), ("NotOne", false), ("NothingToUndo", false), ("NoUnknown", false), ("NoVersion", false), ("Rejected", false), ("TooHard", false), ("TooManyEdits", false), ("Unfit", false)]
noncomputable def eb_Busy : List (Str × Bool) := [("BadBatch", false), ("BadRow", false), ("BadStock", false), ("BadText", false), ("Busy", true), ("NoAnswers", false), ("NoNumber", false), ("NoRelation", false), ("NotOne", false), ("NothingToUndo", false), ("NoUnknown", false), ("NoVersion", false), ("Rejected", false), ("TooHard", false), ("TooManyEdits", false), ("Unfit", false)]
noncomputable def eb_NoAnswers : List (Str × Bool) := [("BadBatch", false), ("BadRow", false), ("BadStock", false), ("BadText", false), ("Busy", false), ("NoAnswers", true), ("NoNumber", false), ("NoRelation", false), ("NotOne", false), ("NothingToUndo", false), ("NoUnknown", false), ("NoVersion", false), ("Rejected", false), ("TooHard", false), ("TooManyEdits", false), ("Unfit", false)]
noncomputable def eb_NoNumber : List (Str × Bool) := [("BadBatch", false), ("BadRow", false), ("BadStock", false), ("BadText", false), ("Busy", false), ("NoAnswers", false), ("NoNumber", true), ("NoRelation", false), ("NotOne", false), ("NothingToUndo", false), ("NoUnknown", false), ("NoVersion", false), ("Rejected", false), ("TooHard", false), ("TooManyEdits", false), ("Unfit", false)]
noncomputable def eb_NoRelation : List (Str × Bool) := [("BadBatch", false), ("BadRow", false), ("BadStock", false), ("BadText", false), ("Busy", false), ("NoAnswers", false), ("NoNumber", false), ("NoRelation", true), ("NotOne", false), ("NothingToUndo", false), ("NoUnknown", false), ("NoVersion", false), ("Rejected", false), ("TooHard", false), ("TooManyEdits", false), ("Unfit", false)]
noncomputable def eb_NotOne : List (Str × Bool) := [("BadBatch", false), ("BadRow", false), ("BadStock", false), ("BadText", false), ("Busy", false), ("NoAnswers", false), ("NoNumber", false), ("NoRelation", false), ("NotOne", true), ("NothingToUndo", false), ("NoUnknown", false), ("NoVersion", false), ("Rejected", false), ("TooHard", false), ("TooManyEdits", false), ("Unfit", false)]
noncomputable def eb_NothingToUndo : List (Str × Bool) := [("BadBatch", false), ("BadRow", false), ("BadStock", false), ("BadText", false), ("Busy", false), ("NoAnswers", false), ("NoNumber", false), ("NoRelation", false), ("NotOne", false), ("NothingToUndo", true), ("NoUnknown", false), ("NoVersion", false), ("Rejected", false), ("TooHard", false), ("TooManyEdits", false), ("Unfit", false)]
noncomputable def eb_NoUnknown : List (Str × Bool) := [("BadBatch", false), ("BadRow", false), ("BadStock", false), ("BadText", false), ("Busy", false), ("NoAnswers", false), ("NoNumber", false), ("NoRelation", false), ("NotOne", false), ("NothingToUndo", false), ("NoUnknown", true), ("NoVersion", false), ("Rejected", false), ("TooHard", false), ("TooManyEdits", false), ("Unfit", false)]
noncomputable def eb_NoVersion : List (Str × Bool) := [("BadBatch", false), ("BadRow", false), ("BadStock", false), ("BadText", false), ("Busy", false), ("NoAnswers", false), ("NoNumber", false), ("NoRelation", false), ("NotOne", false), ("NothingToUndo", false), ("NoUnknown", false), ("NoVersion", true), ("Rejected", false), ("TooHard", false), ("TooManyEdits", false), ("Unfit", false)]
noncomputable def eb_Rejected : List (Str × Bool) := [("BadBatch", false), ("BadRow", false), ("BadStock", false), ("BadText", false), ("Busy", false), ("NoAnswers", false), ("NoNumber", false), ("NoRelation", false), ("NotOne", false), ("NothingToUndo", false), ("NoUnknown", false), ("NoVersion", false), ("Rejected", true), ("TooHard", false), ("TooManyEdits", false), ("Unfit", false)]
noncomputable def eb_TooHard : List (Str × Bool) := [("BadBatch", false), ("BadRow", false), ("BadStock", false), ("BadText", false), ("Busy", false), ("NoAnswers", false), ("NoNumber", false), ("NoRelation", false), ("NotOne", false), ("NothingToUndo", false), ("NoUnknown", false), ("NoVersion", false), ("Rejected", false), ("TooHard", true), ("TooManyEdits", false), ("Unfit", false)]
noncomputable def eb_TooManyEdits : List (Str × Bool) := [("BadBatch", false), ("BadRow", false), ("BadStock", false), ("BadText", false), ("Busy", false), ("NoAnswers", false), ("NoNumber", false), ("NoRelation", false), ("NotOne", false), ("NothingToUndo", false), ("NoUnknown", false), ("NoVersion", false), ("Rejected", false), ("TooHard", false), ("TooManyEdits", true), ("Unfit", false)]
noncomputable def eb_Unfit : List (Str × Bool) := [("BadBatch", false), ("BadRow", false), ("BadStock", false), ("BadText", false), ("Busy", false), ("NoAnswers", false), ("NoNumber", false), ("NoRelation", false), ("NotOne", false), ("NothingToUndo", false), ("NoUnknown", false), ("NoVersion", false), ("Rejected", false), ("TooHard", false), ("TooManyEdits", false), ("Unfit", true)]
noncomputable def eb_KeeperError : List (Str × Bool) := [("BadBatch", true), ("BadRow", true), ("BadStock", true), ("BadText", true), ("Busy", true), ("NoAnswers", true), ("NoNumber", true), ("NoRelation", true), ("NotOne", true), ("NothingToUndo", true), ("NoUnknown", true), ("NoVersion", true), ("Rejected", true), ("TooHard", true), ("TooManyEdits", true), ("Unfit", true)]
noncomputable def eb_ValueError : List (Str × Bool) := [("BadBatch", true), ("BadRow", true), ("BadStock", true), ("BadText", true), ("Busy", true), ("NoAnswers", true), ("NoNumber", true), ("NoRelation", true), ("NotOne", true), ("NothingToUndo", true), ("NoUnknown", true), ("NoVersion", true), ("Rejected", true), ("TooHard", true), ("TooManyEdits", true), ("Unfit", true)]
noncomputable def G : Glb := ⟨[("MAX_ARITY", (.int 5)), ("MAX_ROWS", (.int 12)), ("MAX_STOCK", (.int 6)), ("MAX_UNKNOWNS", (.int 40)), ("MAX_FACTS", (.int 80)), ("MAX_SMALL", (.int 10)), ("MAX_HARD", (.int 14)), ("MAX_OPERATIONS", (.int 6)), ("MAX_SEEN", (.int 4)), ("MAX_LOTS", (.int 10)), ("MAX_CLAUSES", (.int 60)), ("MAX_SUMS", (.int 400)), ("MAX_LEARNT", (.int 8)), ("MAX_WIDTH", (.int 3)), ("MAX_NAME", (.int 8)), ("MAX_HISTORY", (.int 10)), ("HISTORY", (.int 30)), ("BATCH", (.int 20))], [(.glob "_law_deck", (["_law_script"] : List Str)), (.glob "_law_draw", (["_law_deck_here", "_law_many"] : List Str)), (.glob "_law_one", (["_law_deck_here", "_law_items"] : List Str)), (.glob "_law_odd", (["_law_deck_here"] : List Str)), (.glob "_law_made", (["_law_one_here"] : List Str)), (.glob "_law_classes", (["_law_error"] : List Str)), (.glob "law", (["_law_script"] : List Str))], [], [], [], [], [], [], [], [], true, [("BadBatch", none), ("BadRow", some "given"), ("BadStock", some "error"), ("BadText", some "place"), ("Busy", none), ("NoAnswers", some "reason"), ("NoNumber", some "number"), ("NoRelation", some "given"), ("NotOne", some "given"), ("NothingToUndo", none), ("NoUnknown", some "given"), ("NoVersion", some "given"), ("Rejected", some "index"), ("TooHard", some "size"), ("TooManyEdits", none), ("Unfit", none)], eb_BadBatch.map (fun p => (p.1, ("BadBatch" : Str), p.2)) ++ eb_BadRow.map (fun p => (p.1, ("BadRow" : Str), p.2)) ++ eb_BadStock.map (fun p => (p.1, ("BadStock" : Str), p.2)) ++ eb_BadText.map (fun p => (p.1, ("BadText" : Str), p.2)) ++ eb_Busy.map (fun p => (p.1, ("Busy" : Str), p.2)) ++ eb_NoAnswers.map (fun p => (p.1, ("NoAnswers" : Str), p.2)) ++ eb_NoNumber.map (fun p => (p.1, ("NoNumber" : Str), p.2)) ++ eb_NoRelation.map (fun p => (p.1, ("NoRelation" : Str), p.2)) ++ eb_NotOne.map (fun p => (p.1, ("NotOne" : Str), p.2)) ++ eb_NothingToUndo.map (fun p => (p.1, ("NothingToUndo" : Str), p.2)) ++ eb_NoUnknown.map (fun p => (p.1, ("NoUnknown" : Str), p.2)) ++ eb_NoVersion.map (fun p => (p.1, ("NoVersion" : Str), p.2)) ++ eb_Rejected.map (fun p => (p.1, ("Rejected" : Str), p.2)) ++ eb_TooHard.map (fun p => (p.1, ("TooHard" : Str), p.2)) ++ eb_TooManyEdits.map (fun p => (p.1, ("TooManyEdits" : Str), p.2)) ++ eb_Unfit.map (fun p => (p.1, ("Unfit" : Str), p.2)) ++ eb_KeeperError.map (fun p => (p.1, ("KeeperError" : Str), p.2)) ++ eb_ValueError.map (fun p => (p.1, ("ValueError" : Str), p.2))⟩
noncomputable def N_law_deck : List Str := ["_law_script", "_law_cells", "_law_cell"]
noncomputable def P_law_deck : List Str := ["_law_script"]
noncomputable def B_law_deck : List RS := [
    .asg (.nm 1) (.comp false [2] (.nm 2) (.seq (.sl false (.var 0) .none (.some (.cst (.int 63))))) .yes (.bi .abs (.var 2))),
    .ret (.lst true (.cons (.comp true [2] (.nm 2) (.seq (.var 1)) (.cmp .GtE (.var 2) (.arith .Pow (.cst (.int 10)) (.cst (.int 18)))) (.var 2)) (.cons (.add false (.var 1) (.lst false (.cons (.add false (.cst (.int 11239)) (.bi .len (.var 1))) (.nil)))) (.cons (.cst (.int 0)) (.nil)))))]
noncomputable def F_law_deck : FnB := ⟨1, 3, B_law_deck, none⟩
noncomputable def N_law_draw : List Str := ["_law_deck_here", "_law_many", "_law_cell", "_law_mixed", "_law_rest"]
noncomputable def P_law_draw : List Str := ["_law_deck_here", "_law_many"]
noncomputable def B_law_draw : List RS := [
    .ifs (.cmp .NotEq (.ix (.var 0) (.cst (.int 0))) (.lst false (.nil))) [.asg (.nm 4) (.ix (.ix (.var 0) (.cst (.int 0))) (.cst (.int 0))),
    .set (.ix (.var 0) (.cst (.int 0))) (.cst (.int 0)) (.arith .FloorDiv (.var 4) (.var 1)),
    .ifs (.cmp .Eq (.ix (.ix (.var 0) (.cst (.int 0))) (.cst (.int 0))) (.cst (.int 0))) [.drop (.meth .popAt (.ix (.var 0) (.cst (.int 0))) (.cons (.cst (.int 0)) (.nil)))] [],
    .ret (.arith .Mod (.bi .int (.var 4)) (.var 1))] [],
    .set (.var 0) (.cst (.int 2)) (.add false (.ix (.var 0) (.cst (.int 2))) (.cst (.int 1))),
    .asg (.nm 2) (.ix (.ix (.var 0) (.cst (.int 1))) (.arith .Mod (.bi .int (.ix (.var 0) (.cst (.int 2)))) (.bi .len (.ix (.var 0) (.cst (.int 1)))))),
    .asg (.nm 3) (.arith .Mod (.bi .int (.add false (.arith .Mod (.bi .int (.var 2)) (.cst (.int 4294966297))) (.mul (.cst (.int 1640531527)) (.ix (.var 0) (.cst (.int 2)))))) (.cst (.int 4294966297))),
    .asg (.nm 3) (.arith .Mod (.bi .int (.add false (.mul (.var 3) (.var 3)) (.mul (.cst (.int 122949823)) (.ix (.var 0) (.cst (.int 2)))))) (.cst (.int 4294966237))),
    .ret (.arith .Mod (.arith .FloorDiv (.arith .Mod (.bi .int (.mul (.var 3) (.var 3))) (.cst (.int 4294966187))) (.cst (.int 1024))) (.var 1))]
noncomputable def F_law_draw : FnB := ⟨2, 5, B_law_draw, none⟩
noncomputable def N_law_one : List Str := ["_law_deck_here", "_law_items"]
noncomputable def P_law_one : List Str := ["_law_deck_here", "_law_items"]
noncomputable def B_law_one : List RS := [
    .ret (.ix (.var 1) (.call 1 (.cons (.var 0) (.cons (.bi .len (.var 1)) (.nil)))))]
noncomputable def F_law_one : FnB := ⟨2, 2, B_law_one, none⟩
noncomputable def N_law_odd : List Str := ["_law_deck_here", "_law_some"]
noncomputable def P_law_odd : List Str := ["_law_deck_here"]
noncomputable def B_law_odd : List RS := [
    .asg (.nm 1) (.lst false (.cons (.cst .none) (.cons (.cst (.bool true)) (.cons (.cst (.bool false)) (.cons (.cst (.int 0)) (.cons (.cst (.int 1)) (.cons (.cst (.int 2)) (.cons (.neg (.cst (.int 1))) (.cons (.arith .Pow (.cst (.int 10)) (.cst (.int 30))) (.cons (.cst (.str "")) (.cons (.cst (.str "0")) (.cons (.cst (.str "2: 01")) (.cons (.tup (.nil)) (.cons (.lst false (.nil)) (.cons (.dct0) (.cons (.tup (.cons (.cst (.int 0)) (.nil))) (.cons (.tup (.cons (.cst (.int 1)) (.nil))) (.cons (.tup (.cons (.cst (.int 0)) (.cons (.cst (.int 1)) (.nil)))) (.cons (.tup (.cons (.cst (.bool true)) (.cons (.cst (.int 0)) (.nil)))) (.nil)))))))))))))))))))),
    .asg (.nm 1) (.add false (.var 1) (.lst false (.cons (.lst false (.cons (.cst (.int 0)) (.nil))) (.cons (.tup (.cons (.cst (.int 0)) (.cons (.cst (.int 2)) (.nil)))) (.cons (.tup (.cons (.tup (.cons (.cst (.int 0)) (.cons (.cst (.int 1)) (.nil)))) (.nil))) (.cons (.tup (.cons (.cst (.int 1)) (.cons (.tup (.cons (.tup (.cons (.cst (.int 0)) (.nil))) (.nil))) (.nil)))) (.cons (.tup (.cons (.cst (.int 0)) (.cons (.tup (.cons (.cst (.int 0)) (.nil))) (.nil)))) (.cons (.tup (.cons (.cst (.int 0)) (.cons (.tup (.cons (.cst (.int 0)) (.cons (.cst (.int 0)) (.nil)))) (.nil)))) (.cons (.tup (.cons (.tup (.cons (.cst (.int 0)) (.nil))) (.cons (.cst (.int 1)) (.nil)))) (.cons (.tup (.cons (.tup (.nil)) (.cons (.tup (.nil)) (.nil)))) (.nil))))))))))),
    .asg (.nm 1) (.add false (.var 1) (.lst false (.cons (.tup (.cons (.cst (.str "clash")) (.cons (.tup (.nil)) (.cons (.cst (.int 0)) (.nil))))) (.cons (.tup (.cons (.cst .none) (.nil))) (.cons (.tup (.cons (.neg (.cst (.int 1))) (.nil))) (.cons (.tup (.cons (.cst (.int 0)) (.cons (.tup (.cons (.neg (.cst (.int 1))) (.nil))) (.nil)))) (.cons (.tup (.cons (.cst (.int 0)) (.cons (.tup (.cons (.cst (.bool true)) (.cons (.cst (.int 0)) (.nil)))) (.nil)))) (.cons (.tup (.cons (.cst (.int 2)) (.cons (.tup (.cons (.tup (.cons (.cst (.int 0)) (.cons (.cst (.int 1)) (.nil)))) (.cons (.tup (.cons (.cst (.int 0)) (.cons (.cst (.int 1)) (.nil)))) (.nil)))) (.nil)))) (.nil))))))))),
    .asg (.nm 1) (.add false (.var 1) (.lst false (.cons (.tup (.cons (.tup (.cons (.cst (.int 0)) (.cons (.cst (.int 0)) (.cons (.cst (.int 1)) (.nil))))) (.nil))) (.cons (.tup (.cons (.cst (.int 0)) (.cons (.cst (.int 0)) (.cons (.cst (.int 0)) (.nil))))) (.nil))))),
    .ret (.call 2 (.cons (.var 0) (.cons (.var 1) (.nil))))]
noncomputable def F_law_odd : FnB := ⟨1, 2, B_law_odd, none⟩
noncomputable def N_law_made : List Str := ["_law_one_here", "_law_found"]
noncomputable def P_law_made : List Str := ["_law_one_here"]
noncomputable def B_law_made : List RS := [
    .asg (.nm 1) (.lst true (.cons (.exn0 "BadBatch") (.cons (.exn1 "BadRow" "given" false (.var 0)) (.cons (.exn1 "BadStock" "error" false (.var 0)) (.cons (.exn1 "BadText" "place" false (.var 0)) (.cons (.exn0 "Busy") (.cons (.exn1 "NoAnswers" "reason" false (.var 0)) (.cons (.exn1 "NoNumber" "number" false (.var 0)) (.nil))))))))),
    .asg (.nm 1) (.add true (.var 1) (.lst true (.cons (.exn1 "NoRelation" "given" false (.var 0)) (.cons (.exn1 "NotOne" "given" false (.var 0)) (.cons (.exn0 "NothingToUndo") (.cons (.exn1 "NoUnknown" "given" false (.var 0)) (.cons (.exn1 "NoVersion" "given" false (.var 0)) (.cons (.exn1 "Rejected" "index" false (.var 0)) (.nil))))))))),
    .ret (.add true (.var 1) (.lst true (.cons (.exn1 "TooHard" "size" false (.var 0)) (.cons (.exn0 "TooManyEdits") (.cons (.exn0 "Unfit") (.nil))))))]
noncomputable def F_law_made : FnB := ⟨1, 2, B_law_made, none⟩
noncomputable def N_law_classes : List Str := ["_law_error", "_law_found"]
noncomputable def P_law_classes : List Str := ["_law_error"]
noncomputable def B_law_classes : List RS := [
    .asg (.nm 1) (.lst false (.cons (.exis "BadBatch" eb_BadBatch (.var 0)) (.cons (.exis "BadRow" eb_BadRow (.var 0)) (.cons (.exis "BadStock" eb_BadStock (.var 0)) (.nil))))),
    .asg (.nm 1) (.add false (.var 1) (.lst false (.cons (.exis "BadText" eb_BadText (.var 0)) (.cons (.exis "Busy" eb_Busy (.var 0)) (.cons (.exis "NoAnswers" eb_NoAnswers (.var 0)) (.nil)))))),
    .asg (.nm 1) (.add false (.var 1) (.lst false (.cons (.exis "NoNumber" eb_NoNumber (.var 0)) (.cons (.exis "NoRelation" eb_NoRelation (.var 0)) (.cons (.exis "NotOne" eb_NotOne (.var 0)) (.nil)))))),
    .asg (.nm 1) (.add false (.var 1) (.lst false (.cons (.exis "NothingToUndo" eb_NothingToUndo (.var 0)) (.cons (.exis "NoUnknown" eb_NoUnknown (.var 0)) (.cons (.exis "NoVersion" eb_NoVersion (.var 0)) (.nil)))))),
    .asg (.nm 1) (.add false (.var 1) (.lst false (.cons (.exis "Rejected" eb_Rejected (.var 0)) (.cons (.exis "TooHard" eb_TooHard (.var 0)) (.cons (.exis "TooManyEdits" eb_TooManyEdits (.var 0)) (.nil)))))),
    .ret (.add false (.var 1) (.lst false (.cons (.exis "Unfit" eb_Unfit (.var 0)) (.nil))))]
noncomputable def F_law_classes : FnB := ⟨1, 2, B_law_classes, none⟩
noncomputable def N_law : List Str := ["_law_script", "_law_deck_here", "_law_told", "_law_turn", "_law_one_here", "_law_errors", "_law_k", "_law_kept", "_law_named", "_law_own"]
noncomputable def P_law : List Str := ["_law_script"]
noncomputable def B_law : List RS := [
    .asg (.nm 1) (.call 0 (.cons (.var 0) (.nil))),
    .asg (.nm 2) (.lst false (.cons (.glob (.int 5)) (.cons (.glob (.int 12)) (.cons (.glob (.int 6)) (.cons (.glob (.int 40)) (.cons (.glob (.int 80)) (.cons (.glob (.int 10)) (.cons (.glob (.int 14)) (.cons (.glob (.int 6)) (.cons (.glob (.int 4)) (.nil))))))))))),
    .asg (.nm 2) (.add false (.var 2) (.lst false (.cons (.glob (.int 10)) (.cons (.glob (.int 60)) (.cons (.glob (.int 400)) (.cons (.glob (.int 8)) (.cons (.glob (.int 3)) (.cons (.glob (.int 8)) (.cons (.glob (.int 10)) (.cons (.glob (.int 30)) (.cons (.glob (.int 20)) (.nil)))))))))))),
    .ifs (.cmp .NotEq (.bi .repr (.var 2)) (.cst (.str "[5, 12, 6, 40, 80, 10, 14, 6, 4, 10, 60, 400, 8, 3, 8, 10, 30, 20]"))) [.ret (.cst (.bool false))] [],
    .loop (.nm 3) (.rng1 (.cst (.int 6))) [.asg (.nm 4) (.call 3 (.cons (.var 1) (.nil))),
    .asg (.nm 5) (.call 4 (.cons (.var 4) (.nil))),
    .loop (.nm 6) (.rng1 (.cst (.int 16))) [.ifs (.cmp .NotEq (.call 5 (.cons (.ix (.var 5) (.var 6)) (.nil))) (.comp false [9] (.nm 9) (.rng1 (.cst (.int 16))) .yes (.cmp .Eq (.var 6) (.var 9)))) [.ret (.cst (.bool false))] [],
    .ifs (.or (.not (.val (.exis "KeeperError" eb_KeeperError (.ix (.var 5) (.var 6))))) (.not (.val (.exis "ValueError" eb_ValueError (.ix (.var 5) (.var 6)))))) [.ret (.cst (.bool false))] []],
    .asg (.nm 7) (.lst false (.cons (.exfl "given" ["BadRow", "NoRelation", "NotOne", "NoUnknown", "NoVersion"] (.ix (.var 5) (.cst (.int 1)))) (.cons (.exfl "error" ["BadStock"] (.ix (.var 5) (.cst (.int 2)))) (.cons (.exfl "place" ["BadText"] (.ix (.var 5) (.cst (.int 3)))) (.cons (.exfl "reason" ["NoAnswers"] (.ix (.var 5) (.cst (.int 5)))) (.cons (.exfl "number" ["NoNumber"] (.ix (.var 5) (.cst (.int 6)))) (.cons (.exfl "given" ["BadRow", "NoRelation", "NotOne", "NoUnknown", "NoVersion"] (.ix (.var 5) (.cst (.int 7)))) (.nil)))))))),
    .asg (.nm 7) (.add false (.var 7) (.lst false (.cons (.exfl "given" ["BadRow", "NoRelation", "NotOne", "NoUnknown", "NoVersion"] (.ix (.var 5) (.cst (.int 8)))) (.cons (.exfl "given" ["BadRow", "NoRelation", "NotOne", "NoUnknown", "NoVersion"] (.ix (.var 5) (.cst (.int 10)))) (.cons (.exfl "given" ["BadRow", "NoRelation", "NotOne", "NoUnknown", "NoVersion"] (.ix (.var 5) (.cst (.int 11)))) (.cons (.exfl "index" ["Rejected"] (.ix (.var 5) (.cst (.int 12)))) (.cons (.exfl "size" ["TooHard"] (.ix (.var 5) (.cst (.int 13)))) (.nil)))))))),
    .asg (.nm 8) (.lst false (.cons (.exfl "given" ["BadRow", "NoRelation", "NotOne", "NoUnknown", "NoVersion"] (.exn1 "BadRow" "given" true (.var 4))) (.cons (.exfl "error" ["BadStock"] (.exn1 "BadStock" "error" true (.var 4))) (.cons (.exfl "place" ["BadText"] (.exn1 "BadText" "place" true (.var 4))) (.nil))))),
    .asg (.nm 8) (.add false (.var 8) (.lst false (.cons (.exfl "reason" ["NoAnswers"] (.exn1 "NoAnswers" "reason" true (.var 4))) (.cons (.exfl "number" ["NoNumber"] (.exn1 "NoNumber" "number" true (.var 4))) (.cons (.exfl "given" ["BadRow", "NoRelation", "NotOne", "NoUnknown", "NoVersion"] (.exn1 "NoRelation" "given" true (.var 4))) (.nil)))))),
    .asg (.nm 8) (.add false (.var 8) (.lst false (.cons (.exfl "given" ["BadRow", "NoRelation", "NotOne", "NoUnknown", "NoVersion"] (.exn1 "NotOne" "given" true (.var 4))) (.cons (.exfl "given" ["BadRow", "NoRelation", "NotOne", "NoUnknown", "NoVersion"] (.exn1 "NoUnknown" "given" true (.var 4))) (.cons (.exfl "given" ["BadRow", "NoRelation", "NotOne", "NoUnknown", "NoVersion"] (.exn1 "NoVersion" "given" true (.var 4))) (.nil)))))),
    .asg (.nm 8) (.add false (.var 8) (.lst false (.cons (.exfl "index" ["Rejected"] (.exn1 "Rejected" "index" true (.var 4))) (.cons (.exfl "size" ["TooHard"] (.exn1 "TooHard" "size" true (.var 4))) (.nil))))),
    .ifs (.cmp .NotEq (.bi .repr (.lst false (.cons (.var 7) (.cons (.var 8) (.nil))))) (.bi .repr (.mulL false (.lst false (.cons (.mulL false (.lst false (.cons (.var 4) (.nil))) (.cst (.int 11))) (.nil))) (.cst (.int 2))))) [.ret (.cst (.bool false))] []],
    .ret (.cst (.bool true))]
noncomputable def F_law : FnB := ⟨1, 10, B_law, none⟩
noncomputable def T : List FnB := [F_law_deck, F_law_draw, F_law_one, F_law_odd, F_law_made, F_law_classes, F_law]
theorem ch_law_deck : chB G N_law_deck (defScope (top 37)) B_law_deck (defBody (top 37)) = true := by decide +kernel
theorem sc_law_deck : FnScope N_law_deck P_law_deck (defScope (top 37)) := ⟨rfl, rfl, rfl, by decide +kernel, rfl, by decide +kernel, by decide +kernel⟩
theorem ch_law_draw : chB G N_law_draw (defScope (top 38)) B_law_draw (defBody (top 38)) = true := by decide +kernel
theorem sc_law_draw : FnScope N_law_draw P_law_draw (defScope (top 38)) := ⟨rfl, rfl, rfl, by decide +kernel, rfl, by decide +kernel, by decide +kernel⟩
theorem ch_law_one : chB G N_law_one (defScope (top 39)) B_law_one (defBody (top 39)) = true := by decide +kernel
theorem sc_law_one : FnScope N_law_one P_law_one (defScope (top 39)) := ⟨rfl, rfl, rfl, by decide +kernel, rfl, by decide +kernel, by decide +kernel⟩
theorem ch_law_odd : chB G N_law_odd (defScope (top 40)) B_law_odd (defBody (top 40)) = true := by decide +kernel
theorem sc_law_odd : FnScope N_law_odd P_law_odd (defScope (top 40)) := ⟨rfl, rfl, rfl, by decide +kernel, rfl, by decide +kernel, by decide +kernel⟩
theorem ch_law_made : chB G N_law_made (defScope (top 41)) B_law_made (defBody (top 41)) = true := by decide +kernel
theorem sc_law_made : FnScope N_law_made P_law_made (defScope (top 41)) := ⟨rfl, rfl, rfl, by decide +kernel, rfl, by decide +kernel, by decide +kernel⟩
theorem ch_law_classes : chB G N_law_classes (defScope (top 42)) B_law_classes (defBody (top 42)) = true := by decide +kernel
theorem sc_law_classes : FnScope N_law_classes P_law_classes (defScope (top 42)) := ⟨rfl, rfl, rfl, by decide +kernel, rfl, by decide +kernel, by decide +kernel⟩
theorem ch_law : chB G N_law (defScope (top 43)) B_law (defBody (top 43)) = true := by decide +kernel
theorem sc_law : FnScope N_law P_law (defScope (top 43)) := ⟨rfl, rfl, rfl, by decide +kernel, rfl, by decide +kernel, by decide +kernel⟩
theorem xt_BadRow : supT "self" "given" "given" (clsMem (top 3) 0) = true := by decide +kernel
theorem xs_BadRow : SupS "self" "given" (clsMem (top 3) 0) := ⟨rfl, rfl, rfl, by decide +kernel, rfl, rfl, rfl, rfl, by decide, by decide, by decide, by decide⟩
theorem xt_BadStock : supT "self" "error" "error" (clsMem (top 4) 0) = true := by decide +kernel
theorem xs_BadStock : SupS "self" "error" (clsMem (top 4) 0) := ⟨rfl, rfl, rfl, by decide +kernel, rfl, rfl, rfl, rfl, by decide, by decide, by decide, by decide⟩
theorem xt_BadText : supT "self" "place" "place" (clsMem (top 5) 0) = true := by decide +kernel
theorem xs_BadText : SupS "self" "place" (clsMem (top 5) 0) := ⟨rfl, rfl, rfl, by decide +kernel, rfl, rfl, rfl, rfl, by decide, by decide, by decide, by decide⟩
theorem xt_NoAnswers : supT "self" "reason" "reason" (clsMem (top 7) 0) = true := by decide +kernel
theorem xs_NoAnswers : SupS "self" "reason" (clsMem (top 7) 0) := ⟨rfl, rfl, rfl, by decide +kernel, rfl, rfl, rfl, rfl, by decide, by decide, by decide, by decide⟩
theorem xt_NoNumber : supT "self" "number" "number" (clsMem (top 8) 0) = true := by decide +kernel
theorem xs_NoNumber : SupS "self" "number" (clsMem (top 8) 0) := ⟨rfl, rfl, rfl, by decide +kernel, rfl, rfl, rfl, rfl, by decide, by decide, by decide, by decide⟩
theorem xt_NoRelation : supT "self" "given" "given" (clsMem (top 9) 0) = true := by decide +kernel
theorem xs_NoRelation : SupS "self" "given" (clsMem (top 9) 0) := ⟨rfl, rfl, rfl, by decide +kernel, rfl, rfl, rfl, rfl, by decide, by decide, by decide, by decide⟩
theorem xt_NotOne : supT "self" "given" "given" (clsMem (top 10) 0) = true := by decide +kernel
theorem xs_NotOne : SupS "self" "given" (clsMem (top 10) 0) := ⟨rfl, rfl, rfl, by decide +kernel, rfl, rfl, rfl, rfl, by decide, by decide, by decide, by decide⟩
theorem xt_NoUnknown : supT "self" "given" "given" (clsMem (top 12) 0) = true := by decide +kernel
theorem xs_NoUnknown : SupS "self" "given" (clsMem (top 12) 0) := ⟨rfl, rfl, rfl, by decide +kernel, rfl, rfl, rfl, rfl, by decide, by decide, by decide, by decide⟩
theorem xt_NoVersion : supT "self" "given" "given" (clsMem (top 13) 0) = true := by decide +kernel
theorem xs_NoVersion : SupS "self" "given" (clsMem (top 13) 0) := ⟨rfl, rfl, rfl, by decide +kernel, rfl, rfl, rfl, rfl, by decide, by decide, by decide, by decide⟩
theorem xt_Rejected : supT "self" "index" "index" (clsMem (top 14) 0) = true := by decide +kernel
theorem xs_Rejected : SupS "self" "index" (clsMem (top 14) 0) := ⟨rfl, rfl, rfl, by decide +kernel, rfl, rfl, rfl, rfl, by decide, by decide, by decide, by decide⟩
theorem xt_TooHard : supT "self" "size" "size" (clsMem (top 15) 0) = true := by decide +kernel
theorem xs_TooHard : SupS "self" "size" (clsMem (top 15) 0) := ⟨rfl, rfl, rfl, by decide +kernel, rfl, rfl, rfl, rfl, by decide, by decide, by decide, by decide⟩
open WM Lib
noncomputable def f_law_made (a1 : PyData) : Option (List EO) :=
  pure ((([(("BadBatch" : Str), none), (("BadRow" : Str), some (("given" : Str), a1)), (("BadStock" : Str), some (("error" : Str), a1)), (("BadText" : Str), some (("place" : Str), a1)), (("Busy" : Str), none), (("NoAnswers" : Str), some (("reason" : Str), a1)), (("NoNumber" : Str), some (("number" : Str), a1))] : List EO) ++ ([(("NoRelation" : Str), some (("given" : Str), a1)), (("NotOne" : Str), some (("given" : Str), a1)), (("NothingToUndo" : Str), none), (("NoUnknown" : Str), some (("given" : Str), a1)), (("NoVersion" : Str), some (("given" : Str), a1)), (("Rejected" : Str), some (("index" : Str), a1))] : List EO)) ++ ([(("TooHard" : Str), some (("size" : Str), a1)), (("TooManyEdits" : Str), none), (("Unfit" : Str), none)] : List EO))
noncomputable def f_law_classes (a1 : EO) : Option (List Bool) :=
  (ofO (eb_BadBatch.lookup a1.1) >>= fun v20 => (ofO (eb_BadRow.lookup a1.1) >>= fun v21 => (ofO (eb_BadStock.lookup a1.1) >>= fun v22 => (letB ([v20, v21, v22]) fun (x1 : (List Bool)) => (ofO (eb_BadText.lookup a1.1) >>= fun v17 => (ofO (eb_Busy.lookup a1.1) >>= fun v18 => (ofO (eb_NoAnswers.lookup a1.1) >>= fun v19 => (needs (x1.length + ([v17, v18, v19]).length ≤ 16777216) ((letB ((x1 ++ [v17, v18, v19])) fun (x2 : (List Bool)) => (ofO (eb_NoNumber.lookup a1.1) >>= fun v14 => (ofO (eb_NoRelation.lookup a1.1) >>= fun v15 => (ofO (eb_NotOne.lookup a1.1) >>= fun v16 => (needs (x2.length + ([v14, v15, v16]).length ≤ 16777216) ((letB ((x2 ++ [v14, v15, v16])) fun (x3 : (List Bool)) => (ofO (eb_NothingToUndo.lookup a1.1) >>= fun v11 => (ofO (eb_NoUnknown.lookup a1.1) >>= fun v12 => (ofO (eb_NoVersion.lookup a1.1) >>= fun v13 => (needs (x3.length + ([v11, v12, v13]).length ≤ 16777216) ((letB ((x3 ++ [v11, v12, v13])) fun (x4 : (List Bool)) => (ofO (eb_Rejected.lookup a1.1) >>= fun v8 => (ofO (eb_TooHard.lookup a1.1) >>= fun v9 => (ofO (eb_TooManyEdits.lookup a1.1) >>= fun v10 => (needs (x4.length + ([v8, v9, v10]).length ≤ 16777216) ((letB ((x4 ++ [v8, v9, v10])) fun (x5 : (List Bool)) => (ofO (eb_Unfit.lookup a1.1) >>= fun v7 => (needs (x5.length + ([v7]).length ≤ 16777216) (pure ((x5 ++ [v7])))))))))))))))))))))))))))))))))
theorem tr_law_oneL {A : Str → Option Addr} (n : Nat) {α : Type} {c : Codec α} (xs : List α) : TC (wCall T A (n + 2)) 2 [.dk, .v ((cL c).enc xs)] c (oneW xs) := tc_oneL (dr := 1) rfl rfl xs
theorem tr_law_odd {A : Str → Option Addr} (n : Nat)  : TC (wCall T A (n + 3)) 3 [.dk] cA (f_law_odd) :=
  tc_E (tc_fn rfl rfl (tb_let (c := (cL cA)) (bd_nm 1 (cL cA)) (tk_mk (tm_lst (c := cA) (by decide) (th_cons (tk_cst cA rfl) (fun _ => (th_cons (tk_cst cA rfl) (fun _ => (th_cons (tk_cst cA rfl) (fun _ => (th_cons (tk_cst cA rfl) (fun _ => (th_cons (tk_cst cA rfl) (fun _ => (th_cons (tk_cst cA rfl) (fun _ => (th_cons (tk_any cI (tk_neg (tk_cst cI rfl))) (fun _ => (th_cons (tk_any cI (tk_arith op_pow (tk_cst cI rfl) (fun _ => (tk_cst cI rfl)))) (fun _ => (th_cons (tk_cst cA rfl) (fun _ => (th_cons (tk_cst cA rfl) (fun _ => (th_cons (tk_cst cA rfl) (fun _ => (th_cons (tk_any (cT cA) (tk_tupH (c := cA) (by decide) th_nil)) (fun _ => (th_cons (tk_any (cL cA) (tk_mk (tm_lst (c := cA) (by decide) th_nil))) (fun _ => (th_cons tk_dct0 (fun _ => (th_cons (tk_any (cT cI) (tk_tupH (c := cI) (by decide) (th_cons (tk_cst cI rfl) (fun _ => th_nil)))) (fun _ => (th_cons (tk_any (cT cI) (tk_tupH (c := cI) (by decide) (th_cons (tk_cst cI rfl) (fun _ => th_nil)))) (fun _ => (th_cons (tk_any (cT cI) (tk_tupH (c := cI) (by decide) (th_cons (tk_cst cI rfl) (fun _ => (th_cons (tk_cst cI rfl) (fun _ => th_nil)))))) (fun _ => (th_cons (tk_any (cP cB cI) (tk_p2 (tk_cst cB rfl) (fun _ => (tk_cst cI rfl)))) (fun _ => th_nil)))))))))))))))))))))))))))))))))))))) (fun x1 => (tb_let (c := (cL cA)) (bd_nm 1 (cL cA)) (tk_mk (tm_addl (tq_lst (tk_var (cL cA) rfl)) (fun _ => (tq_lst (tk_mk (tm_lst (c := cA) (by decide) (th_cons (tk_any (cL cI) (tk_mk (tm_lst (c := cI) (by decide) (th_cons (tk_cst cI rfl) (fun _ => th_nil))))) (fun _ => (th_cons (tk_any (cT cI) (tk_tupH (c := cI) (by decide) (th_cons (tk_cst cI rfl) (fun _ => (th_cons (tk_cst cI rfl) (fun _ => th_nil)))))) (fun _ => (th_cons (tk_any (cT (cT cI)) (tk_tupH (c := (cT cI)) (by decide) (th_cons (tk_tupH (c := cI) (by decide) (th_cons (tk_cst cI rfl) (fun _ => (th_cons (tk_cst cI rfl) (fun _ => th_nil))))) (fun _ => th_nil)))) (fun _ => (th_cons (tk_any (cP cI (cT (cT cI))) (tk_p2 (tk_cst cI rfl) (fun _ => (tk_tupH (c := (cT cI)) (by decide) (th_cons (tk_tupH (c := cI) (by decide) (th_cons (tk_cst cI rfl) (fun _ => th_nil))) (fun _ => th_nil)))))) (fun _ => (th_cons (tk_any (cP cI (cT cI)) (tk_p2 (tk_cst cI rfl) (fun _ => (tk_tupH (c := cI) (by decide) (th_cons (tk_cst cI rfl) (fun _ => th_nil)))))) (fun _ => (th_cons (tk_any (cP cI (cT cI)) (tk_p2 (tk_cst cI rfl) (fun _ => (tk_tupH (c := cI) (by decide) (th_cons (tk_cst cI rfl) (fun _ => (th_cons (tk_cst cI rfl) (fun _ => th_nil)))))))) (fun _ => (th_cons (tk_any (cP (cT cI) cI) (tk_p2 (tk_tupH (c := cI) (by decide) (th_cons (tk_cst cI rfl) (fun _ => th_nil))) (fun _ => (tk_cst cI rfl)))) (fun _ => (th_cons (tk_any (cP (cT cA) (cT cA)) (tk_p2 (tk_tupH (c := cA) (by decide) th_nil) (fun _ => (tk_tupH (c := cA) (by decide) th_nil)))) (fun _ => th_nil)))))))))))))))))))))) (fun x2 => (tb_let (c := (cL cA)) (bd_nm 1 (cL cA)) (tk_mk (tm_addl (tq_lst (tk_var (cL cA) rfl)) (fun _ => (tq_lst (tk_mk (tm_lst (c := cA) (by decide) (th_cons (tk_any (c3 cS (cT cA) cI) (tk_p3 (tk_cst cS rfl) (fun _ => (tk_tupH (c := cA) (by decide) th_nil)) (fun _ _ => (tk_cst cI rfl)))) (fun _ => (th_cons (tk_any (cT cN) (tk_tupH (c := cN) (by decide) (th_cons (tk_cst cN rfl) (fun _ => th_nil)))) (fun _ => (th_cons (tk_any (cT cI) (tk_tupH (c := cI) (by decide) (th_cons (tk_neg (tk_cst cI rfl)) (fun _ => th_nil)))) (fun _ => (th_cons (tk_any (cP cI (cT cI)) (tk_p2 (tk_cst cI rfl) (fun _ => (tk_tupH (c := cI) (by decide) (th_cons (tk_neg (tk_cst cI rfl)) (fun _ => th_nil)))))) (fun _ => (th_cons (tk_any (cP cI (cP cB cI)) (tk_p2 (tk_cst cI rfl) (fun _ => (tk_p2 (tk_cst cB rfl) (fun _ => (tk_cst cI rfl)))))) (fun _ => (th_cons (tk_any (cP cI (cP (cT cI) (cT cI))) (tk_p2 (tk_cst cI rfl) (fun _ => (tk_p2 (tk_tupH (c := cI) (by decide) (th_cons (tk_cst cI rfl) (fun _ => (th_cons (tk_cst cI rfl) (fun _ => th_nil))))) (fun _ => (tk_tupH (c := cI) (by decide) (th_cons (tk_cst cI rfl) (fun _ => (th_cons (tk_cst cI rfl) (fun _ => th_nil)))))))))) (fun _ => th_nil)))))))))))))))))) (fun x3 => (tb_let (c := (cL cA)) (bd_nm 1 (cL cA)) (tk_mk (tm_addl (tq_lst (tk_var (cL cA) rfl)) (fun _ => (tq_lst (tk_mk (tm_lst (c := cA) (by decide) (th_cons (tk_any (cT (cT cI)) (tk_tupH (c := (cT cI)) (by decide) (th_cons (tk_tupH (c := cI) (by decide) (th_cons (tk_cst cI rfl) (fun _ => (th_cons (tk_cst cI rfl) (fun _ => (th_cons (tk_cst cI rfl) (fun _ => th_nil))))))) (fun _ => th_nil)))) (fun _ => (th_cons (tk_any (cT cI) (tk_tupH (c := cI) (by decide) (th_cons (tk_cst cI rfl) (fun _ => (th_cons (tk_cst cI rfl) (fun _ => (th_cons (tk_cst cI rfl) (fun _ => th_nil)))))))) (fun _ => th_nil)))))))))) (fun x4 => (tb_ret (fun r5 => r5) (fun _ => rfl) (tk_call (ta_deck rfl (ta_cons (tk_var (cL cA) rfl) (fun _ => (ta_nil (tk_here (tr_law_oneL (c := cA) _ _))))))))))))))))) rfl
theorem tr_law_made {A : Str → Option Addr} (n : Nat) (a1 : PyData) : TCE (wCall T A (n + 1)) 4 [.v (cA.enc a1)] (f_law_made a1) :=
  tce_E (tc_fnX rfl rfl (tb_asgX (txl_lst (txa_0 (txa_1 rfl (txa_1 rfl (txa_1 rfl (txa_0 (txa_1 rfl (txa_1 rfl txa_nil))))))) (Nat.le_of_ble_eq_true rfl)) (tb_asgX (txl_add rfl (txl_lst (txa_1 rfl (txa_1 rfl (txa_0 (txa_1 rfl (txa_1 rfl (txa_1 rfl txa_nil)))))) (Nat.le_of_ble_eq_true rfl)) (Nat.le_of_ble_eq_true rfl)) (tb_retX (txl_add rfl (txl_lst (txa_1 rfl (txa_0 (txa_0 txa_nil))) (Nat.le_of_ble_eq_true rfl)) (Nat.le_of_ble_eq_true rfl)))))) rfl
theorem tr_law_classes {A : Str → Option Addr} (n : Nat) (a1 : EO) : TC (wCall T A (n + 1)) 5 [.vx (.one a1)] (cL cB) (f_law_classes a1) :=
  tc_E (tc_fn rfl rfl (tb_let (c := (cL cB)) (bd_nm 1 (cL cB)) (tk_mk (tm_lst (c := cB) (by decide) (th_cons (tk_exisV rfl) (fun _ => (th_cons (tk_exisV rfl) (fun _ => (th_cons (tk_exisV rfl) (fun _ => th_nil)))))))) (fun x1 => (tb_let (c := (cL cB)) (bd_nm 1 (cL cB)) (tk_mk (tm_addl (tq_lst (tk_var (cL cB) rfl)) (fun _ => (tq_lst (tk_mk (tm_lst (c := cB) (by decide) (th_cons (tk_exisV rfl) (fun _ => (th_cons (tk_exisV rfl) (fun _ => (th_cons (tk_exisV rfl) (fun _ => th_nil)))))))))))) (fun x2 => (tb_let (c := (cL cB)) (bd_nm 1 (cL cB)) (tk_mk (tm_addl (tq_lst (tk_var (cL cB) rfl)) (fun _ => (tq_lst (tk_mk (tm_lst (c := cB) (by decide) (th_cons (tk_exisV rfl) (fun _ => (th_cons (tk_exisV rfl) (fun _ => (th_cons (tk_exisV rfl) (fun _ => th_nil)))))))))))) (fun x3 => (tb_let (c := (cL cB)) (bd_nm 1 (cL cB)) (tk_mk (tm_addl (tq_lst (tk_var (cL cB) rfl)) (fun _ => (tq_lst (tk_mk (tm_lst (c := cB) (by decide) (th_cons (tk_exisV rfl) (fun _ => (th_cons (tk_exisV rfl) (fun _ => (th_cons (tk_exisV rfl) (fun _ => th_nil)))))))))))) (fun x4 => (tb_let (c := (cL cB)) (bd_nm 1 (cL cB)) (tk_mk (tm_addl (tq_lst (tk_var (cL cB) rfl)) (fun _ => (tq_lst (tk_mk (tm_lst (c := cB) (by decide) (th_cons (tk_exisV rfl) (fun _ => (th_cons (tk_exisV rfl) (fun _ => (th_cons (tk_exisV rfl) (fun _ => th_nil)))))))))))) (fun x5 => (tb_ret (fun r6 => r6) (fun _ => rfl) (tk_mk (tm_addl (tq_lst (tk_var (cL cB) rfl)) (fun _ => (tq_lst (tk_mk (tm_lst (c := cB) (by decide) (th_cons (tk_exisV rfl) (fun _ => th_nil)))))))))))))))))))) rfl
open WM Lib
noncomputable def f_law : W Bool :=
  (letB ([(5 : Int), (12 : Int), (6 : Int), (40 : Int), (80 : Int), (10 : Int), (14 : Int), (6 : Int), (4 : Int)]) fun (x1 : (List Int)) => (needs (x1.length + ([(10 : Int), (60 : Int), (400 : Int), (8 : Int), (3 : Int), (8 : Int), (10 : Int), (30 : Int), (20 : Int)]).length ≤ 16777216) ((letB ((x1 ++ [(10 : Int), (60 : Int), (400 : Int), (8 : Int), (3 : Int), (8 : Int), (10 : Int), (30 : Int), (20 : Int)])) fun (x2 : (List Int)) => (needs (okR ((cL cI).enc x2)) ((if (!decide (((cL cI).enc x2).shown = ("[5, 12, 6, 40, 80, 10, 14, 6, 4, 10, 60, 400, 8, 3, 8, 10, 30, 20]" : Str))) = true then pure false else (needs (-16777216 ≤ (6 : Int) ∧ (6 : Int) ≤ 16777216) ((loopM (fun (s4 : Unit) (x5 : Int) => (f_law_odd >>= fun v36 => (letB v36 fun (x6 : PyData) => (ofO (f_law_made x6) >>= fun x7 => (needs (-16777216 ≤ (16 : Int) ∧ (16 : Int) ≤ 16777216) ((loopM (fun (s8 : Unit) (x9 : Int) => (ofO (atI x7 x9) >>= fun v17 => (ofO (f_law_classes v17) >>= fun v16 => (needs (-16777216 ≤ (16 : Int) ∧ (16 : Int) ≤ 16777216) ((if (!decide (v16 = (((rangeI 0 (16 : Int))).map fun x10 => (decide (x9 = x10))))) = true then pure (Lo.rt (Lo.rt false)) else (ofO (isX x7 eb_KeeperError x9) >>= fun v15 => ((if (!v15) = true then pure true else (ofO (isX x7 eb_ValueError x9) >>= fun v14 => pure ((!v14)))) >>= fun v13 => (if v13 = true then pure (Lo.rt (Lo.rt false)) else pure (Lo.nx (()))))))))))) (fun (s8 : Unit) => (ofO (flX x7 "given" ["BadRow", "NoRelation", "NotOne", "NoUnknown", "NoVersion"] (1 : Int)) >>= fun v30 => (ofO (flX x7 "error" ["BadStock"] (2 : Int)) >>= fun v31 => (ofO (flX x7 "place" ["BadText"] (3 : Int)) >>= fun v32 => (ofO (flX x7 "reason" ["NoAnswers"] (5 : Int)) >>= fun v33 => (ofO (flX x7 "number" ["NoNumber"] (6 : Int)) >>= fun v34 => (ofO (flX x7 "given" ["BadRow", "NoRelation", "NotOne", "NoUnknown", "NoVersion"] (7 : Int)) >>= fun v35 => (letB ([v30, v31, v32, v33, v34, v35]) fun (x18 : (List PyData)) => (ofO (flX x7 "given" ["BadRow", "NoRelation", "NotOne", "NoUnknown", "NoVersion"] (8 : Int)) >>= fun v25 => (ofO (flX x7 "given" ["BadRow", "NoRelation", "NotOne", "NoUnknown", "NoVersion"] (10 : Int)) >>= fun v26 => (ofO (flX x7 "given" ["BadRow", "NoRelation", "NotOne", "NoUnknown", "NoVersion"] (11 : Int)) >>= fun v27 => (ofO (flX x7 "index" ["Rejected"] (12 : Int)) >>= fun v28 => (ofO (flX x7 "size" ["TooHard"] (13 : Int)) >>= fun v29 => (needs (x18.length + ([v25, v26, v27, v28, v29]).length ≤ 16777216) ((letB ((x18 ++ [v25, v26, v27, v28, v29])) fun (x19 : (List PyData)) => (letB ([x6, x6, x6]) fun (x20 : (List PyData)) => (needs (x20.length + ([x6, x6, x6]).length ≤ 16777216) ((letB ((x20 ++ [x6, x6, x6])) fun (x21 : (List PyData)) => (needs (x21.length + ([x6, x6, x6]).length ≤ 16777216) ((letB ((x21 ++ [x6, x6, x6])) fun (x22 : (List PyData)) => (needs (x22.length + ([x6, x6]).length ≤ 16777216) ((letB ((x22 ++ [x6, x6])) fun (x23 : (List PyData)) => (needs (okR ((cL (cL cA)).enc ([x19, x23]))) ((needs (-1000000 ≤ (11 : Int) ∧ (11 : Int) ≤ 1000000 ∧ ([x6]).length * (11 : Int).toNat ≤ 16777216) ((needs (-1000000 ≤ (2 : Int) ∧ (2 : Int) ≤ 1000000 ∧ ([(timesL ([x6]) (11 : Int))]).length * (2 : Int).toNat ≤ 16777216) ((needs (okR ((cL (cL cA)).enc ((timesL ([(timesL ([x6]) (11 : Int))]) (2 : Int))))) ((if (!decide (((cL (cL cA)).enc ([x19, x23])).shown = ((cL (cL cA)).enc ((timesL ([(timesL ([x6]) (11 : Int))]) (2 : Int)))).shown)) = true then pure (Lo.rt false) else pure (Lo.nx (()))))))))))))))))))))))))))))))))))))) ((rangeI 0 (16 : Int))) (())))))))) (fun (s4 : Unit) => pure true) ((rangeI 0 (6 : Int))) (())))))))))))
theorem tb_law {A : Str → Option Addr} (n : Nat) : TB (wCall T A (n + 3)) (.no :: .deck :: List.replicate 8 .no) (B_law.drop 1) (kF cB) f_law :=
  tb_E ((tb_let (c := (cL cI)) (bd_nm 2 (cL cI)) (tk_mk (tm_lst (c := cI) (by decide) (th_cons (tk_glob cI rfl) (fun _ => (th_cons (tk_glob cI rfl) (fun _ => (th_cons (tk_glob cI rfl) (fun _ => (th_cons (tk_glob cI rfl) (fun _ => (th_cons (tk_glob cI rfl) (fun _ => (th_cons (tk_glob cI rfl) (fun _ => (th_cons (tk_glob cI rfl) (fun _ => (th_cons (tk_glob cI rfl) (fun _ => (th_cons (tk_glob cI rfl) (fun _ => th_nil)))))))))))))))))))) (fun x1 => (tb_let (c := (cL cI)) (bd_nm 2 (cL cI)) (tk_mk (tm_addl (tq_lst (tk_var (cL cI) rfl)) (fun _ => (tq_lst (tk_mk (tm_lst (c := cI) (by decide) (th_cons (tk_glob cI rfl) (fun _ => (th_cons (tk_glob cI rfl) (fun _ => (th_cons (tk_glob cI rfl) (fun _ => (th_cons (tk_glob cI rfl) (fun _ => (th_cons (tk_glob cI rfl) (fun _ => (th_cons (tk_glob cI rfl) (fun _ => (th_cons (tk_glob cI rfl) (fun _ => (th_cons (tk_glob cI rfl) (fun _ => (th_cons (tk_glob cI rfl) (fun _ => th_nil)))))))))))))))))))))))) (fun x2 => (tb_ifX (tt_cmp (tk_cmp op_neS (tk_repr (tk_var (cL cI) rfl)) (fun _ => (tk_cst cS rfl)))) (tb_ret (fun r3 => r3) (fun _ => rfl) (tk_cst cB rfl)) (tb_for (c := cI) (s0 := ()) (fun (s4 : Unit) => [.no, .deck, .val ((cL cI).enc x2), .no, .no, .no, .no, .no, .no, .no]) (bd_nm 3 cI) (.keep (.keep (.keep (.keep (.keep (.keep (.keep (.keep (.keep (.keep .nil)))))))))) (t0_rng1 (tk_cst cI rfl)) (fun s4 x5 => (tb_let (c := cA) (bd_nm 4 cA) (tk_call (ta_deck rfl (ta_nil (tk_here (tr_law_odd _ ))))) (fun x6 => (tb_asgE (ta_cons (tk_var cA rfl) (fun _ => (ta_nil ⟨_, (TCE.up (tr_law_made _ _)), rfl⟩))) (fun x7 => (tb_for (c := cI) (s0 := ()) (fun (s8 : Unit) => [.no, .deck, .val ((cL cI).enc x2), .val (cI.enc x5), .val (cA.enc x6), .cx (exL x7), .no, .no, .no, .no]) (bd_nm 6 cI) (.keep (.keep (.keep (.keep (.keep (.keep (.keep (.keep (.keep (.keep .nil)))))))))) (t0_rng1 (tk_cst cI rfl)) (fun s8 x9 => (tb_ifX (tt_cmp (tk_cmp (op_ne (qL qB) (by decide)) (tk_call (ta_ex rfl (tk_var cI rfl) (fun _ => (ta_nil (tk_here (TC.up (tr_law_classes _ _))))))) (fun _ => (tk_mk (tm_compV (c := cI) (d := cB) (g := fun x10 => (decide (x9 = x10))) (bd_nm 9 cI) (ti_of0 (t0_rng1 (tk_cst cI rfl))) (fun x10 _ => (tk_cmp (op_eq qI (by decide)) (tk_var (a := x9) cI rfl) (fun _ => (tk_var (a := x10) cI rfl))))))))) (tb_ret (fun r11 => (Lo.rt (Lo.rt r11))) (fun _ => rfl) (tk_cst cB rfl)) (tb_ifX (tt_or (tt_not (tt_val (tk_exis rfl (tk_var cI rfl)))) (tt_not (tt_val (tk_exis rfl (tk_var cI rfl))))) (tb_ret (fun r12 => (Lo.rt (Lo.rt r12))) (fun _ => rfl) (tk_cst cB rfl)) (tb_nil (r := (Lo.nx (()))) rfl (.keep (.keep (.keep (.keep (.keep (.keep (.drop (.keep (.keep (.keep .nil)))))))))))))) (fun s8 => (tb_let (c := (cL cA)) (bd_nm 7 (cL cA)) (tk_mk (tm_lst (c := cA) (by decide) (th_cons (tk_exfl rfl (tk_cst cI rfl)) (fun _ => (th_cons (tk_exfl rfl (tk_cst cI rfl)) (fun _ => (th_cons (tk_exfl rfl (tk_cst cI rfl)) (fun _ => (th_cons (tk_exfl rfl (tk_cst cI rfl)) (fun _ => (th_cons (tk_exfl rfl (tk_cst cI rfl)) (fun _ => (th_cons (tk_exfl rfl (tk_cst cI rfl)) (fun _ => th_nil)))))))))))))) (fun x18 => (tb_let (c := (cL cA)) (bd_nm 7 (cL cA)) (tk_mk (tm_addl (tq_lst (tk_var (cL cA) rfl)) (fun _ => (tq_lst (tk_mk (tm_lst (c := cA) (by decide) (th_cons (tk_exfl rfl (tk_cst cI rfl)) (fun _ => (th_cons (tk_exfl rfl (tk_cst cI rfl)) (fun _ => (th_cons (tk_exfl rfl (tk_cst cI rfl)) (fun _ => (th_cons (tk_exfl rfl (tk_cst cI rfl)) (fun _ => (th_cons (tk_exfl rfl (tk_cst cI rfl)) (fun _ => th_nil)))))))))))))))) (fun x19 => (tb_let (c := (cL cA)) (bd_nm 8 (cL cA)) (tk_mk (tm_lst (c := cA) (by decide) (th_cons (tk_exnfl (tk_var cA rfl) (by decide)) (fun _ => (th_cons (tk_exnfl (tk_var cA rfl) (by decide)) (fun _ => (th_cons (tk_exnfl (tk_var cA rfl) (by decide)) (fun _ => th_nil)))))))) (fun x20 => (tb_let (c := (cL cA)) (bd_nm 8 (cL cA)) (tk_mk (tm_addl (tq_lst (tk_var (cL cA) rfl)) (fun _ => (tq_lst (tk_mk (tm_lst (c := cA) (by decide) (th_cons (tk_exnfl (tk_var cA rfl) (by decide)) (fun _ => (th_cons (tk_exnfl (tk_var cA rfl) (by decide)) (fun _ => (th_cons (tk_exnfl (tk_var cA rfl) (by decide)) (fun _ => th_nil)))))))))))) (fun x21 => (tb_let (c := (cL cA)) (bd_nm 8 (cL cA)) (tk_mk (tm_addl (tq_lst (tk_var (cL cA) rfl)) (fun _ => (tq_lst (tk_mk (tm_lst (c := cA) (by decide) (th_cons (tk_exnfl (tk_var cA rfl) (by decide)) (fun _ => (th_cons (tk_exnfl (tk_var cA rfl) (by decide)) (fun _ => (th_cons (tk_exnfl (tk_var cA rfl) (by decide)) (fun _ => th_nil)))))))))))) (fun x22 => (tb_let (c := (cL cA)) (bd_nm 8 (cL cA)) (tk_mk (tm_addl (tq_lst (tk_var (cL cA) rfl)) (fun _ => (tq_lst (tk_mk (tm_lst (c := cA) (by decide) (th_cons (tk_exnfl (tk_var cA rfl) (by decide)) (fun _ => (th_cons (tk_exnfl (tk_var cA rfl) (by decide)) (fun _ => th_nil)))))))))) (fun x23 => (tb_ifX (tt_cmp (tk_cmp op_neS (tk_repr (tk_mk (tm_lst (c := (cL cA)) (by decide) (th_cons (tk_var (cL cA) rfl) (fun _ => (th_cons (tk_var (cL cA) rfl) (fun _ => th_nil))))))) (fun _ => (tk_repr (tk_mk (tm_mulL (tq_lst (tk_mk (tm_lst (c := (cL cA)) (by decide) (th_cons (tk_mk (tm_mulL (tq_lst (tk_mk (tm_lst (c := cA) (by decide) (th_cons (tk_var cA rfl) (fun _ => th_nil))))) (fun _ => (tk_cst cI rfl)))) (fun _ => th_nil))))) (fun _ => (tk_cst cI rfl)))))))) (tb_ret (fun r24 => (Lo.rt r24)) (fun _ => rfl) (tk_cst cB rfl)) (tb_nil (r := (Lo.nx (()))) rfl (.keep (.keep (.keep (.drop (.drop (.drop (.keep (.drop (.drop (.keep .nil))))))))))))))))))))))))))))))) (fun s4 => (tb_ret (fun r37 => r37) (fun _ => rfl) (tk_cst cB rfl)))))))))) (by unfold f_law; first | (simp only []; done) | rfl)
end Law
namespace Law
open PySem PySem.Spec PyProof.Rows L2 DL TL WM Lib
noncomputable def mk (x : PyData) : List EO := [(("BadBatch" : Str), none), ("BadRow", some ("given", x)), ("BadStock", some ("error", x)), ("BadText", some ("place", x)), ("Busy", none), ("NoAnswers", some ("reason", x)), ("NoNumber", some ("number", x)),
  ("NoRelation", some ("given", x)), ("NotOne", some ("given", x)), ("NothingToUndo", none), ("NoUnknown", some ("given", x)), ("NoVersion", some ("given", x)), ("Rejected", some ("index", x)), ("TooHard", some ("size", x)), ("TooManyEdits", none), ("Unfit", none)]
noncomputable def nms : List Str := [("BadBatch" : Str), "BadRow", "BadStock", "BadText", "Busy", "NoAnswers", "NoNumber", "NoRelation", "NotOne", "NothingToUndo", "NoUnknown", "NoVersion", "Rejected", "TooHard", "TooManyEdits", "Unfit"]
theorem made_eq (x : PyData) : f_law_made x = some (mk x) := rfl
theorem mk_nms (x : PyData) : (mk x).map (·.1) = nms := rfl
theorem cls_nm (p : EO) : f_law_classes p = f_law_classes (p.1, none) := rfl
theorem all16 : ∀ k < 16, f_law_classes (nms.getD k "", none) = some ((rangeI 0 (16 : Int)).map fun j => decide ((k : Int) = j)) ∧ eb_KeeperError.lookup (nms.getD k "") = some true ∧ eb_ValueError.lookup (nms.getD k "") = some true := by decide +kernel
theorem at16 (x : PyData) {k : Nat} (hk : k < 16) : ∃ p, atI (mk x) (k : Int) = some p ∧ p.1 = nms.getD k "" := by
  have hl : k < (mk x).length := hk
  refine ⟨(mk x)[k], by rw [TL.atI_nat, List.getElem?_eq_getElem hl], ?_⟩
  have := congrArg (fun L => L.getD k "") (mk_nms x)
  rw [← this, List.getD_eq_getElem?_getD, List.getElem?_map, List.getElem?_eq_getElem hl]
  rfl
theorem fl_eq {L : List EO} {f c : Str} {cs : List Str} {k : Int} {v : PyData} (h : atI L k = some (c, some (f, v))) (hc : c ∈ cs) : flX L f cs k = some v := by
  unfold flX
  rw [h]
  show flE f cs (c, some (f, v)) = some v
  exact if_pos ⟨rfl, hc⟩
theorem law_true : f_law.p (fun b => b = true) := by
  unfold f_law
  simp only [letB_eq]
  refine w_needs (by decide) (w_needs (by decide +kernel) ?_)
  rw [if_neg (by decide +kernel)]
  refine w_needs (by omega) ?_
  refine w_loop0 (fun _ _ => ?_) rfl
  refine w_use (odd_ok (Q := fun d => Rp 4 120 d) fun d h => h) fun x hx => ?_
  refine w_ofb (made_eq x) (w_needs (by omega) ?_)
  refine w_loop0 (fun k hk => ?_) ?_
  · have hb := rangeI_mem hk
    obtain ⟨j, rfl⟩ : ∃ j : Nat, k = (j : Int) := ⟨k.toNat, by omega⟩
    have hj : j < 16 := by omega
    obtain ⟨p, hp, hn⟩ := at16 x hj
    obtain ⟨a1, a2, a3⟩ := all16 j hj
    refine w_ofb hp (w_ofb (a := (rangeI 0 (16 : Int)).map fun i => decide ((j : Int) = i)) (by rw [cls_nm, hn]; exact a1) ?_)
    refine w_needs (by omega) ?_
    rw [if_neg (by simp)]
    have e2 : isX (mk x) eb_KeeperError (j : Int) = some true := by unfold isX; rw [hp]; show eb_KeeperError.lookup p.1 = _; rw [hn]; exact a2
    have e3 : isX (mk x) eb_ValueError (j : Int) = some true := by unfold isX; rw [hp]; show eb_ValueError.lookup p.1 = _; rw [hn]; exact a3
    refine w_ofb e2 ?_
    refine w_use (P := fun b : Bool => b = false) ?_ fun b hb => ?_
    · rw [if_neg (by simp)]
      exact w_ofb e3 rfl
    · subst hb
      exact rfl
  · refine w_ofb (fl_eq (c := "BadRow") (v := x) rfl (by decide)) (w_ofb (fl_eq (c := "BadStock") (v := x) rfl (by decide)) (w_ofb (fl_eq (c := "BadText") (v := x) rfl (by decide)) (w_ofb (fl_eq (c := "NoAnswers") (v := x) rfl (by decide)) ?_)))
    refine w_ofb (fl_eq (c := "NoNumber") (v := x) rfl (by decide)) (w_ofb (fl_eq (c := "NoRelation") (v := x) rfl (by decide)) (w_ofb (fl_eq (c := "NotOne") (v := x) rfl (by decide)) (w_ofb (fl_eq (c := "NoUnknown") (v := x) rfl (by decide)) ?_)))
    refine w_ofb (fl_eq (c := "NoVersion") (v := x) rfl (by decide)) (w_ofb (fl_eq (c := "Rejected") (v := x) rfl (by decide)) (w_ofb (fl_eq (c := "TooHard") (v := x) rfl (by decide)) ?_))
    have l11 : timesL [x] (11 : Int) = [x, x, x, x, x, x, x, x, x, x, x] := rfl
    have l2 : timesL [timesL [x] (11 : Int)] (2 : Int) = [[x, x, x, x, x, x, x, x, x, x, x], [x, x, x, x, x, x, x, x, x, x, x]] := rfl
    have ok : okR ((cL (cL cA)).enc [[x, x, x, x, x, x, x, x, x, x, x], [x, x, x, x, x, x, x, x, x, x, x]]) := by
      have hr := hx.rep (by decide) (by decide)
      show okR (.list [.list [x, x, x, x, x, x, x, x, x, x, x], .list [x, x, x, x, x, x, x, x, x, x, x]])
      refine ⟨by simp [PyData.showable, PyData.showableAll, hr.1], Nat.le_trans (shown_le _) ?_, ?_⟩
      · have := hx.le
        simp only [sz, szs]
        omega
      · have := hx.dp
        simp only [PyData.depth, PyData.depthAll]
        omega
    refine w_needs (by simp) (w_needs (by simp) (w_needs (by simp) (w_needs (by simp) ?_)))
    refine w_needs ok (w_needs (by simp) (w_needs (by simp) ?_))
    rw [l2]
    refine w_needs ok ?_
    rw [if_neg (by simp)]
    exact rfl
end Law
namespace Law
open PySem PySem.Spec PyProof.Rows L2 DL TL
theorem main (A : Str → Option Addr) (ns : List Int) (hn : ns.length ≤ 63) : wCall T A 100 6 [.w ns] (fun _ => none) (fun d _ => d = .d (.bool true)) :=
  law_start (np := 0) (n := 98) (k := 8) (de := 0) rfl rfl hn (tb_law 96) rfl law_true (tabs_no rfl)
end Law
open DL
open PySem PySem.W PyProof.Rows in
set_option maxHeartbeats 0 in
theorem PySem.Challenge.cw_sixkeepers_k00_errors_and_bounds_holds : PySem.Challenge.rw_sixkeepers_k00_errors_and_bounds.Holds := by
  w_on; o_law; k_head; (case hw => w_witness2)
  k_fill
  refine DL.walk_end (l := PySem.Challenge.rw_sixkeepers_k00_errors_and_bounds) (k := 100) (lf := 6) (G := Law.G) (T := Law.T) rfl (by decide) rfl ⟨rfl, by decide, by decide⟩ rfl (fun w h Y => PySem.W.kIn_of Y) (by decide +kernel) ?top (fun A ns hc hn => Law.main A ns hn)
  intro w mg h KX Gh
  refine' ⟨NoAll.get (.cons (PySem.W.mg_none_of KX Gh ?zb0) (.cons (PySem.W.mg_none_of KX Gh ?zb1) (.cons (PySem.W.mg_none_of KX Gh ?zb2) (.cons (PySem.W.mg_none_of KX Gh ?zb3) (.cons (PySem.W.mg_none_of KX Gh ?zb4) (.cons (PySem.W.mg_none_of KX Gh ?zb5) (.cons (PySem.W.mg_none_of KX Gh ?zb6) (.cons (PySem.W.mg_none_of KX Gh ?zb7) (.cons (PySem.W.mg_none_of KX Gh ?zb8) (.cons (PySem.W.mg_none_of KX Gh ?zb9) (.cons (PySem.W.mg_none_of KX Gh ?zb10) (.cons (PySem.W.mg_none_of KX Gh ?zb11) (.cons (PySem.W.mg_none_of KX Gh ?zb12) (.cons (PySem.W.mg_none_of KX Gh ?zb13) (.cons (PySem.W.mg_none_of KX Gh ?zb14) (.cons (PySem.W.mg_none_of KX Gh ?zb15) (.cons (PySem.W.mg_none_of KX Gh ?zb16) (.cons (PySem.W.mg_none_of KX Gh ?zb17) (.cons (PySem.W.mg_none_of KX Gh ?zb18) (.cons (PySem.W.mg_none_of KX Gh ?zb19) (.nil))))))))))))))))))))), CsAll.get (.cons (PySem.W.mg_of KX Gh ?zg0) cst_int (.cons (PySem.W.mg_of KX Gh ?zg1) cst_int (.cons (PySem.W.mg_of KX Gh ?zg2) cst_int (.cons (PySem.W.mg_of KX Gh ?zg3) cst_int (.cons (PySem.W.mg_of KX Gh ?zg4) cst_int (.cons (PySem.W.mg_of KX Gh ?zg5) cst_int (.cons (PySem.W.mg_of KX Gh ?zg6) cst_int (.cons (PySem.W.mg_of KX Gh ?zg7) cst_int (.cons (PySem.W.mg_of KX Gh ?zg8) cst_int (.cons (PySem.W.mg_of KX Gh ?zg9) cst_int (.cons (PySem.W.mg_of KX Gh ?zg10) cst_int (.cons (PySem.W.mg_of KX Gh ?zg11) cst_int (.cons (PySem.W.mg_of KX Gh ?zg12) cst_int (.cons (PySem.W.mg_of KX Gh ?zg13) cst_int (.cons (PySem.W.mg_of KX Gh ?zg14) cst_int (.cons (PySem.W.mg_of KX Gh ?zg15) cst_int (.cons (PySem.W.mg_of KX Gh ?zg16) cst_int (.cons (PySem.W.mg_of KX Gh ?zg17) cst_int (.nil))))))))))))))))))), DsAll.get (.nil), FsAll.get (.cons (N := Law.N_law_deck) (ps := Law.P_law_deck) (st := Law.top 37) (atG (PySem.W.mg_of KX Gh ?za0) ?zk0) (fnAt_mk ?zl0 ?zc0 ?zk0 Law.sc_law_deck ⟨rfl, rfl, rfl, rfl, rfl⟩ rfl rfl Law.ch_law_deck) (by decide) (.cons (N := Law.N_law_draw) (ps := Law.P_law_draw) (st := Law.top 38) (atG (PySem.W.mg_of KX Gh ?za1) ?zk1) (fnAt_mk ?zl1 ?zc1 ?zk1 Law.sc_law_draw ⟨rfl, rfl, rfl, rfl, rfl⟩ rfl rfl Law.ch_law_draw) (by decide) (.cons (N := Law.N_law_one) (ps := Law.P_law_one) (st := Law.top 39) (atG (PySem.W.mg_of KX Gh ?za2) ?zk2) (fnAt_mk ?zl2 ?zc2 ?zk2 Law.sc_law_one ⟨rfl, rfl, rfl, rfl, rfl⟩ rfl rfl Law.ch_law_one) (by decide) (.cons (N := Law.N_law_odd) (ps := Law.P_law_odd) (st := Law.top 40) (atG (PySem.W.mg_of KX Gh ?za3) ?zk3) (fnAt_mk ?zl3 ?zc3 ?zk3 Law.sc_law_odd ⟨rfl, rfl, rfl, rfl, rfl⟩ rfl rfl Law.ch_law_odd) (by decide) (.cons (N := Law.N_law_made) (ps := Law.P_law_made) (st := Law.top 41) (atG (PySem.W.mg_of KX Gh ?za4) ?zk4) (fnAt_mk ?zl4 ?zc4 ?zk4 Law.sc_law_made ⟨rfl, rfl, rfl, rfl, rfl⟩ rfl rfl Law.ch_law_made) (by decide) (.cons (N := Law.N_law_classes) (ps := Law.P_law_classes) (st := Law.top 42) (atG (PySem.W.mg_of KX Gh ?za5) ?zk5) (fnAt_mk ?zl5 ?zc5 ?zk5 Law.sc_law_classes ⟨rfl, rfl, rfl, rfl, rfl⟩ rfl rfl Law.ch_law_classes) (by decide) (.cons (N := Law.N_law) (ps := Law.P_law) (st := Law.top 43) (atG (PySem.W.mg_of KX Gh ?za6) ?zk6) (fnAt_mk ?zl6 ?zc6 ?zk6 Law.sc_law ⟨rfl, rfl, rfl, rfl, rfl⟩ rfl rfl Law.ch_law) (by decide) (.nil)))))))), KsAll.get (.nil), TdAll.get (.nil), EcAll.get (.nil), RfAll.get (.nil), TcAll.get (.nil), GnAll.get (.nil), ev_all KX Gh (.cons (ev_mk0 KX Gh ?wa0 ?wb0 ?wc0 ?wd0) (.cons (ev_mk1 KX Gh ?wa1 ?wb1 ?wc1 (sup_mk (st := clsMem (Law.top 3) 0) (PySem.W.mg_of KX Gh ?wa1) ?vb1 ?vc1 ?vd1 ?ve1 ?vf1 ?vg1 ?vh1 ?vi1 ?vj1 Law.xt_BadRow Law.xs_BadRow ⟨rfl, rfl, rfl, rfl, rfl⟩ ?vk1 ?vl1 ?vm1 ?vn1 ?vo1 ?vp1 ?vq1 ?vr1 ?vs1 ?vt1 ?wb1 ?wd1) ?wd1) (.cons (ev_mk1 KX Gh ?wa2 ?wb2 ?wc2 (sup_mk (st := clsMem (Law.top 4) 0) (PySem.W.mg_of KX Gh ?wa2) ?vb2 ?vc2 ?vd2 ?ve2 ?vf2 ?vg2 ?vh2 ?vi2 ?vj2 Law.xt_BadStock Law.xs_BadStock ⟨rfl, rfl, rfl, rfl, rfl⟩ ?vk2 ?vl2 ?vm2 ?vn2 ?vo2 ?vp2 ?vq2 ?vr2 ?vs2 ?vt2 ?wb2 ?wd2) ?wd2) (.cons (ev_mk1 KX Gh ?wa3 ?wb3 ?wc3 (sup_mk (st := clsMem (Law.top 5) 0) (PySem.W.mg_of KX Gh ?wa3) ?vb3 ?vc3 ?vd3 ?ve3 ?vf3 ?vg3 ?vh3 ?vi3 ?vj3 Law.xt_BadText Law.xs_BadText ⟨rfl, rfl, rfl, rfl, rfl⟩ ?vk3 ?vl3 ?vm3 ?vn3 ?vo3 ?vp3 ?vq3 ?vr3 ?vs3 ?vt3 ?wb3 ?wd3) ?wd3) (.cons (ev_mk0 KX Gh ?wa4 ?wb4 ?wc4 ?wd4) (.cons (ev_mk1 KX Gh ?wa5 ?wb5 ?wc5 (sup_mk (st := clsMem (Law.top 7) 0) (PySem.W.mg_of KX Gh ?wa5) ?vb5 ?vc5 ?vd5 ?ve5 ?vf5 ?vg5 ?vh5 ?vi5 ?vj5 Law.xt_NoAnswers Law.xs_NoAnswers ⟨rfl, rfl, rfl, rfl, rfl⟩ ?vk5 ?vl5 ?vm5 ?vn5 ?vo5 ?vp5 ?vq5 ?vr5 ?vs5 ?vt5 ?wb5 ?wd5) ?wd5) (.cons (ev_mk1 KX Gh ?wa6 ?wb6 ?wc6 (sup_mk (st := clsMem (Law.top 8) 0) (PySem.W.mg_of KX Gh ?wa6) ?vb6 ?vc6 ?vd6 ?ve6 ?vf6 ?vg6 ?vh6 ?vi6 ?vj6 Law.xt_NoNumber Law.xs_NoNumber ⟨rfl, rfl, rfl, rfl, rfl⟩ ?vk6 ?vl6 ?vm6 ?vn6 ?vo6 ?vp6 ?vq6 ?vr6 ?vs6 ?vt6 ?wb6 ?wd6) ?wd6) (.cons (ev_mk1 KX Gh ?wa7 ?wb7 ?wc7 (sup_mk (st := clsMem (Law.top 9) 0) (PySem.W.mg_of KX Gh ?wa7) ?vb7 ?vc7 ?vd7 ?ve7 ?vf7 ?vg7 ?vh7 ?vi7 ?vj7 Law.xt_NoRelation Law.xs_NoRelation ⟨rfl, rfl, rfl, rfl, rfl⟩ ?vk7 ?vl7 ?vm7 ?vn7 ?vo7 ?vp7 ?vq7 ?vr7 ?vs7 ?vt7 ?wb7 ?wd7) ?wd7) (.cons (ev_mk1 KX Gh ?wa8 ?wb8 ?wc8 (sup_mk (st := clsMem (Law.top 10) 0) (PySem.W.mg_of KX Gh ?wa8) ?vb8 ?vc8 ?vd8 ?ve8 ?vf8 ?vg8 ?vh8 ?vi8 ?vj8 Law.xt_NotOne Law.xs_NotOne ⟨rfl, rfl, rfl, rfl, rfl⟩ ?vk8 ?vl8 ?vm8 ?vn8 ?vo8 ?vp8 ?vq8 ?vr8 ?vs8 ?vt8 ?wb8 ?wd8) ?wd8) (.cons (ev_mk0 KX Gh ?wa9 ?wb9 ?wc9 ?wd9) (.cons (ev_mk1 KX Gh ?wa10 ?wb10 ?wc10 (sup_mk (st := clsMem (Law.top 12) 0) (PySem.W.mg_of KX Gh ?wa10) ?vb10 ?vc10 ?vd10 ?ve10 ?vf10 ?vg10 ?vh10 ?vi10 ?vj10 Law.xt_NoUnknown Law.xs_NoUnknown ⟨rfl, rfl, rfl, rfl, rfl⟩ ?vk10 ?vl10 ?vm10 ?vn10 ?vo10 ?vp10 ?vq10 ?vr10 ?vs10 ?vt10 ?wb10 ?wd10) ?wd10) (.cons (ev_mk1 KX Gh ?wa11 ?wb11 ?wc11 (sup_mk (st := clsMem (Law.top 13) 0) (PySem.W.mg_of KX Gh ?wa11) ?vb11 ?vc11 ?vd11 ?ve11 ?vf11 ?vg11 ?vh11 ?vi11 ?vj11 Law.xt_NoVersion Law.xs_NoVersion ⟨rfl, rfl, rfl, rfl, rfl⟩ ?vk11 ?vl11 ?vm11 ?vn11 ?vo11 ?vp11 ?vq11 ?vr11 ?vs11 ?vt11 ?wb11 ?wd11) ?wd11) (.cons (ev_mk1 KX Gh ?wa12 ?wb12 ?wc12 (sup_mk (st := clsMem (Law.top 14) 0) (PySem.W.mg_of KX Gh ?wa12) ?vb12 ?vc12 ?vd12 ?ve12 ?vf12 ?vg12 ?vh12 ?vi12 ?vj12 Law.xt_Rejected Law.xs_Rejected ⟨rfl, rfl, rfl, rfl, rfl⟩ ?vk12 ?vl12 ?vm12 ?vn12 ?vo12 ?vp12 ?vq12 ?vr12 ?vs12 ?vt12 ?wb12 ?wd12) ?wd12) (.cons (ev_mk1 KX Gh ?wa13 ?wb13 ?wc13 (sup_mk (st := clsMem (Law.top 15) 0) (PySem.W.mg_of KX Gh ?wa13) ?vb13 ?vc13 ?vd13 ?ve13 ?vf13 ?vg13 ?vh13 ?vi13 ?vj13 Law.xt_TooHard Law.xs_TooHard ⟨rfl, rfl, rfl, rfl, rfl⟩ ?vk13 ?vl13 ?vm13 ?vn13 ?vo13 ?vp13 ?vq13 ?vr13 ?vs13 ?vt13 ?wb13 ?wd13) ?wd13) (.cons (ev_mk0 KX Gh ?wa14 ?wb14 ?wc14 ?wd14) (.cons (ev_mk0 KX Gh ?wa15 ?wb15 ?wc15 ?wd15) (.nil))))))))))))))))) ?wi (by decide +kernel)⟩
  (case za0 => k_is)
  (case zl0 => k_is)
  (case zc0 => k_is)
  (case zk0 => k_is)
  (case za1 => k_is)
  (case zl1 => k_is)
  (case zc1 => k_is)
  (case zk1 => k_is)
  (case za2 => k_is)
  (case zl2 => k_is)
  (case zc2 => k_is)
  (case zk2 => k_is)
  (case za3 => k_is)
  (case zl3 => k_is)
  (case zc3 => k_is)
  (case zk3 => k_is)
  (case za4 => k_is)
  (case zl4 => k_is)
  (case zc4 => k_is)
  (case zk4 => k_is)
  (case za5 => k_is)
  (case zl5 => k_is)
  (case zc5 => k_is)
  (case zk5 => k_is)
  (case za6 => k_is)
  (case zl6 => k_is)
  (case zc6 => k_is)
  (case zk6 => k_is)
  (case zg0 => k_is)
  (case zg1 => k_is)
  (case zg2 => k_is)
  (case zg3 => k_is)
  (case zg4 => k_is)
  (case zg5 => k_is)
  (case zg6 => k_is)
  (case zg7 => k_is)
  (case zg8 => k_is)
  (case zg9 => k_is)
  (case zg10 => k_is)
  (case zg11 => k_is)
  (case zg12 => k_is)
  (case zg13 => k_is)
  (case zg14 => k_is)
  (case zg15 => k_is)
  (case zg16 => k_is)
  (case zg17 => k_is)
  (case zb0 => k_is)
  (case zb1 => k_is)
  (case zb2 => k_is)
  (case zb3 => k_is)
  (case zb4 => k_is)
  (case zb5 => k_is)
  (case zb6 => k_is)
  (case zb7 => k_is)
  (case zb8 => k_is)
  (case zb9 => k_is)
  (case zb10 => k_is)
  (case zb11 => k_is)
  (case zb12 => k_is)
  (case zb13 => k_is)
  (case zb14 => k_is)
  (case zb15 => k_is)
  (case zb16 => k_is)
  (case zb17 => k_is)
  (case zb18 => k_is)
  (case zb19 => k_is)
  (case wa15 => first | k_is | kernel_rfl)
  (case wb15 => first | k_is | kernel_rfl)
  (case wd15 => first | k_is | kernel_rfl)
  (case wc15 => kernel_rfl)
  (case wa14 => first | k_is | kernel_rfl)
  (case wb14 => first | k_is | kernel_rfl)
  (case wd14 => first | k_is | kernel_rfl)
  (case wc14 => kernel_rfl)
  (case wa13 => first | k_is | kernel_rfl)
  (case wb13 => first | k_is | kernel_rfl)
  (case vb13 => first | k_is | kernel_rfl)
  (case vc13 => first | k_is | kernel_rfl)
  (case vd13 => first | k_is | kernel_rfl)
  (case ve13 => first | k_is | kernel_rfl)
  (case vf13 => first | k_is | kernel_rfl)
  (case vg13 => rfl)
  (case vh13 => rfl)
  (case vi13 => first | k_is | kernel_rfl)
  (case vj13 => rfl)
  (case vp13 => first | k_is | kernel_rfl)
  (case vk13 => first | k_is | kernel_rfl)
  (case vl13 => first | k_is | kernel_rfl)
  (case vm13 => first | k_is | kernel_rfl)
  (case vn13 => first | k_is | kernel_rfl)
  (case vo13 => first | k_is | kernel_rfl)
  (case vq13 => rfl)
  (case vr13 => first | k_is | kernel_rfl)
  (case vs13 => first | k_is | kernel_rfl)
  (case vt13 => first | k_is | kernel_rfl)
  (case wd13 => first | k_is | kernel_rfl)
  (case wc13 => kernel_rfl)
  (case wa12 => first | k_is | kernel_rfl)
  (case wb12 => first | k_is | kernel_rfl)
  (case vb12 => first | k_is | kernel_rfl)
  (case vc12 => first | k_is | kernel_rfl)
  (case vd12 => first | k_is | kernel_rfl)
  (case ve12 => first | k_is | kernel_rfl)
  (case vf12 => first | k_is | kernel_rfl)
  (case vg12 => rfl)
  (case vh12 => rfl)
  (case vi12 => first | k_is | kernel_rfl)
  (case vj12 => rfl)
  (case vp12 => first | k_is | kernel_rfl)
  (case vk12 => first | k_is | kernel_rfl)
  (case vl12 => first | k_is | kernel_rfl)
  (case vm12 => first | k_is | kernel_rfl)
  (case vn12 => first | k_is | kernel_rfl)
  (case vo12 => first | k_is | kernel_rfl)
  (case vq12 => rfl)
  (case vr12 => first | k_is | kernel_rfl)
  (case vs12 => first | k_is | kernel_rfl)
  (case vt12 => first | k_is | kernel_rfl)
  (case wd12 => first | k_is | kernel_rfl)
  (case wc12 => kernel_rfl)
  (case wa11 => first | k_is | kernel_rfl)
  (case wb11 => first | k_is | kernel_rfl)
  (case vb11 => first | k_is | kernel_rfl)
  (case vc11 => first | k_is | kernel_rfl)
  (case vd11 => first | k_is | kernel_rfl)
  (case ve11 => first | k_is | kernel_rfl)
  (case vf11 => first | k_is | kernel_rfl)
  (case vg11 => rfl)
  (case vh11 => rfl)
  (case vi11 => first | k_is | kernel_rfl)
  (case vj11 => rfl)
  (case vp11 => first | k_is | kernel_rfl)
  (case vk11 => first | k_is | kernel_rfl)
  (case vl11 => first | k_is | kernel_rfl)
  (case vm11 => first | k_is | kernel_rfl)
  (case vn11 => first | k_is | kernel_rfl)
  (case vo11 => first | k_is | kernel_rfl)
  (case vq11 => rfl)
  (case vr11 => first | k_is | kernel_rfl)
  (case vs11 => first | k_is | kernel_rfl)
  (case vt11 => first | k_is | kernel_rfl)
  (case wd11 => first | k_is | kernel_rfl)
  (case wc11 => kernel_rfl)
  (case wa10 => first | k_is | kernel_rfl)
  (case wb10 => first | k_is | kernel_rfl)
  (case vb10 => first | k_is | kernel_rfl)
  (case vc10 => first | k_is | kernel_rfl)
  (case vd10 => first | k_is | kernel_rfl)
  (case ve10 => first | k_is | kernel_rfl)
  (case vf10 => first | k_is | kernel_rfl)
  (case vg10 => rfl)
  (case vh10 => rfl)
  (case vi10 => first | k_is | kernel_rfl)
  (case vj10 => rfl)
  (case vp10 => first | k_is | kernel_rfl)
  (case vk10 => first | k_is | kernel_rfl)
  (case vl10 => first | k_is | kernel_rfl)
  (case vm10 => first | k_is | kernel_rfl)
  (case vn10 => first | k_is | kernel_rfl)
  (case vo10 => first | k_is | kernel_rfl)
  (case vq10 => rfl)
  (case vr10 => first | k_is | kernel_rfl)
  (case vs10 => first | k_is | kernel_rfl)
  (case vt10 => first | k_is | kernel_rfl)
  (case wd10 => first | k_is | kernel_rfl)
  (case wc10 => kernel_rfl)
  (case wa9 => first | k_is | kernel_rfl)
  (case wb9 => first | k_is | kernel_rfl)
  (case wd9 => first | k_is | kernel_rfl)
  (case wc9 => kernel_rfl)
  (case wa8 => first | k_is | kernel_rfl)
  (case wb8 => first | k_is | kernel_rfl)
  (case vb8 => first | k_is | kernel_rfl)
  (case vc8 => first | k_is | kernel_rfl)
  (case vd8 => first | k_is | kernel_rfl)
  (case ve8 => first | k_is | kernel_rfl)
  (case vf8 => first | k_is | kernel_rfl)
  (case vg8 => rfl)
  (case vh8 => rfl)
  (case vi8 => first | k_is | kernel_rfl)
  (case vj8 => rfl)
  (case vp8 => first | k_is | kernel_rfl)
  (case vk8 => first | k_is | kernel_rfl)
  (case vl8 => first | k_is | kernel_rfl)
  (case vm8 => first | k_is | kernel_rfl)
  (case vn8 => first | k_is | kernel_rfl)
  (case vo8 => first | k_is | kernel_rfl)
  (case vq8 => rfl)
  (case vr8 => first | k_is | kernel_rfl)
  (case vs8 => first | k_is | kernel_rfl)
  (case vt8 => first | k_is | kernel_rfl)
  (case wd8 => first | k_is | kernel_rfl)
  (case wc8 => kernel_rfl)
  (case wa7 => first | k_is | kernel_rfl)
  (case wb7 => first | k_is | kernel_rfl)
  (case vb7 => first | k_is | kernel_rfl)
  (case vc7 => first | k_is | kernel_rfl)
  (case vd7 => first | k_is | kernel_rfl)
  (case ve7 => first | k_is | kernel_rfl)
  (case vf7 => first | k_is | kernel_rfl)
  (case vg7 => rfl)
  (case vh7 => rfl)
  (case vi7 => first | k_is | kernel_rfl)
  (case vj7 => rfl)
  (case vp7 => first | k_is | kernel_rfl)
  (case vk7 => first | k_is | kernel_rfl)
  (case vl7 => first | k_is | kernel_rfl)
  (case vm7 => first | k_is | kernel_rfl)
  (case vn7 => first | k_is | kernel_rfl)
  (case vo7 => first | k_is | kernel_rfl)
  (case vq7 => rfl)
  (case vr7 => first | k_is | kernel_rfl)
  (case vs7 => first | k_is | kernel_rfl)
  (case vt7 => first | k_is | kernel_rfl)
  (case wd7 => first | k_is | kernel_rfl)
  (case wc7 => kernel_rfl)
  (case wa6 => first | k_is | kernel_rfl)
  (case wb6 => first | k_is | kernel_rfl)
  (case vb6 => first | k_is | kernel_rfl)
  (case vc6 => first | k_is | kernel_rfl)
  (case vd6 => first | k_is | kernel_rfl)
  (case ve6 => first | k_is | kernel_rfl)
  (case vf6 => first | k_is | kernel_rfl)
  (case vg6 => rfl)
  (case vh6 => rfl)
  (case vi6 => first | k_is | kernel_rfl)
  (case vj6 => rfl)
  (case vp6 => first | k_is | kernel_rfl)
  (case vk6 => first | k_is | kernel_rfl)
  (case vl6 => first | k_is | kernel_rfl)
  (case vm6 => first | k_is | kernel_rfl)
  (case vn6 => first | k_is | kernel_rfl)
  (case vo6 => first | k_is | kernel_rfl)
  (case vq6 => rfl)
  (case vr6 => first | k_is | kernel_rfl)
  (case vs6 => first | k_is | kernel_rfl)
  (case vt6 => first | k_is | kernel_rfl)
  (case wd6 => first | k_is | kernel_rfl)
  (case wc6 => kernel_rfl)
  (case wa5 => first | k_is | kernel_rfl)
  (case wb5 => first | k_is | kernel_rfl)
  (case vb5 => first | k_is | kernel_rfl)
  (case vc5 => first | k_is | kernel_rfl)
  (case vd5 => first | k_is | kernel_rfl)
  (case ve5 => first | k_is | kernel_rfl)
  (case vf5 => first | k_is | kernel_rfl)
  (case vg5 => rfl)
  (case vh5 => rfl)
  (case vi5 => first | k_is | kernel_rfl)
  (case vj5 => rfl)
  (case vp5 => first | k_is | kernel_rfl)
  (case vk5 => first | k_is | kernel_rfl)
  (case vl5 => first | k_is | kernel_rfl)
  (case vm5 => first | k_is | kernel_rfl)
  (case vn5 => first | k_is | kernel_rfl)
  (case vo5 => first | k_is | kernel_rfl)
  (case vq5 => rfl)
  (case vr5 => first | k_is | kernel_rfl)
  (case vs5 => first | k_is | kernel_rfl)
  (case vt5 => first | k_is | kernel_rfl)
  (case wd5 => first | k_is | kernel_rfl)
  (case wc5 => kernel_rfl)
  (case wa4 => first | k_is | kernel_rfl)
  (case wb4 => first | k_is | kernel_rfl)
  (case wd4 => first | k_is | kernel_rfl)
  (case wc4 => kernel_rfl)
  (case wa3 => first | k_is | kernel_rfl)
  (case wb3 => first | k_is | kernel_rfl)
  (case vb3 => first | k_is | kernel_rfl)
  (case vc3 => first | k_is | kernel_rfl)
  (case vd3 => first | k_is | kernel_rfl)
  (case ve3 => first | k_is | kernel_rfl)
  (case vf3 => first | k_is | kernel_rfl)
  (case vg3 => rfl)
  (case vh3 => rfl)
  (case vi3 => first | k_is | kernel_rfl)
  (case vj3 => rfl)
  (case vp3 => first | k_is | kernel_rfl)
  (case vk3 => first | k_is | kernel_rfl)
  (case vl3 => first | k_is | kernel_rfl)
  (case vm3 => first | k_is | kernel_rfl)
  (case vn3 => first | k_is | kernel_rfl)
  (case vo3 => first | k_is | kernel_rfl)
  (case vq3 => rfl)
  (case vr3 => first | k_is | kernel_rfl)
  (case vs3 => first | k_is | kernel_rfl)
  (case vt3 => first | k_is | kernel_rfl)
  (case wd3 => first | k_is | kernel_rfl)
  (case wc3 => kernel_rfl)
  (case wa2 => first | k_is | kernel_rfl)
  (case wb2 => first | k_is | kernel_rfl)
  (case vb2 => first | k_is | kernel_rfl)
  (case vc2 => first | k_is | kernel_rfl)
  (case vd2 => first | k_is | kernel_rfl)
  (case ve2 => first | k_is | kernel_rfl)
  (case vf2 => first | k_is | kernel_rfl)
  (case vg2 => rfl)
  (case vh2 => rfl)
  (case vi2 => first | k_is | kernel_rfl)
  (case vj2 => rfl)
  (case vp2 => first | k_is | kernel_rfl)
  (case vk2 => first | k_is | kernel_rfl)
  (case vl2 => first | k_is | kernel_rfl)
  (case vm2 => first | k_is | kernel_rfl)
  (case vn2 => first | k_is | kernel_rfl)
  (case vo2 => first | k_is | kernel_rfl)
  (case vq2 => rfl)
  (case vr2 => first | k_is | kernel_rfl)
  (case vs2 => first | k_is | kernel_rfl)
  (case vt2 => first | k_is | kernel_rfl)
  (case wd2 => first | k_is | kernel_rfl)
  (case wc2 => kernel_rfl)
  (case wa1 => first | k_is | kernel_rfl)
  (case wb1 => first | k_is | kernel_rfl)
  (case vb1 => first | k_is | kernel_rfl)
  (case vc1 => first | k_is | kernel_rfl)
  (case vd1 => first | k_is | kernel_rfl)
  (case ve1 => first | k_is | kernel_rfl)
  (case vf1 => first | k_is | kernel_rfl)
  (case vg1 => rfl)
  (case vh1 => rfl)
  (case vi1 => first | k_is | kernel_rfl)
  (case vj1 => rfl)
  (case vp1 => first | k_is | kernel_rfl)
  (case vk1 => first | k_is | kernel_rfl)
  (case vl1 => first | k_is | kernel_rfl)
  (case vm1 => first | k_is | kernel_rfl)
  (case vn1 => first | k_is | kernel_rfl)
  (case vo1 => first | k_is | kernel_rfl)
  (case vq1 => rfl)
  (case vr1 => first | k_is | kernel_rfl)
  (case vs1 => first | k_is | kernel_rfl)
  (case vt1 => first | k_is | kernel_rfl)
  (case wd1 => first | k_is | kernel_rfl)
  (case wc1 => kernel_rfl)
  (case wa0 => first | k_is | kernel_rfl)
  (case wb0 => first | k_is | kernel_rfl)
  (case wd0 => first | k_is | kernel_rfl)
  (case wc0 => kernel_rfl)
  (case wi => kernel_rfl)
