import PyProof.Rows.All
import Wide.All
import OpenK.AllK
import Wide.FinOn
import HandS.ForMost
import HandS.Deep
import HandS.IsInst
import HandS.Walk
import HandS.Defaults
import HandS.ExcIs
import HandS.ExcField
import HandS.ExcInit
import HandS.ExcValue
import HandS.Style
import HandS.TupAny
import HandS.Wide
import HandS.StrMore
import HandS.TupMul
import KE.DataEq
import KE.SortKeyHeap
import HandS.Lambda
import KE.LtData
import HandS.Strs
import HandS.Set
import HandS.More
import KE.KDictSum
import KE.OsSortAny
import PyProof.Rows.SortStr
import PyProof.CollectIter
import HandS.Iter
import KE.GoesMore
import HandS.HeadWalk
import HandS.EndTab
import HandS.SortKw
import HandS.Keys
import HandS.Small
import KE.KNestM
import PyProof.Rows.FactsExc_KeyError
import PyProof.ExcBaseAll.LookupError
import PyProof.ExcBaseAll.IndexError
import PyProof.ExcBaseAll.RuntimeError
import PySem.Challenge.RW_groupedplans_k04_values_and_houses
set_option Elab.async false
set_option linter.all false
set_option maxRecDepth 100000
namespace Mp
open PySem PySem.Spec L2
open PyProof.Rows hiding St

abbrev D := PyData
instance : Inhabited D := ⟨.none⟩

/-! ### data that stands still -/
/-- a list that nobody may change: known to its object, or written -/
def FzL (K : PySem.W.Frag) (H : Hp) (a : Addr) (xs : List V) : Prop :=
  (∃ o, H a = some (.frz o (.lst xs))) ∨
    ∃ (o : Obj) (its : Array Value) (n : Nat), K.lookup a = some o ∧ o.cls = .type "list" ∧ o.dict = none ∧ o.data = .seq its n ∧ its.size ≤ sizeLine ∧ Vals xs its.toList
theorem FzL.sq {K : PySem.W.Frag} {H : Hp} {a : Addr} {xs : List V} (h : FzL K H a xs) : SqL K H a xs := by
  rcases h with ⟨o, h⟩ | h
  · exact .inl (.inr ⟨o, h⟩)
  · exact .inr h
def keyD : Key → D
  | .inl i => .int i
  | .inr x => .str x
/-! ### objects of classes, as data: a dict with a marked first key -/
def HUGE : Int := 2 ^ 1920
def MK : D := .tuple [.int HUGE]
def isMK : D → Bool
  | .tuple [.int i] => decide (i = HUGE)
  | _ => false
theorem isMK_eq {d : D} (h : isMK d = true) : d = MK := by
  unfold isMK at h
  split at h
  · rw [of_decide_eq_true h]; rfl
  · cases h
def isOb : D → Bool
  | .dict ((k, _) :: _) => isMK k
  | _ => false
theorem mk_show : PyData.showable MK = false := by decide +kernel
/-- the class at C is the one of this name -/
structure ClsN (K : PySem.W.Frag) (C : Addr) (nm : Str) : Prop where
  at_ : PySem.W.nsIn K mainGlobals nm = some (some (.ref C))
  kit : ∀ T ∈ ["int", "str", "bool", "tuple", "list", "dict"], PySem.W.kitOne K (.ref C) (.type T) = some false
/-- a class without a base of its own -/
structure PlC (K : PySem.W.Frag) (C : Addr) : Prop where
  cl : Cls K C
  ha : PySem.W.findIn K (.ref C) "__class__" = some (some (.builtin "object.__class__"))
  hn : PySem.W.specialIn K (.builtin "object.__class__") "__get__" = some (some (.builtin "getset_descriptor.__get__"))
  htk : PySem.W.takesIn K (.builtin "object.__class__") = some true
  hm : PySem.W.mroIn K C (.type "object") = some true
theorem ClsN.uniq {K : PySem.W.Frag} {C D : Addr} {nm : Str} (a : ClsN K C nm) (b : ClsN K D nm) : C = D := by
  have := a.at_.symm.trans b.at_
  injection this with e
  injection e with e
  injection e
/-- at a stands an object of the class at C that nobody changes, with these fields -/
inductive ObAt (K : PySem.W.Frag) (H : Hp) (a C : Addr) : List (Str × V) → Prop
  | exc {oI oD : Obj} {u : HO} {dx : Addr} {vs : Array Value} {fs : List (Str × V)} : H a = some (.frz oI u) → oI.cls = .ref C → oI.dict = some dx → oI.data = .fields vs → H dx = some (.frz oD (.xd fs)) → ExcC K C → ObAt K H a C fs
  | exc0 {oI : Obj} {u : HO} {vs : Array Value} : H a = some (.frz oI u) → oI.cls = .ref C → oI.dict = none → oI.data = .fields vs → ExcC K C → ObAt K H a C []
  | ins {oI : Obj} {dx : Addr} {fs : List (Str × V)} : H a = some (.frz oI (.ins C dx fs)) → PlC K C → ObAt K H a C fs
def fKey (fs : List (Str × V)) : List (Key × V) := fs.map fun p => (.inr p.1, p.2)
mutual
inductive Rz (K : PySem.W.Frag) (H : Hp) : V → D → Prop
  | non : Rz K H .non .none
  | bl (b : Bool) : Rz K H (.bl b) (.bool b)
  | int (i : Int) : Rz K H (.int i) (.int i)
  | str (x : Str) : Rz K H (.str x) (.str x)
  | lst {a : Addr} {xs : List V} {ds : List D} : FzL K H a xs → RzAll K H xs ds → Rz K H (.ref a) (.list ds)
  | tup {a : Addr} {xs : List V} {ds : List D} : SqT K H a xs → RzAll K H xs ds → Rz K H (.ref a) (.tuple ds)
  | dct {a : Addr} {o : Obj} {ks : List (Key × V)} {ds : List (D × D)} : H a = some (.frz o (.dK ks)) → RzKv K H ks ds → Rz K H (.ref a) (.dict ds)
  | obj {a C : Addr} {nm : Str} {fs : List (Str × V)} {ds : List (D × D)} : ObAt K H a C fs → ClsN K C nm → RzKv K H (fKey fs) ds → Rz K H (.ref a) (.dict ((MK, .str nm) :: ds))
inductive RzAll (K : PySem.W.Frag) (H : Hp) : List V → List D → Prop
  | nil : RzAll K H [] []
  | cons {v : V} {vs : List V} {d : D} {ds : List D} : Rz K H v d → RzAll K H vs ds → RzAll K H (v :: vs) (d :: ds)
inductive RzKv (K : PySem.W.Frag) (H : Hp) : List (Key × V) → List (D × D) → Prop
  | nil : RzKv K H [] []
  | cons {k : Key} {v : V} {d : D} {r : List (Key × V)} {rs : List (D × D)} : Rz K H v d → RzKv K H r rs → RzKv K H ((k, v) :: r) ((keyD k, d) :: rs)
end

/-- what is a tuple or stands still, stays -/
def Per (H H' : Hp) : Prop := (∀ b xs, H b = some (.tup xs) → H' b = some (.tup xs)) ∧ (∀ b o u, H b = some (.frz o u) → H' b = some (.frz o u)) ∧ ∀ b P, H b = some (.ext P) → H' b = some (.ext P)
theorem Per.refl (H : Hp) : Per H H := ⟨fun _ _ h => h, fun _ _ _ h => h, fun _ _ h => h⟩
theorem Per.trans {H H1 H2 : Hp} (a : Per H H1) (b : Per H1 H2) : Per H H2 := ⟨fun c xs h => b.1 c xs (a.1 c xs h), fun c o u h => b.2.1 c o u (a.2.1 c o u h), fun c P h => b.2.2 c P (a.2.2 c P h)⟩
theorem Per.of_same {H H' : Hp} (s : Same H H') : Per H H' := ⟨fun b xs h => s b _ h, fun b o u h => s b _ h, fun b P h => s b _ h⟩

theorem FzL.per {K : PySem.W.Frag} {H H' : Hp} {a : Addr} {xs : List V} (p : Per H H') (h : FzL K H a xs) : FzL K H' a xs := by
  rcases h with ⟨o, h⟩ | h
  · exact .inl ⟨o, p.2.1 _ _ _ h⟩
  · exact .inr h
theorem SqT.per {K : PySem.W.Frag} {H H' : Hp} {a : Addr} {xs : List V} (p : Per H H') (h : SqT K H a xs) : SqT K H' a xs := by
  rcases h with (h | ⟨o, h⟩) | h
  · exact .inl (.inl (p.1 _ _ h))
  · exact .inl (.inr ⟨o, p.2.1 _ _ _ h⟩)
  · exact .inr h
theorem ObAt.per {K : PySem.W.Frag} {H H' : Hp} {a C : Addr} {fs : List (Str × V)} (p : Per H H') : ObAt K H a C fs → ObAt K H' a C fs
  | .exc h1 h2 h3 h4 h5 t => .exc (p.2.1 _ _ _ h1) h2 h3 h4 (p.2.1 _ _ _ h5) t
  | .exc0 h1 h2 h3 h4 t => .exc0 (p.2.1 _ _ _ h1) h2 h3 h4 t
  | .ins h t => .ins (p.2.1 _ _ _ h) t
section
variable {K : PySem.W.Frag} {H H' : Hp}
mutual
theorem Rz.per (p : Per H H') : ∀ {v : V} {d : D}, Rz K H v d → Rz K H' v d
  | _, _, .non => .non
  | _, _, .bl b => .bl b
  | _, _, .int i => .int i
  | _, _, .str x => .str x
  | _, _, .lst h r => .lst (h.per p) (RzAll.per p r)
  | _, _, .tup h r => .tup (SqT.per p h) (RzAll.per p r)
  | _, _, .dct h r => .dct (p.2.1 _ _ _ h) (RzKv.per p r)
  | _, _, .obj h n r => .obj (h.per p) n (RzKv.per p r)
theorem RzAll.per (p : Per H H') : ∀ {vs : List V} {ds : List D}, RzAll K H vs ds → RzAll K H' vs ds
  | _, _, .nil => .nil
  | _, _, .cons h r => .cons (Rz.per p h) (RzAll.per p r)
theorem RzKv.per (p : Per H H') : ∀ {vs : List (Key × V)} {ds : List (D × D)}, RzKv K H vs ds → RzKv K H' vs ds
  | _, _, .nil => .nil
  | _, _, .cons h r => .cons (Rz.per p h) (RzKv.per p r)
end
theorem RzAll.length : ∀ {vs : List V} {ds : List D}, RzAll K H vs ds → vs.length = ds.length
  | _, _, .nil => rfl
  | _, _, .cons _ r => by rw [List.length_cons, List.length_cons, RzAll.length r]
theorem RzAll.get : ∀ {vs : List V} {ds : List D} {i : Nat} {d : D}, RzAll K H vs ds → ds[i]? = some d → ∃ v, vs[i]? = some v ∧ Rz K H v d
  | _, _, _, _, .nil, e => by simp at e
  | _, _, 0, _, .cons h _, e => by simp at e; subst e; exact ⟨_, rfl, h⟩
  | _, _, i + 1, d, .cons _ r, e => by
    obtain ⟨v, h1, h2⟩ := RzAll.get (i := i) r (by simpa using e)
    exact ⟨v, by simpa using h1, h2⟩
theorem RzAll.get' : ∀ {vs : List V} {ds : List D} {i : Nat} {v : V}, RzAll K H vs ds → vs[i]? = some v → ∃ d, ds[i]? = some d ∧ Rz K H v d
  | _, _, _, _, .nil, e => by simp at e
  | _, _, 0, _, .cons h _, e => by simp at e; subst e; exact ⟨_, rfl, h⟩
  | _, _, i + 1, d, .cons _ r, e => by
    obtain ⟨v, h1, h2⟩ := RzAll.get' (i := i) r (by simpa using e)
    exact ⟨v, by simpa using h1, h2⟩
theorem RzAll.append : ∀ {vs ws : List V} {ds es : List D}, RzAll K H vs ds → RzAll K H ws es → RzAll K H (vs ++ ws) (ds ++ es)
  | _, _, _, _, .nil, s => s
  | _, _, _, _, .cons h r, s => .cons h (RzAll.append r s)
theorem RzAll.take : ∀ {vs : List V} {ds : List D} (n : Nat), RzAll K H vs ds → RzAll K H (vs.take n) (ds.take n)
  | _, _, 0, _ => .nil
  | _, _, _ + 1, .nil => .nil
  | _, _, n + 1, .cons h r => .cons h (RzAll.take n r)
theorem RzAll.drop : ∀ {vs : List V} {ds : List D} (n : Nat), RzAll K H vs ds → RzAll K H (vs.drop n) (ds.drop n)
  | _, _, 0, r => r
  | _, _, _ + 1, .nil => .nil
  | _, _, n + 1, .cons _ r => RzAll.drop n r
theorem RzAll.set : ∀ {vs : List V} {ds : List D} {v : V} {d : D} (n : Nat), RzAll K H vs ds → Rz K H v d → RzAll K H (vs.set n v) (ds.set n d)
  | _, _, _, _, _, .nil, _ => .nil
  | _, _, _, _, 0, .cons _ r, z => .cons z r
  | _, _, _, _, n + 1, .cons h r, z => .cons h (RzAll.set n r z)
theorem RzAll.eraseIdx : ∀ {vs : List V} {ds : List D} (n : Nat), RzAll K H vs ds → RzAll K H (vs.eraseIdx n) (ds.eraseIdx n)
  | _, _, _, .nil => .nil
  | _, _, 0, .cons _ r => r
  | _, _, n + 1, .cons h r => .cons h (RzAll.eraseIdx n r)
end

/-! ### data without objects -/
mutual
def clean : D → Bool
  | .list ds => cleanAll ds
  | .tuple ds => cleanAll ds
  | .dict ds => cleanKv ds
  | .none => true
  | .bool _ => true
  | .int _ => true
  | .str _ => true
def cleanAll : List D → Bool
  | [] => true
  | d :: r => clean d && cleanAll r
def cleanKv : List (D × D) → Bool
  | [] => true
  | (k, v) :: r => !isMK k && (clean v && cleanKv r)
end
mutual
theorem clean_show : ∀ d : D, d.showable = true → clean d = true
  | .none, _ => by unfold clean; rfl
  | .bool _, _ => by unfold clean; rfl
  | .int _, _ => by unfold clean; rfl
  | .str _, _ => by unfold clean; rfl
  | .list ds, h => by unfold clean; exact clean_showAll ds (by simpa [PyData.showable] using h)
  | .tuple ds, h => by unfold clean; exact clean_showAll ds (by simpa [PyData.showable] using h)
  | .dict ds, h => by unfold clean; exact clean_showKv ds (by simpa [PyData.showable] using h)
theorem clean_showAll : ∀ ds : List D, PyData.showableAll ds = true → cleanAll ds = true
  | [], _ => by unfold cleanAll; rfl
  | d :: r, h => by
    have h' : d.showable = true ∧ PyData.showableAll r = true := by simpa [PyData.showableAll] using h
    unfold cleanAll
    rw [clean_show d h'.1, clean_showAll r h'.2]; rfl
theorem clean_showKv : ∀ ds : List (D × D), PyData.showableKv ds = true → cleanKv ds = true
  | [], _ => by unfold cleanKv; rfl
  | (k, v) :: r, h => by
    have h' : (k.showable = true ∧ v.showable = true) ∧ PyData.showableKv r = true := by simpa [PyData.showableKv] using h
    have nk : isMK k = false := by
      cases e : isMK k with
      | false => rfl
      | true =>
        rw [isMK_eq e] at h'
        exact absurd (h'.1.1.symm.trans mk_show) (by decide)
    unfold cleanKv
    rw [nk, clean_show v h'.1.2, clean_showKv r h'.2]; rfl
end
theorem cleanKv_vals : ∀ ds : List (D × D), cleanKv ds = true → cleanAll (ds.map (·.2)) = true
  | [], _ => rfl
  | (k, v) :: r, h => by
    unfold cleanKv at h
    simp only [Bool.and_eq_true] at h
    rw [List.map_cons, cleanAll, h.2.1, cleanKv_vals r h.2.2]; rfl
theorem mk_unclean {nm : Str} {ds : List (D × D)} : cleanKv ((MK, .str nm) :: ds) = false := by
  unfold cleanKv
  have : isMK MK = true := by
    show decide (HUGE = HUGE) = true
    exact decide_eq_true rfl
  rw [this]; rfl
/-! ### freezing -/
section
variable {X : Cx} {pins : List (Addr × Obj)} {σ : St} {H : Hp} {s : Shared} {a : Addr}
def canFz : HO → Bool
  | .lst _ => true
  | .dK _ => true
  | .ins .. => true
  | _ => false
theorem Inv.freeze {u : HO} (I : Inv X pins σ H s) (h : H a = some u) (hu : canFz u = true) : ∃ o, Inv X pins σ (upd H a (.frz o u)) s := by
  have ok := I.hok a u h
  have : ∃ o, s.heap.get? a = some o := by
    cases u with
    | lst xs => obtain ⟨_, its, n, _, e⟩ := ok; exact ⟨_, e⟩
    | dK kvs => obtain ⟨_, _, vs, _, o, es, ep, e, _⟩ := ok; exact ⟨_, e⟩
    | ins C dx fs => obtain ⟨_, _, _, e, _⟩ := ok; exact ⟨_, e⟩
    | _ => cases hu
  obtain ⟨o, ho⟩ := this
  have ne : ∀ b z, H b = some z → canFz z = false → b ≠ a := fun b z q n e => by
    subst e; rw [h] at q; cases q; rw [hu] at n; cases n
  have hk : HOk X.prog X.w (upd H a (.frz o u)) s.heap := fun b z e => by
    have st : ∀ {c z}, H c = some z → ObjOk X.prog X.w (upd H a (.frz o u)) s.heap c z := fun {c z} q =>
      (I.hok c z q).stay (fun _ _ _ r => r) (fun d r => by rw [upd_ne (ne d _ r rfl)]; exact r) fun d xs r => by rw [upd_ne (ne d _ r rfl)]; exact r
    by_cases hb : b = a
    · subst hb
      rw [upd_same] at e; cases e
      exact ⟨ho, st h⟩
    · rw [upd_ne hb] at e
      exact st e
  have un : Un X.fs [] H (upd H a (.frz o u)) s.heap s.heap :=
    ⟨fun _ _ q _ _ _ => q, fun b ob q _ _ _ => ⟨ob.slots, q⟩, fun b ob _ n _ => by
      rw [upd_ne (fun e => by subst e; rw [h] at n; cases n)]; exact n, fun b ob q _ => ⟨ob, q⟩,
      fun b xs q => by rw [upd_ne (ne b _ q rfl)]; exact q, fun b ob z q => by rw [upd_ne (ne b _ q rfl)]; exact q,
      fun b ps q => ⟨#[], by rw [upd_ne (ne b _ q rfl), q]; simp⟩⟩
  exact ⟨o, I.un (h' := s.heap) (t' := s.toks) un hk⟩
/-- what stood still for a while moves again -/
theorem Inv.thaw {u : HO} {o : Obj} (I : Inv X pins σ H s) (h : H a = some (.frz o u)) (hu : canFz u = true) (h0 : ∀ o' u', X.H_0 a ≠ some (.frz o' u')) : Inv X pins σ (upd H a u) s := by
  obtain ⟨ho, ok⟩ := I.hok a _ h
  have nt : ∀ b z, H b = some z → (∀ o u, z ≠ .frz o u) → b ≠ a := fun b z q n e => by
    subst e; rw [h] at q; cases q; exact n _ _ rfl
  have hk : HOk X.prog X.w (upd H a u) s.heap := fun b z e => by
    have st : ∀ {c z}, ObjOk X.prog X.w H s.heap c z → ObjOk X.prog X.w (upd H a u) s.heap c z := fun {c z} q =>
      q.stay (fun _ _ _ r => r) (fun d r => by rw [upd_ne (nt d _ r fun _ _ z => by cases z)]; exact r) fun d xs r => by rw [upd_ne (nt d _ r fun _ _ z => by cases z)]; exact r
    by_cases hb : b = a
    · subst hb
      rw [upd_same] at e; cases e
      exact st ok
    · rw [upd_ne hb] at e
      exact st (I.hok b z e)
  have un : Un X.fs X.ex X.H_0 (upd H a u) X.s_0.heap s.heap := by
    have B := I.base
    refine ⟨fun b ob q n hf hx => B.keep b ob q n hf hx, fun b ob q n hf hx => B.slot b ob q n hf hx, fun b ob q n hx => ?_, fun b ob q hx => B.there b ob q hx, fun b xs q => ?_, fun b ob z q => ?_, fun b ps q => ?_⟩
    · have := B.free b ob q n hx
      rw [upd_ne (fun e => by subst e; rw [h] at this; cases this)]; exact this
    · have := B.tups b xs q
      rw [upd_ne (nt b _ this fun _ _ z => by cases z)]; exact this
    · have := B.frzs b ob z q
      rw [upd_ne (fun e => by subst e; exact h0 _ _ q)]; exact this
    · obtain ⟨m, this⟩ := B.tbls b ps q
      exact ⟨m, by rw [upd_ne (nt b _ this fun _ _ z => by cases z)]; exact this⟩
  have ne : ∀ {b : Addr}, H b = none → b ≠ a := fun {b} e z => by subst z; rw [h] at e; cases e
  exact ⟨I.ok, I.os, I.bare, un, I.loc, I.cell, (upd_ne (ne I.free)).trans I.free, fun x c q => (upd_ne (ne (I.freeC x c q))).trans (I.freeC x c q), fun p hp => ⟨(I.pin p hp).1, (upd_ne (ne (I.pin p hp).2.1)).trans (I.pin p hp).2.1, (I.pin p hp).2.2⟩, hk, I.len⟩
theorem Inv.moved {u : HO} (I : Inv X pins σ H s) (h : H a = some u) (hu : canFz u = true) : ∀ o' u', X.H_0 a ≠ some (.frz o' u') := fun o' u' q => by
  have := I.base.frzs a o' u' q
  rw [h] at this; cases this; cases hu
end

/-! ### from data to the library's reading of it -/
section
variable {X : Cx} {pins : List (Addr × Obj)} {σ : St} {H : Hp} {s : Shared}
theorem keys_reads {h : Heap} {P : Program} {w : World} : ∀ {es : List DictEntry} {vs : List (Key × Value)} {ks : List (Key × V)} {ds : List (D × D)}, Pairs (mixKind P w) es vs → KV ks vs → RzKv X.K H ks ds → ∃ as, ReadsAll h (es.map (·.key)) (ds.map (·.1)) as
  | _, _, _, _, .nil, .nil, .nil => ⟨_, .nil⟩
  | _, _, _, _, .cons hk _ t, .cons q r, .cons _ z => by
    obtain ⟨as, ih⟩ := keys_reads (h := h) t r z
    obtain ⟨q1, _⟩ := q
    rw [mixKind_is] at hk
    rcases keyIs_shape hk with ⟨i, tk, e1, e2⟩ | ⟨x, tk, e1, e2⟩
    · rw [← q1] at e1
      simp only at e1
      subst e1
      exact ⟨_, .cons (show Reads h _ (.int i) _ from e2 ▸ Reads.int i tk) ih⟩
    · rw [← q1] at e1
      simp only at e1
      subst e1
      exact ⟨_, .cons (show Reads h _ (.str x) _ from e2 ▸ Reads.str x tk) ih⟩
mutual
theorem Rz.reads (I : Inv X pins σ H s) : ∀ (d : D) (v : V) (u : Value), clean d = true → Rz X.K H v d → RelV v u → ∃ as, Reads s.heap u d as
  | .none, _, _, _, h, r => by
    cases h; cases r
    exact ⟨_, Reads.none⟩
  | .bool b, _, _, _, h, r => by
    cases h; cases r
    exact ⟨_, Reads.bool b⟩
  | .int i, _, _, _, h, r => by
    cases h
    obtain ⟨t, rfl⟩ := r
    exact ⟨_, Reads.int i t⟩
  | .str x, _, _, _, h, r => by
    cases h
    obtain ⟨t, rfl⟩ := r
    exact ⟨_, Reads.str x t⟩
  | .list ds, _, _, c, h, r => by
    cases h with
    | lst hs ha =>
      cases r
      obtain ⟨its, rv, ⟨o, n, ho, hc, _, hd⟩, _⟩ := I.list hs.sq
      obtain ⟨as, hr⟩ := Rz.readsAll I ds _ its (by simpa [clean] using c) ha rv
      exact ⟨_, Reads.list ho hc hd hr⟩
  | .tuple ds, _, _, c, h, r => by
    cases h with
    | tup hs ha =>
      cases r
      obtain ⟨its, rv, ⟨o, ho, hc, n, hd⟩, _⟩ := I.tuple hs
      obtain ⟨as, hr⟩ := Rz.readsAll I ds _ its (by simpa [clean] using c) ha rv
      exact ⟨_, Reads.tuple ho hc hd hr⟩
  | .dict ds, _, _, c, h, r => by
    cases h with
    | dct hs ha =>
      cases r
      obtain ⟨_, _, _, vs, kv, o, es, ep, ho, hx, hd, _, hp, _⟩ := I.hok _ _ hs
      obtain ⟨as, h1⟩ := keys_reads (X := X) (H := H) (h := s.heap) hp kv ha
      obtain ⟨bs, h2⟩ := Rz.readsKv I ds _ _ _ (by simpa [clean] using c) ha kv hp
      exact ⟨_, Reads.dict ho hx.1 hd h1 h2⟩
    | obj _ _ _ =>
      unfold clean at c
      rw [mk_unclean] at c
      cases c
theorem Rz.readsAll (I : Inv X pins σ H s) : ∀ (ds : List D) (vs : List V) (us : List Value), cleanAll ds = true → RzAll X.K H vs ds → Vals vs us → ∃ as, ReadsAll s.heap us ds as
  | [], _, _, _, h, r => by
    cases h; cases r
    exact ⟨_, ReadsAll.nil⟩
  | d :: ds, _, _, c, h, r => by
    have c' : clean d = true ∧ cleanAll ds = true := by simpa [cleanAll] using c
    cases h with
    | cons h1 h2 =>
      cases r with
      | cons r1 r2 =>
        obtain ⟨as, q1⟩ := Rz.reads I d _ _ c'.1 h1 r1
        obtain ⟨bs, q2⟩ := Rz.readsAll I ds _ _ c'.2 h2 r2
        exact ⟨_, ReadsAll.cons q1 q2⟩
theorem Rz.readsKv (I : Inv X pins σ H s) : ∀ (ds : List (D × D)) (ks : List (Key × V)) (vs : List (Key × Value)) (es : List DictEntry), cleanKv ds = true → RzKv X.K H ks ds → KV ks vs → Pairs (mixKind X.prog X.w) es vs → ∃ as, ReadsAll s.heap (es.map (·.val)) (ds.map (·.2)) as
  | [], _, _, _, _, h, r, p => by
    cases h; cases r; cases p
    exact ⟨_, ReadsAll.nil⟩
  | d :: ds, _, _, _, c, h, r, p => by
    have c' : isMK d.1 = false ∧ clean d.2 = true ∧ cleanKv ds = true := by simpa [cleanKv] using c
    cases h with
    | cons h1 h2 =>
      cases r with
      | cons r1 r2 =>
        cases p with
        | cons p1 p2 p3 =>
          obtain ⟨as, q1⟩ := Rz.reads I _ _ _ c'.2.1 h1 r1.2
          obtain ⟨bs, q2⟩ := Rz.readsKv I ds _ _ _ c'.2.2 h2 r2 p3
          rw [← p2] at q1
          exact ⟨_, ReadsAll.cons q1 q2⟩
end
end
end Mp
namespace Mp
open PySem PySem.Spec L2
open PyProof.Rows hiding St

/-! ### what a slot holds -/
inductive Slot where
  | un
  | fv
  | da (d : D)
  | ow (d : D)
abbrev Ev := List Slot
def skel : Slot → Slot
  | .ow _ => .ow .none
  | s => s

/-! ### the little language -/
inductive Prim where
  | add | sub | mul | fdiv | mod | pow | neg
  | eq | ne | lt | le | gt | ge | isin | notin | isN | notN | isB (b : Bool) | notB (b : Bool)
  | idx | slc (lo hi : Bool)
  | len | lenSet | isinst (T : String) | max2 | min2 | toInt | toTuple | toList | all | repr
  | split (b : Str) | dnew | toDict | index | sortKeys | sortSet | sindex (b : Str) | scount (b : Str) | abs
  deriving DecidableEq
inductive Tg where
  | v (i : Nat)
  | tp (is : List Nat)
  deriving DecidableEq
mutual
inductive ME where
  | var (i : Nat)
  | cst (d : D)
  | glb (g : Nat)
  | tup (es : MEs)
  | lst (es : MEs)
  | prim (p : Prim) (es : MEs)
  | fn (f : Nat) (es : MEs)
  | fnF (f : Nat) (es : MEs)
  | mth (f : Nat) (h : MA) (es : MEs)
  | mthF (f : Nat) (h : MA) (es : MEs)
  | fldO (i : Nat) (f : Str)
  | band (a b : ME)
  | bor (a b : ME)
  | bnot (a : ME)
  | ite (c a b : ME)
  | chain (p q : Prim) (a b c : ME)
  | comp (elt : ME) (tg : Tg) (it : MI) (cs : MC) (own : List Nat)
  | pop (i : Nat) (a : ME)
  | dct (ks : List Str) (es : MEs)
  | fld (f : Str) (a : ME)
  | isC (x : Str) (a : ME)
  | flat (i j : Nat) (it : MI) (m : ME) (own : List Nat)
  | sortK (a : MA) (i : Nat) (m : ME)
  | sortF (a : MA) (f : Nat)
  | app (i : Nat) (a : ME)
  | die
  | hoL (h : Nat) (a : ME) (i : Nat) (m : ME)
  | hoF (h : Nat) (a : ME) (f : Nat)
inductive MA where
  | e (m : ME)
  | o (i : Nat)
  | l (i : Nat)
  | f (i : Nat) (n : Str)
inductive MEs where
  | nil
  | cons (a : MA) (r : MEs)
inductive MI where
  | seq (a : ME)
  | rng1 (a : ME)
  | rng2 (a b : ME)
  | enum (a : ME)
inductive MC where
  | all
  | one (c : ME)
end

/-! ### things of one's own within an object -/
def MO : D := .tuple [.int HUGE, .none]
def isMO : D → Bool
  | .tuple [.int i, .none] => decide (i = HUGE)
  | _ => false
/-- the mark of a field that holds a thing of the object's own -/
def own_ (d : D) : D := .dict [(MO, d)]
def isOw : D → Bool
  | .dict [(k, _)] => isMO k
  | _ => false
def unOwn : D → D
  | .dict [(k, d)] => if isMO k = true then d else .dict [(k, d)]
  | d => d
/-- the same, standing still: nothing is its own any more -/
def frzD : D → D
  | .dict ((k, v) :: ds) => if isMK k = true then .dict ((k, v) :: ds.map fun p => (p.1, unOwn p.2)) else .dict ((k, v) :: ds)
  | d => d
def fldsOf : D → List (D × D)
  | .dict ds => ds
  | _ => []
mutual
def noDct : D → Bool
  | .list ds => noDctAll ds
  | .tuple ds => noDctAll ds
  | .dict _ => false
  | _ => true
def noDctAll : List D → Bool
  | [] => true
  | d :: r => noDct d && noDctAll r
end
mutual
/-- neither lists nor dicts -/
def flatD : D → Bool
  | .tuple ds => flatAll ds
  | .list _ => false
  | .dict _ => false
  | _ => true
def flatAll : List D → Bool
  | [] => true
  | d :: r => flatD d && flatAll r
end
/-! ### operations on data -/
mutual
theorem clean_plain : ∀ d : D, d.plain = true → clean d = true
  | .none, _ => by unfold clean; rfl
  | .bool _, _ => by unfold clean; rfl
  | .int _, _ => by unfold clean; rfl
  | .str _, _ => by unfold clean; rfl
  | .list ds, h => by unfold clean; exact clean_plainAll ds (by simpa [PyData.plain] using h)
  | .tuple ds, h => by unfold clean; exact clean_plainAll ds (by simpa [PyData.plain] using h)
  | .dict _, h => by simp [PyData.plain] at h
theorem clean_plainAll : ∀ ds : List D, PyData.plainAll ds = true → cleanAll ds = true
  | [], _ => by unfold cleanAll; rfl
  | d :: r, h => by
    have h' : d.plain = true ∧ PyData.plainAll r = true := by simpa [PyData.plainAll] using h
    unfold cleanAll
    rw [clean_plain d h'.1, clean_plainAll r h'.2]; rfl
end
def okD (d : D) : Bool := d.plain && decide (d.depth ≤ 60)
theorem okD.clean {d : D} (h : okD d = true) : clean d = true := clean_plain d (by unfold okD at h; rw [Bool.and_eq_true] at h; exact h.1)
def cutD (ds : List D) (lo hi : Option Int) : List D := (ds.drop (HT.sIx ds.length 0 lo)).take (HT.sIx ds.length ds.length hi - HT.sIx ds.length 0 lo)
def tyD : D → String
  | .none => "NoneType"
  | .bool _ => "bool"
  | .int _ => "int"
  | .str _ => "str"
  | .list _ => "list"
  | .tuple _ => "tuple"
  | .dict ((k, _) :: _) => if isMK k = true then "object" else "dict"
  | .dict [] => "dict"
def isinstD (T : String) (d : D) : Bool := tyD d == T || (T == "int" && tyD d == "bool")
def boolsOf : List D → Option (List Bool)
  | [] => some []
  | .bool b :: r => (boolsOf r).map (b :: ·)
  | _ => none
def strsOf : List D → Option (List Str)
  | [] => some []
  | .str x :: r => (strsOf r).map (x :: ·)
  | _ => none
def lsD (xs : List Str) : List D := xs.map .str
/-- the unlike ones, in the order in which they come -/
def addS (acc : List Str) (x : Str) : List Str := if acc.any (· == x) = true then acc else acc ++ [x]
def metS (xs : List Str) : List Str := xs.foldl addS []
def strsIn : D → Option (List Str)
  | .tuple ds => strsOf ds
  | .list ds => strsOf ds
  | _ => none

def addD : D → D → Option D
  | .int i, .int j => some (.int (i + j))
  | .str a, .str b => if a.length + b.length ≤ sizeLine then some (.str (a ++ b)) else none
  | .tuple a, .tuple b => if a.length + b.length ≤ sizeLine then some (.tuple (a ++ b)) else none
  | .list a, .list b => if a.length + b.length ≤ sizeLine then some (.list (a ++ b)) else none
  | _, _ => none
def int2 (g : Int → Int → Option D) : D → D → Option D
  | .int i, .int j => g i j
  | _, _ => none
def mulD : D → D → Option D := int2 fun i j => if (-(2 ^ 64) < i ∧ i < 2 ^ 64) ∨ (-(2 ^ 64) < j ∧ j < 2 ^ 64) then some (.int (i * j)) else none
def mulA : D → D → Option D
  | .tuple ds, .int k => if ds ≠ [] ∧ 2 ≤ k ∧ k ≤ 1000 ∧ ds.length ≤ 1000 then some (.tuple (List.replicate k.toNat ds).flatten) else none
  | a, b => mulD a b
def fdivD : D → D → Option D := int2 fun i j => if 0 < j ∧ j < 2 ^ 64 then some (.int (i / j)) else none
def modD : D → D → Option D := int2 fun i j => if 0 < j then some (.int (i % j)) else none
def powD : D → D → Option D := int2 fun i j => if 0 ≤ j ∧ j ≤ 1000000 ∧ i.natAbs < 2 ^ 64 then some (.int (i ^ j.toNat)) else none
def cmpD (p : Int → Int → Bool) : D → D → Option D := int2 fun i j => some (.bool (p i j))
def eqD (a b : D) : Option D := if okD a = true ∧ okD b = true then some (.bool (a.eqv b)) else none
def neD (a b : D) : Option D := if okD a = true ∧ okD b = true then some (.bool (!a.eqv b)) else none
/-- a is among b (neg: is not) -/
def inD (neg : Bool) (a : D) : D → Option D
  | .tuple ds => if okD a = true ∧ okD (.tuple ds) = true then some (.bool ((ds.any fun z => z.eqv a) != neg)) else none
  | .list ds => if okD a = true ∧ okD (.list ds) = true then some (.bool ((ds.any fun z => z.eqv a) != neg)) else none
  | .str b => match a with
    | .str a => some (.bool ((!(Builtin.Str.occurrences b a 0 b.length 1).isEmpty) != neg))
    | _ => none
  | _ => none
def isNoneD : D → Bool
  | .none => true
  | _ => false
def isBD (b neg : Bool) : D → Option D
  | .bool a => some (.bool (decide (a = b) != neg))
  | _ => none
def idxS : D → D → Option D
  | .tuple ds, .int i => atI ds i
  | .list ds, .int i => atI ds i
  | _, _ => none
def keyOf : D → Option Key
  | .int i => some (.inl i)
  | .str x => some (.inr x)
  | _ => none
/-- what stands at a key -/
def valD (k : Key) : List (D × D) → Option D
  | [] => none
  | (a, v) :: r => if keyOf a = some k then some v else if keyOf a = none then none else valD k r
def idxD : D → D → Option D
  | .dict ks, .str x => valD (.inr x) ks
  | .dict ks, .int i => valD (.inl i) ks
  | .tuple ds, .int i => atI ds i
  | .list ds, .int i => atI ds i
  | _, _ => none
def partD : D → Option Int
  | .int i => some i
  | _ => none
def sliceD (a : D) (lo hi : Option Int) : Option D := match a with
  | .tuple ds => some (.tuple (cutD ds lo hi))
  | .list ds => some (.list (cutD ds lo hi))
  | .str x => if x.length ≤ sizeLine then some (.str (cutS x lo hi)) else none
  | _ => none
def slcD : Bool → Bool → List D → Option D
  | false, false, [a] => sliceD a none none
  | true, false, [a, .int i] => sliceD a (some i) none
  | true, false, [a, .none] => sliceD a none none
  | false, true, [a, .none] => sliceD a none none
  | false, true, [a, .int j] => sliceD a none (some j)
  | true, true, [a, .int i, .int j] => sliceD a (some i) (some j)
  | _, _, _ => none
def lenD : D → Option D
  | .tuple ds => some (.int ds.length)
  | .list ds => some (.int ds.length)
  | .str x => if x.length ≤ sizeLine then some (.int x.length) else none
  | _ => none
def lenSetD (d : D) : Option D := (strsIn d).bind fun xs => if xs.length ≤ 1000 then some (.int (metS xs).length) else none
def negD : D → Option D
  | .int i => some (.int (-i))
  | _ => none
def toIntD : D → Option D
  | .bool b => some (.int (if b then 1 else 0))
  | .int i => some (.int i)
  | _ => none
def toTupleD : D → Option D
  | .list ds => some (.tuple ds)
  | .tuple ds => some (.tuple ds)
  | _ => none
def toListD : D → Option D
  | .list ds => some (.list ds)
  | .tuple ds => some (.list ds)
  | _ => none
def allD : D → Option D
  | .list ds => (boolsOf ds).map fun bs => .bool (bs.all id)
  | _ => none
/-- repr's text, where it is not too long -/
def reprD (d : D) : Option D := if d.showable = true ∧ d.depth ≤ 60 ∧ d.shown.length ≤ sizeLine then some (.str d.shown) else none
def splitD (b : Str) : D → Option D
  | .str a => if (b.length == 0) = false ∧ a.length + 2 ≤ sizeLine then some (.list (lsD (Txt.split a b))) else none
  | _ => none
/-- the signs of a text, each a text -/
def signsD (x : Str) : List D := x.cps.toList.map fun c => .str ⟨#[c]⟩

def putD (k : Key) (v : D) (ds : List (D × D)) : List (D × D) :=
  if (ds.any fun p => decide (keyOf p.1 = some k)) = true then ds.map (fun p => if keyOf p.1 = some k then (p.1, v) else p) else ds ++ [(keyD k, v)]
def pairsD : List D → Option (List (Key × D))
  | [] => some []
  | .tuple [a, v] :: r => (keyOf a).bind fun k => (pairsD r).map fun ps => (k, v) :: ps
  | _ => none
def toDictD : D → Option D
  | .dict ks => if isOb (.dict ks) = true then none else some (.dict ks)
  | .list ds => (pairsD ds).map fun ps => .dict (ps.foldl (fun acc p => putD p.1 p.2 acc) [])
  | _ => none

/-- a dict written down -/
def dctD (ks : List Str) (ds : List D) : Option D := if ks.length = ds.length then some (.dict ((ks.zip ds).foldl (fun acc p => putD (.inr p.1) p.2 acc) [])) else none
/-- the place of the first equal one -/
def indexD : D → D → Option D
  | .list ds, d => if okD (.list ds) = true ∧ okD d = true then (ds.findIdx? fun z => z.eqv d).map fun j => .int (j : Nat) else none
  | _, _ => none

def leS (a b : Str) : Bool := decide (a.cps.toList ≤ b.cps.toList)
def sortS (xs : List Str) : List Str := xs.mergeSort leS
def sortKeysD : D → Option D
  | .dict ks => (strsOf (ks.map (·.1))).bind fun xs => if xs.length < 64 then some (.list (lsD (sortS xs))) else none
  | _ => none

def sortSetD (d : D) : Option D := (strsIn d).bind fun xs => if xs.length ≤ 4000 ∧ (metS xs).length < 64 then some (.list (lsD (sortS (metS xs)))) else none
def sindexD (b : Str) : D → Option D
  | .str a => (Txt.index0 a b).map fun k => .int (k : Nat)
  | _ => none
def scountD (b : Str) : D → Option D
  | .str a => some (.int (Txt.count a b))
  | _ => none
/-- what < is asked of, beside ints: lists, tuples, alike -/
def ltOk : D → D → Bool
  | .list xs, .list ys => clean (.list xs) && clean (.list ys) && PySem.W.alike (.list xs) (.list ys) && decide ((PyData.list xs).depth ≤ 60)
  | .tuple xs, .tuple ys => clean (.tuple xs) && clean (.tuple ys) && PySem.W.alike (.tuple xs) (.tuple ys) && decide ((PyData.tuple xs).depth ≤ 60)
  | _, _ => false
def ltD (a b : D) : Option D := match a, b with
  | .int i, .int j => some (.bool (decide (i < j)))
  | a, b => if ltOk a b = true then some (.bool (PySem.W.dataLt a b)) else none
def absD : D → Option D
  | .int i => some (.int (if i < 0 then -i else i))
  | _ => none
def primD : Prim → List D → Option D
  | .add, [a, b] => addD a b
  | .sub, [a, b] => int2 (fun i j => some (.int (i - j))) a b
  | .mul, [a, b] => mulA a b
  | .fdiv, [a, b] => fdivD a b
  | .mod, [a, b] => modD a b
  | .pow, [a, b] => powD a b
  | .neg, [a] => negD a
  | .eq, [a, b] => eqD a b
  | .ne, [a, b] => neD a b
  | .lt, [a, b] => ltD a b
  | .le, [a, b] => cmpD (fun i j => decide (i ≤ j)) a b
  | .gt, [a, b] => cmpD (fun i j => decide (j < i)) a b
  | .ge, [a, b] => cmpD (fun i j => decide (j ≤ i)) a b
  | .isin, [a, b] => inD false a b
  | .notin, [a, b] => inD true a b
  | .isN, [d] => some (.bool (isNoneD d))
  | .notN, [d] => some (.bool (!isNoneD d))
  | .isB b, [d] => isBD b false d
  | .notB b, [d] => isBD b true d
  | .idx, [a, b] => idxD a b
  | .slc lo hi, ds => slcD lo hi ds
  | .len, [d] => lenD d
  | .lenSet, [d] => lenSetD d
  | .isinst T, [d] => some (.bool (isinstD T d))
  | .max2, [a, b] => int2 (fun i j => some (.int (if j > i then j else i))) a b
  | .min2, [a, b] => int2 (fun i j => some (.int (if j < i then j else i))) a b
  | .toInt, [d] => toIntD d
  | .toTuple, [d] => toTupleD d
  | .toList, [d] => toListD d
  | .all, [d] => allD d
  | .repr, [d] => reprD d
  | .split b, [d] => splitD b d
  | .dnew, [] => some (.dict [])
  | .toDict, [d] => toDictD d
  | .index, [a, b] => indexD a b
  | .sortKeys, [d] => sortKeysD d
  | .sortSet, [d] => sortSetD d
  | .sindex b, [d] => sindexD b d
  | .scount b, [d] => scountD b d
  | .abs, [d] => absD d
  | _, _ => none

/-- a field of an object -/
def fldD (tb : List (Str × Str)) (f : Str) : D → Option D
  | .dict ((k, .str nm) :: ds) => if isMK k = true ∧ (nm, f) ∈ tb then valD (.inr f) ds else none
  | _ => none
/-- whether an object is of a class -/
def isCD (tb : List ((Str × Str) × Bool)) (x : Str) : D → Option D
  | .dict ((k, .str nm) :: _) => if isMK k = true then (tb.lookup (nm, x)).map .bool else none
  | _ => none
/-- an object of a class as data -/
def obD (nm : Str) (fs : List (Str × D)) : D := .dict ((MK, .str nm) :: fs.map fun p => (.str p.1, p.2))

/-! ### the defs of the text -/
/-- a way to call a def: np values by place, then those of the names ks, then the defaults dfl; pm puts them in the parameters' order;
    mask tells which parameters are lent (and changed); ro: what comes back is a new list of the caller's own -/
structure FnT where
  np : Nat
  ks : List Str
  dfl : List D
  pm : List Nat
  mask : List Bool
  ro : Bool
  den : List D → Option (D × List D)
structure CT where
  N : List Str
  cons : List (Str × D)
  fns : List (Str × FnT)
  mts : List (Str × List (Str × FnT)) := []
  pls : List Nat := []
  fv : Option (D → Option D) := none
  ho : List (Str × ((D → Option D) → D → Option D)) := []
  flds : List (Str × Str) := []
  isc : List ((Str × Str) × Bool) := []

/-- a field of an object as it stands, its own things marked -/
def rawF (f : Str) : D → Option D
  | .dict ((k, .str _) :: ds) => if isMK k = true then valD (.inr f) ds else none
  | _ => none
/-- the class of an object without an attribute of this name of its own -/
def clsM (m : Str) : D → Option Str
  | .dict ((k, .str nm) :: ds) => if isMK k = true ∧ (ds.any fun p => decide (keyOf p.1 = some (.inr m))) = false then some nm else none
  | _ => none
/-- whether a list is among what belongs to it -/
def hasLst : D → Bool
  | .list _ => true
  | .dict ds => ds.any fun p => match p.2 with
    | .dict [(k, .list _)] => isMO k
    | _ => false
  | _ => false
/-- a field of an object, stored -/
def putO (f : Str) (d : D) : D → Option D
  | .dict ((k, .str nm) :: ds) => if isMK k = true ∧ ds.length < 900 then some (.dict ((k, .str nm) :: putD (.inr f) d ds)) else none
  | _ => none
def clsO : D → Option Str
  | .dict ((k, .str nm) :: _) => if isMK k = true then some nm else none
  | _ => none
/-- a list or a dict with one thing put into it -/
def setIn (k : D) (d : D) : D → Option D
  | .list ds => match k with
    | .int j => (ixN ds.length j).map fun j => .list (ds.set j d)
    | _ => none
  | .dict ds => (keyOf k).bind fun j => if ds.length < sizeLine ∧ isOb (.dict ds) = false then some (.dict (putD j d ds)) else none
  | _ => none
def appIn (d : D) : D → Option D
  | .list ds => if ds.length < sizeLine then some (.list (ds ++ [d])) else none
  | _ => none
/-- what may come back of a call that was lent a thing to look at -/
def okL (c d : D) : Bool := if hasLst c = true then flatD d else noDct d
inductive Arg where
  | v (d : D)
  | o (i : Nat)
  | l (i : Nat)
  | f (i : Nat) (n : Str)
def resolve1 (ρ : Ev) : Arg → Option D
  | .v d => some d
  | .o i => match ρ[i]? with
    | some (.ow d) => some d
    | _ => none
  | _ => none
def resolve (ρ : Ev) : List Arg → Option (List D)
  | [] => some []
  | a :: r => (resolve1 ρ a).bind fun d => (resolve ρ r).map (d :: ·)
/-- what operations on data are handed: no objects of one's own -/
def resolveP1 (ρ : Ev) : Arg → Option D
  | .v d => some d
  | .o i => match ρ[i]? with
    | some (.ow d) => if isOb d = true then none else some d
    | _ => none
  | .f i n => match ρ[i]? with
    | some (.ow d) => (rawF n d).bind fun z => if isOw z = true then some (unOwn z) else none
    | _ => none
  | _ => none
def resolveP (ρ : Ev) : List Arg → Option (List D)
  | [] => some []
  | a :: r => (resolveP1 ρ a).bind fun d => (resolveP ρ r).map (d :: ·)
def pures : List Arg → Option (List D)
  | [] => some []
  | .v d :: r => (pures r).map (d :: ·)
  | _ => none
def pick {α : Type} (as : List α) : List Nat → Option (List α)
  | [] => some []
  | i :: r => (as[i]?).bind fun a => (pick as r).map (a :: ·)
/-- the arguments fit the parameters: who is lent, and none twice -/
def fits : List Bool → List Arg → List Nat → Bool
  | [], [], _ => true
  | false :: m, .v _ :: r, seen => fits m r seen
  | true :: m, .o i :: r, seen => !seen.contains i && fits m r (i :: seen)
  | _, _, _ => false
/-- what was lent, given back -/
def giveBack : List Arg → List D → Ev → Option Ev
  | [], [], ρ => some ρ
  | .v _ :: r, os, ρ => giveBack r os ρ
  | .o i :: r, d :: os, ρ => giveBack r os (ρ.set i (.ow d))
  | _, _, _ => none
def callFn (F : FnT) (as : List Arg) (ρ : Ev) : Option (D × Ev) :=
  (pick (as ++ F.dfl.map Arg.v) F.pm).bind fun bs => if fits F.mask bs [] = true then
    (resolve ρ bs).bind fun ds => (F.den ds).bind fun (d, outs) => (giveBack bs outs ρ).map fun ρ' => (d, ρ')
  else none

/-- a call that may be lent one thing to look at -/
def lockOf : List Arg → Option Nat
  | [] => none
  | .l i :: _ => some i
  | _ :: r => lockOf r
def unl (i : Nat) (d : D) : Arg → Arg
  | .l j => if j = i then .v d else .l j
  | a => a
def callL (F : FnT) (as : List Arg) (ρ : Ev) : Option (D × Ev) := match lockOf as with
  | none => callFn F as ρ
  | some i => match ρ[i]? with
    | some (.ow c) => if F.mask.all (fun b => !b) = true ∧ F.ro = false then (callFn F (as.map (unl i (frzD c))) (ρ.set i (.da (frzD c)))).bind fun (d, _) => if okL c d = true then some (d, ρ) else none else none
    | _ => none
def headM (m : Str) (ρ : Ev) : Arg → Option Str
  | .v d => clsM m d
  | .o i => match ρ[i]? with
    | some (.ow d) => clsM m d
    | _ => none
  | .l i => match ρ[i]? with
    | some (.ow d) => clsM m d
    | _ => none
  | _ => none
/-- the slots without what is one's own -/
def hideS : Slot → Slot
  | .ow _ => .un
  | s => s
def hide (ρ : Ev) : Ev := ρ.map hideS
/-! ### sorting by keys -/
def keysL (g : D → Option D) : List D → Option (List D)
  | [] => some []
  | d :: r => (g d).bind fun k => (keysL g r).map (k :: ·)
def isTup1 : D → Bool
  | .tuple (_ :: _) => true
  | _ => false
def notTN : D → Bool
  | .tuple _ => false
  | .none => false
  | _ => true
def alikeB (ks : List D) : Bool := ks.all fun k => ks.all fun k' => PySem.W.alike k k'
def sortOk (ks : List D) : Bool := alikeB ks && (ks.all isTup1 || ks.all notTN) && ks.all (fun k => clean k && decide (k.depth ≤ 60)) && decide (ks.length ≤ 1000000)
def sortBy (ds ks : List D) : List D := ((ds.zip ks).mergeSort (PySem.W.dataLe false fun p : D × D => p.2)).map (·.1)
def sortD (ks ds : List D) : Option D := if sortOk ks = true then some (.list (sortBy ds ks)) else none
def wipes (ρ : Ev) : List Nat → Ev
  | [] => ρ
  | v :: vs => (wipes ρ vs).set v .un
def restore (ρ0 ρ : Ev) : List Nat → Ev
  | [] => ρ
  | v :: vs => (restore ρ0 ρ vs).set v (ρ0.getD v .un)
def setDa (ρ : Ev) (i : Nat) (d : D) : Option Ev :=
  match ρ[i]? with
  | some (.ow _) => none
  | some _ => some (ρ.set i (.da d))
  | none => none
def setDas (ρ : Ev) : List Nat → List D → Option Ev
  | [], [] => some ρ
  | i :: is, d :: ds => (setDa ρ i d).bind fun ρ' => setDas ρ' is ds
  | _, _ => none
def bindT : Tg → D → Ev → Option Ev
  | .v i, d, ρ => setDa ρ i d
  | .tp is, .tuple ds, ρ => setDas ρ is ds
  | .tp _, _, _ => none
def compLoop (f : D → Ev → Option (Option D × Ev)) (own : List Nat) : List D → Ev → Option (List D × Ev)
  | [], ρ => some ([], ρ)
  | x :: r, ρ => (f x (wipes ρ own)).bind fun (o, ρ') => (compLoop f own r ρ').map fun (ds, ρe) => (o.toList ++ ds, ρe)
def flatLoop (f : D → Ev → Option (List D × Ev)) (own : List Nat) : List D → Ev → Option (List D × Ev)
  | [], ρ => some ([], ρ)
  | x :: r, ρ => (f x (wipes ρ own)).bind fun (xs, ρ') => (flatLoop f own r ρ').map fun (ds, ρe) => (xs ++ ds, ρe)
def rngD (lo : Int) (n : Nat) : List D := (List.range n).map fun (i : Nat) => .int (lo + (i : Int))
def enumD (ds : List D) : List D := ds.zipIdx.map fun (d, i) => .tuple [.int i, d]

mutual
def ev (T : CT) : ME → Ev → Option (D × Ev)
  | .var i, ρ => match ρ[i]? with
    | some (.da d) => some (d, ρ)
    | _ => none
  | .cst d, ρ => some (d, ρ)
  | .glb g, ρ => (T.cons[g]?).map fun p => (p.2, ρ)
  | .tup es, ρ => (evs T es ρ).bind fun (as, ρ') => (pures as).map fun ds => (.tuple ds, ρ')
  | .lst es, ρ => (evs T es ρ).bind fun (as, ρ') => (pures as).map fun ds => (.list ds, ρ')
  | .dct ks es, ρ => (evs T es ρ).bind fun (as, ρ') => (pures as).bind fun ds => (dctD ks ds).map fun d => (d, ρ')
  | .flat i j it m own, ρ => (evi T it ρ).bind fun (ds, ρ1) =>
      (flatLoop (fun x ρt => (setDa ρt i x).bind fun ρ2 => (ev T m ρ2).bind fun (d, ρ3) => match d with
        | .list xs => some (xs, ρ3)
        | _ => none) own ds ρ1).bind fun (out, ρ') => if out.length ≤ sizeLine ∧ j < ρ1.length then some (.list out, restore ρ1 ρ' own) else none
  | .sortK a i m, ρ => (evA T a ρ).bind fun (x, ρ1) => (resolveP1 ρ1 x).bind fun d => match d with
    | .list ds => if i < ρ1.length then (keysL (fun z => (ev T m ((hide ρ1).set i (.da z))).map (·.1)) ds).bind fun ks => (sortD ks ds).map fun z => (z, ρ1) else none
    | _ => none
  | .sortF a f, ρ => (evA T a ρ).bind fun (x, ρ1) => (resolveP1 ρ1 x).bind fun d => match d with
    | .list ds => (T.fns[f]?).bind fun F => (keysL (fun z => (callFn F.2 [.v z] []).map (·.1)) ds).bind fun ks => (sortD ks ds).map fun z => (z, ρ1)
    | _ => none
  | .app i a, ρ => match ρ[i]? with
    | some .fv => (ev T a ρ).bind fun (d, ρ') => T.fv.bind fun g => (g d).map fun z => (z, ρ')
    | _ => none
  | .die, _ => none
  | .hoL h a i m, ρ => (ev T a ρ).bind fun (d, ρ1) => (T.ho[h]?).bind fun W => if i < ρ1.length then (W.2 (fun z => (ev T m ((hide ρ1).set i (.da z))).map (·.1)) d).map fun z => (z, ρ1) else none
  | .hoF h a f, ρ => (ev T a ρ).bind fun (d, ρ1) => (T.ho[h]?).bind fun W => (T.fns[f]?).bind fun F => (W.2 (fun z => (callFn F.2 [.v z] []).map (·.1)) d).map fun z => (z, ρ1)
  | .fld f a, ρ => (ev T a ρ).bind fun (d, ρ') => (fldD T.flds f d).map fun z => (z, ρ')
  | .isC x a, ρ => (ev T a ρ).bind fun (d, ρ') => (isCD T.isc x d).map fun z => (z, ρ')
  | .prim p es, ρ => (evs T es ρ).bind fun (as, ρ') => (resolveP ρ' as).bind fun ds => (primD p ds).map fun d => (d, ρ')
  | .fn f es, ρ => (evs T es ρ).bind fun (as, ρ') => (T.fns[f]?).bind fun F => (callL F.2 as ρ').map fun (d, ρ2) => (if F.2.ro = true then frzD d else d, ρ2)
  | .fnF f es, ρ => (evs T es ρ).bind fun (as, ρ') => (T.fns[f]?).bind fun F => callL F.2 as ρ'
  | .mth f h es, ρ => (evA T h ρ).bind fun (a, ρ0) => (T.mts[f]?).bind fun M => (headM M.1 ρ0 a).bind fun c => (M.2.lookup c).bind fun F => (evs T es ρ0).bind fun (as, ρ') => (callL F (a :: as) ρ').map fun (d, ρ2) => (if F.ro = true then frzD d else d, ρ2)
  | .mthF f h es, ρ => (evA T h ρ).bind fun (a, ρ0) => (T.mts[f]?).bind fun M => (headM M.1 ρ0 a).bind fun c => (M.2.lookup c).bind fun F => (evs T es ρ0).bind fun (as, ρ') => callL F (a :: as) ρ'
  | .fldO i f, ρ => match ρ[i]? with
    | some (.ow d) => (fldD T.flds f d).bind fun z => if isOw z = true then none else some (z, ρ)
    | _ => none
  | .band a b, ρ => (ev T a ρ).bind fun (d, ρ') => match d with
    | .bool true => ev T b ρ'
    | .bool false => some (.bool false, ρ')
    | _ => none
  | .bor a b, ρ => (ev T a ρ).bind fun (d, ρ') => match d with
    | .bool true => some (.bool true, ρ')
    | .bool false => ev T b ρ'
    | _ => none
  | .bnot a, ρ => (ev T a ρ).bind fun (d, ρ') => match d with
    | .bool b => some (.bool (!b), ρ')
    | _ => none
  | .ite c a b, ρ => (ev T c ρ).bind fun (d, ρ') => match d with
    | .bool true => ev T a ρ'
    | .bool false => ev T b ρ'
    | _ => none
  | .chain p q a b c, ρ => (ev T a ρ).bind fun (x, ρ1) => (ev T b ρ1).bind fun (y, ρ2) => (primD p [x, y]).bind fun z => match z with
    | .bool true => (ev T c ρ2).bind fun (w, ρ3) => (primD q [y, w]).map fun d => (d, ρ3)
    | .bool false => some (.bool false, ρ2)
    | _ => none
  | .comp elt tg it cs own, ρ => (evi T it ρ).bind fun (ds, ρ1) =>
      (compLoop (fun x ρt => (bindT tg x ρt).bind fun ρ2 => (evc T cs ρ2).bind fun (b, ρ3) =>
        if b = true then (ev T elt ρ3).map fun (d, ρ4) => (some d, ρ4) else some (none, ρ3)) own ds ρ1).map fun (out, ρ') => (.list out, restore ρ1 ρ' own)
  | .pop i a, ρ => match ρ[i]? with
    | some (.ow (.list _)) => (ev T a ρ).bind fun (d, ρ') => match d, ρ'[i]? with
      | .int k, some (.ow (.list ds)) => if -(2 ^ 63) ≤ k ∧ k < 2 ^ 63 then (seqIndex? k ds.length).bind fun j => (ds[j]?).map fun y => (y, ρ'.set i (.ow (.list (ds.eraseIdx j)))) else none
      | _, _ => none
    | _ => none
def evA (T : CT) : MA → Ev → Option (Arg × Ev)
  | .e m, ρ => (ev T m ρ).map fun (d, ρ') => (.v d, ρ')
  | .o i, ρ => match ρ[i]? with
    | some (.ow _) => some (.o i, ρ)
    | _ => none
  | .l i, ρ => match ρ[i]? with
    | some (.ow _) => some (.l i, ρ)
    | _ => none
  | .f _ _, _ => none
def evs (T : CT) : MEs → Ev → Option (List Arg × Ev)
  | .nil, ρ => some ([], ρ)
  | .cons a r, ρ => (evA T a ρ).bind fun (x, ρ1) => (evs T r ρ1).map fun (xs, ρ2) => (x :: xs, ρ2)
def evi (T : CT) : MI → Ev → Option (List D × Ev)
  | .seq a, ρ => (ev T a ρ).bind fun (d, ρ') => match d with
    | .list ds => some (ds, ρ')
    | .tuple ds => some (ds, ρ')
    | .str x => if x.cps.size ≤ sizeLine then some (signsD x, ρ') else none
    | .dict ks => if isOb (.dict ks) = true then none else some (ks.map (·.1), ρ')
    | _ => none
  | .rng1 a, ρ => (ev T a ρ).bind fun (d, ρ') => match d with
    | .int n => if -(sizeLine : Int) ≤ n ∧ n ≤ sizeLine then some (rngD 0 n.toNat, ρ') else none
    | _ => none
  | .rng2 a b, ρ => (ev T a ρ).bind fun (d, ρ1) => (ev T b ρ1).bind fun (e, ρ2) => match d, e with
    | .int i, .int j => if -(sizeLine : Int) ≤ i ∧ i ≤ sizeLine ∧ -(sizeLine : Int) ≤ j ∧ j ≤ sizeLine ∧ j - i ≤ sizeLine then some (rngD i (j - i).toNat, ρ2) else none
    | _, _ => none
  | .enum a, ρ => (ev T a ρ).bind fun (d, ρ') => match d with
    | .list ds => some (enumD ds, ρ')
    | .tuple ds => some (enumD ds, ρ')
    | _ => none
def evc (T : CT) : MC → Ev → Option (Bool × Ev)
  | .all, ρ => some (true, ρ)
  | .one c, ρ => (ev T c ρ).bind fun (d, ρ') => match d with
    | .bool b => some (b, ρ')
    | _ => none
end
end Mp
namespace Mp
open PySem PySem.Spec L2 LamX
open PyProof.Rows hiding St

/-! ### marks -/
theorem isMO_eq {d : D} (h : isMO d = true) : d = MO := by
  unfold isMO at h
  split at h
  · rw [of_decide_eq_true h]; rfl
  · cases h
theorem isMO_mo : isMO MO = true := by
  show decide (HUGE = HUGE) = true
  exact decide_eq_true rfl
theorem isMK_mo : isMK MO = false := rfl
theorem isMO_mk : isMO MK = false := rfl
theorem isMK_mk : isMK MK = true := by
  show decide (HUGE = HUGE) = true
  exact decide_eq_true rfl
theorem keyD_mk (k : Key) : isMK (keyD k) = false := by cases k <;> rfl
theorem keyD_mo (k : Key) : isMO (keyD k) = false := by cases k <;> rfl
@[simp] theorem unOwn_own (d : D) : unOwn (own_ d) = d := by
  show (if isMO MO = true then d else .dict [(MO, d)]) = d
  rw [if_pos isMO_mo]
theorem rz_ow {K : PySem.W.Frag} {H : Hp} {v : V} {d : D} (h : Rz K H v d) : isOw d = false := by
  cases h with
  | dct _ r =>
    cases r with
    | nil => rfl
    | cons _ r =>
      cases r with
      | nil => exact keyD_mo _
      | cons _ _ => rfl
  | @obj a C nm fs ds o c r => cases ds <;> rfl
  | _ => rfl
theorem unOwn_id {d : D} (h : isOw d = false) : unOwn d = d := by
  unfold unOwn
  split
  · rename_i k d
    have h : isMO k = false := h
    rw [if_neg (by rw [h]; decide)]
  · rfl
theorem rz_own_no {K : PySem.W.Frag} {H : Hp} {v : V} {x : D} (h : Rz K H v (own_ x)) : False := by
  have := rz_ow h
  rw [show isOw (own_ x) = isMO MO from rfl, isMO_mo] at this
  cases this
theorem own_inj {x y : D} (h : own_ x = own_ y) : x = y := by
  unfold own_ at h
  injection h with h
  injection h with h
  injection h with _ h

/-! ### what one owns -/
def OwnS (K : PySem.W.Frag) (H : Hp) (p : Addr) : D → Prop
  | .list ds => ∃ vs, H p = some (.lst vs) ∧ RzAll K H vs ds
  | .dict ds => ∃ ks, H p = some (.dK ks) ∧ RzKv K H ks ds
  | _ => False
inductive FldR (K : PySem.W.Frag) (H : Hp) : V → D → Prop
  | rz {v : V} {d : D} : Rz K H v d → FldR K H v d
  | ow {q : Addr} {d : D} : OwnS K H q d → FldR K H (.ref q) (own_ d)
inductive FldsR (K : PySem.W.Frag) (H : Hp) : List (Str × V) → List (D × D) → Prop
  | nil : FldsR K H [] []
  | cons {f : Str} {v : V} {d : D} {fs : List (Str × V)} {ds : List (D × D)} : FldR K H v d → FldsR K H fs ds → FldsR K H ((f, v) :: fs) ((.str f, d) :: ds)
structure OwnO (K : PySem.W.Frag) (H : Hp) (p : Addr) (nm : Str) (ds : List (D × D)) (C dx : Addr) (fs : List (Str × V)) : Prop where
  at_ : H p = some (.ins C dx fs)
  cn : ClsN K C nm
  pl : PlC K C
  fr : FldsR K H fs ds
  nd : (fs.map (·.1)).Nodup
  ap : ∀ f g b x y, (f, V.ref b) ∈ fs → (g, V.ref b) ∈ fs → ((.str f, own_ x) : D × D) ∈ ds → ((.str g, own_ y) : D × D) ∈ ds → f = g
def Own (K : PySem.W.Frag) (H : Hp) (p : Addr) : D → Prop
  | .list ds => ∃ vs, H p = some (.lst vs) ∧ RzAll K H vs ds
  | .dict ds => (∃ ks, H p = some (.dK ks) ∧ RzKv K H ks ds) ∨ ∃ nm ds' C dx fs, ds = (MK, .str nm) :: ds' ∧ OwnO K H p nm ds' C dx fs
  | _ => False
/-- the addresses that belong to it -/
def Foot (H : Hp) (p : Addr) (d : D) (b : Addr) : Prop := b = p ∨ ∃ C dx fs f x, H p = some (.ins C dx fs) ∧ (f, V.ref b) ∈ fs ∧ ((.str f, own_ x) : D × D) ∈ fldsOf d
/-- the tables of the defs that make lambdas -/
class LamT where
  ts : List (Addr × Str)
  fa : Addr
  h0 : L2.Hp
def TabsK [LamT] (K : PySem.W.Frag) (H : Hp) : Prop := ∀ t ∈ LamT.ts, TabS H t.1 t.2
variable [LamT]
structure Rel (K : PySem.W.Frag) (H : Hp) (σ : St) (ρ : Ev) : Prop where
  da : ∀ (i : Nat) (d : D), ρ[i]? = some (.da d) → ∃ v, σ[i]? = some (some v) ∧ Rz K H v d
  ow : ∀ (i : Nat) (d : D), ρ[i]? = some (.ow d) → ∃ p, σ[i]? = some (some (.ref p)) ∧ Own K H p d
  ne : ∀ (i j : Nat) (d e : D) (p q b : Addr), i ≠ j → ρ[i]? = some (.ow d) → ρ[j]? = some (.ow e) → σ[i]? = some (some (.ref p)) → σ[j]? = some (some (.ref q)) → Foot H p d b → Foot H q e b → False
  len : ρ.length = σ.length
  tb : TabsK K H
  fv : ∀ i : Nat, ρ[i]? = some .fv → σ[i]? = some (some (.ref LamT.fa)) ∧ Per LamT.h0 H
def OwnedAt (H : Hp) (σ : St) (ρ : Ev) (i : Nat) (b : Addr) : Prop := ∃ (d : D) (p : Addr), ρ[i]? = some (.ow d) ∧ σ[i]? = some (some (.ref p)) ∧ Foot H p d b
def Owned (H : Hp) (σ : St) (ρ : Ev) (b : Addr) : Prop := ∃ i, OwnedAt H σ ρ i b
/-- what is not one's own stays; one's own is what it was, or new -/
structure Keep (σ : St) (ρ : Ev) (H : Hp) (ρ' : Ev) (H' : Hp) : Prop where
  keep : ∀ b o, H b = some o → ¬ Owned H σ ρ b → (∀ ps, o ≠ .tbl ps) → H' b = some o
  own : ∀ i b, OwnedAt H' σ ρ' i b → OwnedAt H σ ρ i b ∨ H b = none
  alive : ∀ b, H' b = none → H b = none
  tabs : ∀ P q, (P, q) ∈ LamT.ts → TabS H P q → TabS H' P q
def Sk (ρ ρ' : Ev) : Prop := ρ'.map skel = ρ.map skel

section
variable {K : PySem.W.Frag} {H H' H'' : Hp} {σ : St} {ρ ρ' ρ'' : Ev} {p : Addr} {d : D}
theorem OwnS.own (h : OwnS K H p d) : Own K H p d := by
  cases d with
  | list ds => exact h
  | dict ds => exact .inl h
  | _ => exact h.elim
theorem OwnS.obj (h : OwnS K H p d) : ∃ u, H p = some u ∧ canFz u = true := by
  cases d with
  | list ds => obtain ⟨vs, e, _⟩ := h; exact ⟨_, e, rfl⟩
  | dict ds => obtain ⟨ks, e, _⟩ := h; exact ⟨_, e, rfl⟩
  | _ => exact h.elim
theorem Own.obj (h : Own K H p d) : ∃ u, H p = some u ∧ canFz u = true := by
  cases d with
  | list ds => obtain ⟨vs, e, _⟩ := h; exact ⟨_, e, rfl⟩
  | dict ds =>
    rcases h with ⟨ks, e, _⟩ | ⟨_, _, _, _, _, _, o⟩
    · exact ⟨_, e, rfl⟩
    · exact ⟨_, o.at_, rfl⟩
  | _ => exact h.elim
/-- one that is no object -/
theorem Own.s (h : Own K H p d) (n : isOb d = false) : OwnS K H p d := by
  cases d with
  | list ds => exact h
  | dict ds =>
    rcases h with h | ⟨_, _, _, _, _, rfl, _⟩
    · exact h
    · rw [show isOb (.dict ((MK, .str _) :: _)) = isMK MK from rfl, isMK_mk] at n; cases n
  | _ => exact h.elim
theorem OwnS.keep (h : OwnS K H p d) (e : H' p = H p) (k : Per H H') : OwnS K H' p d := by
  cases d with
  | list ds => obtain ⟨vs, e1, r⟩ := h; exact ⟨vs, e.trans e1, r.per k⟩
  | dict ds => obtain ⟨ks, e1, r⟩ := h; exact ⟨ks, e.trans e1, r.per k⟩
  | _ => exact h.elim
theorem OwnS.nob (h : OwnS K H p d) : isOb d = false := by
  cases d with
  | dict ds =>
    obtain ⟨_, _, r⟩ := h
    cases r with
    | nil => rfl
    | cons _ _ => exact keyD_mk _
  | list _ => rfl
  | _ => exact h.elim
/-- a thing without marks stands alone -/
theorem Foot.alone {b : Addr} (h : OwnS K H p d) (f : Foot H p d b) : b = p := by
  rcases f with f | ⟨C, dx, fs, f, x, e, _⟩
  · exact f
  · obtain ⟨u, hu, c⟩ := h.obj
    rw [e] at hu; cases hu
    cases d with
    | list ds => obtain ⟨vs, e1, _⟩ := h; rw [e] at e1; cases e1
    | dict ds => obtain ⟨vs, e1, _⟩ := h; rw [e] at e1; cases e1
    | _ => exact h.elim
theorem Foot.self (H : Hp) (p : Addr) (d : D) : Foot H p d p := .inl rfl
theorem Foot.iff (e : H' p = H p) {b : Addr} : Foot H' p d b ↔ Foot H p d b := by unfold Foot; rw [e]
theorem FldsR.keys : ∀ {fs : List (Str × V)} {ds : List (D × D)}, FldsR K H fs ds → ∀ {f : Str} {d : D}, ((.str f, d) : D × D) ∈ ds → f ∈ fs.map (·.1)
  | _, _, .nil, _, _, h => by cases h
  | _, _, .cons _ r, f, d, h => by
    rcases List.mem_cons.mp h with e | h
    · cases e; exact List.mem_cons_self
    · exact List.mem_cons_of_mem _ (r.keys h)
theorem FldsR.at_ : ∀ {fs : List (Str × V)} {ds : List (D × D)}, FldsR K H fs ds → (fs.map (·.1)).Nodup → ∀ {f : Str} {v : V} {d : D}, (f, v) ∈ fs → ((.str f, d) : D × D) ∈ ds → FldR K H v d
  | _, _, .nil, _, _, _, _, h, _ => by cases h
  | _, _, .cons (f := g) z r, nd, f, v, d, h1, h2 => by
    obtain ⟨n, nd⟩ := List.nodup_cons.mp nd
    rcases List.mem_cons.mp h1 with e1 | h1
    · rcases List.mem_cons.mp h2 with e2 | h2
      · cases e1; cases e2; exact z
      · cases e1; exact (n (r.keys h2)).elim
    · rcases List.mem_cons.mp h2 with e2 | h2
      · cases e2; exact (n (List.mem_map.mpr ⟨_, h1, rfl⟩)).elim
      · exact r.at_ nd h1 h2
theorem FldsR.map {H' : Hp} : ∀ {fs : List (Str × V)} {ds : List (D × D)}, FldsR K H fs ds → (∀ f v d, (f, v) ∈ fs → ((.str f, d) : D × D) ∈ ds → FldR K H v d → FldR K H' v d) → FldsR K H' fs ds
  | _, _, .nil, _ => .nil
  | _, _, .cons z r, g => .cons (g _ _ _ List.mem_cons_self List.mem_cons_self z) (r.map fun f v d h1 h2 => g f v d (List.mem_cons_of_mem _ h1) (List.mem_cons_of_mem _ h2))
theorem FldR.keep {v : V} (h : FldR K H v d) (e : ∀ b x, v = .ref b → d = own_ x → H' b = H b) (k : Per H H') : FldR K H' v d := by
  cases h with
  | rz z => exact .rz (z.per k)
  | ow o => exact .ow (o.keep (e _ _ rfl rfl) k)
theorem FldR.ows {q : Addr} {x : D} (h : FldR K H (.ref q) (own_ x)) : OwnS K H q x := by
  generalize hd : own_ x = d at h
  cases h with
  | rz z => subst hd; exact (rz_own_no z).elim
  | ow o => rw [own_inj hd]; exact o
theorem OwnO.inner {nm : Str} {ds : List (D × D)} {C dx : Addr} {fs : List (Str × V)} (o : OwnO K H p nm ds C dx fs) {f : Str} {b : Addr} {x : D} (h1 : (f, V.ref b) ∈ fs) (h2 : ((.str f, own_ x) : D × D) ∈ ds) : OwnS K H b x := (o.fr.at_ o.nd h1 h2).ows
theorem mem_obj {nm : Str} {ds : List (D × D)} {f : Str} {x : D} (h : ((.str f, own_ x) : D × D) ∈ fldsOf (.dict ((MK, .str nm) :: ds))) : ((.str f, own_ x) : D × D) ∈ ds := by
  rcases List.mem_cons.mp (show ((.str f, own_ x) : D × D) ∈ (MK, .str nm) :: ds from h) with e | h
  · cases e
  · exact h
/-- all that belongs to it is there -/
theorem Own.feet (h : Own K H p d) {b : Addr} (f : Foot H p d b) : ∃ u, H b = some u ∧ canFz u = true := by
  rcases f with rfl | ⟨C, dx, fs, f, x, e, h1, h2⟩
  · exact h.obj
  · cases d with
    | dict ds =>
      rcases h with ⟨ks, e1, _⟩ | ⟨nm, ds', C', dx', fs', rfl, o⟩
      · rw [e] at e1; cases e1
      · rw [o.at_] at e; cases e
        exact (o.inner h1 (mem_obj h2)).obj
    | list ds => obtain ⟨vs, e1, _⟩ := h; rw [e] at e1; cases e1
    | _ => exact h.elim
theorem Own.keep (h : Own K H p d) (e : ∀ b, Foot H p d b → H' b = H b) (k : Per H H') : Own K H' p d := by
  have ep := e p (Foot.self H p d)
  cases d with
  | list ds => obtain ⟨vs, e1, r⟩ := h; exact ⟨vs, ep.trans e1, r.per k⟩
  | dict ds =>
    rcases h with ⟨ks, e1, r⟩ | ⟨nm, ds', C, dx, fs, rfl, o⟩
    · exact .inl ⟨ks, ep.trans e1, r.per k⟩
    · refine .inr ⟨nm, ds', C, dx, fs, rfl, ⟨ep.trans o.at_, o.cn, o.pl, o.fr.map fun f v d h1 h2 z => z.keep (fun b x hv hd => ?_) k, o.nd, o.ap⟩⟩
      subst hv hd
      exact e b (.inr ⟨C, dx, fs, f, x, o.at_, h1, List.mem_cons_of_mem _ h2⟩)
  | _ => exact h.elim
theorem Sk.refl (ρ : Ev) : Sk ρ ρ := rfl
theorem Sk.trans (a : Sk ρ ρ') (b : Sk ρ' ρ'') : Sk ρ ρ'' := Eq.trans b a
theorem Sk.symm (a : Sk ρ ρ') : Sk ρ' ρ := Eq.symm a
theorem Sk.at (a : Sk ρ ρ') (i : Nat) : (ρ'[i]?).map skel = (ρ[i]?).map skel := by
  have := congrArg (fun l => l[i]?) a
  simpa [List.getElem?_map] using this
theorem Sk.ow (a : Sk ρ ρ') {i : Nat} {d : D} (h : ρ'[i]? = some (.ow d)) : ∃ e, ρ[i]? = some (.ow e) := by
  have q := a.at i
  rw [h] at q
  cases e : ρ[i]? with
  | none => rw [e] at q; cases q
  | some s =>
    rw [e] at q
    cases s with
    | ow d' => exact ⟨d', rfl⟩
    | un => cases q
    | fv => cases q
    | da d => cases q
theorem Sk.da (a : Sk ρ ρ') {i : Nat} {d : D} (h : ρ'[i]? = some (.da d)) : ρ[i]? = some (.da d) := by
  have q := a.at i
  rw [h] at q
  cases e : ρ[i]? with
  | none => rw [e] at q; cases q
  | some s =>
    rw [e] at q
    cases s with
    | ow e => cases q
    | un => cases q
    | fv => cases q
    | da d' => cases q; rfl
theorem Sk.fv (a : Sk ρ ρ') {i : Nat} (h : ρ'[i]? = some .fv) : ρ[i]? = some .fv := by
  have q := a.at i
  rw [h] at q
  cases e : ρ[i]? with
  | none => rw [e] at q; cases q
  | some s =>
    rw [e] at q
    cases s with
    | ow e => cases q
    | un => cases q
    | fv => rfl
    | da d' => cases q
theorem Sk.len (a : Sk ρ ρ') : ρ'.length = ρ.length := by
  have := congrArg List.length a
  simpa using this
theorem Keep.refl : Keep σ ρ H ρ H := ⟨fun _ _ h _ _ => h, fun _ _ h => .inl h, fun _ h => h, fun _ _ _ h => h⟩
theorem Keep.owned (k : Keep σ ρ H ρ' H') {b : Addr} (h : Owned H' σ ρ' b) : Owned H σ ρ b ∨ H b = none := by
  obtain ⟨i, h⟩ := h
  rcases k.own i b h with h | h
  · exact .inl ⟨i, h⟩
  · exact .inr h
theorem Keep.trans (a : Keep σ ρ H ρ' H') (s : Sk ρ ρ') (b : Keep σ ρ' H' ρ'' H'') : Keep σ ρ H ρ'' H'' where
  keep := fun c o h n t => b.keep c o (a.keep c o h n t) (fun z => (a.owned z).elim n fun e => by rw [h] at e; cases e) t
  own := fun i c h => by
    rcases b.own i c h with h | h
    · exact a.own i c h
    · exact .inr (a.alive c h)
  alive := fun c h => a.alive c (b.alive c h)
  tabs := fun P q mt t => b.tabs P q mt (a.tabs P q mt t)
theorem Rel.mut (R : Rel K H σ ρ) {b : Addr} (h : Owned H σ ρ b) : ∃ u, H b = some u ∧ canFz u = true := by
  obtain ⟨i, d, p, e, q, f⟩ := h
  obtain ⟨p', q', o⟩ := R.ow i d e
  rw [q] at q'; cases q'
  exact o.feet f
theorem Keep.same (R : Rel K H σ ρ) (s : Same H H') : Keep σ ρ H ρ H' where
  keep := fun b o h _ _ => s b o h
  own := fun i b ⟨d, p, e, q, f⟩ => by
    obtain ⟨p', q', o⟩ := R.ow i d e
    rw [q] at q'; cases q'
    obtain ⟨u, hu, _⟩ := o.obj
    exact .inl ⟨d, p, e, q, (Foot.iff ((s _ _ hu).trans hu.symm)).mp f⟩
  alive := fun b h => by
    cases e : H b with
    | none => rfl
    | some o => rw [s b o e] at h; cases h
  tabs := fun P q mt t => t.ext s
theorem canFz_tup {xs : List V} : canFz (.tup xs) = false := rfl
theorem Keep.per (k : Keep σ ρ H ρ' H') (R : Rel K H σ ρ) : Per H H' := by
  refine ⟨fun b xs h => k.keep b _ h (fun z => ?_) (fun _ e => by cases e), fun b o u h => k.keep b _ h (fun z => ?_) (fun _ e => by cases e), fun b xs h => k.keep b _ h (fun z => ?_) (fun _ e => by cases e)⟩
  · obtain ⟨w, e, c⟩ := R.mut z
    rw [h] at e; cases e; cases c
  · obtain ⟨w, e, c⟩ := R.mut z
    rw [h] at e; cases e; cases c
  · obtain ⟨w, e, c⟩ := R.mut z
    rw [h] at e; cases e; cases c
theorem Rel.same (R : Rel K H σ ρ) (s : Same H H') : Rel K H' σ ρ := by
  have k := Per.of_same s
  have ft : ∀ {i : Nat} {d : D} {p b : Addr}, ρ[i]? = some (.ow d) → σ[i]? = some (some (.ref p)) → Foot H' p d b → Foot H p d b := fun {i d p b} e q f => by
    obtain ⟨p', q', o⟩ := R.ow i d e
    rw [q] at q'; cases q'
    obtain ⟨u, hu, _⟩ := o.obj
    exact (Foot.iff ((s _ _ hu).trans hu.symm)).mp f
  refine ⟨fun i d e => ?_, fun i d e => ?_, fun i j d e p q b hij h1 h2 h3 h4 f1 f2 => R.ne i j d e p q b hij h1 h2 h3 h4 (ft h1 h3 f1) (ft h2 h4 f2), R.len, fun t ht => (R.tb t ht).ext s, fun i h => ⟨(R.fv i h).1, (R.fv i h).2.trans k⟩⟩
  · obtain ⟨v, q, z⟩ := R.da i d e
    exact ⟨v, q, z.per k⟩
  · obtain ⟨p, q, o⟩ := R.ow i d e
    refine ⟨p, q, o.keep (fun b f => ?_) k⟩
    obtain ⟨u, e1, _⟩ := o.feet f
    exact (s _ _ e1).trans e1.symm
end

/-! ### readings -/
def tEvG (K : PySem.W.Frag) (g : Ev → Option (D × Ev)) : TE := fun σ H Q => ∃ ρ d ρ', Rel K H σ ρ ∧ g ρ = some (d, ρ') ∧
  ∀ v H', Keep σ ρ H ρ' H' → Sk ρ ρ' → Rel K H' σ ρ' → Rz K H' v d → Q v H'
def tEv (T : CT) (K : PySem.W.Frag) (m : ME) : TE := fun σ H Q => ∃ ρ d ρ', Rel K H σ ρ ∧ ev T m ρ = some (d, ρ') ∧
  ∀ v H', Keep σ ρ H ρ' H' → Sk ρ ρ' → Rel K H' σ ρ' → Rz K H' v d → Q v H'
def tTst (T : CT) (K : PySem.W.Frag) (m : ME) : TT := fun σ H Q => ∃ ρ b ρ', Rel K H σ ρ ∧ ev T m ρ = some (.bool b, ρ') ∧
  ∀ H', Keep σ ρ H ρ' H' → Sk ρ ρ' → Rel K H' σ ρ' → Q b H'
def tA (T : CT) (K : PySem.W.Frag) : MA → TE
  | .e m => tEv T K m
  | .o i => tVar i
  | .l i => tVar i
  | .f _ _ => fun _ _ _ => False
def tAs' (T : CT) (K : PySem.W.Frag) : MEs → TA
  | .nil => tNil
  | .cons a r => tCons (tA T K a) (tAs' T K r)
inductive ArgRel (K : PySem.W.Frag) (H : Hp) (σ : St) : List V → List Arg → Prop
  | nil : ArgRel K H σ [] []
  | v {v : V} {vs : List V} {d : D} {as : List Arg} : Rz K H v d → ArgRel K H σ vs as → ArgRel K H σ (v :: vs) (.v d :: as)
  | o {v : V} {vs : List V} {i : Nat} {as : List Arg} : σ[i]? = some (some v) → ArgRel K H σ vs as → ArgRel K H σ (v :: vs) (.o i :: as)
  | l {v : V} {vs : List V} {i : Nat} {as : List Arg} : σ[i]? = some (some v) → ArgRel K H σ vs as → ArgRel K H σ (v :: vs) (.l i :: as)
theorem ArgRel.length {K : PySem.W.Frag} {H : Hp} {σ : St} : ∀ {vs : List V} {as : List Arg}, ArgRel K H σ vs as → vs.length = as.length
  | _, _, .nil => rfl
  | _, _, .v _ r => congrArg Nat.succ (ArgRel.length r)
  | _, _, .o _ r => congrArg Nat.succ (ArgRel.length r)
  | _, _, .l _ r => congrArg Nat.succ (ArgRel.length r)
def tAs (T : CT) (K : PySem.W.Frag) (es : MEs) : TA := fun σ H Q => ∃ ρ as ρ', Rel K H σ ρ ∧ evs T es ρ = some (as, ρ') ∧
  ∀ vs H', Keep σ ρ H ρ' H' → Sk ρ ρ' → Rel K H' σ ρ' → ArgRel K H' σ vs as → Q vs H'
theorem tAs_imp {T : CT} {K : PySem.W.Frag} : ∀ (es : MEs) (σ : St) (H : Hp) (Q : List V → Hp → Prop), tAs T K es σ H Q → tAs' T K es σ H Q
  | .nil, σ, H, Q, ⟨ρ, as, ρ', R, e, q⟩ => by
    unfold evs at e
    cases e
    exact q [] H Keep.refl (Sk.refl _) R .nil
  | .cons a r, σ, H, Q, ⟨ρ, as, ρ', R, e, q⟩ => by
    unfold evs at e
    obtain ⟨⟨x, ρ1⟩, e1, e2⟩ := Option.bind_eq_some_iff.mp e
    obtain ⟨⟨xs, ρ2⟩, e3, e4⟩ := Option.map_eq_some_iff.mp e2
    cases e4
    cases a with
    | e m =>
      unfold evA at e1
      obtain ⟨⟨d, ρ1'⟩, e5, e6⟩ := Option.map_eq_some_iff.mp e1
      cases e6
      refine ⟨ρ, d, ρ1, R, e5, fun v H1 k1 s1 R1 z1 => tAs_imp r σ H1 _ ⟨ρ1, xs, ρ', R1, e3, fun vs H2 k2 s2 R2 ar => ?_⟩⟩
      exact q (v :: vs) H2 (k1.trans s1 k2) (s1.trans s2) R2 (.v (z1.per (k2.per R1)) ar)
    | o i =>
      unfold evA at e1
      split at e1
      · rename_i d hd
        cases e1
        obtain ⟨p, hp, _⟩ := R.ow i d hd
        exact ⟨.ref p, hp, tAs_imp r σ H _ ⟨ρ, xs, ρ', R, e3, fun vs H2 k2 s2 R2 ar => q _ H2 k2 s2 R2 (.o hp ar)⟩⟩
      · cases e1
    | l i =>
      unfold evA at e1
      split at e1
      · rename_i d hd
        cases e1
        obtain ⟨p, hp, _⟩ := R.ow i d hd
        exact ⟨.ref p, hp, tAs_imp r σ H _ ⟨ρ, xs, ρ', R, e3, fun vs H2 k2 s2 R2 ar => q _ H2 k2 s2 R2 (.l hp ar)⟩⟩
      · cases e1
    | f i n =>
      unfold evA at e1
      cases e1

/-! ### operations by values that stand for data -/
def Ry (K : PySem.W.Frag) (H : Hp) (v : V) (d : D) : Prop := Rz K H v d ∨ ∃ p, v = .ref p ∧ OwnS K H p d
inductive RyAll (K : PySem.W.Frag) (H : Hp) : List V → List D → Prop
  | nil : RyAll K H [] []
  | cons {v : V} {vs : List V} {d : D} {ds : List D} : Ry K H v d → RyAll K H vs ds → RyAll K H (v :: vs) (d :: ds)
/-- what an operation on data asks, and what it hands on -/
def rD (K : PySem.W.Frag) (g : List D → Option D) : List V → Hp → VK → Prop := fun vs H Q => ∃ ds z, RyAll K H vs ds ∧ g ds = some z ∧ ∀ v H', Same H H' → Rz K H' v z → Q v H'
def tP (T : CT) (K : PySem.W.Frag) (p : Prim) (es : MEs) : TE := fun σ H Q => tAs' T K es σ H fun vs H' => rD K (primD p) vs H' Q
theorem argRel_res {K : PySem.W.Frag} {H : Hp} {σ : St} {ρ : Ev} (R : Rel K H σ ρ) : ∀ {vs : List V} {as : List Arg} {ds : List D}, ArgRel K H σ vs as → resolveP ρ as = some ds → RyAll K H vs ds
  | _, _, _, .nil, e => by
    unfold resolveP at e
    cases e
    exact .nil
  | _, _, _, .v z r, e => by
    unfold resolveP at e
    obtain ⟨d, e1, e2⟩ := Option.bind_eq_some_iff.mp e
    obtain ⟨ds, e3, e4⟩ := Option.map_eq_some_iff.mp e2
    cases e4
    unfold resolveP1 at e1
    cases e1
    exact .cons (.inl z) (argRel_res R r e3)
  | _, _, _, .o (i := i) z r, e => by
    unfold resolveP at e
    obtain ⟨d, e1, e2⟩ := Option.bind_eq_some_iff.mp e
    obtain ⟨ds, e3, e4⟩ := Option.map_eq_some_iff.mp e2
    cases e4
    unfold resolveP1 at e1
    simp only at e1
    split at e1
    · rename_i d' hd
      split at e1
      · cases e1
      · rename_i nob
        cases e1
        obtain ⟨p, hp, o⟩ := R.ow _ _ hd
        rw [z] at hp
        cases hp
        exact .cons (.inr ⟨p, rfl, o.s (by simpa using nob)⟩) (argRel_res R r e3)
    · cases e1
  | _, _, _, .l (i := i) z r, e => by
    unfold resolveP at e
    obtain ⟨d, e1, e2⟩ := Option.bind_eq_some_iff.mp e
    unfold resolveP1 at e1
    cases e1
theorem tP_imp {T : CT} {K : PySem.W.Frag} {p : Prim} {es : MEs} {σ : St} {H : Hp} {Q : VK} (h : tEv T K (.prim p es) σ H Q) : tP T K p es σ H Q := by
  obtain ⟨ρ, d, ρ', R, e, q⟩ := h
  unfold ev at e
  obtain ⟨⟨as, ρ1⟩, e1, e2⟩ := Option.bind_eq_some_iff.mp e
  obtain ⟨ds, e3, e4⟩ := Option.bind_eq_some_iff.mp e2
  obtain ⟨d', e5, e6⟩ := Option.map_eq_some_iff.mp e4
  cases e6
  refine tAs_imp es σ H _ ⟨ρ, as, ρ', R, e1, fun vs H1 k s R1 ar => ?_⟩
  exact ⟨ds, d, argRel_res R1 ar e3, e5, fun v H2 sm z => q v H2 (k.trans s (Keep.same R1 sm)) s (R1.same sm) z⟩
theorem PE.imp {X : Cx} {e : Expr} {t t' : TE} (h : PE X e t) (i : ∀ σ H Q, t' σ H Q → t σ H Q) : PE X e t' := ⟨fun pins s σ H Q I q => h.run pins s σ H Q I (i σ H Q q)⟩
theorem PT.imp {X : Cx} {e : Expr} {t t' : TT} (h : PT X e t) (i : ∀ σ H Q, t' σ H Q → t σ H Q) : PT X e t' := ⟨fun pins s σ H Q I q => h.run pins s σ H Q I (i σ H Q q)⟩

/-! ### what a datum tells of its value -/
section
variable {X : Cx} {K : PySem.W.Frag} {H : Hp} {v : V}
theorem Ry.none (h : Ry K H v .none) : v = .non := by
  rcases h with h | ⟨p, _, h⟩
  · cases h; rfl
  · exact h.elim
theorem Ry.bool {b : Bool} (h : Ry K H v (.bool b)) : v = .bl b := by
  rcases h with h | ⟨p, _, h⟩
  · cases h; rfl
  · exact h.elim
theorem Ry.int {i : Int} (h : Ry K H v (.int i)) : v = .int i := by
  rcases h with h | ⟨p, _, h⟩
  · cases h; rfl
  · exact h.elim
theorem Ry.str {x : Str} (h : Ry K H v (.str x)) : v = .str x := by
  rcases h with h | ⟨p, _, h⟩
  · cases h; rfl
  · exact h.elim
theorem Ry.tup {ds : List D} (h : Ry K H v (.tuple ds)) : ∃ a xs, v = .ref a ∧ SqT K H a xs ∧ RzAll K H xs ds := by
  rcases h with h | ⟨p, _, h⟩
  · cases h with
    | tup s r => exact ⟨_, _, rfl, s, r⟩
  · exact h.elim
theorem Ry.lst {ds : List D} (h : Ry K H v (.list ds)) : ∃ a xs, v = .ref a ∧ SqL K H a xs ∧ RzAll K H xs ds := by
  rcases h with h | ⟨p, e, xs, h, r⟩
  · cases h with
    | lst s r => exact ⟨_, _, rfl, s.sq, r⟩
  · exact ⟨p, xs, e, .inl (.inl h), r⟩
theorem RyAll.one {d : D} {vs : List V} (h : RyAll K H vs [d]) : ∃ v, vs = [v] ∧ Ry K H v d := by
  cases h with
  | cons a r => cases r; exact ⟨_, rfl, a⟩
theorem RyAll.two {d e : D} {vs : List V} (h : RyAll K H vs [d, e]) : ∃ v w, vs = [v, w] ∧ Ry K H v d ∧ Ry K H w e := by
  cases h with
  | cons a r =>
    obtain ⟨w, rfl, b⟩ := r.one
    exact ⟨_, _, rfl, a, b⟩
theorem RyAll.three {d e f : D} {vs : List V} (h : RyAll K H vs [d, e, f]) : ∃ v w u, vs = [v, w, u] ∧ Ry K H v d ∧ Ry K H w e ∧ Ry K H u f := by
  cases h with
  | cons a r =>
    obtain ⟨w, u, rfl, b, c⟩ := r.two
    exact ⟨_, _, _, rfl, a, b, c⟩
theorem RyAll.length {vs : List V} {ds : List D} (h : RyAll K H vs ds) : vs.length = ds.length := by
  induction h with
  | nil => rfl
  | cons _ _ ih => simp [ih]
theorem RzAll.ry {vs : List V} {ds : List D} (h : RzAll K H vs ds) : RyAll K H vs ds := by
  induction vs generalizing ds with
  | nil => cases h; exact .nil
  | cons v vs ih => cases h with | cons a r => exact .cons (.inl a) (ih r)
theorem same_new {p : Addr} {o : HO} (h : H p = none) : Same H (upd H p o) := fun b u e => by rw [upd_ne (ne_of_none e h)]; exact e
theorem same_fz {p : Addr} {o u : HO} (h : H p = none) : Same H (upd (upd H p o) p u) := fun b u e => by rw [upd_upd]; rw [upd_ne (ne_of_none e h)]; exact e
/-- from a value that reads as a datum to the library's reading -/
theorem Ry.reads {pins : List (Addr × Obj)} {σ : St} {s : Shared} {d : D} {u : Value} (h : Ry X.K H v d) (c : clean d = true) (I : Inv X pins σ H s) (r : RelV v u) : ∃ as, Reads s.heap u d as := by
  rcases h with h | ⟨p, rfl, h⟩
  · exact Rz.reads I d v u c h r
  · cases d with
    | list ds =>
      obtain ⟨vs, e, z⟩ := h
      cases r
      obtain ⟨its, rv, ⟨o, n, ho, hc, _, hd⟩, _⟩ := I.list (SqL.of e)
      obtain ⟨as, hr⟩ := Rz.readsAll I ds _ its (by simpa [clean] using c) z rv
      exact ⟨_, Reads.list ho hc hd hr⟩
    | dict ds =>
      obtain ⟨ks, e, z⟩ := h
      cases r
      obtain ⟨_, _, vs, kv, o, es, ep, ho, hx, hd, _, hp, _⟩ := I.hok _ _ e
      obtain ⟨as, h1⟩ := keys_reads (X := X) (H := H) (h := s.heap) hp kv z
      obtain ⟨bs, h2⟩ := Rz.readsKv I ds _ _ _ (by simpa [clean] using c) z kv hp
      exact ⟨_, Reads.dict ho hx.1 hd h1 h2⟩
    | _ => exact h.elim
end
/-- a new list that is known to nobody else stands still from now on -/
def fresh (K : PySem.W.Frag) (H : Hp) (z : D) (Q : VK) : VK := fun v H' => ∃ p, v = .ref p ∧ H p = none ∧ Same H H' ∧ OwnS K H' p z ∧ Q v H'
def later (K : PySem.W.Frag) (H : Hp) (z : D) (Q : VK) : VK := fresh K H z fun v _ => ∀ H'', Same H H'' → Rz K H'' v z → Q v H''
theorem EP.freeze {X : Cx} {pins : List (Addr × Obj)} {σ : St} {Q : VK} {u : Value} {s : Shared} {H : Hp} {z : D} (h : EP X pins σ (later X.K H z Q) u s) : EP X pins σ Q u s := by
  obtain ⟨v, H', I, r, p, rfl, hp, sm, o, q⟩ := h
  obtain ⟨w, e, c⟩ := o.obj
  obtain ⟨ob, I'⟩ := Mp.Inv.freeze I e c
  have sm' : Same H (upd H' p (.frz ob w)) := fun b x hb => by rw [upd_ne (ne_of_none hb hp)]; exact sm b x hb
  have per : Per H' (upd H' p (.frz ob w)) :=
    ⟨fun b xs hb => by rw [upd_ne (fun eq => by subst eq; rw [e] at hb; cases hb; cases c)]; exact hb, fun b o u hb => by rw [upd_ne (fun eq => by subst eq; rw [e] at hb; cases hb; cases c)]; exact hb, fun b P hb => by rw [upd_ne (fun eq => by subst eq; rw [e] at hb; cases hb; cases c)]; exact hb⟩
  refine ⟨.ref p, _, I', r, q _ sm' ?_⟩
  cases z with
  | list ds =>
    obtain ⟨vs, e1, z1⟩ := o
    rw [e] at e1; cases e1
    exact .lst (.inl ⟨ob, upd_same⟩) (z1.per per)
  | dict ds =>
    obtain ⟨ks, e1, z1⟩ := o
    rw [e] at e1; cases e1
    exact .dct upd_same (z1.per per)
  | _ => exact o.elim
theorem wp_freeze {X : Cx} {pins : List (Addr × Obj)} {σ : St} {Q : VK} {s : Shared} {H : Hp} {M : Model} {A : Around} {E : Value → Shared → Prop} {t : Sem Value} (z : D)
    (h : wpAny M A t (EP X pins σ (later X.K H z Q)) E s) : wpAny M A t (EP X pins σ Q) E s := thn h fun _ _ h => EP.freeze h
end Mp
namespace Mp
open PySem PySem.Spec L2
open PyProof.Rows hiding St
variable [LamT]
section
variable {X : Cx}
/-- a binary operation on data -/
def r2D (K : PySem.W.Frag) (g : D → D → Option D) : R2 := fun x y H Q => ∃ a b z, Ry K H x a ∧ Ry K H y b ∧ g a b = some z ∧ ∀ v H', Same H H' → Rz K H' v z → Q v H'
theorem r2_of {K : PySem.W.Frag} {p : Prim} {g : D → D → Option D} (hg : ∀ ds, primD p ds = match ds with | [a, b] => g a b | _ => none) {x y : V} {H : Hp} {Q : VK} (h : rD K (primD p) [x, y] H Q) : r2D K g x y H Q := by
  obtain ⟨ds, z, r, e, q⟩ := h
  cases r with
  | cons ra r =>
    cases r with
    | cons rb r =>
      cases r
      rw [hg] at e
      exact ⟨_, _, z, ra, rb, e, q⟩
def r1D (K : PySem.W.Frag) (g : D → Option D) : V → Hp → VK → Prop := fun x H Q => ∃ a z, Ry K H x a ∧ g a = some z ∧ ∀ v H', Same H H' → Rz K H' v z → Q v H'
theorem r1_of {K : PySem.W.Frag} {p : Prim} {g : D → Option D} (hg : ∀ ds, primD p ds = match ds with | [a] => g a | _ => none) {vs : List V} {H : Hp} {Q : VK} (h : rD K (primD p) vs H Q) : ∃ x, vs = [x] ∧ r1D K g x H Q := by
  obtain ⟨ds, z, r, e, q⟩ := h
  rw [hg] at e
  cases r with
  | nil => cases e
  | cons ra r =>
    cases r with
    | nil => exact ⟨_, rfl, _, z, ra, e, q⟩
    | cons _ _ => cases e
theorem fin_int {pins : List (Addr × Obj)} {σ : St} {H : Hp} {s : Shared} {Q : VK} {i : Int} {t : Tok} (I : Inv X pins σ H s) (q : ∀ v H', Same H H' → Rz X.K H' v (.int i) → Q v H') : EP X pins σ Q (.int i t) s :=
  ⟨.int i, H, I, ⟨_, rfl⟩, q _ _ (Same.refl H) (.int i)⟩
theorem fin_bool {pins : List (Addr × Obj)} {σ : St} {H : Hp} {s : Shared} {Q : VK} {b b' : Bool} (I : Inv X pins σ H s) (q : ∀ v H', Same H H' → Rz X.K H' v (.bool b) → Q v H') (e : b' = b) : EP X pins σ Q (.bool b') s :=
  ⟨.bl b, H, I, e ▸ rfl, q _ _ (Same.refl H) (.bl b)⟩
/-- ints -/
theorem i2D {f : Value → Value → Sem Value} {C : Int → Int → Prop} {k : Int → Int → V} {g : Int → Int → Option D} (hf : OpR X f (rI C k))
    (hg : ∀ i j z, g i j = some z → C i j ∧ ∀ H, Rz X.K H (k i j) z) : OpR X f (r2D X.K (int2 g)) := by
  intro pins s σ H x y v u Q I rx ry h
  obtain ⟨a, b, z, ha, hb, e, q⟩ := h
  unfold int2 at e
  split at e
  · cases ha.int
    cases hb.int
    obtain ⟨c, r⟩ := hg _ _ _ e
    exact hf pins s σ H _ _ v u Q I rx ry ⟨_, _, rfl, rfl, c, q _ _ (Same.refl H) (r H)⟩
  · cases e
theorem i2D0 {f : Value → Value → Sem Value} {k : Int → Int → V} {g : Int → Int → Option D} (hf : OpR X f (rI0 k))
    (hg : ∀ i j z, g i j = some z → ∀ H, Rz X.K H (k i j) z) : OpR X f (r2D X.K (int2 g)) := by
  intro pins s σ H x y v u Q I rx ry h
  obtain ⟨a, b, z, ha, hb, e, q⟩ := h
  unfold int2 at e
  split at e
  · cases ha.int
    cases hb.int
    exact hf pins s σ H _ _ v u Q I rx ry ⟨_, _, rfl, rfl, q _ _ (Same.refl H) (hg _ _ _ e H)⟩
  · cases e
theorem od_sub : OpR X (binaryOp .Sub) (r2D X.K (int2 fun i j => some (.int (i - j)))) := i2D0 op_sub fun i j z e H => by cases e; exact .int _
theorem od_mul : OpR X (binaryOp .Mult) (r2D X.K mulD) := i2D op_mul fun i j z e => by
  by_cases c : (-(2 ^ 64) < i ∧ i < 2 ^ 64) ∨ (-(2 ^ 64) < j ∧ j < 2 ^ 64)
  · rw [if_pos c] at e
    cases e
    exact ⟨c, fun H => .int _⟩
  · rw [if_neg c] at e
    cases e
theorem rep_rz {K : PySem.W.Frag} {H : Hp} {vs : List V} {ds : List D} (r : RzAll K H vs ds) : ∀ n : Nat, RzAll K H (List.replicate n vs).flatten (List.replicate n ds).flatten
  | 0 => .nil
  | n + 1 => by
    rw [List.replicate_succ, List.replicate_succ, List.flatten_cons, List.flatten_cons]
    exact r.append (rep_rz r n)
theorem od_mulA : OpR X (binaryOp .Mult) (r2D X.K mulA) := by
  intro pins s σ H x y v u Q I rx ry h
  obtain ⟨a, b, z, ha, hb, e, q⟩ := h
  unfold mulA at e
  split at e
  · rename_i ds k
    split at e
    · rename_i c
      cases e
      obtain ⟨p, xs, rfl, s1, z1⟩ := ha.tup
      cases hb.int
      refine op_repT pins s σ H _ _ v u Q I rx ry ⟨p, k, xs, rfl, rfl, s1, fun e => c.1 ?_, c.2.1, c.2.2.1, by rw [z1.length]; exact c.2.2.2, fun t ht => ?_⟩
      · subst e
        cases z1
        rfl
      · have sm := same_new (o := .tup (List.replicate k.toNat xs).flatten) ht
        exact q _ _ sm (.tup (.inl (.inl upd_same)) ((rep_rz z1 _).per (Per.of_same sm)))
    · cases e
  · exact od_mul pins s σ H x y v u Q I rx ry ⟨a, b, z, ha, hb, e, q⟩
theorem od_fdiv : OpR X (binaryOp .FloorDiv) (r2D X.K fdivD) := i2D op_fdivW fun i j z e => by
  by_cases c : 0 < j ∧ j < 2 ^ 64
  · rw [if_pos c] at e
    cases e
    exact ⟨wide_div (b := 64) c.1 (by have := c.2; omega) (by decide) (by decide), fun H => .int _⟩
  · rw [if_neg c] at e
    cases e
theorem od_mod : OpR X (binaryOp .Mod) (r2D X.K modD) := i2D op_mod fun i j z e => by
  by_cases c : 0 < j
  · rw [if_pos c] at e
    cases e
    exact ⟨c, fun H => .int _⟩
  · rw [if_neg c] at e
    cases e
theorem od_pow : OpR X (binaryOp .Pow) (r2D X.K powD) := i2D op_pow fun i j z e => by
  by_cases c : 0 ≤ j ∧ j ≤ 1000000 ∧ i.natAbs < 2 ^ 64
  · rw [if_pos c] at e
    cases e
    exact ⟨c, fun H => .int _⟩
  · rw [if_neg c] at e
    cases e
theorem od_cmp {op : CmpOp} {p : Int → Int → Bool} (h : OpR X (compareOp op) (rI0 fun i j => .bl (p i j))) : OpR X (compareOp op) (r2D X.K (cmpD p)) := i2D0 h fun i j z e H => by cases e; exact .bl _
theorem ltOk_spec {a b : D} (h : ltOk a b = true) : clean a = true ∧ clean b = true ∧ PySem.W.alike a b = true ∧ a.depth ≤ 60 ∧ a ≠ .none := by
  unfold ltOk at h
  split at h
  · simp only [Bool.and_eq_true, decide_eq_true_eq] at h
    exact ⟨h.1.1.1, h.1.1.2, h.1.2, h.2, fun e => nomatch e⟩
  · simp only [Bool.and_eq_true, decide_eq_true_eq] at h
    exact ⟨h.1.1.1, h.1.1.2, h.1.2, h.2, fun e => nomatch e⟩
  · cases h
theorem od_lt (hu : X.A.units + 64 < cLine) : OpR X (compareOp .Lt) (r2D X.K ltD) := by
  intro pins s σ H x y v u Q I rx ry h
  obtain ⟨a, b, z, ha, hb, e, q⟩ := h
  unfold ltD at e
  split at e
  · exact (od_cmp (p := fun i j => decide (i < j)) op_lt) pins s σ H x y v u Q I rx ry ⟨_, _, z, ha, hb, e, q⟩
  · split at e
    · rename_i c
      cases e
      obtain ⟨c1, c2, c3, c4, c5⟩ := ltOk_spec c
      obtain ⟨as, r1⟩ := ha.reads c1 I rx
      obtain ⟨bs, r2⟩ := hb.reads c2 I ry
      exact PySem.W.rcLt_alike a b X.A s v u as bs r1 r2 c3 c5 (by omega) X.prog X.w _ _ (fin_bool I q rfl)
    · cases e
theorem od_le : OpR X (compareOp .LtE) (r2D X.K (cmpD fun i j => decide (i ≤ j))) := od_cmp op_le
theorem od_gt : OpR X (compareOp .Gt) (r2D X.K (cmpD fun i j => decide (j < i))) := od_cmp op_gt
theorem od_ge : OpR X (compareOp .GtE) (r2D X.K (cmpD fun i j => decide (j ≤ i))) := od_cmp op_ge
theorem okD_spec {d : D} (h : okD d = true) : d.plain = true ∧ d.depth ≤ 60 := by
  unfold okD at h
  rw [Bool.and_eq_true, decide_eq_true_eq] at h
  exact h
theorem od_eq (hu : X.A.units + 64 < cLine) : OpR X (compareOp .Eq) (r2D X.K eqD) := by
  intro pins s σ H x y v u Q I rx ry h
  obtain ⟨a, b, z, ha, hb, e, q⟩ := h
  unfold eqD at e
  split at e
  · rename_i c
    cases e
    obtain ⟨pa, da⟩ := okD_spec c.1
    obtain ⟨pb, db⟩ := okD_spec c.2
    obtain ⟨as, r1⟩ := ha.reads (clean_plain _ pa) I rx
    obtain ⟨bs, r2⟩ := hb.reads (clean_plain _ pb) I ry
    exact PySem.SeqAt.eq_plain r1 r2 pa pb (by omega) (fin_bool I q rfl)
  · cases e
theorem od_ne (hu : X.A.units + 64 < cLine) : OpR X (compareOp .NotEq) (r2D X.K neD) := by
  intro pins s σ H x y v u Q I rx ry h
  obtain ⟨a, b, z, ha, hb, e, q⟩ := h
  unfold neD at e
  split at e
  · rename_i c
    cases e
    obtain ⟨pa, da⟩ := okD_spec c.1
    obtain ⟨pb, db⟩ := okD_spec c.2
    obtain ⟨as, r1⟩ := ha.reads (clean_plain _ pa) I rx
    obtain ⟨bs, r2⟩ := hb.reads (clean_plain _ pb) I ry
    exact PySem.SeqAt.ne_plain r1 r2 pa pb (by omega) (fin_bool I q rfl)
  · cases e
theorem plain_tup {ds : List D} (h : (PyData.tuple ds).plain = true) : PyData.plainAll ds = true := by simpa [PyData.plain] using h
theorem plain_lst {ds : List D} (h : (PyData.list ds).plain = true) : PyData.plainAll ds = true := by simpa [PyData.plain] using h
theorem depth_tup {ds : List D} : (PyData.tuple ds).depth = PyData.depthAll ds + 1 := by simp only [PyData.depth]
theorem depth_lst {ds : List D} : (PyData.list ds).depth = PyData.depthAll ds + 1 := by simp only [PyData.depth]
theorem od_in (hu : X.A.units + 64 < cLine) : OpR X (compareOp .In) (r2D X.K (inD false)) := by
  intro pins s σ H x y v u Q I rx ry h
  obtain ⟨a, b, z, ha, hb, e, q⟩ := h
  cases b with
  | tuple ds =>
    simp only [inD] at e
    split at e
    · rename_i c
      cases e
      obtain ⟨pa, da⟩ := okD_spec c.1
      obtain ⟨pb, db⟩ := okD_spec c.2
      obtain ⟨as, r1⟩ := ha.reads (clean_plain _ pa) I rx
      obtain ⟨bs, r2⟩ := hb.reads (clean_plain _ pb) I ry
      exact PySem.SeqAt.in_tuple_data r2 r1 (plain_tup pb) pa (by omega) (fin_bool I q (by simp))
    · cases e
  | list ds =>
    simp only [inD] at e
    split at e
    · rename_i c
      cases e
      obtain ⟨pa, da⟩ := okD_spec c.1
      obtain ⟨pb, db⟩ := okD_spec c.2
      obtain ⟨as, r1⟩ := ha.reads (clean_plain _ pa) I rx
      obtain ⟨bs, r2⟩ := hb.reads (clean_plain _ pb) I ry
      exact PySem.SeqAt.in_list_data r2 r1 (plain_lst pb) pa (by omega) (fin_bool I q (by simp))
    · cases e
  | str b =>
    cases a with
    | str a =>
      cases ha.str
      cases hb.str
      simp only [inD] at e
      cases e
      exact op_in_str pins s σ H _ _ v u Q I rx ry ⟨_, _, rfl, rfl, q _ _ (Same.refl H) (by simpa using Rz.bl _)⟩
    | _ => cases e
  | _ => cases e
theorem od_notin (hu : X.A.units + 64 < cLine) : OpR X (compareOp .NotIn) (r2D X.K (inD true)) := by
  intro pins s σ H x y v u Q I rx ry h
  obtain ⟨a, b, z, ha, hb, e, q⟩ := h
  cases b with
  | tuple ds =>
    simp only [inD] at e
    split at e
    · rename_i c
      cases e
      obtain ⟨pa, da⟩ := okD_spec c.1
      obtain ⟨pb, db⟩ := okD_spec c.2
      obtain ⟨as, r1⟩ := ha.reads (clean_plain _ pa) I rx
      obtain ⟨bs, r2⟩ := hb.reads (clean_plain _ pb) I ry
      exact PySem.SeqAt.notIn_tuple_data r2 r1 (plain_tup pb) pa (by omega) (fin_bool I q (by simp))
    · cases e
  | list ds =>
    simp only [inD] at e
    split at e
    · rename_i c
      cases e
      obtain ⟨pa, da⟩ := okD_spec c.1
      obtain ⟨pb, db⟩ := okD_spec c.2
      obtain ⟨as, r1⟩ := ha.reads (clean_plain _ pa) I rx
      obtain ⟨bs, r2⟩ := hb.reads (clean_plain _ pb) I ry
      exact PySem.SeqAt.notIn_list_data r2 r1 (plain_lst pb) pa (by omega) (fin_bool I q (by simp))
    · cases e
  | str b =>
    cases a with
    | str a =>
      cases ha.str
      cases hb.str
      simp only [inD] at e
      cases e
      exact op_notin_str pins s σ H _ _ v u Q I rx ry ⟨_, _, rfl, rfl, q _ _ (Same.refl H) (by simpa using Rz.bl _)⟩
    | _ => cases e
  | _ => cases e
theorem Rz.isN {K : PySem.W.Frag} {H : Hp} {v : V} {d : D} (h : Ry K H v d) : decide (v = .non) = isNoneD d := by
  rcases h with h | ⟨p, rfl, h⟩
  · cases h <;> simp [isNoneD]
  · cases d <;> first | exact h.elim | simp [isNoneD]
theorem od_isN : OpR X (compareOp .Is) (fun x y H Q => y = .non ∧ r1D X.K (fun d => some (.bool (isNoneD d))) x H Q) := by
  intro pins s σ H x y v u Q I rx ry h
  obtain ⟨rfl, a, z, ha, e, q⟩ := h
  cases e
  exact op_isN pins s σ H _ _ v u Q I rx ry ⟨rfl, by rw [Rz.isN ha]; exact q _ _ (Same.refl H) (.bl _)⟩
theorem od_notN : OpR X (compareOp .IsNot) (fun x y H Q => y = .non ∧ r1D X.K (fun d => some (.bool (!isNoneD d))) x H Q) := by
  intro pins s σ H x y v u Q I rx ry h
  obtain ⟨rfl, a, z, ha, e, q⟩ := h
  cases e
  exact op_notN pins s σ H _ _ v u Q I rx ry ⟨rfl, by rw [Rz.isN ha]; exact q _ _ (Same.refl H) (.bl _)⟩
theorem od_isB {b : Bool} : OpR X (compareOp .Is) (fun x y H Q => y = .bl b ∧ r1D X.K (isBD b false) x H Q) := by
  intro pins s σ H x y v u Q I rx ry h
  obtain ⟨rfl, a, z, ha, e, q⟩ := h
  cases a with
  | bool c =>
    cases ha.bool
    unfold isBD at e
    cases e
    exact op_isBl pins s σ H _ _ v u Q I rx ry ⟨_, _, rfl, rfl, q _ _ (Same.refl H) (by simpa using Rz.bl _)⟩
  | _ => cases e
theorem od_notB {b : Bool} : OpR X (compareOp .IsNot) (fun x y H Q => y = .bl b ∧ r1D X.K (isBD b true) x H Q) := by
  intro pins s σ H x y v u Q I rx ry h
  obtain ⟨rfl, a, z, ha, e, q⟩ := h
  cases a with
  | bool c =>
    cases ha.bool
    unfold isBD at e
    cases e
    exact op_notBl pins s σ H _ _ v u Q I rx ry ⟨_, _, rfl, rfl, q _ _ (Same.refl H) (by simpa using Rz.bl _)⟩
  | _ => cases e
theorem od_add : OpR X (binaryOp .Add) (r2D X.K addD) := by
  intro pins s σ H x y v u Q I rx ry h
  obtain ⟨a, b, z, ha, hb, e, q⟩ := h
  unfold addD at e
  split at e
  · cases ha.int
    cases hb.int
    cases e
    exact op_add pins s σ H _ _ v u Q I rx ry ⟨_, _, rfl, rfl, q _ _ (Same.refl H) (.int _)⟩
  · cases ha.str
    cases hb.str
    split at e
    · rename_i c
      cases e
      exact op_add_str pins s σ H _ _ v u Q I rx ry ⟨_, _, rfl, rfl, c, q _ _ (Same.refl H) (.str _)⟩
    · cases e
  · obtain ⟨p, xs, rfl, s1, z1⟩ := ha.tup
    obtain ⟨p', ys, rfl, s2, z2⟩ := hb.tup
    split at e
    · rename_i c
      cases e
      refine op_catA pins s σ H _ _ v u Q I rx ry ⟨_, _, xs, ys, rfl, rfl, s1, s2, by rw [z1.length, z2.length]; exact c, fun n => ?_, fun _ n => ?_, fun _ _ t ht => ?_⟩
      · subst n
        cases z1
        exact q _ _ (Same.refl H) (.tup s2 z2)
      · subst n
        cases z2
        rw [List.append_nil] at q
        exact q _ _ (Same.refl H) (.tup s1 z1)
      · have sm := same_new (o := .tup (xs ++ ys)) ht
        exact q _ _ sm (.tup (.inl (.inl upd_same)) ((z1.append z2).per (Per.of_same sm)))
    · cases e
  · rename_i d1 d2
    obtain ⟨p, xs, rfl, s1, z1⟩ := ha.lst
    obtain ⟨p', ys, rfl, s2, z2⟩ := hb.lst
    split at e
    · rename_i c
      cases e
      refine wp_freeze (H := H) (.list (d1 ++ d2)) ?_
      cases rx
      cases ry
      obtain ⟨i1, r1, l1, h1⟩ := I.list s1
      obtain ⟨i2, r2, l2, h2⟩ := I.list s2
      obtain ⟨o1, n1, g1, c1, d1, e1⟩ := l1
      obtain ⟨o2, n2, g2, c2, d2, e2⟩ := l2
      obtain ⟨oc1, od1, odt1, osl1⟩ := o1
      obtain ⟨oc2, od2, odt2, osl2⟩ := o2
      simp only at c1 d1 e1 c2 d2 e2
      subst c1 d1 e1 c2 d2 e2
      have hl1 := r1.length
      have hl2 := r2.length
      have hz1 := z1.length
      have hz2 := z2.length
      refine concat_meets ⟨_, g1, rfl⟩ ⟨_, g2, rfl⟩ noFill_list_add seq_list_add PySem.F.slot_list_add PySem.F.entry_list_add (PySem.F.args_list_add_2 _ _)
        (list_addW p p' i1.toArray i2.toArray n1 n2 none none osl1 osl2 (by rw [List.size_toArray, List.size_toArray]; omega)) ⟨g1, g2, ?_⟩
      have hn : H s.heap.objs.size = none := I.hok.fresh (Nat.le_refl _)
      have ea : i1.toArray ++ i2.toArray = (i1 ++ i2).toArray := by simp
      rw [ea]
      have sm := same_new (o := .lst (xs ++ ys)) hn
      exact ⟨.ref s.heap.objs.size, _, I.lnew (t' := s.toks) (r1.append r2) (by rw [List.length_append]; omega), rfl, _, rfl, hn, sm, ⟨_, upd_same, (z1.append z2).per (Per.of_same sm)⟩, fun H'' k z => q _ _ k z⟩
    · cases e
  · cases e
end
end Mp
namespace Mp
open PySem PySem.Spec
open PyProof.Rows hiding St
variable [LamT]

/-! ### sets of texts, made of a list or a tuple of texts -/
theorem metS_snoc (xs : List Str) (x : Str) : metS (xs ++ [x]) = addS (metS xs) x := by simp [metS]
theorem addS_any (acc : List Str) (x k : Str) : (addS acc x).any (· == k) = (acc.any (· == k) || decide (k = x)) := by
  unfold addS
  split
  · rename_i h
    by_cases e : k = x
    · subst e; simp [h]
    · simp [e]
  · by_cases e : k = x
    · subst e; simp
    · have : (x == k) = false := by rw [beq_eq_false_iff_ne]; exact fun q => e q.symm
      simp [this, e]
theorem addS_len (acc : List Str) (x : Str) : (addS acc x).length = if acc.any (· == x) = true then acc.length else acc.length + 1 := by
  unfold addS; split <;> simp
theorem metS_len : ∀ xs : List Str, (metS xs).length ≤ xs.length := by
  suffices h : ∀ (xs acc : List Str), (xs.foldl addS acc).length ≤ acc.length + xs.length by
    intro xs; have := h xs []; simpa [metS] using this
  intro xs
  induction xs with
  | nil => intro acc; simp
  | cons x r ih =>
    intro acc
    have h1 := ih (addS acc x)
    have h2 := addS_len acc x
    rw [List.foldl_cons, List.length_cons]
    split at h2 <;> omega
/-! ### sets of texts with their table in order: they may be walked -/
def keyS (e : Int × Value) : Str := match e.2 with | .str x _ => x | _ => Str.empty
def SetS (P : Program) (w : World) (h : Heap) (a : Addr) (xs : List Str) : Prop :=
  ∃ o es ep t, h.get? a = some o ∧ o.ExactSet ∧ o.data = .set es ep t ∧ ElemsOf (PySem.strKind P w) es.toList ∧ (es.toList.map keyS).Perm xs ∧
    es.size < scanBound ∧ t.fits es.size = true ∧ L2.Ris t.place.toList ∧ (w.params.followText "set-order" = true ∨ t.led = true)
section
variable {P : Program} {w : World} {h h' : Heap} {a : Addr} {xs : List Str}
theorem SetS.at (R : SetS P w h a xs) (k : ∀ o, h.get? a = some o → h'.get? a = some o) : SetS P w h' a xs := by
  obtain ⟨o, es, ep, t, ho, r⟩ := R
  exact ⟨o, es, ep, t, k o ho, r⟩
theorem is_str {v : Value} {k : Str} (h : (PySem.strKind P w).is k v = true) : ∃ t, v = .str k t := by
  have h : v.isStrOf k = true := h
  cases v <;> simp [Value.isStrOf] at h
  subst h
  exact ⟨_, rfl⟩
theorem key_of {l : List (Int × Value)} (g : ElemsOf (PySem.strKind P w) l) (k : Str) : k ∈ l.map keyS ↔ ∃ e ∈ l, (PySem.strKind P w).is k e.2 = true := by
  rw [List.mem_map]
  constructor
  · rintro ⟨e, he, rfl⟩
    obtain ⟨⟨k, hk, _⟩, _⟩ := g e he
    refine ⟨e, he, ?_⟩
    obtain ⟨t, ht⟩ := is_str hk
    unfold keyS
    rw [ht]
    exact strKind_is _ _ _ _
  · rintro ⟨e, he, hk⟩
    obtain ⟨t, ht⟩ := is_str hk
    exact ⟨e, he, by unfold keyS; rw [ht]⟩
end
section
variable {P : Program} {w : World} {A : Around} {E : Value → Shared → Prop} {s : Shared} {a : Addr} {xs : List Str}
theorem setS_tail {g : Bool → Sem Unit} (hg : ∀ (b : Bool) (s₁ : Shared) (Q' : Unit → Shared → Prop), Q' () s₁ → wpAny (model P w) A (g b) Q' E s₁)
    {o : Obj} {es : Array (Int × Value)} {ep : Nat} {t : SetTable} (ho : s.heap.get? a = some o) (hex : o.ExactSet) (hd : o.data = .set es ep t)
    {es1 : Array (Int × Value)} {t2 : SetTable} {ys : List Str} (g1 : ElemsOf (PySem.strKind P w) es1.toList) (m1 : (es1.toList.map keyS).Perm ys)
    (hb1 : es1.size < scanBound) (hf2 : t2.fits es1.size = true) (hr : L2.Ris t2.place.toList) (hl : w.params.followText "set-order" = true ∨ t2.led = true) {wasDummy : Bool} {R : Option Bool → Shared → Prop}
    (hR : ∀ h', Heap.SameBut a s.heap h' → SetS P w h' a ys → R (some true) { s with heap := h' }) :
    wpAny (model P w) A (do
        storeSet a es1 t2
        if (!wasDummy && t2.tooFull) = true then do
            g (relayAll t2 es1 (SetTable.grown es1.size)).2.2
            storeSet a (relayAll t2 es1 (SetTable.grown es1.size)).1 (relayAll t2 es1 (SetTable.grown es1.size)).2.1
            pure (some true)
          else pure (some true)) R E s := by
  refine wpAny_bind (wpAny_storeSet_of ho hd ?_ (fits_of_scanBound hb1))
  have ho1 := L2.store_at (es' := es1) (t' := t2) ho hd
  have sb1 := Heap.SameBut.update s.heap a (Obj.putSet es1 t2)
  split
  · have pm := relayAll_perm t2 es1 (SetTable.grown es1.size)
    have hf3 := relayAll_fits t2 es1 (SetTable.grown es1.size)
    have hr3 := L2.relayAll_ris t2 es1 (SetTable.grown es1.size)
    have hl3 := L2.relayAll_led t2 es1 (SetTable.grown es1.size)
    generalize relayAll t2 es1 (SetTable.grown es1.size) = Z at pm hf3 hr3 hl3 ⊢
    obtain ⟨es2, t3, gave⟩ := Z
    dsimp only at pm hf3 hr3 hl3 ⊢
    have hsz : es2.size = es1.size := by rw [← Array.length_toList, pm.length_eq, Array.length_toList]
    have hb2 : es2.size < scanBound := by rw [hsz]; exact hb1
    refine wpAny_bind (hg _ _ _ ?_)
    refine wpAny_bind (wpAny_storeSet_of ho1 rfl ?_ (fits_of_scanBound hb2))
    have ho2 := L2.store_at (es' := es2) (t' := t3) ho1 rfl
    refine wpAny_pure (hR _ (sb1.trans (Heap.SameBut.update _ a _)) ?_)
    exact ⟨_, es2, _, t3, ho2, hex, rfl, fun e he => g1 e (pm.mem_iff.mp he), (pm.map keyS).trans m1, hb2, hf3, hr3, hl.imp id fun z => by rw [hl3]; exact z⟩
  · exact wpAny_pure (hR _ sb1 ⟨_, es1, _, t2, ho1, hex, rfl, g1, m1, hb1, hf2, hr, hl⟩)
theorem setS_add {k : Str} {tk : Tok} {Q : Bool → Shared → Prop} (R : SetS P w s.heap a xs) (room : xs.length + 1 < scanBound)
    (hQ : ∀ b h', Heap.SameBut a s.heap h' → SetS P w h' a (addS xs k) → Q b { s with heap := h' }) :
    wpAny (model P w) A (setAddHashed a (.str k tk) ((PySem.strKind P w).hash k)) Q E s := by
  obtain ⟨o, es, ep, t, ho, hex, hd, hel, hm, hb, hf, hr, hl⟩ := R
  have hkey : (PySem.strKind P w).is k (.str k tk) = true := strKind_is P w k tk
  have hsc : (Value.str k tk).scannable = true := rfl
  unfold setAddHashed setAddHashedIn
  refine wpAny_holding (wpAny_bind (wpAny_setState_of ho hd hf ?_))
  dsimp only
  rw [byScan_of hsc hb hel]
  simp only [↓reduceIte]
  unfold setAddByScan
  refine wpAny_bind ?_
  refine wpAny_bind (wpAny_rule ?_)
  refine wpAny_bind (wpAny_setScan_of hkey ho hd hf hel ?_)
  cases hfi : List.findIdx? (fun e => (PySem.strKind P w).is k e.2) es.toList with
  | some j =>
    dsimp only
    obtain ⟨hj, pj, _⟩ := List.findIdx?_eq_some_iff_getElem.mp hfi
    have hk : k ∈ xs := hm.mem_iff.mp ((key_of hel k).2 ⟨es.toList[j], List.getElem_mem hj, pj⟩)
    have ea : addS xs k = xs := by
      unfold addS
      rw [if_pos (List.any_eq_true.mpr ⟨k, hk, by simp⟩)]
    refine wpAny_pure (wpAny_pure ?_)
    exact hQ _ s.heap (Heap.SameBut.refl a s.heap) ⟨o, es, ep, t, ho, hex, hd, hel, by rw [ea]; exact hm, hb, hf, hr, hl⟩
  | none =>
    dsimp only
    have hnk : k ∉ xs := fun z => by
      obtain ⟨e, he, q⟩ := (key_of hel k).1 (hm.mem_iff.mpr z)
      have c := List.findIdx?_eq_none_iff.mp hfi e he
      rw [q] at c
      cases c
    have ea : addS xs k = xs ++ [k] := by
      unfold addS
      rw [if_neg]
      intro z
      obtain ⟨y, hy, e⟩ := List.any_eq_true.mp z
      have : y = k := by simpa using e
      exact hnk (this ▸ hy)
    have hgw : ∀ (b : Bool) {s₁ : Shared} {Q' : Unit → Shared → Prop}, Q' () s₁ → wpAny (model P w) A (match b with | true => rule "set.scan.the-table-gave-way" | false => pure ()) Q' E s₁ :=
      fun b s₁ Q' q => by cases b <;> first | exact wpAny_pure q | exact wpAny_rule q
    have pm := layNew_perm t es ((PySem.strKind P w).hash k) (.str k tk)
    have hf1 := layNew_fits t es ((PySem.strKind P w).hash k) (.str k tk)
    have hr1 := L2.layNew_ris t es ((PySem.strKind P w).hash k) (.str k tk) hr
    have hl1 := L2.layNew_led t es ((PySem.strKind P w).hash k) (.str k tk)
    generalize layNew t es ((PySem.strKind P w).hash k) (.str k tk) = Z at pm hf1 hr1 hl1 ⊢
    obtain ⟨es1, t1, wasDummy, gave⟩ := Z
    dsimp only at pm hf1 hr1 hl1 ⊢
    rw [Array.toList_push] at pm
    have g1 : ElemsOf (PySem.strKind P w) es1.toList := (hel.push hkey hsc).perm pm
    have m1 : (es1.toList.map keyS).Perm (addS xs k) := by
      rw [ea]
      have q := pm.map keyS
      rw [List.map_append] at q
      exact q.trans (hm.append_right [k])
    have hlen : es.toList.length = xs.length := by have := hm.length_eq; simpa using this
    have hsz : es1.size = xs.length + 1 := by rw [← Array.length_toList, pm.length_eq, List.length_append, hlen]; rfl
    have hb1 : es1.size < scanBound := by rw [hsz]; exact room
    have hled : w.params.followText "set-order" = true ∨ t1.led = true := hl.imp id fun z => by rw [hl1]; exact z
    refine wpAny_bind (hgw _ ?_)
    split
    · refine wpAny_bind ?_
      rw [hashByValue_scannable 8 hsc]
      refine wpAny_pure ?_
      refine setS_tail ?_ ho hex hd g1 m1 hb1 ?_ ?_ ?_ ?_
      · intro b s₁ Q' q; cases b <;> first | exact wpAny_pure q | exact wpAny_rule q
      · first | (split <;> first | exact hf1 | exact SetTable.fits_plain_off hf1) | exact hf1
      · first | (split <;> exact hr1) | exact hr1
      · first | (split <;> exact hled) | exact hled
      · intro h' sb r; dsimp only; exact wpAny_pure (hQ _ h' sb r)
    · refine wpAny_bind (wpAny_pure ?_)
      simp only [↓reduceIte]
      refine setS_tail ?_ ho hex hd g1 m1 hb1 hf1 hr1 hled ?_
      · intro b s₁ Q' q; cases b <;> first | exact wpAny_pure q | exact wpAny_rule q
      · intro h' sb r; dsimp only; exact wpAny_pure (hQ _ h' sb r)
theorem setS_fresh {h : Heap} (P : Program) (w : World) : SetS P w (h.push { cls := .type "set", dict := none, data := .set #[] 0 (.fresh 0 0 (!w.params.followText "set-order")) }) h.objs.size [] :=
  ⟨_, #[], 0, _, Heap.get?_push_size _ rfl, ⟨rfl, rfl, rfl⟩, rfl, (fun e he => by simp at he), .nil, (by decide), (by rfl), List.Pairwise.nil, by
    show _ ∨ (!w.params.followText "set-order") = true
    cases w.params.followText "set-order"
    · exact .inr rfl
    · exact .inl rfl⟩
theorem code_setS (x : Value) {Q₁ : Value → Shared → Prop}
    (h : Q₁ (.ref s.heap.objs.size) { s with heap := s.heap.push { cls := .type "set", dict := none, data := .set #[] 0 (.fresh 0 0 (!w.params.followText "set-order")) } }) :
    codeAny (model P w) A (.call (.builtin "set.__new__") ⟨[.type "set", x], []⟩) (wants Q₁ E) s := by
  refine codeAny_of_tree ?_
  show wpAny _ A.in1 (do checkBuiltinCall "set.__new__" ⟨[.type "set", x], []⟩; again (.builtin "set.__new__" ⟨[.type "set", x], []⟩)) _ _ s
  refine wpAny_bind (wpAny_of_eq (PySem.F.newCall_set_1 x) (wpAny_pure ⟨plainId_quiet PySem.F.plain_set_new _, codeAny_builtin PySem.F.entry_set_new ?_⟩))
  rw [Around.under_plainId PySem.F.plain_set_new _]
  unfold Builtin.«set.__new__» Builtin.Frozenset.newClass
  have hsub := sub_set_self
  obtain ⟨hp, g, d, tk, os⟩ := s
  dsimp only
  wp_walk
  refine wpAny_askSetting (wpAny_pure ?_)
  dsimp only
  simp only [newObj]
  refine wpAny_bind (wpAny_alloc (wpAny_pure ?_))
  exact wpAny_pure h
end
section
variable {prog : Program} {w : World} {A : Around} {R : Result → Shared → Prop} {I : Addr} {fp wr : List Addr} {G : Array GenState → Array GenState → Prop} {n : Nat} {P : Nat → Value → Prop} {St : Nat → Shared → Prop}
/-- the walk that fills the set -/
theorem fillS3 (W : WalksS prog w A.in1 I fp wr G n P St) (S : Addr) (out : S ∉ fp) (xs : List Str) (sz : xs.length = n) (room : n + 1 < scanBound) (hv : ∀ i v, P i v → ∃ t, v = .str (xs.getD i Str.empty) t) :
    ∀ (k i : Nat) (s : Shared), n - i = k → i ≤ n → St i s → SetS prog w s.heap S (metS (xs.take i)) →
      (∀ s', Moved (S :: wr) G s s' → SetS prog w s'.heap S (metS xs) → R (.ok (.ret .none)) s') →
      codeAny (model prog w) A (.builtin "set.update.loop" ⟨[.ref S, .ref I], []⟩) R s := by
  have off : S ∉ wr := fun h => out (W.sub _ h)
  have more : ∀ b ∈ wr, b ∈ S :: wr := fun b hb => List.mem_cons_of_mem _ hb
  intro k
  induction k with
  | zero =>
    intro i s hk hi st hS hR
    have e : i = n := by omega
    subst e
    rw [show xs.take i = xs from List.take_of_length_le (by omega)] at hS
    refine codeAny_builtin PyProof.Rows.F.entry_set_update_loop ?_
    rw [Around.under_plainId PyProof.Rows.F.plain_set_update_loop _]
    refine wpAny_bind (m := pyNext (.ref I)) (W.done s _ _ st fun s' mv => wpAny_pure (hR s' (mv.mono more) (hS.at fun o ho => mv.heap S _ off ho)))
  | succ k ih =>
    intro i s hk hi st hS hR
    have lt : i < n := by omega
    have stp : xs.take (i + 1) = xs.take i ++ [xs.getD i Str.empty] := by
      rw [List.take_succ, List.getD_eq_getElem?_getD, List.getElem?_eq_getElem (by omega)]; rfl
    refine codeAny_builtin PyProof.Rows.F.entry_set_update_loop ?_
    rw [Around.under_plainId PyProof.Rows.F.plain_set_update_loop _]
    refine wpAny_bind (m := pyNext (.ref I)) (W.item i s _ _ lt st fun v s' hp st' mv => ?_)
    obtain ⟨t, rfl⟩ := hv i v hp
    have hS' : SetS prog w s'.heap S (metS (xs.take i)) := hS.at fun o ho => mv.heap S _ off ho
    refine wpAny_bind (m := holding [Value.str (xs.getD i Str.empty) t] (setAdd S (.str (xs.getD i Str.empty) t))) (wpAny_holding ?_)
    unfold setAdd
    refine wpAny_holding (wpAny_bind ((PySem.strKind prog w).pyHash (k := xs.getD i Str.empty) (strKind_is _ _ _ _) ?_))
    have rm : (metS (xs.take i)).length + 1 < scanBound := by have := metS_len (xs.take i); rw [List.length_take] at this; omega
    refine setS_add (s := { s' with toks := s'.toks + 1 }) hS' rm fun b h' sb hS2 => ?_
    have hS3 : SetS prog w h' S (metS (xs.take (i + 1))) := by rw [stp, metS_snoc]; exact hS2
    refine wpAny_pure ⟨plainId_quiet PyProof.Rows.F.plain_set_update_loop _, ih (i + 1) _ (by omega) lt (W.frame _ s' _ _ st' (Nat.le_succ _) fun b hb o e => ?_) hS3 fun s2 mv2 hS4 => ?_⟩
    · rw [sb.2 b (fun q : b = S => out (q ▸ hb))]; exact e
    · refine hR s2 (Moved.trans W.gtrans ((mv.mono more).then_heap (Nat.le_succ _) fun b o hb e => ?_) mv2) hS4
      rw [sb.2 b (fun q : b = S => hb (by rw [q]; exact List.mem_cons_self))]; exact e
end
section
variable {prog : Program} {w : World} {A : Around} {E : Value → Shared → Prop} {s : Shared}
set_option maxHeartbeats 3200000 in
/-- set(x), x a list or a tuple (T) of texts: what is held is the unlike ones, the table is in order -/
theorem set_of_strs3 {T itn : String} {l : Addr} {items : Array Value} {xs : List Str} {ol : Obj} {nl : Nat} {Q : Value → Shared → Prop} (hh : A.handled = none) (ho : s.heap.get? l = some ol) (hc : ol.cls = .type T) (hd : ol.data = .seq items nl)
    (hi : StrsAre items.toList xs) (room : xs.length + 1 < scanBound) (sub1 : isSubtype (.type T) (.type "set") = pure false) (sub2 : isSubtype (.type T) (.type "frozenset") = pure false) (nd : (Value.type T == Value.type "dict") = false)
    (iter : ∀ {A' : Around} {s' : Shared} {Q' : Value → Shared → Prop} {E' : Value → Shared → Prop}, A'.handled = none → s'.heap.get? l = some ol → Q' (.ref s'.heap.objs.size) { s' with heap := s'.heap.push { cls := .type itn, data := .fields #[.ref l, .int 0 0] } } →
      wpAny (model prog w) A' (pyIter (.ref l)) Q' E' s')
    (walks : ∀ {A' : Around} {I : Addr}, A'.handled = none → l ≠ I → ∃ St : Nat → Shared → Prop, WalksS prog w A' I [I, l] [I] (fun g g' => g' = g) items.size (fun i v => items[i]? = some v) St ∧
      ∀ s' : Shared, s'.heap.get? I = some { cls := .type itn, data := .fields #[.ref l, .int 0 0] } → s'.heap.get? l = some ol → St 0 s')
    (h : ∀ (h' : Heap) (tk : Nat), SetS prog w h' s.heap.objs.size (metS xs) → (∀ b o, s.heap.get? b = some o → h'.get? b = some o) → Q (.ref s.heap.objs.size) { s with heap := h', toks := tk }) :
    wpAny (model prog w) A (call (.type "set") [.ref l]) Q E s := by
  obtain ⟨c, tl, hmro⟩ := PySem.F.called_set.mro
  have m1 := PySem.F.called_set.made
  have m2 := PySem.F.called_set.sub
  refine wpAny_call (codeAny_of_tree ?_)
  refine wpAny_pure ⟨Code.quiet_builtin _ (by decide +kernel), codeAny_builtin PySem.F.entry_type_call ?_⟩
  rw [Around.under_plain (weight_type_call_type "set" [.ref l] []) rfl]
  have m3 := PySem.F.called_set.notType
  have m4 := PySem.F.called_set.canCreate
  have m5 := PySem.F.typeCall_set_1 (.ref l)
  repeat (any_goals (first | assumption | wp_step))
  refine codeAny_mono (code_setS (.ref l) (E := E) (Q₁ := fun obj s1 => obj = .ref s.heap.objs.size ∧ s1 = { s with heap := s.heap.push { cls := .type "set", dict := none, data := .set #[] 0 (.fresh 0 0 (!w.params.followText "set-order")) } }) ⟨rfl, rfl⟩) fun r s1 hr => ?_
  cases r with
  | error e => exact hr
  | ok fl =>
    cases fl with
    | ret obj =>
      obtain ⟨rfl, rfl⟩ := hr
      have fr := setS_fresh (h := s.heap) prog w
      generalize hO : ({ cls := .type "set", dict := none, data := .set #[] 0 (.fresh 0 0 (!w.params.followText "set-order")) } : Obj) = O at fr
      have g0 : (s.heap.push O).get? s.heap.objs.size = some O := Heap.get?_push_size _ (by rw [← hO]; rfl)
      have ty : Shared.TypeIs { s with heap := s.heap.push O } (.ref s.heap.objs.size) "set" := ⟨O, g0, by rw [← hO]⟩
      have i1 := PySem.F.called_set.init.lookup
      have i2 := PySem.F.called_set.init.bind (.ref s.heap.objs.size)
      repeat (any_goals (first | assumption | wp_step))
      refine codeAny_mono (codeAny_call_builtin (R := wants (fun r s2 => r = .none ∧ ∃ h' tk, s2 = { s with heap := h', toks := tk } ∧ SetS prog w h' s.heap.objs.size (metS xs) ∧ (∀ b o, s.heap.get? b = some o → h'.get? b = some o)) E)
        PySem.F.called_set.init.plain PySem.F.entry_set_init (check_set_init_1 ty ?_)) fun r2 s2 hr2 => ?_
      · obtain ⟨oc, odd, odt, osl⟩ := ol
        simp only at hc hd
        subst hc; subst hd
        have ho1 : (s.heap.push O).get? l = some { cls := .type T, dict := odd, data := .seq items nl, slots := osl } := Heap.get?_push_of_some _ ho
        subst hO
        unfold Builtin.«set.__init__» noKeywords Builtin.Frozenset.updateFrom
        generalize hPI : pyIter = PI
        wp_walk
        subst hPI
        have lts : l < s.heap.objs.size := Heap.lt_size ho
        refine iter (by simp [hh]) ho1 (wpAny_bind (wpAny_runValue ?_))
        generalize hs' : s.heap.push { cls := .type "set", dict := none, data := .set #[] 0 (.fresh 0 0 (!w.params.followText "set-order")) } = h1 at *
        have sz1 : h1.objs.size = s.heap.objs.size + 1 := by rw [← hs']; exact Heap.size_push ..
        obtain ⟨St, W, st0⟩ := walks (A' := A.in1.in1.in1) (I := h1.objs.size) (by simp [hh]) (by rw [sz1]; exact Nat.ne_of_lt (Nat.lt_succ_of_lt lts))
        have szx : xs.length = items.size := by rw [← StrsAre.len_eq hi, Array.length_toList]
        refine fillS3 (n := items.size) W s.heap.objs.size ?_ xs szx (by omega) (fun i v hv => SS.strs_at hi i v (by rw [Array.getElem?_toList]; exact hv)) (items.size - 0) 0 _ (by omega) (Nat.zero_le _) (st0 _ (Heap.get?_push_size _ rfl) (Heap.get?_push_of_some _ ho1)) ?_ ?_
        · rw [sz1]
          simp only [List.mem_cons, List.not_mem_nil, or_false, not_or]
          exact ⟨Nat.ne_of_lt (Nat.lt_succ_self _), Nat.ne_of_gt lts⟩
        · exact fr.at fun o e => Heap.get?_push_of_some _ e
        · intro s' mv hS'
          obtain ⟨h', g', d', tk', os'⟩ := s'
          have e1 : g' = s.gens := mv.gens
          have e2 : d' = s.drawn := mv.drawn
          have e3 : os' = s.os := mv.os
          subst e1 e2 e3
          refine wpAny_pure (wpAny_pure ⟨rfl, h', tk', rfl, hS', fun b o e => ?_⟩)
          have lb := Heap.lt_size e
          refine mv.heap b o ?_ (Heap.get?_push_of_some _ (by rw [← hs']; exact Heap.get?_push_of_some _ e))
          rw [sz1]
          simp only [List.mem_cons, List.not_mem_nil, or_false, not_or]
          exact ⟨Nat.ne_of_lt lb, Nat.ne_of_lt (Nat.lt_succ_of_lt lb)⟩
      · cases r2 with
        | error e => exact hr2
        | ok fl2 =>
          cases fl2 with
          | ret r =>
            obtain ⟨rfl, h', tk, rfl, hS', hk'⟩ := hr2
            repeat (any_goals (first | assumption | wp_step))
            exact h _ _ hS' hk'
          | _ => exact hr2.elim
    | _ => exact hr.elim
end
end Mp
namespace Mp
open PySem PySem.Spec L2 LamX
open PyProof.Rows hiding St
variable [LamT]

/-! ### standing still for a while, or from now on -/
section
variable {X : Cx} {pins pins' : List (Addr × Obj)} {σ : St} {H H' : Hp} {s s' : Shared}
theorem Inv.freezes (I : Inv X pins σ H s) : ∀ (S : List Addr), (∀ b ∈ S, ∃ u, H b = some u ∧ canFz u = true) →
    ∃ HL, Inv X pins σ HL s ∧ (∀ b, b ∉ S → HL b = H b) ∧ (∀ b ∈ S, ∃ u ob, H b = some u ∧ canFz u = true ∧ HL b = some (.frz ob u))
  | [], _ => ⟨H, I, fun _ _ => rfl, fun b (h : b ∈ []) => (List.not_mem_nil h).elim⟩
  | b :: S, h => by
    obtain ⟨HL, IL, h1, h2⟩ := Inv.freezes I S fun c hc => h c (List.mem_cons_of_mem _ hc)
    by_cases hb : b ∈ S
    · exact ⟨HL, IL, fun c hc => h1 c (fun z => hc (List.mem_cons_of_mem _ z)), fun c hc => (List.mem_cons.mp hc).elim (fun e => e ▸ h2 b hb) (h2 c)⟩
    · obtain ⟨u, hu, cu⟩ := h b List.mem_cons_self
      obtain ⟨ob, I2⟩ := Mp.Inv.freeze IL ((h1 b hb).trans hu) cu
      refine ⟨_, I2, fun c hc => ?_, fun c hc => ?_⟩
      · rw [upd_ne (fun e : c = b => hc (by rw [e]; exact List.mem_cons_self)), h1 c (fun z => hc (List.mem_cons_of_mem _ z))]
      · by_cases e : c = b
        · subst e; exact ⟨u, ob, hu, cu, upd_same⟩
        · rw [upd_ne e]; exact h2 c ((List.mem_cons.mp hc).resolve_left e)
theorem Inv.thaws (I0 : Inv X pins' σ H s) (I : Inv X pins σ H' s') : ∀ (S : List Addr), (∀ b ∈ S, ∃ u ob, H b = some u ∧ canFz u = true ∧ H' b = some (.frz ob u)) →
    ∃ HU, Inv X pins σ HU s' ∧ (∀ b ∈ S, HU b = H b) ∧ (∀ b, b ∉ S → HU b = H' b)
  | [], _ => ⟨H', I, fun b (h : b ∈ []) => (List.not_mem_nil h).elim, fun _ _ => rfl⟩
  | b :: S, h => by
    obtain ⟨HU, IU, h1, h2⟩ := Inv.thaws I0 I S fun c hc => h c (List.mem_cons_of_mem _ hc)
    by_cases hb : b ∈ S
    · exact ⟨HU, IU, fun c hc => (List.mem_cons.mp hc).elim (fun e => e ▸ h1 b hb) (h1 c), fun c hc => h2 c (fun z => hc (List.mem_cons_of_mem _ z))⟩
    · obtain ⟨u, ob, hu, cu, hf⟩ := h b List.mem_cons_self
      have I2 := Mp.Inv.thaw IU ((h2 b hb).trans hf) cu (Mp.Inv.moved I0 hu cu)
      refine ⟨_, I2, fun c hc => ?_, fun c hc => ?_⟩
      · by_cases e : c = b
        · subst e; rw [upd_same, hu]
        · rw [upd_ne e]; exact h1 c ((List.mem_cons.mp hc).resolve_left e)
      · rw [upd_ne (fun e : c = b => hc (by rw [e]; exact List.mem_cons_self)), h2 c (fun z => hc (List.mem_cons_of_mem _ z))]
end
/-! ### what belongs to it, as a list -/
def isFO (f : Str) : D × D → Bool
  | (.str g, d) => decide (g = f) && isOw d
  | _ => false
def innerL (ds : List (D × D)) : List (Str × V) → List Addr
  | [] => []
  | (f, .ref b) :: r => if ds.any (isFO f) = true then b :: innerL ds r else innerL ds r
  | _ :: r => innerL ds r
def feetL (H : Hp) (p : Addr) (d : D) : List Addr := p :: match H p with
  | some (.ins _ _ fs) => innerL (fldsOf d) fs
  | _ => []
theorem isOw_ex {d : D} (h : isOw d = true) : ∃ x, d = own_ x := by
  unfold isOw at h
  split at h
  · rename_i k x
    exact ⟨x, by rw [isMO_eq h]; rfl⟩
  · cases h
theorem isOw_own (x : D) : isOw (own_ x) = true := isMO_mo
theorem isFO_iff {f : Str} {q : D × D} : isFO f q = true ↔ ∃ x, q = (.str f, own_ x) := by
  constructor
  · intro h
    unfold isFO at h
    split at h
    · simp only [Bool.and_eq_true, decide_eq_true_eq] at h
      obtain ⟨rfl, h⟩ := h
      obtain ⟨x, rfl⟩ := isOw_ex h
      exact ⟨x, rfl⟩
    · cases h
  · rintro ⟨x, rfl⟩
    show (decide (f = f) && isOw (own_ x)) = true
    rw [isOw_own]; simp
theorem any_FO {f : Str} {ds : List (D × D)} : ds.any (isFO f) = true ↔ ∃ x, ((.str f, own_ x) : D × D) ∈ ds := by
  rw [List.any_eq_true]
  constructor
  · rintro ⟨q, hq, h⟩
    obtain ⟨x, rfl⟩ := isFO_iff.mp h
    exact ⟨x, hq⟩
  · rintro ⟨x, h⟩
    exact ⟨_, h, isFO_iff.mpr ⟨x, rfl⟩⟩
theorem mem_innerL {ds : List (D × D)} {b : Addr} : ∀ {fs : List (Str × V)}, b ∈ innerL ds fs ↔ ∃ f x, (f, V.ref b) ∈ fs ∧ ((.str f, own_ x) : D × D) ∈ ds
  | [] => ⟨fun h => (List.not_mem_nil h).elim, fun ⟨_, _, h, _⟩ => (List.not_mem_nil h).elim⟩
  | (f, v) :: r => by
    have ih := mem_innerL (ds := ds) (b := b) (fs := r)
    have other : (∀ c, v ≠ .ref c) → (b ∈ innerL ds r ↔ ∃ g x, (g, V.ref b) ∈ (f, v) :: r ∧ ((.str g, own_ x) : D × D) ∈ ds) := fun hv => by
      rw [ih]
      constructor
      · rintro ⟨g, x, h1, h2⟩; exact ⟨g, x, List.mem_cons_of_mem _ h1, h2⟩
      · rintro ⟨g, x, h1, h2⟩
        rcases List.mem_cons.mp h1 with e | h1
        · injection e with _ e; exact (hv b e.symm).elim
        · exact ⟨g, x, h1, h2⟩
    cases v with
    | ref c =>
      show b ∈ (if ds.any (isFO f) = true then c :: innerL ds r else innerL ds r) ↔ _
      split
      · rename_i ha
        obtain ⟨x, hx⟩ := any_FO.mp ha
        rw [List.mem_cons, ih]
        constructor
        · rintro (rfl | ⟨g, x, h1, h2⟩)
          · exact ⟨f, x, List.mem_cons_self, hx⟩
          · exact ⟨g, x, List.mem_cons_of_mem _ h1, h2⟩
        · rintro ⟨g, x, h1, h2⟩
          rcases List.mem_cons.mp h1 with e | h1
          · cases e; exact .inl rfl
          · exact .inr ⟨g, x, h1, h2⟩
      · rename_i ha
        rw [ih]
        constructor
        · rintro ⟨g, x, h1, h2⟩; exact ⟨g, x, List.mem_cons_of_mem _ h1, h2⟩
        · rintro ⟨g, x, h1, h2⟩
          rcases List.mem_cons.mp h1 with e | h1
          · cases e; exact (ha (any_FO.mpr ⟨x, h2⟩)).elim
          · exact ⟨g, x, h1, h2⟩
    | _ => exact other (fun c e => nomatch e)
theorem mem_feetL {H : Hp} {p b : Addr} {d : D} : b ∈ feetL H p d ↔ Foot H p d b := by
  unfold feetL Foot
  rw [List.mem_cons]
  refine or_congr Iff.rfl ?_
  show (b ∈ (match H p with
    | some (.ins _ _ fs) => innerL (fldsOf d) fs
    | _ => [])) ↔ _
  split
  · rename_i C dx fs e
    rw [mem_innerL]
    constructor
    · rintro ⟨f, x, h1, h2⟩; exact ⟨C, dx, fs, f, x, e, h1, h2⟩
    · rintro ⟨C', dx', fs', f, x, e', h1, h2⟩
      rw [e] at e'; cases e'
      exact ⟨f, x, h1, h2⟩
  · rename_i n
    constructor
    · intro h; cases h
    · rintro ⟨C', dx', fs', f, x, e', h1, h2⟩
      exact (n C' dx' fs' e').elim
/-! ### what it reads as, once it stands still -/
theorem frzD_list (ds : List D) : frzD (.list ds) = .list ds := rfl
theorem frzD_id {d : D} (h : isOb d = false) : frzD d = d := by
  cases d with
  | dict ds =>
    cases ds with
    | nil => rfl
    | cons p r =>
      obtain ⟨k, v⟩ := p
      show (if isMK k = true then _ else _) = _
      rw [if_neg (by rw [show isMK k = false from h]; decide)]
  | _ => rfl
theorem frzD_ob (nm : Str) (ds : List (D × D)) : frzD (.dict ((MK, .str nm) :: ds)) = .dict ((MK, .str nm) :: ds.map fun p => (p.1, unOwn p.2)) := by
  show (if isMK MK = true then PyData.dict ((MK, .str nm) :: ds.map fun p => (p.1, unOwn p.2)) else .dict ((MK, .str nm) :: ds)) = _
  rw [if_pos isMK_mk]
theorem FldsR.still {K : PySem.W.Frag} {H HL : Hp} : ∀ {fs : List (Str × V)} {ds : List (D × D)}, FldsR K H fs ds → (∀ f v d, (f, v) ∈ fs → ((.str f, d) : D × D) ∈ ds → FldR K H v d → Rz K HL v (unOwn d)) → RzKv K HL (fKey fs) (ds.map fun p => (p.1, unOwn p.2))
  | _, _, .nil, _ => .nil
  | _, _, .cons z r, g => RzKv.cons (k := .inr _) (g _ _ _ List.mem_cons_self List.mem_cons_self z) (r.still fun f v d h1 h2 => g f v d (List.mem_cons_of_mem _ h1) (List.mem_cons_of_mem _ h2))
section
variable {K : PySem.W.Frag} {H HL : Hp} {p : Addr} {d : D}
theorem OwnS.still {u : HO} {ob : Obj} (o : OwnS K H p d) (e : H p = some u) (f : HL p = some (.frz ob u)) (k : Per H HL) : Rz K HL (.ref p) d := by
  cases d with
  | list ds =>
    obtain ⟨vs, e1, z⟩ := o
    rw [e] at e1; cases e1
    exact .lst (.inl ⟨ob, f⟩) (z.per k)
  | dict ds =>
    obtain ⟨ks, e1, z⟩ := o
    rw [e] at e1; cases e1
    exact .dct f (z.per k)
  | _ => exact o.elim
theorem Own.still (o : Own K H p d) (hf : ∀ b, Foot H p d b → ∃ u ob, H b = some u ∧ canFz u = true ∧ HL b = some (.frz ob u)) (k : Per H HL) : Rz K HL (.ref p) (frzD d) := by
  obtain ⟨u, ob, hu, cu, hL⟩ := hf p (Foot.self H p d)
  cases hd : isOb d with
  | false => rw [frzD_id hd]; exact (o.s hd).still hu hL k
  | true =>
    cases d with
    | dict ds =>
      rcases o with ⟨ks, e1, r⟩ | ⟨nm, ds', C, dx, fs, rfl, o⟩
      · cases r with
        | nil => cases hd
        | cons _ _ => rw [show isOb (.dict ((keyD _, _) :: _)) = isMK (keyD _) from rfl, keyD_mk] at hd; cases hd
      · rw [frzD_ob]
        rw [o.at_] at hu; cases hu
        refine .obj (.ins hL o.pl) o.cn (o.fr.still fun f v d h1 h2 z => ?_)
        cases z with
        | rz z =>
          rw [unOwn_id (rz_ow z)]
          exact z.per k
        | ow oq =>
          rw [unOwn_own]
          obtain ⟨u, ob, hu, cu, hq⟩ := hf _ (.inr ⟨C, dx, fs, f, _, o.at_, h1, List.mem_cons_of_mem _ h2⟩)
          exact oq.still hu hq k
    | _ => cases hd
end
/-- all that belongs to it stands still -/
theorem Own.lock {X : Cx} {pins : List (Addr × Obj)} {σ : St} {H : Hp} {s : Shared} {p : Addr} {d : D} (I : Inv X pins σ H s) (o : Own X.K H p d) :
    ∃ HL, Inv X pins σ HL s ∧ (∀ b, ¬ Foot H p d b → HL b = H b) ∧ (∀ b, Foot H p d b → ∃ u ob, H b = some u ∧ canFz u = true ∧ HL b = some (.frz ob u)) ∧ Rz X.K HL (.ref p) (frzD d) := by
  obtain ⟨HL, IL, h1, h2⟩ := Mp.Inv.freezes I (feetL H p d) fun b hb => o.feet (mem_feetL.mp hb)
  have hf : ∀ b, Foot H p d b → ∃ u ob, H b = some u ∧ canFz u = true ∧ HL b = some (.frz ob u) := fun b f => h2 b (mem_feetL.mpr f)
  have hn : ∀ b, ¬ Foot H p d b → HL b = H b := fun b f => h1 b fun z => f (mem_feetL.mp z)
  refine ⟨HL, IL, hn, hf, o.still hf ?_⟩
  refine ⟨fun b xs hb => ?_, fun b ob u hb => ?_, fun b xs hb => ?_⟩
  · rw [hn b fun f => ?_]
    · exact hb
    · obtain ⟨u, _, e, c, _⟩ := hf b f
      rw [hb] at e; cases e; cases c
  · rw [hn b fun f => ?_]
    · exact hb
    · obtain ⟨u, _, e, c, _⟩ := hf b f
      rw [hb] at e; cases e; cases c
  · rw [hn b fun f => ?_]
    · exact hb
    · obtain ⟨u, _, e, c, _⟩ := hf b f
      rw [hb] at e; cases e; cases c
/-- the abstract heap behind it -/
theorem still_per {H HL : Hp} {p : Addr} {d : D} (hn : ∀ b, ¬ Foot H p d b → HL b = H b) (hf : ∀ b, Foot H p d b → ∃ u ob, H b = some u ∧ canFz u = true ∧ HL b = some (.frz ob u)) : Per H HL := by
  refine ⟨fun b xs hb => ?_, fun b ob u hb => ?_, fun b xs hb => ?_⟩
  · rw [hn b fun f => ?_]
    · exact hb
    · obtain ⟨u, _, e, c, _⟩ := hf b f
      rw [hb] at e; cases e; cases c
  · rw [hn b fun f => ?_]
    · exact hb
    · obtain ⟨u, _, e, c, _⟩ := hf b f
      rw [hb] at e; cases e; cases c
  · rw [hn b fun f => ?_]
    · exact hb
    · obtain ⟨u, _, e, c, _⟩ := hf b f
      rw [hb] at e; cases e; cases c
theorem still_alive {H HL : Hp} {p : Addr} {d : D} (hn : ∀ b, ¬ Foot H p d b → HL b = H b) (hf : ∀ b, Foot H p d b → ∃ u ob, H b = some u ∧ canFz u = true ∧ HL b = some (.frz ob u)) : ∀ b, HL b = none → H b = none := fun b h => by
  by_cases f : Foot H p d b
  · obtain ⟨u, ob, _, _, e⟩ := hf b f
    rw [h] at e; cases e
  · rw [← hn b f]; exact h
theorem tabs_of {H H' : Hp} (k : ∀ b o, H b = some o → canFz o = false → H' b = some o) : ∀ P q, TabS H P q → TabS H' P q := fun P q ⟨ps, h1, h2, h3⟩ => by
  refine ⟨ps, k _ _ h1 rfl, h2, fun pos cv hc => ?_⟩
  obtain ⟨c, e1, e2⟩ := h3 pos cv hc
  exact ⟨c, e1, k _ _ e2 rfl⟩
theorem still_tabs {H HL : Hp} {p : Addr} {d : D} (hn : ∀ b, ¬ Foot H p d b → HL b = H b) (hf : ∀ b, Foot H p d b → ∃ u ob, H b = some u ∧ canFz u = true ∧ HL b = some (.frz ob u)) : ∀ P q, TabS H P q → TabS HL P q :=
  tabs_of fun b o h c => by
    rw [hn b fun f => ?_]
    · exact h
    · obtain ⟨u, _, e, cu, _⟩ := hf b f
      rw [h] at e; cases e; rw [c] at cu; cases cu
theorem tabs_upd {K : PySem.W.Frag} {H : Hp} {p : Addr} {u o : HO} (t : TabsK K H) (h : H p = some u) (c : canFz u = true) : TabsK K (upd H p o) := fun x hx => tabs_of (fun b w hb cw => by
  rw [upd_ne fun e => by subst e; rw [h] at hb; cases hb; rw [c] at cw; cases cw]
  exact hb) _ _ (t x hx)
end Mp
namespace Mp
open PySem PySem.Spec L2 PySem.W
open PyProof.Rows hiding St
variable [LamT]

/-! ### isinstance of an exception that stands still, with or without a dict -/
section
variable {prog : Program} {w : World} {A : Around} {E : Value → Shared → Prop} {s : Shared} {K : Frag} {x C : Addr} {ox : Obj} {od : Option Obj}
theorem clsOf {Q : Option Value → Shared → Prop} (T : ExcC K C) (X : K.In s.heap) (I : InstAt s.heap x ox C od) (h : Q (some (.ref C)) { s with toks := s.toks + 1 }) :
    wpAny (model prog w) A (getAttr? (.ref x) "__class__") Q E s := by
  have hf : findObj K C od "__class__" = some (.bind (.builtin "getset_descriptor.__get__") (.builtin "object.__class__")) := by
    obtain ⟨cd, hc, _⟩ := any_some T.hd
    unfold findObj
    rw [hc, Option.bind_some, T.ha, Option.bind_some]
    simp [T.hn, T.ht]
  obtain ⟨hp, g, d, t, os⟩ := s
  have L0 := I.type (M := model prog w)
  have L1 := looks_findIn (M := model prog w) X T.hg
  have L2 := looks_findIn (M := model prog w) X T.hk
  have L3 := looks_find (M := model prog w) X I hf
  have sub : Looks (model prog w) hp (isInstance (.ref x) (.type "BaseException")) true := L0.andThen (looks_subIn X T.hs)
  have n0 : (false && onTheHeap (Value.builtin "BaseException.__getattribute__")) = false := rfl
  have n1 : (onTheHeap (Value.ref C) && Value.builtin "BaseException.__getattribute__" == Value.builtin "object.__getattribute__") = false := by
    rw [show (Value.builtin "BaseException.__getattribute__" == Value.builtin "object.__getattribute__") = false by decide +kernel]; rfl
  unfold getAttr? getAttrBy? getAttrBy
  refine wpAny_bind (wpAny_mkText (wpAny_bind (wpAny_attempt (wpAny_holding (wpAny_bind (L0.at (wpAny_bind (L1.at ?_))))))))
  show wpAny _ _ (if (onTheHeap (Value.ref C) && Value.builtin "BaseException.__getattribute__" == Value.builtin "object.__getattribute__") = true then _ else _) _ _ _
  rw [n1, if_neg Bool.false_ne_true]
  unfold getAttrByItsOwn hookBefore
  refine wpAny_bind ?_
  rw [if_pos (show onTheHeap (Value.ref C) = true from rfl)]
  refine L2.at ?_
  refine wpAny_bind (wpAny_attempt (wpAny_holding ?_))
  unfold callGetattribute
  rw [n0, if_neg Bool.false_ne_true]
  unfold boundAndCalled
  rw [PySem.F.excAttr_ValueError.ga.bind (.ref x)]
  refine wpAny_bind (wpAny_pure ?_)
  show wpAny _ _ (call (.builtin "BaseException.__getattribute__") [.ref x, .str "__class__" t]) _ _ _
  refine wpAny_call (codeAny_call_builtin PySem.F.excAttr_ValueError.ga.plain PySem.F.entry_bexc_ga ?_)
  refine @check_slot (model prog w) _ _ ⟨hp, g, d, t + 1, os⟩ "BaseException.__getattribute__" "BaseException" "__getattribute__" (.ref x) [.str "__class__" t] [] _ (by decide +kernel) (by decide +kernel) sub (PySem.F.args_bexc_ga (.ref x) (.str "__class__" t)) ?_
  unfold Builtin.«object.__getattribute__»
  refine wpAny_bind (wpAny_of_eq (a := ((Value.ref x : Value), [Value.str "__class__" t])) (by first | rfl | (simp only [slotArgs]; rfl)) ?_)
  refine wpAny_bind (wpAny_pure (wpAny_bind (L0.at (wpAny_bind (L3.at ?_)))))
  show wpAny _ _ (holding [Value.builtin "object.__class__"] (call (.builtin "getset_descriptor.__get__") [.builtin "object.__class__", .ref x, .ref C]) >>= ret) _ _ _
  refine wpAny_bind (wpAny_holding (wpAny_call (class_get (s := ⟨hp, g, d, t + 1, os⟩) (ox := ox) (od := od) X I T.hm ?_)))
  refine wpAny_pure ?_
  show wpAny _ _ (handedOut (.ref C)) _ _ _
  rw [handedOut_of (v := .ref C) rfl]
  first
    | exact wpAny_pure (wpAny_pure h)
    | exact wpAny_pure h
    | exact wpAny_pure (wpAny_bind (wpAny_pure (wpAny_pure h)))
theorem kitE (T : ExcC K C) : KitX K (.ref x) (.ref C) (fun h => ∃ od, InstAt h x ox C od) where
  ty := fun _ _ _ ⟨_, I⟩ => I.type
  it := fun M h X _ => by
    obtain ⟨cd, hc, _⟩ := any_some T.hd
    unfold clsIn at hc
    split at hc
    · rename_i c' d' cd' sl' ho
      intro A' Q' E' s' k q
      unfold isType loadHead
      exact wpAny_bind (wpAny_loadPart (k _ _ (X _ _ ho)) (wpAny_pure q))
    · cases hc
  ne := (handS_kitx_exc T.hg T.hk T.hs T.hd T.ha T.hn T.ht T.hm (x := x) (ox := ox)).ne
  ca := fun X ⟨_, I⟩ k => clsOf T X I k
end
section
variable {X : Cx} {pins : List (Addr × Obj)} {σ : St} {H : Hp} {s : Shared} {a C : Addr} {fs : List (Str × V)}
/-- an instance that stands still -/
theorem ins_frz {P : Program} {w : World} {h : Heap} {o : Obj} {dx : Addr} (hok : HOk P w H h) (e : H a = some (.frz o (.ins C dx fs))) : ∃ mA, ObjM h a dx C mA ∧ ∀ f, RelO (fs.lookup f) (mA f) := by
  obtain ⟨_, d, z, ne, ob, mA, n, r, q⟩ := hok a _ e
  exact ⟨mA, ⟨ob, n, ne⟩, r⟩
/-- isinstance of it -/
theorem ObAt.isi {c : Value} {b : Bool} {A : Around} {E : Value → Shared → Prop} {Q : Value → Shared → Prop} (o : ObAt X.K H a C fs) (I : Inv X pins σ H s) (e : kitOne X.K (.ref C) c = some b) (h : ∀ tk, Q (.bool b) { s with toks := tk }) :
    wpAny (model X.prog X.w) A (call (.builtin "isinstance") [.ref a, c]) Q E s := by
  cases o with
  | @exc oI oD u dx vs fs h1 h2 h3 h4 h5 T =>
    have g1 : s.heap.get? a = some oI := (I.hok a _ h1).1
    obtain ⟨g2, mA, hns, hr⟩ := I.hok dx _ h5
    obtain ⟨od, ho, hl⟩ := lookIn_ns hns
    have J : InstAt s.heap a oI C (some od) := ⟨g1, h2, by unfold PySem.W.notCls; rw [h4] <;> rfl, by rw [h3]; exact ho⟩
    exact PySem.W.kia_one (kitE (ox := oI) T) I.kIn ⟨_, J⟩ e (fun z => nomatch z) h
  | @exc0 oI u vs h1 h2 h3 h4 T =>
    have g1 : s.heap.get? a = some oI := (I.hok a _ h1).1
    have J : InstAt s.heap a oI C none := ⟨g1, h2, by unfold PySem.W.notCls; rw [h4] <;> rfl, by rw [h3]; trivial⟩
    exact PySem.W.kia_one (kitE (ox := oI) T) I.kIn ⟨_, J⟩ e (fun z => nomatch z) h
  | ins h1 T =>
    obtain ⟨mA, O, _⟩ := ins_frz I.hok h1
    obtain ⟨od, J, _⟩ := O.look
    exact PySem.W.kia_one (PySem.W.kitx_own (T.cl.get _) T.cl.hd T.ha T.hn T.htk T.hm) I.kIn J e (fun z => nomatch z) h
/-- a field of it -/
theorem ObAt.get {f : Str} {v : V} {A : Around} {E : Value → Shared → Prop} {Q : Value → Shared → Prop} {b : Bool} (o : ObAt X.K H a C fs) (n : findIn X.K (.ref C) f = some none) (l : fs.lookup f = some v) (I : Inv X pins σ H s)
    (h : ∀ u tk, RelV v u → Q u { s with toks := tk }) : wpAny (model X.prog X.w) A (getAttr (.ref a) f b) Q E s := by
  cases o with
  | @exc oI oD u dx vs fs h1 h2 h3 h4 h5 T =>
    have g1 : s.heap.get? a = some oI := (I.hok a _ h1).1
    obtain ⟨g2, mA, hns, hr⟩ := I.hok dx _ h5
    obtain ⟨od, ho, hl⟩ := lookIn_ns hns
    obtain ⟨u, hu, ru⟩ := RelO.some_of (v := v) (o := mA f) (by rw [← l]; exact hr f)
    have J : InstAt s.heap a oI C (some od) := ⟨g1, h2, by unfold PySem.W.notCls; rw [h4] <;> rfl, by rw [h3]; exact ho⟩
    exact HandSPX.exc_get I.kIn J T.hg T.hk T.hs (findObj_own T.hd n rfl (by rw [hl, hu])) (handed_of ru) (h u _ ru)
  | exc0 => cases l
  | ins h1 T =>
    obtain ⟨mA, O, r⟩ := ins_frz I.hok h1
    obtain ⟨u, hu, ru⟩ := RelO.some_of (v := v) (o := mA f) (by rw [← l]; exact r f)
    exact get_map I.kIn O (T.cl.get f) T.cl.hd n hu (handed_of ru) (h u _ ru)
end
/-! ### which data are objects -/
theorem Rz.ob {K : PySem.W.Frag} {H : Hp} {v : V} {d : D} (h : Rz K H v d) (n : isOb d = true) : ∃ a C nm fs ds, v = .ref a ∧ d = .dict ((MK, .str nm) :: ds) ∧ ObAt K H a C fs ∧ ClsN K C nm ∧ RzKv K H (fKey fs) ds := by
  cases h with
  | obj o c r => exact ⟨_, _, _, _, _, rfl, rfl, o, c, r⟩
  | dct e r =>
    cases r with
    | nil => cases n
    | cons _ _ =>
      have n : isMK (keyD _) = true := n
      rw [keyD_mk] at n
      cases n
  | _ => cases n
theorem Ry.ob {K : PySem.W.Frag} {H : Hp} {v : V} {d : D} (h : Ry K H v d) (n : isOb d = true) : ∃ a C nm fs ds, v = .ref a ∧ d = .dict ((MK, .str nm) :: ds) ∧ ObAt K H a C fs ∧ ClsN K C nm ∧ RzKv K H (fKey fs) ds := by
  rcases h with h | ⟨p, rfl, h⟩
  · exact h.ob n
  · cases d with
    | dict ds =>
      obtain ⟨ks, _, r⟩ := h
      cases r with
      | nil => cases n
      | cons _ _ =>
        have n : isMK (keyD _) = true := n
        rw [keyD_mk] at n
        cases n
    | _ => cases n
theorem ob_ty {d : D} (h : isOb d = true) : tyD d = "object" := by
  unfold isOb at h
  split at h
  · show (if _ then _ else _) = _
    rw [if_pos h]
  · cases h
theorem ob_unclean {d : D} (h : isOb d = true) : clean d = false := by
  unfold isOb at h
  split at h
  · unfold clean cleanKv
    rw [h]; rfl
  · cases h
theorem nob_ty {ds : List (D × D)} (h : isOb (.dict ds) = false) : tyD (.dict ds) = "dict" := by
  cases ds with
  | nil => rfl
  | cons p r =>
    obtain ⟨k, v⟩ := p
    have h : isMK k = false := h
    show (if _ then _ else _) = _
    rw [if_neg (by rw [h]; decide)]
theorem nob_keys {ds : List (D × D)} {K : PySem.W.Frag} {H : Hp} {ks : List (Key × V)} (r : RzKv K H ks ds) : isOb (.dict ds) = false := by
  cases r with
  | nil => rfl
  | cons _ _ => exact keyD_mk _
/-- a dict that is none -/
theorem Ry.dct {K : PySem.W.Frag} {H : Hp} {v : V} {ds : List (D × D)} (h : Ry K H v (.dict ds)) (n : isOb (.dict ds) = false) : ∃ p ks, v = .ref p ∧ (H p = some (.dK ks) ∨ ∃ o, H p = some (.frz o (.dK ks))) ∧ RzKv K H ks ds := by
  rcases h with h | ⟨p, rfl, ks, h1, h2⟩
  · cases h with
    | dct h1 h2 => exact ⟨_, _, rfl, .inr ⟨_, h1⟩, h2⟩
    | obj _ _ _ => rw [show isOb (.dict ((MK, .str _) :: _)) = isMK MK from rfl, isMK_mk] at n; cases n
  · exact ⟨p, ks, rfl, .inl h1, h2⟩
end Mp
namespace Mp
open PySem PySem.Spec L2
open PyProof.Rows hiding St
variable [LamT]
section
variable {X : Cx}
theorem atI_rz {K : PySem.W.Frag} {H : Hp} {xs : List V} {ds : List D} {i : Int} {d : D} (r : RzAll K H xs ds) (h : atI ds i = some d) : ∃ v, atI xs i = some v ∧ Rz K H v d := by
  unfold atI at h ⊢
  rw [r.length]
  cases e : ixN ds.length i with
  | none => rw [e] at h; cases h
  | some j =>
    rw [e] at h
    exact r.get h
theorem od_idx : IxR X (r2D X.K idxS) := by
  intro value slice pins s σ H x y v u Q I rx ry h hs
  obtain ⟨a, b, z, ha, hb, e, q⟩ := h
  unfold idxS at e
  split at e
  · obtain ⟨p, xs, rfl, s1, z1⟩ := ha.tup
    cases hb.int
    obtain ⟨w, e1, z2⟩ := atI_rz z1 e
    exact ix_tup value slice pins s σ H _ _ v u Q I rx ry ⟨p, xs, _, w, rfl, rfl, s1, e1, q _ _ (Same.refl H) z2⟩ hs
  · obtain ⟨p, xs, rfl, s1, z1⟩ := ha.lst
    cases hb.int
    obtain ⟨w, e1, z2⟩ := atI_rz z1 e
    exact ix_list value slice pins s σ H _ _ v u Q I rx ry ⟨p, xs, _, w, rfl, rfl, s1, e1, q _ _ (Same.refl H) z2⟩ hs
  · cases e
theorem cut_rz {K : PySem.W.Frag} {H : Hp} {xs : List V} {ds : List D} (r : RzAll K H xs ds) (lo hi : Option Int) : RzAll K H (cutV xs lo hi) (cutD ds lo hi) := by
  unfold cutV cutD
  rw [r.length]
  exact (r.drop _).take _
def rSlcD (K : PySem.W.Frag) : V → Option Int → Option Int → Hp → VK → Prop := fun x lo hi H Q => ∃ a z, Ry K H x a ∧ sliceD a lo hi = some z ∧ ∀ v H', Same H H' → Rz K H' v z → Q v H'
theorem sIx_whole {n : Nat} {lo hi : Option Int} {α : Type} {xs : List α} (hn : xs.length = n) (h : HT.sIx n 0 lo = 0 ∧ HT.sIx n n hi = n) : (xs.drop (HT.sIx xs.length 0 lo)).take (HT.sIx xs.length xs.length hi - HT.sIx xs.length 0 lo) = xs := by
  subst hn
  rw [h.1, h.2]
  simp
theorem od_slc : SlR X (rSlcD X.K) := by
  intro pins s σ H x v vl vu lo hi sl Q I rx hs pl pu h
  obtain ⟨a, z, ha, e, q⟩ := h
  unfold sliceD at e
  split at e
  · rename_i ds
    cases e
    obtain ⟨p, xs, rfl, s1, z1⟩ := ha.tup
    refine sl_tupA pins s σ H _ v vl vu lo hi sl Q I rx hs pl pu ⟨p, xs, rfl, s1, fun c => ?_, fun c t ht => ?_⟩
    · have w : cutD ds lo hi = ds := sIx_whole z1.length.symm c
      rw [w] at q
      exact q _ _ (Same.refl H) (.tup s1 z1)
    · have sm := same_new (o := .tup (cutV xs lo hi)) ht
      exact q _ _ sm (.tup (.inl (.inl upd_same)) ((cut_rz z1 lo hi).per (Per.of_same sm)))
  · rename_i ds
    cases e
    obtain ⟨p, xs, rfl, s1, z1⟩ := ha.lst
    have key : rSlL X.K (.ref p) lo hi H (later X.K H (.list (cutD ds lo hi)) Q) := ⟨p, xs, rfl, s1, fun t ht => by
      have sm := same_new (o := .lst (cutV xs lo hi)) ht
      exact ⟨t, rfl, ht, sm, ⟨_, upd_same, (cut_rz z1 lo hi).per (Per.of_same sm)⟩, fun H'' k z => q _ _ k z⟩⟩
    obtain ⟨T, id, h1, h2, h3⟩ := sl_list pins s σ H _ v vl vu lo hi sl _ I rx hs pl pu key
    exact ⟨T, id, h1, h2, wp_freeze (H := H) (.list (cutD ds lo hi)) h3⟩
  · rename_i y
    split at e
    · rename_i c
      cases e
      cases ha.str
      exact sl_str pins s σ H _ v vl vu lo hi sl Q I rx hs pl pu ⟨y, rfl, c, q _ _ (Same.refl H) (.str _)⟩
    · cases e
  · cases e

/-! ### built-in functions -/
/-- a call of one datum -/
def c1D (K : PySem.W.Frag) (g : D → Option D) : List V → Hp → VK → Prop := fun vs H Q => ∃ x, vs = [x] ∧ r1D K g x H Q
def c2D (K : PySem.W.Frag) (g : D → D → Option D) : List V → Hp → VK → Prop := fun vs H Q => ∃ x y, vs = [x, y] ∧ r2D K g x y H Q
theorem ud_neg : UnR X (unaryOp .USub) (r1D X.K negD) := by
  intro pins s σ H x v Q I rx h
  obtain ⟨a, z, ha, e, q⟩ := h
  unfold negD at e
  split at e
  · cases ha.int
    cases e
    exact un_neg pins s σ H _ v Q I rx ⟨_, rfl, q _ _ (Same.refl H) (.int _)⟩
  · cases e
theorem cd_len : CallR X (.builtin "len") (c1D X.K lenD) := by
  intro pins s σ H vs us Q I r h
  obtain ⟨x, rfl, a, z, ha, e, q⟩ := h
  unfold lenD at e
  split at e
  · cases e
    obtain ⟨p, xs, rfl, s1, z1⟩ := ha.tup
    exact call_len_seq pins s σ H _ us Q I r ⟨p, xs, rfl, .inr s1, by rw [z1.length]; exact q _ _ (Same.refl H) (.int _)⟩
  · cases e
    obtain ⟨p, xs, rfl, s1, z1⟩ := ha.lst
    exact call_len_seq pins s σ H _ us Q I r ⟨p, xs, rfl, .inl s1, by rw [z1.length]; exact q _ _ (Same.refl H) (.int _)⟩
  · split at e
    · rename_i c
      cases e
      cases ha.str
      exact call_len pins s σ H _ us Q I r ⟨_, _, rfl, ⟨c, rfl⟩, q _ _ (Same.refl H) (.int _)⟩
    · cases e
  · cases e
theorem cd_abs : CallR X (.builtin "abs") (c1D X.K absD) := by
  intro pins s σ H vs us Q I r h
  obtain ⟨x, rfl, a, z, ha, e, q⟩ := h
  unfold absD at e
  split at e
  · cases ha.int
    cases e
    exact call_abs pins s σ H _ us Q I r ⟨_, rfl, q _ _ (Same.refl H) (.int _)⟩
  · cases e
theorem cd_max (hc : X.calm = true) : CallR X (.builtin "max") (c2D X.K (int2 fun i j => some (.int (if j > i then j else i)))) := by
  intro pins s σ H vs us Q I r h
  obtain ⟨x, y, rfl, a, b, z, ha, hb, e, q⟩ := h
  unfold int2 at e
  split at e
  · cases ha.int
    cases hb.int
    cases e
    exact call_max2 hc pins s σ H _ us Q I r ⟨_, _, rfl, q _ _ (Same.refl H) (.int _)⟩
  · cases e
theorem cd_min (hc : X.calm = true) : CallR X (.builtin "min") (c2D X.K (int2 fun i j => some (.int (if j < i then j else i)))) := by
  intro pins s σ H vs us Q I r h
  obtain ⟨x, y, rfl, a, b, z, ha, hb, e, q⟩ := h
  unfold int2 at e
  split at e
  · cases ha.int
    cases hb.int
    cases e
    exact call_min2 hc pins s σ H _ us Q I r ⟨_, _, rfl, q _ _ (Same.refl H) (.int _)⟩
  · cases e
theorem cd_int : CallR X (.type "int") (c1D X.K toIntD) := by
  intro pins s σ H vs us Q I r h
  obtain ⟨x, rfl, a, z, ha, e, q⟩ := h
  unfold toIntD at e
  split at e
  · cases ha.bool
    cases e
    exact call_int1 pins s σ H _ us Q I r (.inr ⟨_, rfl, q _ _ (Same.refl H) (.int _)⟩)
  · cases ha.int
    cases e
    exact call_int1 pins s σ H _ us Q I r (.inl ⟨_, rfl, q _ _ (Same.refl H) (.int _)⟩)
  · cases e
theorem cd_tuple : CallR X (.type "tuple") (c1D X.K toTupleD) := by
  intro pins s σ H vs us Q I r h
  obtain ⟨x, rfl, a, z, ha, e, q⟩ := h
  unfold toTupleD at e
  split at e
  · cases e
    obtain ⟨p, xs, rfl, s1, z1⟩ := ha.lst
    refine call_tuple_of pins s σ H _ us Q I r ⟨p, xs, rfl, .inl ⟨s1, fun t ht => ?_⟩⟩
    have sm := same_new (o := .tup xs) ht
    exact q _ _ sm (.tup (.inl (.inl upd_same)) (z1.per (Per.of_same sm)))
  · cases e
    obtain ⟨p, xs, rfl, s1, z1⟩ := ha.tup
    exact call_tuple_of pins s σ H _ us Q I r ⟨p, xs, rfl, .inr ⟨s1, q _ _ (Same.refl H) (.tup s1 z1)⟩⟩
  · cases e
/-- list(x), the new list as one's own -/
theorem cd_list0 : CallR X (.type "list") (fun vs H Q => ∃ x a ds, vs = [x] ∧ Ry X.K H x a ∧ toListD a = some (.list ds) ∧ ∀ v H', fresh X.K H (.list ds) (fun _ _ => True) v H' → Q v H') := by
  intro pins s σ H vs us Q I r h
  obtain ⟨x, a, ds, rfl, ha, e, q⟩ := h
  have go : ∀ {p : Addr} {xs : List V}, x = .ref p → (SqL X.K H p xs ∨ SqT X.K H p xs) → RzAll X.K H xs ds → wpAny (model X.prog X.w) X.A (call (.type "list") us) (EP X pins σ Q) X.xe s := fun {p xs} ex sq z => by
    subst ex
    refine call_list_of pins s σ H _ us Q I r ⟨p, xs, rfl, sq, fun t ht => ?_⟩
    have sm := same_new (o := .lst xs) ht
    exact q _ _ ⟨t, rfl, ht, sm, ⟨_, upd_same, z.per (Per.of_same sm)⟩, trivial⟩
  unfold toListD at e
  split at e
  · cases e
    obtain ⟨p, xs, ex, s1, z1⟩ := ha.lst
    exact go ex (.inl s1) z1
  · cases e
    obtain ⟨p, xs, ex, s1, z1⟩ := ha.tup
    exact go ex (.inr s1) z1
  · cases e
theorem toList_list {a z : D} (e : toListD a = some z) : ∃ ds, z = .list ds := by
  unfold toListD at e
  split at e <;> cases e <;> exact ⟨_, rfl⟩
theorem cd_list : CallR X (.type "list") (c1D X.K toListD) := by
  intro pins s σ H vs us Q I r h
  obtain ⟨x, rfl, a, z, ha, e, q⟩ := h
  obtain ⟨ds, rfl⟩ := toList_list e
  refine wp_freeze (H := H) (.list ds) (cd_list0 pins s σ H _ us _ I r ⟨x, a, ds, rfl, ha, e, fun v H' f => ?_⟩)
  obtain ⟨p, rfl, hp, sm, o, _⟩ := f
  exact ⟨p, rfl, hp, sm, o, fun H'' k z => q _ _ k z⟩
theorem bools_rz {K : PySem.W.Frag} {H : Hp} : ∀ {ds : List D} {bs : List Bool} {xs : List V}, boolsOf ds = some bs → RzAll K H xs ds → xs = bs.map V.bl
  | [], bs, xs, e, r => by cases e; cases r; rfl
  | .bool b :: ds, bs, xs, e, r => by
    unfold boolsOf at e
    obtain ⟨b', e1, e2⟩ := Option.map_eq_some_iff.mp e
    cases e2
    cases r with
    | cons h r =>
      cases h
      rw [bools_rz e1 r]
      rfl
  | .none :: _, _, _, e, _ => by cases e
  | .int _ :: _, _, _, e, _ => by cases e
  | .str _ :: _, _, _, e, _ => by cases e
  | .list _ :: _, _, _, e, _ => by cases e
  | .tuple _ :: _, _, _, e, _ => by cases e
  | .dict _ :: _, _, _, e, _ => by cases e
theorem cd_all (hc : X.calm = true) : CallR X (.builtin "all") (c1D X.K allD) := by
  intro pins s σ H vs us Q I r h
  obtain ⟨x, rfl, a, z, ha, e, q⟩ := h
  unfold allD at e
  split at e
  · obtain ⟨bs, e1, e2⟩ := Option.map_eq_some_iff.mp e
    cases e2
    obtain ⟨p, xs, rfl, s1, z1⟩ := ha.lst
    rw [bools_rz e1 z1] at s1
    exact cr_all hc pins s σ H _ us Q I r ⟨p, bs, rfl, s1, q _ _ (Same.refl H) (.bl _)⟩
  · cases e
/-! isinstance -/
def okT (T : String) : Bool := ["int", "str", "bool", "tuple", "list", "dict"].contains T
theorem ry_ty {K : PySem.W.Frag} {H : Hp} {x : V} {d : D} (h : Ry K H x d) (n : isOb d = false) : TyX K H x (.type (tyD d)) := by
  rcases h with h | ⟨p, rfl, h⟩
  · cases h with
    | non => exact .base .non
    | bl b => exact .base (.bl b)
    | int i => exact .base (.int i)
    | str z => exact .base (.str z)
    | lst s _ =>
      rcases s with ⟨o, e⟩ | ⟨o, its, n, e, c, _⟩
      · exact .base (.frz e)
      · exact .kList e c
    | tup s _ =>
      rcases s with (e | ⟨o, e⟩) | ⟨o, its, n, e, c, _⟩
      · exact .base (.tup e)
      · exact .fTuple e
      · exact .kTuple e c
    | dct e r => rw [nob_ty n]; exact .fDict e
    | obj _ _ _ => rw [show isOb (.dict ((MK, .str _) :: _)) = isMK MK from rfl, isMK_mk] at n; cases n
  · cases d with
    | list ds => obtain ⟨vs, e, _⟩ := h; exact .base (.lst e)
    | dict ds => obtain ⟨ks, e, _⟩ := h; rw [nob_ty n]; exact .base (.dK e)
    | _ => exact h.elim
theorem kit_dt : ∀ T ∈ ["int", "str", "bool", "tuple", "list", "dict"], ∀ t ∈ ["NoneType", "bool", "int", "str", "list", "tuple", "dict"], kitB t T = some (t == T || (T == "int" && t == "bool")) := by
  decide +kernel
theorem tyD_mem (d : D) (n : isOb d = false) : tyD d ∈ ["NoneType", "bool", "int", "str", "list", "tuple", "dict"] := by
  cases d with
  | dict ds => rw [nob_ty n]; simp
  | _ => simp [tyD]
theorem cd_isinst {T : String} (hT : okT T = true) : CallR X (.builtin "isinstance") (fun vs H Q => ∃ x, vs = [x, .ty T] ∧ r1D X.K (fun d => some (.bool (isinstD T d))) x H Q) := by
  intro pins s σ H vs us Q I r h
  obtain ⟨x, rfl, a, z, ha, e, q⟩ := h
  cases e
  cases n : isOb a with
  | false => exact call_isi pins s σ H _ us Q I r ⟨x, .ty T, _, .type T, _, rfl, .ty T, ry_ty ha n, kit_ty (kit_dt T (List.contains_iff_mem.mp hT) _ (tyD_mem a n)), q _ _ (Same.refl H) (.bl _)⟩
  | true =>
    obtain ⟨p, C, nm, fs, ds, rfl, rfl, o, c, _⟩ := ha.ob n
    cases r with
    | cons rx rr =>
      cases rr with
      | cons rt rr =>
        cases rr
        cases rx
        cases rt
        have hT' := List.contains_iff_mem.mp hT
        have e2 : isinstD T (.dict ((MK, .str nm) :: ds)) = false := by
          unfold isinstD
          rw [ob_ty n]
          simp only [List.mem_cons, List.not_mem_nil, or_false] at hT'
          rcases hT' with rfl | rfl | rfl | rfl | rfl | rfl <;> rfl
        refine o.isi I (c.kit T hT') fun tk => ⟨.bl false, H, I.tok _, rfl, ?_⟩
        rw [← e2]
        exact q _ _ (Same.refl H) (.bl _)
end
end Mp
namespace Mp
open PySem PySem.Spec L2
open PyProof.Rows hiding St
variable [LamT]
def setO (P : Program) (w : World) (p : Addr) (xs : List Str) : HO := .ext fun h => SetS P w h p (metS xs)
theorem setO_ok {P : Program} {w : World} {H : Hp} {h : Heap} {p : Addr} {xs : List Str} (R : SetS P w h p (metS xs)) : ObjOk P w H h p (setO P w p xs) := by
  refine ⟨R, ?_, fun h1 h2 r k => r.at fun o e => k _ e⟩
  obtain ⟨o, _, _, _, e, _⟩ := R
  exact ⟨o, e⟩
theorem strs_rz {K : PySem.W.Frag} {H : Hp} : ∀ {ds : List D} {xs : List Str} {vs : List V}, strsOf ds = some xs → RzAll K H vs ds → vs = xs.map V.str
  | [], xs, vs, e, r => by cases e; cases r; rfl
  | .str b :: ds, xs, vs, e, r => by
    unfold strsOf at e
    obtain ⟨b', e1, e2⟩ := Option.map_eq_some_iff.mp e
    cases e2
    cases r with
    | cons h r =>
      cases h
      rw [strs_rz e1 r]
      rfl
  | .none :: _, _, _, e, _ => by cases e
  | .int _ :: _, _, _, e, _ => by cases e
  | .bool _ :: _, _, _, e, _ => by cases e
  | .list _ :: _, _, _, e, _ => by cases e
  | .tuple _ :: _, _, _, e, _ => by cases e
  | .dict _ :: _, _, _, e, _ => by cases e
section
variable {X : Cx}
theorem cd_set (hc : X.calm = true) : CallR X (.type "set") (fun vs H Q => ∃ x a xs, vs = [x] ∧ Ry X.K H x a ∧ strsIn a = some xs ∧ xs.length ≤ 4000 ∧ ∀ p, H p = none → Q (.ref p) (upd H p (setO X.prog X.w p xs))) := by
  intro pins s σ H vs us Q I r h
  obtain ⟨x, a, xs, rfl, ha, e, hl, q⟩ := h
  have fin : ∀ (h' : Heap) (tk : Nat), SetS X.prog X.w h' s.heap.objs.size (metS xs) → (∀ b o, s.heap.get? b = some o → h'.get? b = some o) → EP X pins σ Q (.ref s.heap.objs.size) { s with heap := h', toks := tk } :=
    fun h' tk hS k => ⟨.ref s.heap.objs.size, _, I.laid (t' := tk) k (Nat.le_refl _) (setO_ok hS), rfl, q _ I.fresh⟩
  have room : xs.length + 1 < scanBound := by unfold scanBound; omega
  unfold strsIn at e
  split at e
  · obtain ⟨p, vs, rfl, s1, z1⟩ := ha.tup
    obtain ⟨its, rv, ⟨o, ho, hcl, n, hd⟩, _⟩ := I.tuple s1
    rw [strs_rz e z1] at rv
    rw [Vals.ref1 r]
    refine set_of_strs3 (T := "tuple") (itn := "tuple_iterator") (I.ok.hd hc) ho hcl hd (by simpa using strsAre_of rv) room PySem.F.sub_tuple_set PySem.F.sub_tuple_frozenset (by decide) (fun {A' s' Q' E'} _ h1 h2 => wpAny_pyIter_tuple ⟨_, h1, hcl, n, hd⟩ h2) (fun {A' I'} hh ne => ⟨_, (Walks.tuple hh I' p ne its.toArray).toS, fun s' h1 h2 => ⟨⟨_, h1, rfl, rfl⟩, ⟨_, h2, hcl, n, hd⟩⟩⟩) fin
  · obtain ⟨p, vs, rfl, s1, z1⟩ := ha.lst
    obtain ⟨its, rv, ⟨o, n, ho, hcl, _, hd⟩, _⟩ := I.list s1
    rw [strs_rz e z1] at rv
    rw [Vals.ref1 r]
    refine set_of_strs3 (T := "list") (itn := "list_iterator") (I.ok.hd hc) ho hcl hd (by simpa using strsAre_of rv) room PySem.F.sub_list_set PySem.F.sub_list_frozenset (by decide) (fun {A' s' Q' E'} _ h1 h2 => wpAny_pyIter_list ⟨_, h1, hcl, n, hd⟩ h2) (fun {A' I'} hh ne => ⟨_, (Walks.list hh I' p ne its.toArray).toS, fun s' h1 h2 => ⟨⟨_, h1, rfl, rfl⟩, ⟨_, h2, hcl, n, hd⟩⟩⟩) fin
  · cases e
theorem cd_lenset : CallR X (.builtin "len") (fun vs H Q => ∃ p xs, vs = [.ref p] ∧ H p = some (setO X.prog X.w p xs) ∧ xs.length ≤ 1000 ∧ Q (.int ((metS xs).length : Nat)) H) := by
  intro pins s σ H vs us Q I r h
  obtain ⟨p, xs, rfl, hp, hl, q⟩ := h
  rw [Vals.ref1 r]
  obtain ⟨hS, _⟩ := I.hok p _ hp
  obtain ⟨o, es, ep, t, ho, hex, hd, _, hm, _, hf, _, _⟩ := hS
  have hn : es.size = (metS xs).length := by have := hm.length_eq; simpa using this
  have := metS_len xs
  exact call_len_set ho hex hd hf (by rw [hn]; omega) ⟨.int ((metS xs).length : Nat), H, I.tok _, ⟨_, by rw [hn]⟩, q⟩
end
end Mp
namespace Mp
open PySem PySem.Spec L2
open PyProof.Rows hiding St
variable [LamT]

/-! ### what repr shows of data -/
section
variable {X : Cx} {pins : List (Addr × Obj)} {σ : St} {H : Hp} {s : Shared}
theorem keys_nodict {K : PySem.W.Frag} : ∀ {ks : List (Key × V)} {ds : List (D × D)}, RzKv K H ks ds → PyData.hasDictAll (ds.map (·.1)) = false
  | _, _, .nil => rfl
  | _, _, .cons (k := k) (d := d) _ r => by
    show PyData.hasDictAll (keyD k :: _) = false
    rw [PyData.hasDictAll, keys_nodict r]
    cases k <;> rfl
/-- a row of data as repr reads it, once each of its members is -/
theorem rk_list {P : Program} {w : World} {a : Addr} {o : Obj} {vs : Array Value} {n : Nat} {ds : List D} {bs as : List Addr} (h1 : s.heap.get? a = some o) (h2 : o.cls = .type "list") (h3 : o.data = .seq vs n) (r : Reads s.heap (.ref a) (.list ds) as)
    (hb : ReadAtMost s.heap (PyData.depthAll ds) bs) (hk : ReprAllK P w bs s.heap (PyData.depthAll ds) vs.toList (PyData.shownAll ds)) : a ∉ bs ∧ ReadAtMost s.heap (PyData.depth (.list ds)) (a :: bs) ∧ ReprK P w (a :: bs) s.heap (PyData.depth (.list ds)) (.ref a) (PyData.shown (.list ds)) := by
  have hna : a ∉ bs := not_mem_of_deeper r (by simp only [PyData.depth]; omega) hb
  refine ⟨hna, ReadAtMost.cons r (by simp only [PyData.depth]; omega) hb, ?_⟩
  simp only [PyData.depth, PyData.shown]
  obtain ⟨l⟩ := vs
  cases l with
  | nil =>
    have : PyData.shownAll ds = [] := by
      have := hk.length_eq
      exact List.length_eq_zero_iff.mp this
    rw [this, listText_nil]
    exact ReprK.listEmpty h1 h2 h3
  | cons x l => exact ReprK.list h1 h2 h3 hna (by simpa using hk.length_eq) (fun i y e => hk.item i y (by simpa using e))
mutual
theorem rk (I : Inv X pins σ H s) : ∀ (d : D) (v : V) (u : Value), Rz X.K H v d → RelV v u → d.showable = true → d.shown.length ≤ sizeLine → ∃ bs, ReadAtMost s.heap d.depth bs ∧ ReprK X.prog X.w bs s.heap d.depth u d.shown
  | .none, _, _, h, r, _, _ => by
    cases h; cases r
    exact ⟨[], (fun _ h => nomatch h), by simp only [PyData.shown]; exact .of_is ReprIs.none _ _ _⟩
  | .bool b, _, _, h, r, _, _ => by
    cases h; cases r
    exact ⟨[], (fun _ h => nomatch h), by simp only [PyData.shown]; exact .of_is (ReprIs.bool b) _ _ _⟩
  | .int i, _, _, h, r, hs, _ => by
    cases h
    obtain ⟨t, rfl⟩ := r
    exact ⟨[], (fun _ h => nomatch h), by simp only [PyData.shown]; exact .of_is (ReprIs.int t (by simpa [PyData.showable] using hs)) _ _ _⟩
  | .str x, _, _, h, r, _, hz => by
    cases h
    obtain ⟨t, rfl⟩ := r
    exact ⟨[], (fun _ h => nomatch h), by simp only [PyData.shown]; exact .of_is (ReprIs.str x t (by simpa only [PyData.shown] using hz)) _ _ _⟩
  | .list ds, _, _, h, r, hs, hz => by
    cases h with
    | lst hq ha =>
      cases r
      obtain ⟨its, rv, ⟨o, n, ho, hc, _, hd⟩, _⟩ := I.list hq.sq
      obtain ⟨as, hr⟩ := Rz.readsAll I ds _ its (clean_showAll ds (by simpa [PyData.showable] using hs)) ha rv
      have hz' : (listText (PyData.shownAll ds)).length ≤ sizeLine := by simpa only [PyData.shown] using hz
      obtain ⟨bs, hb, hk⟩ := rkAll I ds _ its ha rv (by simpa [PyData.showable] using hs) fun t ht => Nat.le_trans (listText_mem_le ht) hz'
      obtain ⟨_, q1, q2⟩ := rk_list (vs := its.toArray) ho hc hd (.list ho hc hd hr) hb (by simpa using hk)
      exact ⟨_, q1, q2⟩
  | .tuple ds, _, _, h, r, hs, hz => by
    cases h with
    | tup hq ha =>
      cases r
      obtain ⟨its, rv, ⟨o, ho, hc, n, hd⟩, _⟩ := I.tuple hq
      obtain ⟨as, hr⟩ := Rz.readsAll I ds _ its (clean_showAll ds (by simpa [PyData.showable] using hs)) ha rv
      have hz' : (tupleText (PyData.shownAll ds)).length ≤ sizeLine := by simpa only [PyData.shown] using hz
      obtain ⟨bs, hb, hk⟩ := rkAll I ds _ its ha rv (by simpa [PyData.showable] using hs) fun t ht => Nat.le_trans (tupleText_mem_le ht) hz'
      have r := Reads.tuple ho hc hd hr
      refine ⟨_ :: bs, ReadAtMost.cons r (by simp only [PyData.depth]; omega) hb, ?_⟩
      simp only [PyData.depth, PyData.shown]
      exact ReprK.tuple ho hc hd (not_mem_of_deeper r (by simp only [PyData.depth]; omega) hb) (by simpa using hk)
  | .dict ds, _, _, h, r, hs, hz => by
    cases h with
    | dct hq ha =>
      cases r
      obtain ⟨_, _, hsm, vs, kv, o, es, ep, ho, hx, hd, _, hp, _⟩ := I.hok _ _ hq
      obtain ⟨as, h1⟩ := keys_reads (X := X) (H := H) (h := s.heap) hp kv ha
      obtain ⟨bs, h2⟩ := Rz.readsKv I ds _ _ _ (clean_showKv ds (by simpa [PyData.showable] using hs)) ha kv hp
      have hz' : (dictText (PyData.shownKv ds)).length ≤ sizeLine := by simpa only [PyData.shown] using hz
      obtain ⟨hs1, hs2⟩ := PyData.showableKv_split ds (by simpa [PyData.showable] using hs)
      obtain ⟨b1, hb1, k1⟩ := ReprAllK.of_readsAll (prog := X.prog) (w := X.w) h1 hs1 (fun q => by rw [keys_nodict ha] at q; cases q) (fun t ht => let ⟨p, hp, hl⟩ := PyData.shownKv_key_le ds t ht; Nat.le_trans hl (Nat.le_trans (dictText_mem_le hp) hz'))
      obtain ⟨b2, hb2, k2⟩ := rkKv I ds _ _ _ ha kv hp hs2 (fun t ht => let ⟨p, hp, hl⟩ := PyData.shownKv_val_le ds t ht; Nat.le_trans hl (Nat.le_trans (dictText_mem_le hp) hz'))
      have r := Reads.dict ho hx.1 hd h1 h2
      have hb : ReadAtMost s.heap (PyData.depthKv ds) (b1 ++ b2) := (hb1.mono (PyData.depthAll_keys_le ds)).append (hb2.mono (PyData.depthAll_vals_le ds))
      refine ⟨_ :: (b1 ++ b2), ReadAtMost.cons r (by simp only [PyData.depth]; omega) hb, ?_⟩
      simp only [PyData.depth, PyData.shown, PyData.shownKv_eq]
      exact ReprK.dict ho hx.1 hd hsm (not_mem_of_deeper r (by simp only [PyData.depth]; omega) hb) (ReprEntriesK.of_two es.toList _ _
        (k1.more_le (fun b hb => List.mem_append_left _ hb) (PyData.depthAll_keys_le ds)) (k2.more_le (fun b hb => List.mem_append_right _ hb) (PyData.depthAll_vals_le ds)))
    | obj _ _ _ =>
      have c := clean_show _ hs
      rw [ob_unclean (d := .dict ((MK, .str _) :: _)) isMK_mk] at c
      cases c
theorem rkAll (I : Inv X pins σ H s) : ∀ (ds : List D) (vs : List V) (us : List Value), RzAll X.K H vs ds → Vals vs us → PyData.showableAll ds = true → (∀ t ∈ PyData.shownAll ds, t.length ≤ sizeLine) →
    ∃ bs, ReadAtMost s.heap (PyData.depthAll ds) bs ∧ ReprAllK X.prog X.w bs s.heap (PyData.depthAll ds) us (PyData.shownAll ds)
  | [], _, _, h, r, _, _ => by
    cases h; cases r
    exact ⟨[], (fun _ h => nomatch h), .nil⟩
  | d :: ds, _, _, h, r, hs, hz => by
    cases h with
    | cons h1 h2 =>
      cases r with
      | cons r1 r2 =>
        have hs' : d.showable = true ∧ PyData.showableAll ds = true := by simpa [PyData.showableAll] using hs
        obtain ⟨b1, q1, k1⟩ := rk I d _ _ h1 r1 hs'.1 (hz _ (by simp only [PyData.shownAll]; exact List.mem_cons_self ..))
        obtain ⟨b2, q2, k2⟩ := rkAll I ds _ _ h2 r2 hs'.2 fun t ht => hz t (by simp only [PyData.shownAll]; exact List.mem_cons_of_mem _ ht)
        simp only [PyData.depthAll, PyData.shownAll]
        exact ⟨b1 ++ b2, (q1.mono (Nat.le_max_left _ _)).append (q2.mono (Nat.le_max_right _ _)), .cons ((k1.more fun b hb => List.mem_append_left _ hb).level_le (Nat.le_max_left _ _)) (k2.more_le (fun b hb => List.mem_append_right _ hb) (Nat.le_max_right _ _))⟩
theorem rkKv (I : Inv X pins σ H s) : ∀ (ds : List (D × D)) (ks : List (Key × V)) (vs : List (Key × Value)) (es : List DictEntry), RzKv X.K H ks ds → KV ks vs → Pairs (mixKind X.prog X.w) es vs → PyData.showableAll (ds.map (·.2)) = true → (∀ t ∈ PyData.shownAll (ds.map (·.2)), t.length ≤ sizeLine) →
    ∃ bs, ReadAtMost s.heap (PyData.depthAll (ds.map (·.2))) bs ∧ ReprAllK X.prog X.w bs s.heap (PyData.depthAll (ds.map (·.2))) (es.map (·.val)) (PyData.shownAll (ds.map (·.2)))
  | [], _, _, _, h, r, p, _, _ => by
    cases h; cases r; cases p
    exact ⟨[], (fun _ h => nomatch h), .nil⟩
  | d :: ds, _, _, _, h, r, p, hs, hz => by
    cases h with
    | cons h1 h2 =>
      cases r with
      | cons r1 r2 =>
        cases p with
        | cons p1 p2 p3 =>
          simp only [List.map_cons] at hs hz ⊢
          have hs' := (by simpa [PyData.showableAll] using hs : _ ∧ _)
          obtain ⟨b1, q1, k1⟩ := rk I _ _ _ h1 r1.2 hs'.1 (hz _ (by simp only [PyData.shownAll]; exact List.mem_cons_self ..))
          obtain ⟨b2, q2, k2⟩ := rkKv I ds _ _ _ h2 r2 p3 hs'.2 fun t ht => hz t (by simp only [PyData.shownAll]; exact List.mem_cons_of_mem _ ht)
          rw [← p2] at k1
          simp only [PyData.depthAll, PyData.shownAll]
          exact ⟨b1 ++ b2, (q1.mono (Nat.le_max_left _ _)).append (q2.mono (Nat.le_max_right _ _)), .cons ((k1.more fun b hb => List.mem_append_left _ hb).level_le (Nat.le_max_left _ _)) (k2.more_le (fun b hb => List.mem_append_right _ hb) (Nat.le_max_right _ _))⟩
end
end
theorem show_nob {ds : List (D × D)} (h : (PyData.dict ds).showable = true) : isOb (.dict ds) = false := by
  cases e : isOb (.dict ds) with
  | false => rfl
  | true =>
    have c := clean_show _ h
    rw [ob_unclean e] at c
    cases c
section
variable {X : Cx}
theorem cd_repr (hu : X.A.units + 64 < cLine) (gq : X.A.guards = some []) : CallR X (.builtin "repr") (c1D X.K reprD) := by
  intro pins s σ H vs us Q I r h
  obtain ⟨x, rfl, d, z, ha, e, q⟩ := h
  unfold reprD at e
  split at e
  · rename_i g
    cases e
    obtain ⟨hs, hd, hz⟩ := g
    have fin : ∀ (h' : Heap) (t tk : Nat), (∀ b o, s.heap.get? b = some o → h'.get? b = some o) → EP X pins σ Q (.str d.shown t) { s with heap := h', toks := tk } := fun h' t tk k =>
      ⟨.str d.shown, H, I.kept k, ⟨t, rfl⟩, q _ _ (Same.refl H) (.str _)⟩
    cases d with
    | none =>
      have hx := ha.none
      subst hx
      cases r with
      | cons r1 r2 =>
        cases r1; cases r2
        exact PySem.P.repr_of_none (by simpa [PyData.shown] using fin s.heap _ _ fun _ _ e => e)
    | bool b =>
      have hx := ha.bool
      subst hx
      cases r with
      | cons r1 r2 =>
        cases r1; cases r2
        exact PySem.P.repr_of_bool (by simpa [PyData.shown] using fin s.heap _ _ fun _ _ e => e)
    | int i =>
      have hx := ha.int
      subst hx
      cases r with
      | cons r1 r2 =>
        obtain ⟨t, rfl⟩ := r1
        cases r2
        exact PySem.P.repr_of_int (by simpa [PyData.showable] using hs) (by simpa [PyData.shown] using fin s.heap _ _ fun _ _ e => e)
    | str y =>
      have hx := ha.str
      subst hx
      cases r with
      | cons r1 r2 =>
        obtain ⟨t, rfl⟩ := r1
        cases r2
        exact PySem.P.repr_of_str (by simpa [PyData.shown] using fin s.heap _ _ fun _ _ e => e) (by simpa only [PyData.shown] using hz)
    | list ds =>
      obtain ⟨a, vs, rfl, hq, hr⟩ := ha.lst
      rw [Vals.ref1 r]
      obtain ⟨its, rv, ⟨o, n, ho, hc, _, hdat⟩, _⟩ := I.list hq
      obtain ⟨as, hrd⟩ := Rz.readsAll I ds _ its (clean_showAll ds (by simpa [PyData.showable] using hs)) hr rv
      have hz' : (listText (PyData.shownAll ds)).length ≤ sizeLine := by simpa only [PyData.shown] using hz
      obtain ⟨bs, hb, hk⟩ := rkAll I ds _ its hr rv (by simpa [PyData.showable] using hs) fun t ht => Nat.le_trans (listText_mem_le ht) hz'
      have rd := Reads.list ho hc hdat hrd
      have hna : a ∉ bs := not_mem_of_deeper rd (by simp only [PyData.depth]; omega) hb
      simp only [PyData.depth] at hd
      refine call_repr_slot (T := "list") (idr := "list.__repr__") (by omega) ⟨o, ho, hc⟩ F.slot_list_repr.toG ?_
      cases its with
      | nil =>
        have h0 : PyData.shownAll ds = [] := List.length_eq_zero_iff.mp hk.length_eq
        exact call_list_repr_empty ⟨o, ho, hc⟩ ho hdat ⟨_, _, rfl, by have := fin s.heap s.toks (s.toks + 1) fun _ _ e => e; simpa only [PyData.shown, h0, listText_nil] using this⟩
      | cons u l =>
        exact call_list_reprK ho hc hdat hna (by simpa using hk.length_eq) (fun i y e => hk.item i y (by simpa using e)) (g := []) gq (fun b _ => Clear.nil b) (by show X.A.units + 1 + (PyData.depthAll ds + 1) < cLine; omega) (fun _ _ e => e)
          (fun h' u tk k => ⟨_, _, rfl, by have := fin h' u tk k; simpa only [PyData.shown] using this⟩) hz'
    | tuple ds =>
      obtain ⟨a, vs, rfl, hq, hr⟩ := ha.tup
      rw [Vals.ref1 r]
      obtain ⟨its, rv, ⟨o, ho, hc, n, hdat⟩, _⟩ := I.tuple hq
      obtain ⟨as, hrd⟩ := Rz.readsAll I ds _ its (clean_showAll ds (by simpa [PyData.showable] using hs)) hr rv
      have hz' : (tupleText (PyData.shownAll ds)).length ≤ sizeLine := by simpa only [PyData.shown] using hz
      obtain ⟨bs, hb, hk⟩ := rkAll I ds _ its hr rv (by simpa [PyData.showable] using hs) fun t ht => Nat.le_trans (tupleText_mem_le ht) hz'
      have rd := Reads.tuple ho hc hdat hrd
      have hna : a ∉ bs := not_mem_of_deeper rd (by simp only [PyData.depth]; omega) hb
      simp only [PyData.depth] at hd
      exact call_repr_slot (T := "tuple") (idr := "tuple.__repr__") (by omega) ⟨o, ho, hc⟩ F.slot_tuple_repr (call_tuple_reprK ho hc hdat hna (by simpa using hk) (g := []) gq (fun b _ => Clear.nil b) (by show X.A.units + 1 + (PyData.depthAll ds + 1) < cLine; omega) (fun _ _ e => e)
        (fun h' u tk k => ⟨_, _, rfl, by have := fin h' u tk k; simpa only [PyData.shown] using this⟩) hz')
    | dict ds =>
      obtain ⟨p, ks, rfl, hq, hr⟩ := ha.dct (show_nob hs)
      · rw [Vals.ref1 r]
        obtain ⟨_, hsm, vs, kv, o, es, ep, ho, hx, hdat, _, hp, _⟩ := dk_rd I.hok hq
        obtain ⟨as, h1⟩ := keys_reads (X := X) (H := H) (h := s.heap) hp kv hr
        obtain ⟨bs, h2⟩ := Rz.readsKv I ds _ _ _ (clean_showKv ds (by simpa [PyData.showable] using hs)) hr kv hp
        have hz' : (dictText (PyData.shownKv ds)).length ≤ sizeLine := by simpa only [PyData.shown] using hz
        obtain ⟨hs1, hs2⟩ := PyData.showableKv_split ds (by simpa [PyData.showable] using hs)
        obtain ⟨b1, hb1, k1⟩ := ReprAllK.of_readsAll (prog := X.prog) (w := X.w) h1 hs1 (fun q => by rw [keys_nodict hr] at q; cases q) (fun t ht => let ⟨p, hp, hl⟩ := PyData.shownKv_key_le ds t ht; Nat.le_trans hl (Nat.le_trans (dictText_mem_le hp) hz'))
        obtain ⟨b2, hb2, k2⟩ := rkKv I ds _ _ _ hr kv hp hs2 (fun t ht => let ⟨p, hp, hl⟩ := PyData.shownKv_val_le ds t ht; Nat.le_trans hl (Nat.le_trans (dictText_mem_le hp) hz'))
        have rd := Reads.dict ho hx.1 hdat h1 h2
        have hb : ReadAtMost s.heap (PyData.depthKv ds) (b1 ++ b2) := (hb1.mono (PyData.depthAll_keys_le ds)).append (hb2.mono (PyData.depthAll_vals_le ds))
        simp only [PyData.depth] at hd
        exact call_repr_slot (T := "dict") (idr := "dict.__repr__") (by omega) ⟨o, ho, hx.1⟩ F.slot_dict_repr (call_dict_reprK ho hx.1 hdat hsm (not_mem_of_deeper rd (by simp only [PyData.depth]; omega) hb) (ReprEntriesK.of_two es.toList _ _
          (k1.more_le (fun b hb => List.mem_append_left _ hb) (PyData.depthAll_keys_le ds)) (k2.more_le (fun b hb => List.mem_append_right _ hb) (PyData.depthAll_vals_le ds))) (g := []) gq (fun b _ => Clear.nil b) (by show X.A.units + 1 + (PyData.depthKv ds + 1) < cLine; omega) (fun _ _ e => e)
          (fun h' u tk k => ⟨_, _, rfl, by have := fin h' u tk k; simpa only [PyData.shown, PyData.shownKv_eq] using this⟩) (by rw [← PyData.shownKv_eq]; exact hz'))
  · cases e
theorem lsD_rz {K : PySem.W.Frag} {H : Hp} : ∀ ys : List Str, RzAll K H (ys.map V.str) (lsD ys)
  | [] => .nil
  | y :: r => .cons (.str y) (lsD_rz r)
theorem mt_splitD (b : Str) : MtR X "str.split" (fun x xs H Q => ∃ a z, x = .str a ∧ xs = [.str b] ∧ splitD b (.str a) = some z ∧ ∀ v H', Same H H' → Rz X.K H' v z → Q v H') := by
  intro pins s σ H x xs v us Q I rx rs h
  obtain ⟨a, z, ex, exs, e, q⟩ := h
  have e : (if (b.length == 0) = false ∧ a.length + 2 ≤ sizeLine then some (PyData.list (lsD (Txt.split a b))) else none) = some z := e
  split at e
  · rename_i hg
    cases e
    refine wp_freeze (H := H) (.list (lsD (Txt.split a b))) (mt_split pins s σ H x xs v us _ I rx rs ⟨a, b, ex, exs, hg.1, hg.2, fun p hp => ?_⟩)
    exact ⟨p, rfl, hp, same_new hp, ⟨_, upd_same, lsD_rz _⟩, fun H'' k z => q _ _ k z⟩
  · cases e
theorem mt_sindexD (b : Str) : MtR X "str.index" (fun x xs H Q => ∃ a z, x = .str a ∧ xs = [.str b] ∧ sindexD b (.str a) = some z ∧ ∀ v H', Same H H' → Rz X.K H' v z → Q v H') := by
  intro pins s σ H x xs v us Q I rx rs h
  obtain ⟨a, z, rfl, rfl, e, q⟩ := h
  obtain ⟨t, rfl⟩ := rx
  obtain ⟨k, e1, e2⟩ := Option.map_eq_some_iff.mp (show (Txt.index0 a b).map (fun k => PyData.int (k : Nat)) = some z from e)
  cases e2
  cases rs with
  | cons r1 rs =>
    cases rs
    obtain ⟨u, rfl⟩ := r1
    cases qq : Builtin.Str.occurrences a b 0 a.length 1 with
    | nil =>
      unfold Txt.index0 at e1
      rw [qq] at e1
      cases e1
    | cons k' rest =>
      unfold Txt.index0 at e1
      rw [qq] at e1
      cases e1
      exact PySem.SC.index qq ⟨.int (k : Nat), H, I.tok _, ⟨_, rfl⟩, q _ _ (Same.refl H) (.int _)⟩
theorem mt_scountD (b : Str) : MtR X "str.count" (fun x xs H Q => ∃ a z, x = .str a ∧ xs = [.str b] ∧ scountD b (.str a) = some z ∧ ∀ v H', Same H H' → Rz X.K H' v z → Q v H') := by
  intro pins s σ H x xs v us Q I rx rs h
  obtain ⟨a, z, ex, exs, e, q⟩ := h
  have e : some (PyData.int (Txt.count a b)) = some z := e
  cases e
  exact mt_count pins s σ H x xs v us Q I rx rs ⟨a, b, ex, exs, q _ _ (Same.refl H) (.int _)⟩
theorem pe_dnewD {pos : Pos} : PE X (.Dict [] [] pos) (fun _ H Q => ∀ v H', Same H H' → Rz X.K H' v (.dict []) → Q v H') := by
  refine ⟨fun pins s σ H Q I h => ?_⟩
  refine wp_freeze (H := H) (.dict []) (pe_dnewK.run pins s σ H _ I fun p hp => ?_)
  exact ⟨p, rfl, hp, same_new hp, ⟨[], upd_same, .nil⟩, fun H'' k z => h _ _ k z⟩
end
end Mp
namespace Mp
open PySem PySem.Spec L2
open PyProof.Rows hiding St
variable [LamT]

/-! ### dicts of texts and whole numbers as keys -/
theorem keyOf_keyD (k : Key) : keyOf (keyD k) = some k := by cases k <;> rfl
section
variable {K : PySem.W.Frag} {H : Hp}
theorem ry_key {v : V} {d : D} {k : Key} (h : Ry K H v d) (e : keyOf d = some k) : v = kV k := by
  cases d with
  | int i => cases e; exact h.int
  | str x => cases e; exact h.str
  | _ => cases e
theorem valD_rz {k : Key} : ∀ {ks : List (Key × V)} {ds : List (D × D)} {d : D}, RzKv K H ks ds → valD k ds = some d → ∃ v, valV ks k = some v ∧ Rz K H v d
  | _, _, _, .nil, e => by cases e
  | _, _, d, .cons (k := k') (v := v) h r, e => by
    unfold valD at e
    rw [keyOf_keyD] at e
    by_cases hk : k' = k
    · subst hk
      rw [if_pos rfl] at e
      cases e
      exact ⟨v, by simp [valV], h⟩
    · rw [if_neg (fun z => hk (Option.some.inj z)), if_neg (fun z => nomatch z)] at e
      obtain ⟨w, e1, z⟩ := valD_rz r e
      exact ⟨w, by simp only [valV] at e1 ⊢; first | (rw [List.find?_cons_of_neg (by simpa using hk)]; exact e1) | (simp [hk, e1]), z⟩
end
theorem valD_nob {k : Key} {ds : List (D × D)} {z : D} (e : valD k ds = some z) : isOb (.dict ds) = false := by
  cases ds with
  | nil => rfl
  | cons p r =>
    obtain ⟨a, v⟩ := p
    cases n : isOb (.dict ((a, v) :: r)) with
    | false => rfl
    | true =>
      have n : isMK a = true := n
      rw [isMK_eq n] at e
      unfold valD at e
      rw [if_neg (fun z => nomatch z), if_pos (show keyOf MK = none from rfl)] at e
      cases e
section
variable {X : Cx}
theorem od_idxK (hu : X.A.units + 1 < cLine) : IxR X (fun x y H Q => ∃ ds kd k z, Ry X.K H x (.dict ds) ∧ Ry X.K H y kd ∧ keyOf kd = some k ∧ valD k ds = some z ∧ ∀ v H', Same H H' → Rz X.K H' v z → Q v H') := by
  intro value slice pins s σ H x y v u Q I rx ry h hs
  obtain ⟨ds, kd, k, z, hx, hy, ek, e, q⟩ := h
  obtain ⟨p, ks, rfl, hr, hz⟩ := hx.dct (valD_nob e)
  cases rx
  have ey := ry_key hy ek
  subst ey
  obtain ⟨w, ew, zw⟩ := valD_rz hz e
  have g : DGet H p (kV k) (some w) := .inl ⟨ks, k, hr, rfl, ew.symm⟩
  have hT := dict_typeIs I g
  unfold subscriptTail
  refine wpAny_bind ?_
  rw [getitemInPython_of_ne hT.not_modules]
  refine wpAny_bind (wpAny_specialOf hT PySem.F.slot_dict_getitem.lookup ?_)
  have fin : wpAny (model X.prog X.w) X.A (subscripted slice false (.ref p) u) (fun r s₃ => wpAny (model X.prog X.w) X.A (letTemporaryGo value (.ref p) r >>= fun _ => pure r) (EP X pins σ Q) X.xe s₃) X.xe s := by
    rw [hs]
    exact wpAny_operating (d_getItem hu I g ry fun w' s' I' r' => wpAny_bind (wpAny_letTemporaryGo (wpAny_pure ⟨w, H, I', r', q _ _ (Same.refl H) zw⟩)))
  first
    | exact wpAny_pure (wpAny_bind fin)
    | exact wpAny_bind (wpAny_pure (wpAny_bind fin))
    | exact wpAny_bind fin
theorem od_idxD (hu : X.A.units + 1 < cLine) : IxR X (r2D X.K idxD) := by
  intro value slice pins s σ H x y v u Q I rx ry h hs
  obtain ⟨a, b, z, ha, hb, e, q⟩ := h
  unfold idxD at e
  split at e
  · exact od_idxK hu value slice pins s σ H x y v u Q I rx ry ⟨_, _, _, z, ha, hb, rfl, e, q⟩ hs
  · exact od_idxK hu value slice pins s σ H x y v u Q I rx ry ⟨_, _, _, z, ha, hb, rfl, e, q⟩ hs
  · exact od_idx value slice pins s σ H x y v u Q I rx ry ⟨_, _, z, ha, hb, e, q⟩ hs
  · exact od_idx value slice pins s σ H x y v u Q I rx ry ⟨_, _, z, ha, hb, e, q⟩ hs
  · cases e
end
end Mp
namespace Mp
open PySem PySem.Spec L2
open PyProof.Rows hiding St
variable [LamT]

/-! ### making dicts -/
section
variable {K : PySem.W.Frag} {H : Hp}
theorem any_rz {k : Key} : ∀ {ks : List (Key × V)} {ds : List (D × D)}, RzKv K H ks ds → (ks.any fun p => decide (p.1 = k)) = (ds.any fun p => decide (keyOf p.1 = some k))
  | _, _, .nil => rfl
  | _, _, .cons (k := k') h r => by
    rw [List.any_cons, List.any_cons, any_rz r]
    congr 1
    show decide (k' = k) = decide (keyOf (keyD k') = some k)
    rw [keyOf_keyD]
    simp
theorem map_rz {k : Key} {v : V} {d : D} (z : Rz K H v d) : ∀ {ks : List (Key × V)} {ds : List (D × D)}, RzKv K H ks ds → RzKv K H (ks.map fun p => if p.1 = k then (p.1, v) else p) (ds.map fun p => if keyOf p.1 = some k then (p.1, d) else p)
  | _, _, .nil => .nil
  | _, _, .cons (k := k') h r => by
    rw [List.map_cons, List.map_cons]
    show RzKv K H ((if k' = k then (k', v) else (k', _)) :: _) ((if keyOf (keyD k') = some k then (keyD k', d) else (keyD k', _)) :: _)
    rw [keyOf_keyD]
    by_cases hk : k' = k
    · rw [if_pos hk, if_pos (by rw [hk])]
      exact .cons z (map_rz z r)
    · rw [if_neg hk, if_neg fun e => hk (Option.some.inj e)]
      exact .cons h (map_rz z r)
theorem app_rz {k : Key} {v : V} {d : D} (z : Rz K H v d) : ∀ {ks : List (Key × V)} {ds : List (D × D)}, RzKv K H ks ds → RzKv K H (ks ++ [(k, v)]) (ds ++ [(keyD k, d)])
  | _, _, .nil => .cons z .nil
  | _, _, .cons h r => .cons h (app_rz z r)
theorem put_rz {k : Key} {v : V} {d : D} {ks : List (Key × V)} {ds : List (D × D)} (r : RzKv K H ks ds) (z : Rz K H v d) : RzKv K H (putK ks k v) (putD k d ds) := by
  unfold putK putD
  rw [any_rz r]
  split
  · exact map_rz z r
  · exact app_rz z r
theorem merge_rz {ps : List (Key × D)} {kvs : List (Key × V)} (p : Paired (fun (p : Key × V) (q : Key × D) => p.1 = q.1 ∧ Rz K H p.2 q.2) kvs ps) : ∀ {ks : List (Key × V)} {ds : List (D × D)}, RzKv K H ks ds → RzKv K H (mergeK ks kvs) (ps.foldl (fun acc p => putD p.1 p.2 acc) ds) := by
  induction p with
  | nil => intro ks ds r; exact r
  | @cons a b l m h t ih =>
    intro ks ds r
    obtain ⟨h1, h2⟩ := h
    have q := ih (put_rz (k := a.1) r h2)
    rw [List.foldl_cons, ← h1]
    exact q
theorem pairs_rz : ∀ {ds : List D} {xs : List V} {ps : List (Key × D)}, RzAll K H xs ds → pairsD ds = some ps →
    ∃ (as : List Addr) (kvs : List (Key × V)), xs = as.map V.ref ∧ Paired (fun p kv => SqT K H p [kV kv.1, kv.2]) as kvs ∧ Paired (fun (p : Key × V) (q : Key × D) => p.1 = q.1 ∧ Rz K H p.2 q.2) kvs ps
  | [], _, _, .nil, e => by
    cases e
    exact ⟨[], [], rfl, .nil, .nil⟩
  | .tuple [a, v] :: r, _, _, .cons h t, e => by
    unfold pairsD at e
    obtain ⟨k, e1, e2⟩ := Option.bind_eq_some_iff.mp e
    obtain ⟨ps, e3, e4⟩ := Option.map_eq_some_iff.mp e2
    cases e4
    obtain ⟨as, kvs, rfl, p1, p2⟩ := pairs_rz t e3
    cases h with
    | tup hs ha =>
      cases ha with
      | cons ha1 ha2 =>
        cases ha2 with
        | cons hb hn =>
          cases hn
          have ek := ry_key (.inl ha1) e1
          subst ek
          exact ⟨_ :: as, (k, _) :: kvs, rfl, .cons hs p1, .cons ⟨rfl, hb⟩ p2⟩
end
section
variable {X : Cx}
/-- dict(x), the new dict as one's own -/
theorem cd_dict0 (hc : X.calm = true) : CallR X (.type "dict") (fun vs H Q => ∃ x a ds, vs = [x] ∧ Ry X.K H x a ∧ toDictD a = some (.dict ds) ∧ ∀ v H', fresh X.K H (.dict ds) (fun _ _ => True) v H' → Q v H') := by
  intro pins s σ H vs us Q I r h
  obtain ⟨x, a, dz, rfl, ha, e, q⟩ := h
  unfold toDictD at e
  split at e
  · rename_i dks
    split at e
    · cases e
    rename_i nob
    cases e
    obtain ⟨p, ks, rfl, hr, hz⟩ := ha.dct (by simpa using nob)
    refine call_dictD pins s σ H _ us _ I r ⟨p, ks, rfl, hr, fun t ht => ?_⟩
    have sm := same_new (o := .dK ks) ht
    exact q _ _ ⟨t, rfl, ht, sm, ⟨ks, upd_same, RzKv.per (Per.of_same sm) hz⟩, trivial⟩
  · obtain ⟨ps, e1, e2⟩ := Option.map_eq_some_iff.mp e
    cases e2
    obtain ⟨p, xs, rfl, s1, z1⟩ := ha.lst
    obtain ⟨as, kvs, rfl, p1, p2⟩ := pairs_rz z1 e1
    refine call_dictP hc pins s σ H _ us _ I r ⟨p, as, kvs, rfl, s1, p1, fun t ht => ?_⟩
    have sm := same_new (o := .dK (mergeK [] kvs)) ht
    exact q _ _ ⟨t, rfl, ht, sm, ⟨_, upd_same, RzKv.per (Per.of_same sm) (merge_rz p2 .nil)⟩, trivial⟩
  · cases e
theorem toDict_dict {a z : D} (e : toDictD a = some z) : ∃ ds, z = .dict ds := by
  unfold toDictD at e
  split at e
  · split at e
    · cases e
    · cases e; exact ⟨_, rfl⟩
  · obtain ⟨ps, e1, e2⟩ := Option.map_eq_some_iff.mp e
    cases e2; exact ⟨_, rfl⟩
  · cases e
theorem cd_dict (hc : X.calm = true) : CallR X (.type "dict") (c1D X.K toDictD) := by
  intro pins s σ H vs us Q I r h
  obtain ⟨x, rfl, a, z, ha, e, q⟩ := h
  obtain ⟨ds, rfl⟩ := toDict_dict e
  refine wp_freeze (H := H) (.dict ds) (cd_dict0 hc pins s σ H _ us _ I r ⟨x, a, ds, rfl, ha, e, fun v H' f => ?_⟩)
  obtain ⟨p, rfl, hp, sm, o, _⟩ := f
  exact ⟨p, rfl, hp, sm, o, fun H'' k z => q _ _ k z⟩
end
end Mp
namespace Mp
open PySem PySem.Spec L2
open PyProof.Rows hiding St
variable [LamT]

/-! ### sorted, of what holds texts -/
theorem leS_trans (x y z : Str) (h1 : leS x y = true) (h2 : leS y z = true) : leS x z = true := by
  unfold leS at *
  rw [decide_eq_true_eq] at *
  exact List.le_trans h1 h2
theorem leS_total (x y : Str) : (leS x y || leS y x) = true := by
  unfold leS
  rw [Bool.or_eq_true, decide_eq_true_eq, decide_eq_true_eq]
  exact List.le_total _ _
theorem str_ext {x y : Str} (h : x.cps.toList = y.cps.toList) : x = y := by
  obtain ⟨a⟩ := x
  obtain ⟨b⟩ := y
  congr 1
  exact Array.toList_inj.mp h
theorem leS_anti (x y : Str) (h1 : leS x y = true) (h2 : leS y x = true) : x = y := by
  unfold leS at h1 h2
  rw [decide_eq_true_eq] at h1 h2
  exact str_ext (List.le_antisymm h1 h2)
theorem rising_pw : ∀ (r : List Str) (p : Str), risingS p r = true → (p :: r).Pairwise (fun a b => leS a b = true)
  | [], p, _ => by simp
  | x :: r, p, h => by
    have h : (!ltCps x.cps.toList p.cps.toList && risingS x r) = true := h
    rw [Bool.and_eq_true, Bool.not_eq_true', ltCps_eq, decide_eq_false_iff_not] at h
    have ih := rising_pw r x h.2
    have hpx : leS p x = true := by
      unfold leS
      rw [decide_eq_true_eq]
      exact List.not_lt.mp h.1
    rw [List.pairwise_cons]
    refine ⟨fun b hb => ?_, ih⟩
    rcases List.mem_cons.mp hb with rfl | hb
    · exact hpx
    · exact leS_trans _ _ _ hpx ((List.pairwise_cons.mp ih).1 b hb)
theorem sorted_pw : ∀ {r : List Str}, sortedS r = true → r.Pairwise (fun a b => leS a b = true)
  | [], _ => .nil
  | x :: r, h => rising_pw r x h
/-- the one sorted row -/
theorem sort_is {a xs : List Str} (hp : a.Perm xs) (hs : sortedS a = true) : a = sortS xs :=
  PySem.W.Srt.the_of_perm leS leS_trans leS_total leS_anti hp (sorted_pw hs)
section
variable {prog : Program} {w : World} {A : Around} {E : Value → Shared → Prop} {s : Shared} {Q : Value → Shared → Prop}
theorem sorted_col {r : Addr} {xs : List Str} {C : Shared → Prop}
    (hc : ∀ {R : List Value → Shared → Prop}, (∀ (s' : Shared) (vs : List Value) (ys : List Str), C s' → StrsAre vs ys → ys.Perm xs → R vs s') → wpAny (model prog w) A.in1 (collect (.ref r)) R E s) (h64 : xs.length < 64)
    (h : ∀ (s' : Shared) (D : Addr) (h' : Heap) (out : Array Value) (n : Nat) (ss : List Str), C s' → (∀ b o, s'.heap.get? b = some o → h'.get? b = some o) → s'.heap.objs.size ≤ D → h'.get? D = some (seqObj "list" out n) → StrsAre out.toList ss → ss.Perm xs → sortedS ss = true → Q (.ref D) { s' with heap := h' }) :
    wpAny (model prog w) A (call (.builtin "sorted") [.ref r]) Q E s := by
  refine Calls.call_function_entry kind_sorted plain_sorted entry_sorted (args_sorted1 _) ?_
  unfold Builtin.«sorted»
  refine wpAny_bind (m := checkCount "sorted" 1 1 _) (wpAny_pure ?_)
  refine wpAny_bind (hc fun s' vs ys hC hS hP => ?_)
  have hl : vs.length < 64 := by rw [hS.length, hP.length_eq]; exact h64
  refine wpAny_bind (wpAny_newList ?_ (by rw [sizeLine_eq]; omega))
  have hoL : (s'.heap.push (seqObj "list" vs.toArray 0)).get? s'.heap.objs.size = some (seqObj "list" vs.toArray 0) := Heap.get?_push_size _ rfl
  show wpAny _ _ _ _ _ { s' with heap := s'.heap.push (seqObj "list" vs.toArray 0) }
  refine wpAny_bind (wpAny_holding (wpAny_call_entry PyProof.Rows.slot_list_sort ⟨_, hoL, rfl⟩ PyProof.Rows.entry_list_sort
    (list_sort_treeK strKind_oneLt hoL hS.keysOf (fun v₁ v₂ rest e => keyKind_strs (by rw [← e]; exact hS)) hl fun st' hp hs => ⟨_, rfl, ?_⟩) (PyProof.Rows.args_list_sort _)))
  obtain ⟨ss', h1, h2, h3⟩ := sorted_out_str hS hp hs
  obtain ⟨ep, he⟩ := sortedHeap_at (vs := vs) (out := (arrOf st').map (·.2)) hoL
  refine wpAny_pure ⟨_, rfl, h s' _ _ _ ep ss' hC (fun b o e => ?_) (Nat.le_refl _) he h1 (h2.trans hP) h3⟩
  have hb : b ≠ s'.heap.objs.size := Nat.ne_of_lt (Heap.lt_size e)
  have e' := Heap.get?_push_of_some (seqObj "list" vs.toArray 0) e
  rw [sortedHeap_old hb (Heap.lt_size e')]
  exact e'
end
theorem strs_all {K : PySem.W.Frag} {H : Hp} : ∀ xs : List Str, RzAll K H (xs.map V.str) (lsD xs)
  | [] => .nil
  | x :: r => .cons (.str x) (strs_all r)
theorem keys_rz {K : PySem.W.Frag} {H : Hp} : ∀ {ks : List (Key × V)} {ds : List (D × D)} {xs : List Str}, RzKv K H ks ds → strsOf (ds.map (·.1)) = some xs → ks.map (·.1) = xs.map Sum.inr
  | _, _, xs, .nil, e => by cases e; rfl
  | _, _, xs, .cons (k := k) h r, e => by
    rw [List.map_cons] at e
    cases k with
    | inl i => cases e
    | inr x =>
      obtain ⟨b', e1, e2⟩ := Option.map_eq_some_iff.mp (show (strsOf _).map (x :: ·) = some xs from e)
      cases e2
      rw [List.map_cons, keys_rz r e1]
      rfl
section
variable {X : Cx}
theorem strs_nob {ds : List (D × D)} {xs : List Str} (e : strsOf (ds.map (·.1)) = some xs) : isOb (.dict ds) = false := by
  cases ds with
  | nil => rfl
  | cons p r =>
    obtain ⟨a, v⟩ := p
    cases n : isOb (.dict ((a, v) :: r)) with
    | false => rfl
    | true =>
      have n : isMK a = true := n
      rw [isMK_eq n] at e
      cases e
theorem cd_sortKeys0 (hc : X.calm = true) : CallR X (.builtin "sorted") (fun vs H Q => ∃ x a ds, vs = [x] ∧ Ry X.K H x a ∧ sortKeysD a = some (.list ds) ∧ ∀ v H', fresh X.K H (.list ds) (fun _ _ => True) v H' → Q v H') := by
  intro pins s σ H vs us Q I r h
  obtain ⟨x, a, ds, rfl, ha, e, q⟩ := h
  unfold sortKeysD at e
  split at e
  · rename_i dks
    obtain ⟨xs, e1, e2⟩ := Option.bind_eq_some_iff.mp e
    split at e2
    · rename_i h64
      cases e2
      obtain ⟨p, ks, rfl, hr, hz⟩ := ha.dct (strs_nob e1)
      rw [Vals.ref1 r]
      obtain ⟨z, lo, vs, rel, dd⟩ := dk_rd I.hok hr
      obtain ⟨ep, hat⟩ := dd.dictAt
      have hk := keys_rz hz e1
      have hkv : vs.map (·.1) = xs.map Sum.inr := by rw [← rel.keys]; exact hk
      have hlen : xs.length = vs.length := by have := congrArg List.length hkv; simpa using this.symm
      refine sorted_col (xs := xs) (C := fun s' => ∃ h' tk, s' = { s with heap := h', toks := tk } ∧ ∀ b o, s.heap.get? b = some o → h'.get? b = some o) (fun {R} hR => ?_) h64 fun s' D h' out n ss hC k hD he h1 h2 h3 => ?_
      · refine PySem.W.kdu_collect (PySem.W.kdl_dict (knd := mixKind X.prog X.w) (kvs := vs) (ep := ep) lo) (I.ok.hd hc) hat (by rw [← rel.length]; exact z) fun h' tk acc hk' hacc => hR _ _ xs ⟨h', tk, rfl, hk'⟩ ?_ (List.Perm.refl xs)
        have hv : Vals (vs.map fun p => kV p.1) acc.toList := keys_at (by rw [Array.length_toList]; exact hacc.1) fun j v e => hacc.2 j v (by rw [← Array.getElem?_toList]; exact e)
        have ek : (vs.map fun p => kV p.1) = xs.map V.str := by
          have := congrArg (List.map kV) hkv
          rw [List.map_map, List.map_map] at this
          exact this
        rw [ek] at hv
        exact hv.strs
      · obtain ⟨h0, tk, rfl, k0⟩ := hC
        have hlen' : (ss.map V.str).length ≤ sizeLine := by rw [List.length_map, h2.length_eq, sizeLine_eq]; omega
        have hg : s.heap.get? D = none := by
          cases e' : s.heap.get? D with
          | none => rfl
          | some o => exact absurd (Heap.lt_size (k0 D o e')) (Nat.not_lt.mpr hD)
        have hn := I.hok.gone hg
        have sm := same_new (o := .lst (ss.map V.str)) hn
        have ez := sort_is h2 h3
        have zr : RzAll X.K H (ss.map V.str) (lsD ss) := strs_all ss
        refine ⟨.ref D, upd H D (.lst (ss.map V.str)), I.laidN (t' := tk) (fun b o e => k b o (k0 b o e)) hg hn ⟨hlen', out.toList, n, vals_of_strs h1, by simpa using he⟩, rfl, q _ _ ⟨D, rfl, hn, sm, ⟨_, upd_same, ?_⟩, trivial⟩⟩
        rw [← ez]
        exact zr.per (Per.of_same sm)
    · cases e2
  · cases e
theorem sortKeys_list {a z : D} (e : sortKeysD a = some z) : ∃ ds, z = .list ds := by
  unfold sortKeysD at e
  split at e
  · obtain ⟨xs, e1, e2⟩ := Option.bind_eq_some_iff.mp e
    split at e2
    · cases e2; exact ⟨_, rfl⟩
    · cases e2
  · cases e
theorem cd_sortKeys (hc : X.calm = true) : CallR X (.builtin "sorted") (c1D X.K sortKeysD) := by
  intro pins s σ H vs us Q I r h
  obtain ⟨x, rfl, a, z, ha, e, q⟩ := h
  obtain ⟨ds, rfl⟩ := sortKeys_list e
  refine wp_freeze (H := H) (.list ds) (cd_sortKeys0 hc pins s σ H _ us _ I r ⟨x, a, ds, rfl, ha, e, fun v H' f => ?_⟩)
  obtain ⟨p, rfl, hp, sm, o, _⟩ := f
  exact ⟨p, rfl, hp, sm, o, fun H'' k z => q _ _ k z⟩
/-- sorted(a set of texts), the new list as one's own -/
theorem cd_sortset0 (hc : X.calm = true) : CallR X (.builtin "sorted") (fun vs H Q => ∃ p xs, vs = [.ref p] ∧ H p = some (setO X.prog X.w p xs) ∧ (metS xs).length < 64 ∧ ∀ v H', fresh X.K H (.list (lsD (sortS (metS xs)))) (fun _ _ => True) v H' → Q v H') := by
  intro pins s σ H vs us Q I r h
  obtain ⟨p, xs, rfl, hp, h64, q⟩ := h
  rw [Vals.ref1 r]
  obtain ⟨hS, _⟩ := I.hok p _ hp
  obtain ⟨o, es, ep, t, ho, hex, hd, hel, hm, hb, hf, hr, hl⟩ := hS
  refine sorted_col (xs := metS xs) (C := fun s' => (∀ b o, s.heap.get? b = some o → s'.heap.get? b = some o) ∧ s.heap.objs.size ≤ s'.heap.objs.size ∧ s'.gens = s.gens ∧ s'.os = s.os) (fun {R} hR => ?_) h64 fun s' D h' out n ss hC k hD he h1 h2 h3 => ?_
  · refine collect_set (A := X.A.in1) (I.ok.hd hc) ⟨o, ho, hex.1, hd⟩ hf hb hr hl fun s1 vs k1 hz g1 o1 pm => ?_
    have hst : ∀ l : List Value, (∀ v ∈ l, ∃ x t, v = Value.str x t) → StrsAre l (l.map strOf) := fun l hl => strsAre_map l hl
    have all : ∀ v ∈ vs, ∃ x t, v = Value.str x t := fun v hv => by
      obtain ⟨e, he, q⟩ := List.mem_map.mp (pm.mem_iff.mp hv)
      obtain ⟨⟨k, hk, _⟩, _⟩ := hel e he
      obtain ⟨t, ht⟩ := is_str hk
      exact ⟨k, t, by rw [← q]; exact ht⟩
    refine hR s1 vs (vs.map strOf) ⟨k1, hz, g1, o1⟩ (hst vs all) ?_
    have pk : (vs.map strOf).Perm (es.toList.map keyS) := by
      have q := pm.map strOf
      rw [List.map_map] at q
      have e : es.toList.map (strOf ∘ fun x => x.2) = es.toList.map keyS := List.map_congr_left fun e he => by
        obtain ⟨⟨k, hk, _⟩, _⟩ := hel e he
        obtain ⟨t, ht⟩ := is_str hk
        show strOf e.2 = keyS e
        unfold keyS
        rw [ht]
        rfl
      rw [e] at q
      exact q
    exact pk.trans hm
  · obtain ⟨k0, hz, g1, o1⟩ := hC
    have hp' : s.heap.objs.size ≤ D := Nat.le_trans hz hD
    have hn : H D = none := I.hok.fresh hp'
    have hlen' : (ss.map V.str).length ≤ sizeLine := by rw [List.length_map, h2.length_eq, sizeLine_eq]; omega
    have ez := sort_is h2 h3
    have sm := same_new (o := .lst (ss.map V.str)) hn
    have J : Inv X pins σ (upd H D (.lst (ss.map V.str))) { s with heap := h', gens := s'.gens, drawn := s'.drawn, toks := s'.toks } :=
      I.call (ch := []) (Un.laid (fun b o e => k b o (k0 b o e)) hp' hn) (I.hok.laid (fun b o e => k b o (k0 b o e)) hp' ⟨hlen', out.toList, n, vals_of_strs h1, by simpa using he⟩) (by rw [g1]; exact I.bare) (fun _ z => nomatch z)
    have e : ({ s' with heap := h' } : Shared) = { s with heap := h', gens := s'.gens, drawn := s'.drawn, toks := s'.toks } := by
      cases s'
      cases s
      cases o1
      rfl
    rw [e]
    refine ⟨.ref D, _, J, rfl, q _ _ ⟨D, rfl, hn, sm, ⟨_, upd_same, ?_⟩, trivial⟩⟩
    rw [← ez]
    exact (strs_all ss).per (Per.of_same sm)
end
end Mp
namespace Mp
open PySem PySem.Spec L2
open PyProof.Rows hiding St
variable [LamT]

/-! ### a, *r = a tuple -/
section
variable {prog : Program} {w : World} {A : Around} {E : Value → Shared → Prop} {s : Shared} {I : Addr} {fp wr : List Addr} {G : Array GenState → Array GenState → Prop} {n : Nat} {P : Nat → Value → Prop} {St : Nat → Shared → Prop}
theorem walks_from1 (W : WalksS prog w A I fp wr G (n + 1) P St) : WalksS prog w A I fp wr G n (fun i v => P (i + 1) v) (fun i s => St (i + 1) s) where
  sub := W.sub
  grefl := W.grefl
  gtrans := W.gtrans
  frame := fun i s h' tk st => W.frame (i + 1) s h' tk st
  item := fun i s Q E hi st hQ => W.item (i + 1) s Q E (by omega) st hQ
  done := fun s Q E st hQ => W.done s Q E st hQ
  self := fun i s Q E st hQ => W.self (i + 1) s Q E st hQ
theorem items_star {t : Addr} {items : Array Value} {x : Value} {r : List Value} {Q : List Value → Shared → Prop} (hh : A.handled = none) (ht : s.heap.IsTuple t items) (hx : items.toList = x :: r) (hz : items.size ≤ sizeLine)
    (hQ : ∀ (L : Addr) (h' : Heap) (tk : Nat), (∀ b o, s.heap.get? b = some o → h'.get? b = some o) → s.heap.get? L = none → h'.get? L = some { cls := .type "list", data := .seq r.toArray } → Q [x, .ref L] { s with heap := h', toks := tk }) :
    wpAny (model prog w) A (unpackItems (.ref t) 2 (some 1)) Q E s := by
  have hlt : t ≠ s.heap.objs.size := by obtain ⟨o, ho, _⟩ := ht; exact Nat.ne_of_lt (Heap.lt_size ho)
  have hsz : items.size = r.length + 1 := by rw [← Array.length_toList, hx]; rfl
  unfold unpackItems
  refine wpAny_bind ?_
  unfold notIterableAtAll
  refine wpAny_bind (wpAny_specialOf ht.typeIs PySem.F.slot_tuple_iter.lookup ?_)
  refine wpAny_pure ?_
  simp only [Bool.false_eq_true, if_false]
  refine wpAny_bind (wpAny_holding (wpAny_pyIter_tuple ht ?_))
  refine wpAny_bind (wpAny_holding (wpAny_draw_tuple hlt 1 0 _ _ ⟨_, Heap.get?_push_size _ rfl, rfl, rfl⟩ (ht.push _) (by omega) fun h₁ hit₁ hs₁ => ?_))
  rw [hx]
  show wpAny (model prog w) A (if ([x] : List Value).length < 1 then _ else _) Q E _
  rw [if_neg (by simp)]
  have ht₁ : h₁.IsTuple t items := (ht.push _).extBut hs₁.extBut hlt
  have W := walks_from1 (n := r.length) (hsz ▸ (Walks.tuple (prog := prog) (w := w) (A := A.in1) (by simp [hh]) s.heap.objs.size t hlt items).toS)
  refine wpAny_bind (wpAny_holding (wpAny_collect_iter (T := "tuple_iterator") (.inr (.inr (.inr rfl))) W (fun i s' st => st.1.typeIs) ⟨hit₁, ht₁⟩ (fun b hb => ?_) (by simp) (fun s' acc hm hacc => ?_) (by omega)))
  · have hI : (h₁).get? s.heap.objs.size ≠ none := by
      obtain ⟨o, ho, _⟩ := hit₁
      rw [ho]
      exact fun e => nomatch e
    rcases List.mem_cons.mp hb with rfl | hb
    · obtain ⟨o, ho, _⟩ := hit₁
      exact Heap.lt_size ho
    · rw [List.mem_singleton.mp hb]
      obtain ⟨o, ho, _⟩ := ht₁
      exact Heap.lt_size ho
  · have er : acc.toList = r := by
      apply List.ext_getElem?
      intro i
      by_cases hi : i < r.length
      · have hi' : i < acc.toList.length := by rw [Array.length_toList, hacc.1]; exact hi
        have h1 := hacc.2 i acc.toList[i] (by rw [← Array.getElem?_toList]; exact List.getElem?_eq_getElem hi')
        rw [List.getElem?_eq_getElem hi', ← h1, ← Array.getElem?_toList, hx]
        rfl
      · rw [List.getElem?_eq_none (by rw [Array.length_toList, hacc.1]; omega), List.getElem?_eq_none (by omega)]
    rw [er]
    have es := Moved.eq_with hm
    show wpAny (model prog w) A (if r.length < 0 then _ else _) Q E s'
    rw [if_neg (by omega)]
    show wpAny (model prog w) A (newList (r.take r.length) >>= fun l => pure ([x] ++ [l] ++ r.drop r.length)) Q E s'
    rw [List.take_length, List.drop_length]
    refine wpAny_bind (wpAny_newList ?_ (by omega))
    refine wpAny_pure ?_
    rw [es]
    have k0 : ∀ b o, s.heap.get? b = some o → s'.heap.get? b = some o := fun b o e => by
      have hb : b ≠ s.heap.objs.size := Nat.ne_of_lt (Heap.lt_size e)
      exact hm.heap b o (by simpa using hb) (hs₁.extBut b o hb (Heap.get?_push_of_some _ e))
    refine hQ s'.heap.objs.size _ _ (fun b o e => Heap.get?_push_of_some _ (k0 b o e)) ?_ (Heap.get?_push_size _ rfl)
    cases e' : s.heap.get? s'.heap.objs.size with
    | none => rfl
    | some o => exact absurd (Heap.lt_size (k0 _ o e')) (Nat.lt_irrefl _)
end
def gStar (K : PySem.W.Frag) (t : TGs) : TG := fun v σ H Q => ∃ a x r, v = .ref a ∧ SqT K H a (x :: r) ∧ ∀ p ob, H p = none → t [x, .ref p] σ (upd H p (.frz ob (.lst r))) Q
theorem pg_star {X : Cx} {e1 e2 : Expr} {k : Nat} {p pos : Pos} {t : TGs} (hc : X.calm = true) (h : PGs X [e1, e2] t) (h1 : ∀ env, assignEach [e1, .Starred e2 p] env = [(false, assign e1 env), (true, assign e2 env)]) (h2 : ∀ env, (assignEach [e1, e2] env).map (·.2) = [assign e1 env, assign e2 env]) :
    PG X (.Tuple [e1, .Starred e2 p] k pos) (gStar X.K t) := by
  refine ⟨fun pins s σ H v u Q I r hw => ?_⟩
  obtain ⟨a, x, rs, e1', hq, hw⟩ := hw
  subst e1'
  cases r
  obtain ⟨its, rv, ht, hz⟩ := I.tuple hq
  cases rv with
  | cons rx rr =>
    rename_i ux ur
    rw [assign_Tuple]
    refine wpAny_bind (wpAny_standAt ?_)
    unfold unpack
    rw [h1]
    show wpAny _ _ (holding [Value.ref a] (unpackItems (.ref a) 2 (some 1)) >>= fun z => assignInOrder [assign e1 X.env, assign e2 X.env] z) _ _ _
    have hlen := rr.length
    refine wpAny_bind (wpAny_holding (items_star (I.ok.hd hc) ht (x := ux) (r := ur) (by simp) (by simp at hz ⊢; omega) fun L h' tk hk hL hL' => ?_))
    have hn := I.hok.gone hL
    have I1 : Inv X pins σ (upd H L (.lst rs)) { s with heap := h', toks := tk } := I.laidN hk hL hn ⟨by simp at hz; omega, ur, 0, rr, hL'⟩
    obtain ⟨ob, I2⟩ := Mp.Inv.freeze I1 upd_same rfl
    rw [upd_upd] at I2
    have := h.run pins _ σ _ [x, .ref L] [ux, .ref L] Q I2 (.cons rx (.cons rfl .nil)) (hw L ob hn)
    rw [h2] at this
    exact this
end Mp
namespace Mp
open PySem PySem.Spec L2 LamX
open PyProof.Rows hiding St
variable [LamT]

/-! ### what a def promises of data -/
inductive ArgsOk (K : PySem.W.Frag) (H : Hp) : List Bool → List V → List D → Prop
  | nil : ArgsOk K H [] [] []
  | v {m : List Bool} {v : V} {vs : List V} {d : D} {ds : List D} : Rz K H v d → ArgsOk K H m vs ds → ArgsOk K H (false :: m) (v :: vs) (d :: ds)
  | o {m : List Bool} {p : Addr} {vs : List V} {d : D} {ds : List D} : Own K H p d → ArgsOk K H m vs ds → ArgsOk K H (true :: m) (.ref p :: vs) (d :: ds)
def lent : List Bool → List V → List D → List (Addr × D)
  | true :: m, .ref p :: vs, d :: ds => (p, d) :: lent m vs ds
  | _ :: m, _ :: vs, _ :: ds => lent m vs ds
  | _, _, _ => []
def FootL (H : Hp) (ls : List (Addr × D)) (b : Addr) : Prop := ∃ q ∈ ls, Foot H q.1 q.2 b
def Apart (H : Hp) (ls : List (Addr × D)) : Prop := (ls.map (·.1)).Nodup ∧ ∀ a ∈ ls, ∀ c ∈ ls, a.1 ≠ c.1 → ∀ b, Foot H a.1 a.2 b → Foot H c.1 c.2 b → False
inductive OutsOk (K : PySem.W.Frag) (H H' : Hp) : List (Addr × D) → List D → Prop
  | nil : OutsOk K H H' [] []
  | cons {p : Addr} {d0 : D} {ps : List (Addr × D)} {d : D} {ds : List D} : Own K H' p d → (∀ b, Foot H' p d b → Foot H p d0 b ∨ H b = none) → OutsOk K H H' ps ds → OutsOk K H H' ((p, d0) :: ps) (d :: ds)
def outL : List (Addr × D) → List D → List (Addr × D)
  | (p, _) :: ls, d :: ds => (p, d) :: outL ls ds
  | _, _ => []
structure KeepL (ls : List (Addr × D)) (H H' : Hp) : Prop where
  keep : ∀ b o, H b = some o → ¬ FootL H ls b → (∀ ps, o ≠ .tbl ps) → H' b = some o
  alive : ∀ b, H' b = none → H b = none
  tabs : ∀ P q, (P, q) ∈ LamT.ts → TabS H P q → TabS H' P q
def RetOk (K : PySem.W.Frag) (H H' : Hp) (os : List (Addr × D)) (ro : Bool) (v : V) (d : D) : Prop :=
  if ro = true then ∃ p, v = .ref p ∧ Own K H' p d ∧ (∀ b, Foot H' p d b → H b = none) ∧ (∀ b, Foot H' p d b → ¬ FootL H' os b) else Rz K H' v d
def spFn (K : PySem.W.Frag) (F : FnT) : Sp := fun vs H Q _ => ∃ ds d outs, ArgsOk K H F.mask vs ds ∧ Apart H (lent F.mask vs ds) ∧ TabsK K H ∧ F.den ds = some (d, outs) ∧
  ∀ v H', KeepL (lent F.mask vs ds) H H' → OutsOk K H H' (lent F.mask vs ds) outs → Apart H' (outL (lent F.mask vs ds) outs) → RetOk K H H' (outL (lent F.mask vs ds) outs) F.ro v d → Q v H'
theorem ArgsOk.length {K : PySem.W.Frag} {H : Hp} : ∀ {m : List Bool} {vs : List V} {ds : List D}, ArgsOk K H m vs ds → vs.length = m.length
  | _, _, _, .nil => rfl
  | _, _, _, .v _ r => congrArg Nat.succ r.length
  | _, _, _, .o _ r => congrArg Nat.succ r.length
theorem lent_f {m : List Bool} {v : V} {vs : List V} {d : D} {ds : List D} : lent (false :: m) (v :: vs) (d :: ds) = lent m vs ds := by cases v <;> rfl
theorem Apart.nil {H : Hp} : Apart H [] := ⟨List.nodup_nil, fun _ h => nomatch h⟩

def BindsF (K : PySem.W.Frag) (fd : FuncData) (ps : List Str) (F : FnT) : Prop :=
  ∃ (dvs : List V) (dus : List Value), (∀ H, RzAll K H dvs F.dfl) ∧ Vals dvs dus ∧
    ∀ (s : Shared) (us ws bs : List Value), K.In s.heap → us.length = F.np → ws.length = F.ks.length → pick (us ++ ws ++ dus) F.pm = some bs → bs.length = ps.length → BindsTo s fd ⟨us, F.ks.zip ws⟩ (ps.zip bs)
/-- a def keeps its promise wherever no guard against endless showing stands on the stack (what shows a container leans on that) -/
structure OkG (P : Program) (w : World) (K : PySem.W.Frag) (mg : Str → Option Value) (base : Heap) (k : Nat) (f : Addr) (fd : FuncData) (ps : List Str) (sp : Sp) : Prop where
  many : ∀ {vs : List V} {H : Hp} {Q : VK} {E : XK}, sp vs H Q E → vs.length = ps.length
  go : ∀ {A : Around} {outer : List Env} {s : Shared} {H : Hp} {args : Args} {us : List Value} {vs : List V} {Q : VK} {E : XK}, A.guards = some [] → Room k A → Env0 P w K mg base A outer s H → BindsTo s fd args (ps.zip us) → Vals vs us → sp vs H Q E →
    codeAny (model P w) A (.call (.ref f) args) (CR CX0 outer P w H s Q E) s
theorem OkG.mono {P : Program} {w : World} {K : PySem.W.Frag} {mg : Str → Option Value} {base : Heap} {j k : Nat} {f : Addr} {fd : FuncData} {ps : List Str} {sp : Sp} (o : OkG P w K mg base j f fd ps sp) (h : j ≤ k) : OkG P w K mg base k f fd ps sp :=
  ⟨o.many, fun g r => o.go g (r.mono h)⟩
/-- a class that is called -/
structure ClsG (P : Program) (w : World) (K : PySem.W.Frag) (mg : Str → Option Value) (base : Heap) (k : Nat) (x : Str) (F : FnT) : Prop where
  ex : ∃ (C : Addr) (dvs : List V), mg x = some (.ref C) ∧ PySem.W.keepIn K (.ref C) = true ∧ (∀ H, RzAll K H dvs F.dfl) ∧
    ∀ X : Cx, X.prog = P → X.w = w → X.K = K → X.mg = mg → X.base = base → Room k X.A → X.A.guards = some [] →
      ∀ {pins : List (Addr × Obj)} {σ : St} {H : Hp} {s : Shared} {Q : VK} {us ws : List Value} {vs zs cs : List V}, L2.Inv X pins σ H s → Vals vs us → Vals zs ws → vs.length = F.np → zs.length = F.ks.length → pick (vs ++ zs ++ dvs) F.pm = some cs →
        spFn K F cs H Q (fun _ _ _ => False) → wpAny (model X.prog X.w) X.A (call (.ref C) us (F.ks.zip ws)) (EP X pins σ Q) X.xe s
theorem ClsG.mono {P : Program} {w : World} {K : PySem.W.Frag} {mg : Str → Option Value} {base : Heap} {j k : Nat} {x : Str} {F : FnT} (g : ClsG P w K mg base j x F) (h : j ≤ k) : ClsG P w K mg base k x F := by
  obtain ⟨C, dvs, a, b, c, go⟩ := g.ex
  exact ⟨C, dvs, a, b, c, fun X h1 h2 h3 h4 h5 r q => go X h1 h2 h3 h4 h5 (r.mono h) q⟩
structure FnRun (X : Cx) (x : Str) (F : FnT) (d : Nat := 0) : Prop where
  ex : (∃ (f : Addr) (fd : FuncData) (ps : List Str) (k : Nat), X.mg x = some (.ref f) ∧ PySem.W.keepIn X.K (.ref f) = true ∧ OkG X.prog X.w X.K X.mg X.base k f fd ps (spFn X.K F) ∧ Room (k + d) X.A ∧ BindsF X.K fd ps F) ∨ ∃ k, ClsG X.prog X.w X.K X.mg X.base k x F ∧ Room (k + d) X.A
/-- a method of the class -/
structure MthRun (X : Cx) (cls m : Str) (F : FnT) (d : Nat := 0) : Prop where
  ex : ∃ (g : Addr) (fd : FuncData) (ps : List Str) (k : Nat), (∀ C, ClsN X.K C cls → PlC X.K C ∧ Meth X.K C m g) ∧ OkG X.prog X.w X.K X.mg X.base k g fd ps (spFn X.K F) ∧ Room (k + d) X.A ∧ BindsF X.K fd ps F
/-- a def that is handed on as a value -/
structure DefRun (X : Cx) (x : Str) (F : FnT) (d : Nat) : Prop where
  ex : ∃ (f : Addr) (fd : FuncData) (ps : List Str) (k : Nat), X.mg x = some (.ref f) ∧ PySem.W.keepIn X.K (.ref f) = true ∧ OkG X.prog X.w X.K X.mg X.base k f fd ps (spFn X.K F) ∧ Room (k + d) X.A ∧ BindsF X.K fd ps F
/-- all that was tracked is there as it was -/
structure KeepA (H H' : Hp) : Prop where
  stay : ∀ b o, H b = some o → (∀ ps, o ≠ .tbl ps) → H' b = some o
  alive : ∀ b, H' b = none → H b = none
  tabs : ∀ P q, (P, q) ∈ LamT.ts → TabS H P q → TabS H' P q
/-- a function at a that is handed on as a value: what it tells is g; h0 stood when it was handed on -/
structure FvOk (P : Program) (w : World) (K : PySem.W.Frag) (mg : Str → Option Value) (base : Heap) (a : Addr) (g : D → Option D) (h0 : Hp) (RA : Around → Prop) : Prop where
  kp : PySem.W.FnAt a base ∨ PySem.W.keepIn K (.ref a) = true
  run : ∀ {A : Around} {outer : List Env} {s : Shared} {H : Hp} {v : V} {u : Value} {d z : D}, A.guards = some [] → RA A → Env0 P w K mg base A outer s H → Per h0 H → TabsK K H → RelV v u → Rz K H v d → g d = some z →
    codeAny (model P w) A (.call (.ref a) ⟨[u], []⟩) (CR CX0 outer P w H s (fun w' H' => KeepA H H' ∧ Rz K H' w' z) (fun _ _ _ => False)) s
/-- a def that is handed data and a function -/
structure HoOk (P : Program) (w : World) (K : PySem.W.Frag) (mg : Str → Option Value) (base : Heap) (k : Nat) (f : Addr) (den : (D → Option D) → D → Option D) : Prop where
  go : ∀ {a : Addr} {g : D → Option D} {h0 : Hp} {RA : Around → Prop} {A : Around} {outer : List Env} {s : Shared} {H : Hp} {v : V} {u : Value} {d z : D} {Q : VK}, A.guards = some [] → Room k A → (∀ e, RA (A.deeper e)) → Env0 P w K mg base A outer s H → FvOk P w K mg base a g h0 RA → Per h0 H → TabsK K H → RelV v u → Rz K H v d → den g d = some z →
    (∀ w' H', KeepA H H' → Rz K H' w' z → Q w' H') → codeAny (model P w) A (.call (.ref f) ⟨[u, .ref a], []⟩) (CR CX0 outer P w H s Q (fun _ _ _ => False)) s
structure HoRun (X : Cx) (x : Str) (den : (D → Option D) → D → Option D) (d : Nat) : Prop where
  ex : ∃ (f : Addr) (k : Nat), X.mg x = some (.ref f) ∧ PySem.W.keepIn X.K (.ref f) = true ∧ Room (k + d) X.A ∧ ∀ base' : Heap, (∀ b o, X.base.get? b = some o → base'.get? b = some o) → HoOk X.prog X.w X.K X.mg base' k f den
/-- lambdas may be made here: the code object's table is kept -/
structure LamHere (X : Cx) : Prop where
  ex : ∃ c P, X.env.code = .ref c ∧ (P, X.env.qual ++ "<lambda>") ∈ LamT.ts ∧ (∀ t ∈ LamT.ts, t.1 = P → t.2 = X.env.qual ++ "<lambda>") ∧ TabB X.base X.mg c P
/-- a name that holds a class -/
def NameV (mg : Str → Option Value) (x : Str) (v : V) (u : Value) : Prop := (mg x = some u ∧ RelV v u ∧ ∀ z, RelV v z → z = u) ∨ ∃ T : String, mg x = none ∧ bootBuiltins x = some (.type T) ∧ v = .ty T ∧ u = .type T ∧ x ≠ "__name__"
/-- what of the world around a body the language leans on -/
structure Gd (X : Cx) (T : CT) (bl : List Str) : Prop where
  hN : X.N = T.N
  nd : T.N.Nodup
  calm : X.calm = true
  units : X.A.units + 64 < cLine
  quiet : X.A.guards = some []
  blt : ∀ x ∈ bl, X.mg x = none
  con : ∀ (g : Nat) (x : Str) (d : D), T.cons[g]? = some (x, d) → ∃ u v, X.mg x = some u ∧ RelV v u ∧ ∀ H, Rz X.K H v d
  fn : ∀ (f : Nat) (x : Str) (F : FnT), T.fns[f]? = some (x, F) → FnRun X x F
  fld : ∀ p ∈ T.flds, ∀ C, ClsN X.K C p.1 → PySem.W.findIn X.K (.ref C) p.2 = some none
  isc : ∀ p ∈ T.isc, ∃ v u, NameV X.mg p.1.2 v u ∧ ∀ C, ClsN X.K C p.1.1 → PySem.W.kitOne X.K (.ref C) u = some p.2
  mth : ∀ (f : Nat) (m : Str) (al : List (Str × FnT)), T.mts[f]? = some (m, al) → ∀ cls F, al.lookup cls = some F → MthRun X cls m F
  lam : ("<lam>" : Str) ∈ bl → LamHere X
  deep : ("<deep>" : Str) ∈ bl → Room 8 X.A ∧ (∀ (f : Nat) (x : Str) (F : FnT), T.fns[f]? = some (x, F) → FnRun X x F 8) ∧ ∀ (f : Nat) (m : Str) (al : List (Str × FnT)), T.mts[f]? = some (m, al) → ∀ cls F, al.lookup cls = some F → MthRun X cls m F 8
  pld : ("<deep>" : Str) ∈ bl → ∀ f ∈ T.pls, ∀ (x : Str) (F : FnT), T.fns[f]? = some (x, F) → DefRun X x F 8
  ho : ∀ (h : Nat) (x : Str) (den : (D → Option D) → D → Option D), T.ho[h]? = some (x, den) → ("<deep>" : Str) ∈ bl → HoRun X x den 8
  fv : ∀ g, T.fv = some g → ∃ RA : Around → Prop, FvOk X.prog X.w X.K X.mg X.base LamT.fa g LamT.h0 RA ∧ RA X.A
  nfv : ("<deep>" : Str) ∈ bl → T.fv = none
  here : ("<here>" : Str) ∈ bl → ∀ x, X.fn x = true

section
variable {K : PySem.W.Frag} {H H' : Hp} {σ : St} {ρ : Ev}
theorem pick_rel : ∀ {pm : List Nat} {vs : List V} {as bs : List Arg}, ArgRel K H σ vs as → pick as pm = some bs → ∃ ws, pick vs pm = some ws ∧ ArgRel K H σ ws bs
  | [], vs, as, bs, r, e => by cases e; exact ⟨[], rfl, .nil⟩
  | i :: pm, vs, as, bs, r, e => by
    unfold pick at e
    obtain ⟨a, e1, e2⟩ := Option.bind_eq_some_iff.mp e
    obtain ⟨bs', e3, e4⟩ := Option.map_eq_some_iff.mp e2
    cases e4
    obtain ⟨ws, h1, h2⟩ := pick_rel r e3
    have one : ∃ w, vs[i]? = some w ∧ ArgRel K H σ [w] [a] := by
      clear e e2 e3 h1 h2
      induction r generalizing i with
      | nil => simp at e1
      | v z r ih =>
        cases i with
        | zero => simp at e1; subst e1; exact ⟨_, rfl, .v z .nil⟩
        | succ i => simpa using @ih i (by simpa using e1)
      | o z r ih =>
        cases i with
        | zero => simp at e1; subst e1; exact ⟨_, rfl, .o z .nil⟩
        | succ i => simpa using @ih i (by simpa using e1)
      | l z r ih =>
        cases i with
        | zero => simp at e1; subst e1; exact ⟨_, rfl, .l z .nil⟩
        | succ i => simpa using @ih i (by simpa using e1)
    obtain ⟨w, h3, h4⟩ := one
    refine ⟨w :: ws, by unfold pick; rw [h3, h1]; rfl, ?_⟩
    cases h4 with
    | v z _ => exact .v z h2
    | o z _ => exact .o z h2
    | l z _ => exact .l z h2
theorem pick_map {α β : Type} (f : α → β) : ∀ {pm : List Nat} {xs ys : List α}, pick xs pm = some ys → pick (xs.map f) pm = some (ys.map f)
  | [], xs, ys, e => by cases e; rfl
  | i :: pm, xs, ys, e => by
    unfold pick at e
    obtain ⟨a, e1, e2⟩ := Option.bind_eq_some_iff.mp e
    obtain ⟨bs', e3, e4⟩ := Option.map_eq_some_iff.mp e2
    cases e4
    unfold pick
    rw [List.getElem?_map, e1, pick_map f e3]
    rfl
theorem pick_vals : ∀ {pm : List Nat} {vs ws : List V} {us : List Value}, Vals vs us → pick vs pm = some ws → ∃ bs, pick us pm = some bs ∧ Vals ws bs
  | [], vs, ws, us, r, e => by cases e; exact ⟨[], rfl, .nil⟩
  | i :: pm, vs, ws, us, r, e => by
    unfold pick at e
    obtain ⟨a, e1, e2⟩ := Option.bind_eq_some_iff.mp e
    obtain ⟨bs', e3, e4⟩ := Option.map_eq_some_iff.mp e2
    cases e4
    obtain ⟨cs, h1, h2⟩ := pick_vals r e3
    obtain ⟨u, h3, h4⟩ := r.get e1
    exact ⟨u :: cs, by unfold pick; rw [h3, h1]; rfl, .cons h4 h2⟩

/-- the slots that are lent stand at unlike addresses -/
theorem args_ok (R : Rel K H σ ρ) : ∀ {m : List Bool} {vs : List V} {as : List Arg} {ds : List D} {seen : List Nat}, ArgRel K H σ vs as → fits m as seen = true → resolve ρ as = some ds →
    ArgsOk K H m vs ds ∧ Apart H (lent m vs ds) ∧ (∀ q ∈ lent m vs ds, ∃ (i : Nat), i ∉ seen ∧ Arg.o i ∈ as ∧ ρ[i]? = some (.ow q.2) ∧ σ[i]? = some (some (.ref q.1)))
  | [], _, [], _, _, .nil, _, e => by cases e; exact ⟨.nil, Apart.nil, fun p hp => by cases hp⟩
  | [], _, _ :: _, _, _, _, h, _ => by simp [fits] at h
  | false :: m, _, .v d :: as, _, seen, .v (v := v) z r, h, e => by
    unfold resolve at e
    obtain ⟨d', e1, e2⟩ := Option.bind_eq_some_iff.mp e
    obtain ⟨ds, e3, e4⟩ := Option.map_eq_some_iff.mp e2
    cases e4
    cases e1
    obtain ⟨a, b, c⟩ := args_ok R r (by simpa [fits] using h) e3
    rw [lent_f]
    exact ⟨.v z a, b, fun q hq => by
      obtain ⟨i, n, h1, h2⟩ := c q hq
      exact ⟨i, n, List.mem_cons_of_mem _ h1, h2⟩⟩
  | true :: m, _, .o i :: as, _, seen, .o (v := v) z r, h, e => by
    unfold resolve at e
    obtain ⟨d', e1, e2⟩ := Option.bind_eq_some_iff.mp e
    obtain ⟨ds, e3, e4⟩ := Option.map_eq_some_iff.mp e2
    cases e4
    simp only [fits, Bool.and_eq_true, Bool.not_eq_true'] at h
    unfold resolve1 at e1
    simp only at e1
    split at e1
    · rename_i d hd
      cases e1
      obtain ⟨p, hp, o⟩ := R.ow _ _ hd
      rw [z] at hp
      cases hp
      obtain ⟨a, b, c⟩ := args_ok R r h.2 e3
      have dis : ∀ q ∈ lent m _ ds, ∀ x, Foot H p d' x → Foot H q.1 q.2 x → False := fun q hq x f1 f2 => by
        obtain ⟨j, n, _, h1, h2⟩ := c q hq
        exact R.ne i j _ _ p q.1 x (fun e => n (by rw [e]; exact List.mem_cons_self)) hd h1 z h2 f1 f2
      refine ⟨.o o a, ⟨?_, ?_⟩, ?_⟩
      · show (p :: (lent m _ ds).map (·.1)).Nodup
        refine List.nodup_cons.mpr ⟨fun hm => ?_, b.1⟩
        obtain ⟨q, hq, e⟩ := List.mem_map.mp hm
        exact dis q hq p (Foot.self ..) (by rw [← e]; exact Foot.self ..)
      · intro a' ha c' hc hne x f1 f2
        rcases List.mem_cons.mp (show a' ∈ (p, d') :: lent m _ ds from ha) with e | ha
        · subst e
          rcases List.mem_cons.mp (show c' ∈ (p, d') :: lent m _ ds from hc) with e | hc
          · subst e; exact hne rfl
          · exact dis c' hc x f1 f2
        · rcases List.mem_cons.mp (show c' ∈ (p, d') :: lent m _ ds from hc) with e | hc
          · subst e; exact dis a' ha x f2 f1
          · exact b.2 a' ha c' hc hne x f1 f2
      · intro q hq
        rcases List.mem_cons.mp (show q ∈ (p, d') :: lent m _ ds from hq) with e | hq
        · subst e
          exact ⟨i, fun hm => by simp [hm] at h, List.mem_cons_self, hd, z⟩
        · obtain ⟨j, n, h0, h1, h2⟩ := c q hq
          exact ⟨j, fun hm => n (List.mem_cons_of_mem _ hm), List.mem_cons_of_mem _ h0, h1, h2⟩
    · cases e1
  | false :: _, _, .o _ :: _, _, _, _, h, _ => by simp [fits] at h
  | false :: _, _, .l _ :: _, _, _, _, h, _ => by simp [fits] at h
  | true :: _, _, .l _ :: _, _, _, _, h, _ => by simp [fits] at h
  | true :: _, _, .v _ :: _, _, _, _, h, _ => by simp [fits] at h
  | _ :: _, _, [], _, _, _, h, _ => by simp [fits] at h
theorem sk_set {i : Nat} {d e : D} (h : ρ[i]? = some (.ow d)) : Sk ρ (ρ.set i (.ow e)) := by
  unfold Sk
  rw [List.map_set]
  apply List.ext_getElem?
  intro j
  by_cases hj : i = j
  · subst hj
    have hl := (List.getElem?_eq_some_iff.mp h).1
    rw [List.getElem?_set_self (by simpa using hl), List.getElem?_map, h]
    rfl
  · rw [List.getElem?_set_ne hj]
/-- one owned thing has changed, and all else that belongs to others stays -/
theorem Rel.own_set {i : Nat} {d : D} {p : Addr} (R : Rel K H σ ρ) (h : ρ[i]? = some (.ow d)) (hp : σ[i]? = some (some (.ref p))) {e : D} (o : Own K H' p e) (f : ∀ b, Foot H' p e b → Foot H p d b ∨ ¬ Owned H σ ρ b) (k : ∀ b u, H b = some u → ¬ Foot H p d b → H' b = some u) :
    Rel K H' σ (ρ.set i (.ow e)) := by
  have per : Per H H' := by
    obtain ⟨q, hq, ow⟩ := R.ow i d h
    rw [hp] at hq; cases hq
    refine ⟨fun b xs hb => k b _ hb fun z => ?_, fun b o' w hb => k b _ hb fun z => ?_, fun b xs hb => k b _ hb fun z => ?_⟩
    · obtain ⟨u, hu, c⟩ := ow.feet z
      rw [hu] at hb; cases hb; cases c
    · obtain ⟨u, hu, c⟩ := ow.feet z
      rw [hu] at hb; cases hb; cases c
    · obtain ⟨u, hu, c⟩ := ow.feet z
      rw [hu] at hb; cases hb; cases c
  have hl := (List.getElem?_eq_some_iff.mp h).1
  -- another slot's things
  have oth : ∀ {j : Nat} {c : D}, i ≠ j → ρ[j]? = some (.ow c) → ∃ q, σ[j]? = some (some (.ref q)) ∧ Own K H q c ∧ Own K H' q c ∧ ∀ b, (Foot H' q c b ↔ Foot H q c b) := fun {j c} hij hj => by
    obtain ⟨q, a, z⟩ := R.ow j c hj
    have st : ∀ b, Foot H q c b → H' b = H b := fun b fb => by
      obtain ⟨u, hu, _⟩ := z.feet fb
      exact (k b u hu fun z => R.ne i j d c p q b hij h hj hp a z fb).trans hu.symm
    exact ⟨q, a, z, z.keep st per, fun b => Foot.iff (st q (Foot.self ..))⟩
  have tabs : TabsK K H' := fun t ht => tabs_of (fun b u hb cu => k b u hb fun fb => by
    obtain ⟨q, hq, ow⟩ := R.ow i d h
    rw [hp] at hq; cases hq
    obtain ⟨u', hu', cu'⟩ := ow.feet fb
    rw [hb] at hu'; cases hu'; rw [cu] at cu'; cases cu') _ _ (R.tb t ht)
  refine ⟨fun j f hj => ?_, fun j f hj => ?_, fun j l c c' q q' b hjl h1 h2 h3 h4 f1 f2 => ?_, (sk_set h).len.trans R.len, tabs, fun j hj => by
    by_cases c : i = j
    · subst c
      rw [List.getElem?_set_self hl] at hj; cases hj
    · rw [List.getElem?_set_ne c] at hj
      exact ⟨(R.fv j hj).1, (R.fv j hj).2.trans per⟩⟩
  · by_cases c : i = j
    · subst c
      rw [List.getElem?_set_self hl] at hj
      cases hj
    · rw [List.getElem?_set_ne c] at hj
      obtain ⟨v, a, z⟩ := R.da j f hj
      exact ⟨v, a, z.per per⟩
  · by_cases c : i = j
    · subst c
      rw [List.getElem?_set_self hl] at hj
      cases hj
      exact ⟨p, hp, o⟩
    · rw [List.getElem?_set_ne c] at hj
      obtain ⟨q, a, _, z, _⟩ := oth c hj
      exact ⟨q, a, z⟩
  · have one : ∀ {l : Nat} {c' : D} {q' b : Addr}, i ≠ l → ρ[l]? = some (.ow c') → σ[l]? = some (some (.ref q')) → Foot H' p e b → Foot H' q' c' b → False := fun {l c' q' b} hil hl' h4 f1 f2 => by
      obtain ⟨q, a, z, _, ff⟩ := oth hil hl'
      rw [h4] at a; cases a
      have f2 := (ff b).mp f2
      rcases f b f1 with f1 | f1
      · exact R.ne i l d c' p q' b hil h hl' hp h4 f1 f2
      · exact f1 ⟨l, c', q', hl', h4, f2⟩
    by_cases c1 : i = j
    · subst c1
      rw [List.getElem?_set_self hl] at h1; cases h1
      rw [List.getElem?_set_ne hjl] at h2
      rw [hp] at h3; cases h3
      exact one hjl h2 h4 f1 f2
    · rw [List.getElem?_set_ne c1] at h1
      by_cases c2 : i = l
      · subst c2
        rw [List.getElem?_set_self hl] at h2; cases h2
        rw [hp] at h4; cases h4
        exact one c1 h1 h3 f2 f1
      · rw [List.getElem?_set_ne c2] at h2
        obtain ⟨q1, a1, _, _, g1⟩ := oth c1 h1
        obtain ⟨q2, a2, _, _, g2⟩ := oth c2 h2
        rw [h3] at a1; cases a1
        rw [h4] at a2; cases a2
        exact R.ne j l c c' _ _ b hjl h1 h2 h3 h4 ((g1 b).mp f1) ((g2 b).mp f2)
/-- what was lent comes back -/
theorem give_spec {ρ0 : Ev} {H0 H1 : Hp} (R : Rel K H0 σ ρ0) : ∀ {m : List Bool} {vs : List V} {as : List Arg} {seen : List Nat} {ds outs : List D} {ρ ρ' : Ev}, Sk ρ0 ρ → ArgRel K H1 σ vs as → fits m as seen = true → resolve ρ0 as = some ds →
    giveBack as outs ρ = some ρ' → OutsOk K H H' (lent m vs ds) outs →
    Sk ρ0 ρ' ∧ (∀ (j : Nat) (d : D), ρ'[j]? = some (Slot.da d) → ρ[j]? = some (Slot.da d)) ∧
    ∀ (j : Nat) (e : D), ρ'[j]? = some (Slot.ow e) → (∃ (p : Addr) (d0 : D), σ[j]? = some (some (V.ref p)) ∧ ρ0[j]? = some (Slot.ow d0) ∧ (p, e) ∈ outL (lent m vs ds) outs ∧ Own K H' p e ∧ ∀ b, Foot H' p e b → Foot H p d0 b ∨ H b = none) ∨ (ρ[j]? = some (Slot.ow e) ∧ Arg.o j ∉ as)
  | [], _, [], _, _, [], ρ, ρ', s, .nil, _, _, e, _ => by
    cases e
    exact ⟨s, fun _ _ h => h, fun j e h => .inr ⟨h, by simp⟩⟩
  | [], _, [], _, _, _ :: _, _, _, _, .nil, _, _, e, _ => by simp [giveBack] at e
  | [], _, _ :: _, _, _, _, _, _, _, _, h, _, _, _ => by simp [fits] at h
  | false :: m, _, .v d :: as, seen, _, outs, ρ, ρ', s, .v (v := v) z r, h, w, e, o => by
    unfold resolve at w
    obtain ⟨d', e1, e2⟩ := Option.bind_eq_some_iff.mp w
    obtain ⟨ds, e3, e4⟩ := Option.map_eq_some_iff.mp e2
    cases e4
    rw [lent_f] at o ⊢
    obtain ⟨a, b, c⟩ := give_spec R s r (by simpa [fits] using h) e3 (by simpa [giveBack] using e) o
    refine ⟨a, b, fun j f hj => ?_⟩
    rcases c j f hj with c | ⟨c, n⟩
    · exact .inl c
    · exact .inr ⟨c, fun hm => n ((List.mem_cons.mp hm).resolve_left fun e => by cases e)⟩
  | true :: m, _, .o i :: as, seen, _, d :: outs, ρ, ρ', s, .o (v := v) z r, h, w, e, o => by
    unfold resolve at w
    obtain ⟨d0, e1, e2⟩ := Option.bind_eq_some_iff.mp w
    obtain ⟨ds, e3, e4⟩ := Option.map_eq_some_iff.mp e2
    cases e4
    simp only [fits, Bool.and_eq_true] at h
    unfold resolve1 at e1
    simp only at e1
    split at e1
    · rename_i d0' hd0
      cases e1
      obtain ⟨p, hp, _⟩ := R.ow i d0 hd0
      rw [z] at hp; cases hp
      have o' : OutsOk K H H' ((p, d0) :: lent m _ ds) (d :: outs) := o
      cases o' with
      | cons op fp o =>
        obtain ⟨d1, hd1⟩ := s.symm.ow hd0
        have s1 : Sk ρ0 (ρ.set i (.ow d)) := s.trans (sk_set hd1)
        have hl := (List.getElem?_eq_some_iff.mp hd1).1
        obtain ⟨a, b, c⟩ := give_spec R s1 r h.2 e3 (by simpa [giveBack] using e) o
        refine ⟨a, fun j f hj => ?_, fun j f hj => ?_⟩
        · have q := b j f hj
          by_cases hij : i = j
          · subst hij
            rw [List.getElem?_set_self hl] at q; cases q
          · rwa [List.getElem?_set_ne hij] at q
        · rcases c j f hj with ⟨p', d', c1, c2, c3, c4⟩ | ⟨c, n⟩
          · exact .inl ⟨p', d', c1, c2, List.mem_cons_of_mem _ c3, c4⟩
          · by_cases hij : i = j
            · subst hij
              rw [List.getElem?_set_self hl] at c; cases c
              exact .inl ⟨p, d0, z, hd0, List.mem_cons_self, op, fp⟩
            · rw [List.getElem?_set_ne hij] at c
              exact .inr ⟨c, fun hm => n ((List.mem_cons.mp hm).resolve_left fun e => by cases e; exact hij rfl)⟩
    · cases e1
  | true :: m, _, .o i :: as, seen, _, [], ρ, ρ', _, _, h, _, e, o => by simp [giveBack] at e
  | false :: _, _, .o _ :: _, _, _, _, _, _, _, _, h, _, _, _ => by simp [fits] at h
  | false :: _, _, .l _ :: _, _, _, _, _, _, _, _, h, _, _, _ => by simp [fits] at h
  | true :: _, _, .l _ :: _, _, _, _, _, _, _, _, h, _, _, _ => by simp [fits] at h
  | true :: _, _, .v _ :: _, _, _, _, _, _, _, _, h, _, _, _ => by simp [fits] at h
  | _ :: _, _, [], _, _, _, _, _, _, _, h, _, _, _ => by simp [fits] at h
theorem ArgRel.append : ∀ {vs ws : List V} {as bs : List Arg}, ArgRel K H σ vs as → ArgRel K H σ ws bs → ArgRel K H σ (vs ++ ws) (as ++ bs)
  | _, _, _, _, .nil, s => s
  | _, _, _, _, .v z r, s => .v z (ArgRel.append r s)
  | _, _, _, _, .o z r, s => .o z (ArgRel.append r s)
  | _, _, _, _, .l z r, s => .l z (ArgRel.append r s)
theorem RzAll.arg : ∀ {vs : List V} {ds : List D}, RzAll K H vs ds → ArgRel K H σ vs (ds.map Arg.v)
  | _, _, .nil => .nil
  | _, _, .cons z r => .v z (RzAll.arg r)
/-- from a call's end to the caller's slots -/
theorem after_call (R : Rel K H σ ρ) {m : List Bool} {vs : List V} {as : List Arg} {ds outs : List D} {ρ' : Ev} (ar : ArgRel K H σ vs as) (hf : fits m as [] = true) (e3 : resolve ρ as = some ds) (e7 : giveBack as outs ρ = some ρ')
    (k : KeepL (lent m vs ds) H H') (o : OutsOk K H H' (lent m vs ds) outs) (ap : Apart H' (outL (lent m vs ds) outs)) :
    Keep σ ρ H ρ' H' ∧ Sk ρ ρ' ∧ Rel K H' σ ρ' ∧ ∀ i b, OwnedAt H' σ ρ' i b → FootL H' (outL (lent m vs ds) outs) b ∨ OwnedAt H σ ρ i b := by
  obtain ⟨_, _, at_⟩ := args_ok R ar hf e3
  obtain ⟨s1, g1, g2⟩ := give_spec R (Sk.refl ρ) ar hf e3 e7 o
  have nf : ∀ {j : Nat} {c : D} {q b : Addr}, Arg.o j ∉ as → ρ[j]? = some (.ow c) → σ[j]? = some (some (.ref q)) → Foot H q c b → ¬ FootL H (lent m vs ds) b := fun {j c q b} hj h1 h2 f ⟨x, hx, fx⟩ => by
    obtain ⟨i, _, hm, h3, h4⟩ := at_ x hx
    exact R.ne i j _ _ _ _ b (fun e => hj (e ▸ hm)) h3 h1 h4 h2 fx f
  have nt : ∀ {u : HO}, canFz u = true → ∀ ps, u ≠ .tbl ps := fun c ps e => by subst e; cases c
  have per : Per H H' := by
    refine ⟨fun b xs h => k.keep b _ h (fun ⟨x, hx, fx⟩ => ?_) (fun _ e => by cases e), fun b o u h => k.keep b _ h (fun ⟨x, hx, fx⟩ => ?_) (fun _ e => by cases e), fun b xs h => k.keep b _ h (fun ⟨x, hx, fx⟩ => ?_) (fun _ e => by cases e)⟩
    · obtain ⟨i, _, _, h3, h4⟩ := at_ x hx
      obtain ⟨p, hp, ow⟩ := R.ow i _ h3
      rw [h4] at hp; cases hp
      obtain ⟨u, hu, c⟩ := ow.feet fx
      rw [h] at hu; cases hu; cases c
    · obtain ⟨i, _, _, h3, h4⟩ := at_ x hx
      obtain ⟨p, hp, ow⟩ := R.ow i _ h3
      rw [h4] at hp; cases hp
      obtain ⟨u, hu, c⟩ := ow.feet fx
      rw [h] at hu; cases hu; cases c
    · obtain ⟨i, _, _, h3, h4⟩ := at_ x hx
      obtain ⟨p, hp, ow⟩ := R.ow i _ h3
      rw [h4] at hp; cases hp
      obtain ⟨u, hu, c⟩ := ow.feet fx
      rw [h] at hu; cases hu; cases c
  -- a slot that is not lent
  have oth : ∀ {j : Nat} {c : D}, Arg.o j ∉ as → ρ[j]? = some (.ow c) → ∃ q, σ[j]? = some (some (.ref q)) ∧ Own K H q c ∧ Own K H' q c ∧ ∀ b, (Foot H' q c b ↔ Foot H q c b) := fun {j c} hj h1 => by
    obtain ⟨q, a, z⟩ := R.ow j c h1
    have st : ∀ b, Foot H q c b → H' b = H b := fun b fb => by
      obtain ⟨u, hu, cu⟩ := z.feet fb
      exact (k.keep b u hu (nf hj h1 a fb) (nt cu)).trans hu.symm
    exact ⟨q, a, z, z.keep st per, fun b => Foot.iff (st q (Foot.self ..))⟩
  refine ⟨⟨fun b u hb n t => k.keep b u hb (fun ⟨x, hx, fx⟩ => ?_) t, fun i b w => ?_, k.alive, k.tabs⟩, s1, ⟨fun i c hc => ?_, fun i c hc => ?_, fun i j c e p q b hij h1 h2 h3 h4 f1 f2 => ?_, s1.len.trans R.len, fun t ht => k.tabs _ _ ht (R.tb t ht), fun i h => ⟨(R.fv i (s1.fv h)).1, (R.fv i (s1.fv h)).2.trans per⟩⟩, fun i b w => ?_⟩
  · obtain ⟨i, _, _, h3, h4⟩ := at_ x hx
    exact n ⟨i, x.2, x.1, h3, h4, fx⟩
  · obtain ⟨d, p, h1, h2, f⟩ := w
    rcases g2 i d h1 with ⟨p', d0, c1, c2, _, _, c5⟩ | ⟨c1, c2⟩
    · rw [h2] at c1; cases c1
      rcases c5 b f with z | z
      · exact .inl ⟨d0, p, c2, h2, z⟩
      · exact .inr z
    · obtain ⟨q, a, _, _, ff⟩ := oth c2 c1
      rw [h2] at a; cases a
      exact .inl ⟨d, p, c1, h2, (ff b).mp f⟩
  · obtain ⟨v, a, z⟩ := R.da i c (g1 i c hc)
    exact ⟨v, a, z.per per⟩
  · rcases g2 i c hc with ⟨p', d0, c1, c2, _, c4, _⟩ | ⟨c1, c2⟩
    · exact ⟨p', c1, c4⟩
    · obtain ⟨q, a, _, z, _⟩ := oth c2 c1
      exact ⟨q, a, z⟩
  · have mix : ∀ {i j : Nat} {c e : D} {p q : Addr}, i ≠ j → (∃ d0, ρ[i]? = some (.ow d0) ∧ ∀ b, Foot H' p c b → Foot H p d0 b ∨ H b = none) → σ[i]? = some (some (.ref p)) → ρ[j]? = some (.ow e) → Arg.o j ∉ as → σ[j]? = some (some (.ref q)) → Foot H' p c b → Foot H' q e b → False := fun {i j c e p q} hij ⟨d0, x1, x2⟩ h3 h2 hn h4 f1 f2 => by
      obtain ⟨q', a, z, _, ff⟩ := oth hn h2
      rw [h4] at a; cases a
      have f2 := (ff b).mp f2
      rcases x2 b f1 with f1 | f1
      · exact R.ne i j _ _ _ _ b hij x1 h2 h3 h4 f1 f2
      · obtain ⟨u, hu, _⟩ := z.feet f2
        rw [f1] at hu; cases hu
    rcases g2 i c h1 with ⟨p', d0, c1, c2, c3, c4, c5⟩ | ⟨c1, c2⟩
    · rw [h3] at c1; cases c1
      rcases g2 j e h2 with ⟨q', e0, x1, x2, x3, x4, x5⟩ | ⟨x1, x2⟩
      · rw [h4] at x1; cases x1
        refine ap.2 _ c3 _ x3 (fun ee => ?_) b f1 f2
        have ee : p = q := ee
        subst ee
        exact R.ne i j _ _ p p p hij c2 x2 h3 h4 (Foot.self ..) (Foot.self ..)
      · exact mix hij ⟨d0, c2, c5⟩ h3 x1 x2 h4 f1 f2
    · rcases g2 j e h2 with ⟨q', e0, x1, x2, x3, x4, x5⟩ | ⟨x1, x2⟩
      · rw [h4] at x1; cases x1
        exact mix (fun z => hij z.symm) ⟨e0, x2, x5⟩ h4 c1 c2 h3 f2 f1
      · obtain ⟨q1, a1, _, _, g3⟩ := oth c2 c1
        obtain ⟨q2, a2, _, _, g4⟩ := oth x2 x1
        rw [h3] at a1; cases a1
        rw [h4] at a2; cases a2
        exact R.ne i j _ _ _ _ b hij c1 x1 h3 h4 ((g3 b).mp f1) ((g4 b).mp f2)
  · obtain ⟨d, p, h1, h2, f⟩ := w
    rcases g2 i d h1 with ⟨p', d0, c1, c2, c3, _, c5⟩ | ⟨c1, c2⟩
    · rw [h2] at c1; cases c1
      exact .inl ⟨_, c3, f⟩
    · obtain ⟨q, a, _, _, ff⟩ := oth c2 c1
      rw [h2] at a; cases a
      exact .inr ⟨d, p, c1, h2, (ff b).mp f⟩
end
/-- what a call hands back: by its reading, and what is new of it -/
def RetC (K : PySem.W.Frag) (H H' : Hp) (σ : St) (ρ' : Ev) (ro : Bool) (v : V) (d : D) : Prop :=
  if ro = true then ∃ p, v = .ref p ∧ Own K H' p d ∧ (∀ b, Foot H' p d b → H b = none) ∧ (∀ b, Foot H' p d b → ¬ Owned H' σ ρ' b) else Rz K H' v d
theorem ret_c {K : PySem.W.Frag} {H H' : Hp} {σ : St} {ρ ρ' : Ev} {os : List (Addr × D)} {ro : Bool} {v : V} {d : D} (R : Rel K H σ ρ) (w : ∀ i b, OwnedAt H' σ ρ' i b → FootL H' os b ∨ OwnedAt H σ ρ i b) (r : RetOk K H H' os ro v d) : RetC K H H' σ ρ' ro v d := by
  unfold RetOk at r
  unfold RetC
  split at r
  · rename_i h
    rw [if_pos h]
    obtain ⟨p, e, o, f1, f2⟩ := r
    refine ⟨p, e, o, f1, fun b fb ⟨i, z⟩ => ?_⟩
    rcases w i b z with z | z
    · exact f2 b fb z
    · obtain ⟨u, hu, _⟩ := R.mut ⟨i, z⟩
      rw [f1 b fb] at hu; cases hu
  · rename_i h
    rw [if_neg h]
    exact r
/-- what is called at g keeps the promise of F -/
def RunAt (X : Cx) (F : FnT) (g : Addr) : Prop := ∀ {pins : List (Addr × Obj)} {σ : St} {H : Hp} {s : Shared} {Q : VK} {us ws : List Value} {vs zs : List V} {ρ ρ' : Ev} {as : List Arg} {d : D}, L2.Inv X pins σ H s → Vals vs us → Vals zs ws → vs.length = F.np → zs.length = F.ks.length →
  Rel X.K H σ ρ → ArgRel X.K H σ (vs ++ zs) as → callFn F as ρ = some (d, ρ') →
  (∀ v H', Keep σ ρ H ρ' H' → Sk ρ ρ' → Rel X.K H' σ ρ' → RetC X.K H H' σ ρ' F.ro v d → (F.mask.all (fun b => !b) = true → ∀ b o, H b = some o → (∀ ps, o ≠ .tbl ps) → H' b = some o) → Q v H') →
  wpAny (model X.prog X.w) X.A (call (.ref g) us (F.ks.zip ws)) (EP X pins σ Q) X.xe s
theorem lent_none : ∀ {m : List Bool} {vs : List V} {ds : List D}, m.all (fun b => !b) = true → lent m vs ds = []
  | [], _, _, _ => by cases ‹List V› <;> rfl
  | true :: _, _, _, h => by simp at h
  | false :: m, [], ds, h => by cases ds <;> rfl
  | false :: m, _ :: _, [], h => rfl
  | false :: m, v :: vs, d :: ds, h => by
    rw [lent_f]
    exact lent_none (by simpa using h)
theorem keepL_all {K : PySem.W.Frag} {H H' : Hp} {m : List Bool} {vs : List V} {ds : List D} (k : KeepL (lent m vs ds) H H') (h : m.all (fun b => !b) = true) : ∀ b o, H b = some o → (∀ ps, o ≠ .tbl ps) → H' b = some o := fun b o e t => by
  rw [lent_none h] at k
  exact k.keep b o e (fun ⟨_, hx, _⟩ => List.not_mem_nil hx) t
theorem run_ok {X : Cx} {F : FnT} {f : Addr} {fd : FuncData} {ps : List Str} {k : Nat} (ok : OkG X.prog X.w X.K X.mg X.base k f fd ps (spFn X.K F)) (room : Room k X.A) (bf : BindsF X.K fd ps F) (quiet : X.A.guards = some []) : RunAt X F f := by
  obtain ⟨dvs, dus, hd, rd, hb⟩ := bf
  intro pins σ H s Q us ws vs zs ρ ρ' as d I rv rz lv lz R ar e q
  unfold callFn at e
  obtain ⟨bs, e1, e2⟩ := Option.bind_eq_some_iff.mp e
  split at e2
  · rename_i hf
    obtain ⟨ds, e3, e4⟩ := Option.bind_eq_some_iff.mp e2
    obtain ⟨⟨d', outs⟩, e5, e6⟩ := Option.bind_eq_some_iff.mp e4
    obtain ⟨ρ1, e7, e8⟩ := Option.map_eq_some_iff.mp e6
    cases e8
    obtain ⟨cs, h1, h2⟩ := pick_rel (ar.append (RzAll.arg (hd H))) e1
    obtain ⟨vbs, h3, h4⟩ := pick_vals ((rv.append rz).append rd) h1
    obtain ⟨ao, nd, _⟩ := args_ok R h2 hf e3
    have sp : spFn X.K F cs H Q (fun _ _ _ => False) := ⟨ds, d, outs, ao, nd, R.tb, e5, fun v H' k o ap ro => by
      obtain ⟨k1, s1, R1, w⟩ := after_call R h2 hf e3 e7 k o ap
      exact q v H' k1 s1 R1 (ret_c R w ro) (keepL_all (K := X.K) k)⟩
    have hl : vbs.length = ps.length := by rw [← h4.length]; exact ok.many sp
    refine wpAny_call (codeAny_mono (ok.go quiet room I.env0 (hb s us ws vbs I.kIn (by rw [← rv.length]; exact lv) (by rw [← rz.length]; exact lz) h3 hl) h4 sp) fun r s' hq => ?_)
    cases r with
    | error e => exact hq.elim
    | ok fl =>
      cases fl with
      | ret u => exact I.after hq
      | next => exact False.elim hq
      | brk => exact False.elim hq
      | cont => exact False.elim hq
  · cases e2
/-- behind the call of a def -/
theorem fn_run {X : Cx} {x : Str} {F : FnT} (G : FnRun X x F) (quiet : X.A.guards = some []) : ∃ f : Addr, X.mg x = some (.ref f) ∧ PySem.W.keepIn X.K (.ref f) = true ∧ RunAt X F f := by
  rcases G.ex with ⟨f, fd, ps, k, hm, hk, ok, room, bf⟩ | ⟨k, ⟨C, dvs, hm, hk, hd, go⟩, room⟩
  · exact ⟨f, hm, hk, run_ok ok room bf quiet⟩
  · refine ⟨C, hm, hk, ?_⟩
    intro pins σ H s Q us ws vs zs ρ ρ' as d I rv rz lv lz R ar e q
    unfold callFn at e
    obtain ⟨bs, e1, e2⟩ := Option.bind_eq_some_iff.mp e
    split at e2
    · rename_i hf
      obtain ⟨ds, e3, e4⟩ := Option.bind_eq_some_iff.mp e2
      obtain ⟨⟨d', outs⟩, e5, e6⟩ := Option.bind_eq_some_iff.mp e4
      obtain ⟨ρ1, e7, e8⟩ := Option.map_eq_some_iff.mp e6
      cases e8
      obtain ⟨cs, h1, h2⟩ := pick_rel (ar.append (RzAll.arg (hd H))) e1
      obtain ⟨ao, nd, _⟩ := args_ok R h2 hf e3
      exact go X rfl rfl rfl rfl rfl room quiet I rv rz lv lz h1 ⟨ds, d, outs, ao, nd, R.tb, e5, fun v H' k o ap ro => by
        obtain ⟨k1, s1, R1, w⟩ := after_call R h2 hf e3 e7 k o ap
        exact q v H' k1 s1 R1 (ret_c R w ro) (keepL_all (K := X.K) k)⟩
    · cases e2
/-- a method of a class -/
theorem mth_run {X : Cx} {cls m : Str} {F : FnT} (G : MthRun X cls m F) (quiet : X.A.guards = some []) : ∃ g : Addr, (∀ C, ClsN X.K C cls → PlC X.K C ∧ Meth X.K C m g) ∧ RunAt X F g := by
  obtain ⟨g, fd, ps, k, hm, ok, room, bf⟩ := G.ex
  exact ⟨g, hm, run_ok ok room bf quiet⟩
/-! ### a thing lent to be looked at -/
theorem unl_rel {K : PySem.W.Frag} {H HL : Hp} {σ : St} {i : Nat} {p : Addr} {d : D} (k : Per H HL) (hp : σ[i]? = some (some (.ref p))) (z : Rz K HL (.ref p) d) : ∀ {vs : List V} {as : List Arg}, ArgRel K H σ vs as → ArgRel K HL σ vs (as.map (unl i d))
  | _, _, .nil => .nil
  | _, _, .v z' r => .v (z'.per k) (unl_rel k hp z r)
  | _, _, .o h r => .o h (unl_rel k hp z r)
  | _, _, .l (i := j) h r => by
    show ArgRel K HL σ _ ((if j = i then Arg.v d else .l j) :: _)
    split
    · rename_i e
      subst e
      rw [hp] at h; cases h
      exact .v z (unl_rel k hp z r)
    · exact .l h (unl_rel k hp z r)
theorem fits_vals : ∀ {m : List Bool} {as : List Arg} {seen : List Nat}, m.all (fun b => !b) = true → fits m as seen = true → ∀ os ρ ρ', giveBack as os ρ = some ρ' → ρ' = ρ
  | [], [], _, _, _, os, ρ, ρ', e => by
    cases os with
    | nil => cases e; rfl
    | cons _ _ => cases e
  | [], _ :: _, _, _, h, _, _, _, _ => by simp [fits] at h
  | true :: _, _, _, h, _, _, _, _, _ => by simp at h
  | false :: m, [], _, _, h, _, _, _, _ => by simp [fits] at h
  | false :: m, .v d :: as, seen, hm, h, os, ρ, ρ', e => fits_vals (m := m) (as := as) (seen := seen) (by simpa using hm) (by simpa [fits] using h) os ρ ρ' (by simpa [giveBack] using e)
  | false :: m, .o _ :: as, _, _, h, _, _, _, _ => by simp [fits] at h
  | false :: m, .l _ :: as, _, _, h, _, _, _, _ => by simp [fits] at h
  | false :: m, .f _ _ :: as, _, _, h, _, _, _, _ => by simp [fits] at h
theorem callFn_vals {F : FnT} {as : List Arg} {ρ ρ' : Ev} {d : D} (hm : F.mask.all (fun b => !b) = true) (e : callFn F as ρ = some (d, ρ')) : ρ' = ρ := by
  unfold callFn at e
  obtain ⟨bs, e1, e2⟩ := Option.bind_eq_some_iff.mp e
  split at e2
  · rename_i hf
    obtain ⟨ds, e3, e4⟩ := Option.bind_eq_some_iff.mp e2
    obtain ⟨⟨d', outs⟩, e5, e6⟩ := Option.bind_eq_some_iff.mp e4
    obtain ⟨ρ1, e7, e8⟩ := Option.map_eq_some_iff.mp e6
    cases e8
    exact fits_vals hm hf _ _ _ e7
  · cases e2
/-- a list that belongs to it -/
theorem foot_lst {K : PySem.W.Frag} {H : Hp} {p b : Addr} {c : D} {xs : List V} (o : Own K H p c) (f : Foot H p c b) (e : H b = some (.lst xs)) : hasLst c = true := by
  cases c with
  | list ds => rfl
  | dict ds =>
    rcases o with ⟨ks, e1, _⟩ | ⟨nm, ds', C, dx, fs, rfl, o⟩
    · rcases f with rfl | ⟨C, dx, fs, f, x, e2, _⟩
      · rw [e] at e1; cases e1
      · rw [e1] at e2; cases e2
    · rcases f with rfl | ⟨C', dx', fs', f, x, e2, h1, h2⟩
      · rw [o.at_] at e; cases e
      · rw [o.at_] at e2; cases e2
        have w := o.inner h1 (mem_obj h2)
        cases x with
        | list ds =>
          show List.any _ _ = true
          exact List.any_eq_true.mpr ⟨_, h2, isMO_mo⟩
        | dict ds => obtain ⟨_, e3, _⟩ := w; rw [e] at e3; cases e3
        | _ => exact w.elim
  | _ => exact o.elim
section
variable {K : PySem.W.Frag} {H' HU : Hp} {P : Addr → Prop}
mutual
theorem okL_flat (k : ∀ b, ¬ P b → HU b = H' b) (hf : ∀ b, P b → ∃ ob u, H' b = some (.frz ob u) ∧ canFz u = true) : ∀ {v : V} {d : D}, flatD d = true → Rz K H' v d → Rz K HU v d
  | _, _, _, .non => .non
  | _, _, _, .bl b => .bl b
  | _, _, _, .int i => .int i
  | _, _, _, .str x => .str x
  | _, _, h, .lst _ _ => by simp [flatD] at h
  | _, _, h, .tup (a := a) (xs := xs) s r => by
    refine .tup ?_ (okL_flats k hf (by simpa [flatD] using h) r)
    rcases s with (s | ⟨o, s⟩) | s
    · refine .inl (.inl ((k a fun z => ?_).trans s))
      obtain ⟨ob, u, e, _⟩ := hf a z
      rw [s] at e; cases e
    · refine .inl (.inr ⟨o, (k a fun z => ?_).trans s⟩)
      obtain ⟨ob, u, e, c⟩ := hf a z
      rw [s] at e; cases e; cases c
    · exact .inr s
  | _, _, h, .dct _ _ => by simp [flatD] at h
  | _, _, h, .obj _ _ _ => by simp [flatD] at h
theorem okL_flats (k : ∀ b, ¬ P b → HU b = H' b) (hf : ∀ b, P b → ∃ ob u, H' b = some (.frz ob u) ∧ canFz u = true) : ∀ {vs : List V} {ds : List D}, flatAll ds = true → RzAll K H' vs ds → RzAll K HU vs ds
  | _, _, _, .nil => .nil
  | _, _, h, .cons z r => by
    simp only [flatAll, Bool.and_eq_true] at h
    exact .cons (okL_flat k hf h.1 z) (okL_flats k hf h.2 r)
end
mutual
theorem okL_nod (k : ∀ b, ¬ P b → HU b = H' b) (hf : ∀ b, P b → ∃ ob u, H' b = some (.frz ob u) ∧ canFz u = true ∧ ∀ xs, u ≠ .lst xs) : ∀ {v : V} {d : D}, noDct d = true → Rz K H' v d → Rz K HU v d
  | _, _, _, .non => .non
  | _, _, _, .bl b => .bl b
  | _, _, _, .int i => .int i
  | _, _, _, .str x => .str x
  | _, _, h, .lst (a := a) s r => by
    refine .lst ?_ (okL_nods k hf (by simpa [noDct] using h) r)
    rcases s with ⟨o, s⟩ | s
    · refine .inl ⟨o, (k a fun z => ?_).trans s⟩
      obtain ⟨ob, u, e, _, n⟩ := hf a z
      rw [s] at e; cases e; exact n _ rfl
    · exact .inr s
  | _, _, h, .tup (a := a) (xs := xs) s r => by
    refine .tup ?_ (okL_nods k hf (by simpa [noDct] using h) r)
    rcases s with (s | ⟨o, s⟩) | s
    · refine .inl (.inl ((k a fun z => ?_).trans s))
      obtain ⟨ob, u, e, _⟩ := hf a z
      rw [s] at e; cases e
    · refine .inl (.inr ⟨o, (k a fun z => ?_).trans s⟩)
      obtain ⟨ob, u, e, c, _⟩ := hf a z
      rw [s] at e; cases e; cases c
    · exact .inr s
  | _, _, h, .dct _ _ => by simp [noDct] at h
  | _, _, h, .obj _ _ _ => by simp [noDct] at h
theorem okL_nods (k : ∀ b, ¬ P b → HU b = H' b) (hf : ∀ b, P b → ∃ ob u, H' b = some (.frz ob u) ∧ canFz u = true ∧ ∀ xs, u ≠ .lst xs) : ∀ {vs : List V} {ds : List D}, noDctAll ds = true → RzAll K H' vs ds → RzAll K HU vs ds
  | _, _, _, .nil => .nil
  | _, _, h, .cons z r => by
    simp only [noDctAll, Bool.and_eq_true] at h
    exact .cons (okL_nod k hf h.1 z) (okL_nods k hf h.2 r)
end
end
end Mp
namespace Mp
open PySem PySem.Spec L2
open PyProof.Rows hiding St
variable [LamT]

/-! ### the text against the little language: operations -/
def notStar : Expr → Bool
  | .Starred .. => false
  | _ => true
def notSlice : Expr → Bool
  | .Slice .. => false
  | _ => true
def notSet : Expr → Bool
  | .Set .. => false
  | _ => true
def glB (sc : Scope) (bl : List Str) (x y : Str) : Bool := decide (x = y) && decide (sc.names.lookup x = some .globalImplicit) && decide (x ∈ bl) && !(x == ("__name__" : Str)) && !(x == ("__debug__" : Str))
def cstD : Const → Option D
  | .none => some .none
  | .bool b => some (.bool b)
  | .int i => some (.int i)
  | .str x => some (.str x)
  | _ => none
def slcArgs : Bool → Bool → Option Expr → Option Expr → Option (List Expr)
  | false, false, none, none => some []
  | true, false, some a, none => some [a]
  | false, true, none, some b => some [b]
  | _, _, _, _ => none
def okTy (T : String) (x : Str) : Bool := decide (x = Str.ofString T) && okT T
/-- no super() -/
def noSup : Expr → Bool
  | .Call (.Name _ _) [] [] _ => false
  | _ => true
/-- operations whose first operand is looked at ahead of the others -/
def lateP : Prim → Bool
  | .index => true
  | _ => false
/-- the operands of an operation, where the text has its shape -/
def cmP (sc : Scope) (bl : List Str) (p : Prim) (e : Expr) : Option (List Expr) :=
  match p with
  | .add => match e with | .BinOp a .Add b _ => some [a, b] | _ => none
  | .sub => match e with | .BinOp a .Sub b _ => some [a, b] | _ => none
  | .mul => match e with | .BinOp a .Mult b _ => some [a, b] | _ => none
  | .fdiv => match e with | .BinOp a .FloorDiv b _ => some [a, b] | _ => none
  | .mod => match e with | .BinOp a .Mod b _ => some [a, b] | _ => none
  | .pow => match e with | .BinOp a .Pow b _ => some [a, b] | _ => none
  | .neg => match e with | .UnaryOp .USub a _ => some [a] | _ => none
  | .eq => match e with | .Compare a [.Eq] [b] _ => some [a, b] | _ => none
  | .ne => match e with | .Compare a [.NotEq] [b] _ => some [a, b] | _ => none
  | .lt => match e with | .Compare a [.Lt] [b] _ => some [a, b] | _ => none
  | .le => match e with | .Compare a [.LtE] [b] _ => some [a, b] | _ => none
  | .gt => match e with | .Compare a [.Gt] [b] _ => some [a, b] | _ => none
  | .ge => match e with | .Compare a [.GtE] [b] _ => some [a, b] | _ => none
  | .isin => match e with | .Compare a [.In] [b] _ => if notSet b = true then some [a, b] else none | _ => none
  | .notin => match e with | .Compare a [.NotIn] [b] _ => if notSet b = true then some [a, b] else none | _ => none
  | .isN => match e with | .Compare a [.Is] [.Constant .none _ _] _ => some [a] | _ => none
  | .notN => match e with | .Compare a [.IsNot] [.Constant .none _ _] _ => some [a] | _ => none
  | .isB b => match e with | .Compare a [.Is] [.Constant (.bool c) _ _] _ => if c = b then some [a] else none | _ => none
  | .notB b => match e with | .Compare a [.IsNot] [.Constant (.bool c) _ _] _ => if c = b then some [a] else none | _ => none
  | .idx => match e with | .Subscript a b _ => if notSlice b = true then some [a, b] else none | _ => none
  | .slc lo hi => match e with | .Subscript a (.Slice l u none _) _ => (slcArgs lo hi l u).map (a :: ·) | _ => none
  | .len => match e with | .Call (.Name x _) [a] [] _ => if glB sc bl x "len" = true then some [a] else none | _ => none
  | .isinst T => match e with | .Call (.Name x _) [a, .Name y _] [] _ => if glB sc bl x "isinstance" = true ∧ glB sc bl y (Str.ofString T) = true ∧ okT T = true then some [a] else none | _ => none
  | .abs => match e with | .Call (.Name x _) [a] [] _ => if glB sc bl x "abs" = true then some [a] else none | _ => none
  | .max2 => match e with | .Call (.Name x _) [a, b] [] _ => if glB sc bl x "max" = true then some [a, b] else none | _ => none
  | .min2 => match e with | .Call (.Name x _) [a, b] [] _ => if glB sc bl x "min" = true then some [a, b] else none | _ => none
  | .toInt => match e with | .Call (.Name x _) [a] [] _ => if glB sc bl x "int" = true then some [a] else none | _ => none
  | .toTuple => match e with | .Call (.Name x _) [a] [] _ => if glB sc bl x "tuple" = true then some [a] else none | _ => none
  | .toList => match e with | .Call (.Name x _) [a] [] _ => if glB sc bl x "list" = true then some [a] else none | _ => none
  | .all => match e with | .Call (.Name x _) [a] [] _ => if glB sc bl x "all" = true then some [a] else none | _ => none
  | .repr => match e with | .Call (.Name x _) [a] [] _ => if glB sc bl x "repr" = true then some [a] else none | _ => none
  | .split b => match e with
    | .Call (.Attribute (.Name x p) n apos) [.Constant (.str c) _ _] [] pos => if n = "split" ∧ c = b ∧ (apos.endLine == pos.line) = true then some [.Name x p] else none
    | _ => none
  | .toDict => match e with | .Call (.Name x _) [a] [] _ => if glB sc bl x "dict" = true then some [a] else none | _ => none
  | .index => match e with
    | .Call (.Attribute o n apos) [y] [] pos => if n = "index" ∧ noSup o = true ∧ notStar y = true ∧ (apos.endLine == pos.line) = true then some [o, y] else none
    | _ => none
  | .sindex b => match e with
    | .Call (.Attribute (.Name x p) n apos) [.Constant (.str c) _ _] [] pos => if n = "index" ∧ c = b ∧ (apos.endLine == pos.line) = true then some [.Name x p] else none
    | _ => none
  | .scount b => match e with
    | .Call (.Attribute (.Name x p) n apos) [.Constant (.str c) _ _] [] pos => if n = "count" ∧ c = b ∧ (apos.endLine == pos.line) = true then some [.Name x p] else none
    | _ => none
  | .sortSet => match e with | .Call (.Name x _) [.Call (.Name y _) [a] [] _] [] _ => if glB sc bl x "sorted" = true ∧ glB sc bl y "set" = true then some [a] else none | _ => none
  | .sortKeys => match e with | .Call (.Name x _) [a] [] _ => if glB sc bl x "sorted" = true then some [a] else none | _ => none
  | .dnew => match e with | .Dict [] [] _ => some [] | _ => none
  | .lenSet => match e with | .Call (.Name x _) [.Call (.Name y _) [a] [] _] [] _ => if glB sc bl x "len" = true ∧ glB sc bl y "set" = true then some [a] else none | _ => none

section
variable {X : Cx} {T : CT} {bl : List Str}
structure BE (X : Cx) (e : Expr) (t : TE) : Prop where
  pe : PE X e t
  pt : PT X e (tTest t)
inductive ArgsP (X : Cx) (T : CT) : MEs → List Expr → Prop
  | nil : ArgsP X T .nil []
  | cons {a : MA} {r : MEs} {e : Expr} {es : List Expr} : PE X e (tA T X.K a) → notStar e = true → ArgsP X T r es → ArgsP X T (.cons a r) (e :: es)
theorem star_off {e : Expr} {es : List Expr} {env : Env} (h : notStar e = true) : starEach (e :: es) env = (false, eval e env) :: starEach es env := by
  cases e <;> first | rfl | cases h
theorem ArgsP.pa {es : MEs} {as : List Expr} (h : ArgsP X T es as) : PA X as (tAs' T X.K es) := by
  induction h with
  | nil => exact pa_nil
  | cons p n _ ih => exact pa_cons p ih (star_off n)
theorem ArgsP.plain {es : MEs} {as : List Expr} (h : ArgsP X T es as) (pos : Pos) (env : Env) : (backTo pos (starEach as env)).any (·.1) = false := by
  induction h with
  | nil => rfl
  | cons p n _ ih => rw [star_off n]; exact ih
theorem ArgsP.one {es : MEs} {a : Expr} (h : ArgsP X T es [a]) : ∃ m, es = .cons m .nil ∧ PE X a (tA T X.K m) ∧ notStar a = true := by
  cases h with
  | cons p n r => cases r; exact ⟨_, rfl, p, n⟩
theorem ArgsP.two {es : MEs} {a b : Expr} (h : ArgsP X T es [a, b]) : ∃ m k, es = .cons m (.cons k .nil) ∧ PE X a (tA T X.K m) ∧ PE X b (tA T X.K k) ∧ notStar a = true ∧ notStar b = true := by
  cases h with
  | cons p n r =>
    obtain ⟨k, rfl, q, n'⟩ := r.one
    exact ⟨_, k, rfl, p, q, n, n'⟩
theorem ArgsP.three {es : MEs} {a b c : Expr} (h : ArgsP X T es [a, b, c]) : ∃ m k l, es = .cons m (.cons k (.cons l .nil)) ∧ PE X a (tA T X.K m) ∧ PE X b (tA T X.K k) ∧ PE X c (tA T X.K l) := by
  cases h with
  | cons p n r =>
    obtain ⟨k, l, rfl, q, q', _⟩ := r.two
    exact ⟨_, k, l, rfl, p, q, q'⟩
theorem OpR.imp {f : Value → Value → Sem Value} {r r' : R2} (h : OpR X f r) (i : ∀ x y H Q, r' x y H Q → r x y H Q) : OpR X f r' := fun pins s σ H x y v u Q I rx ry q => h pins s σ H x y v u Q I rx ry (i x y H Q q)
theorem IxR.imp {r r' : R2} (h : IxR X r) (i : ∀ x y H Q, r' x y H Q → r x y H Q) : IxR X r' := fun a b pins s σ H x y v u Q I rx ry q => h a b pins s σ H x y v u Q I rx ry (i x y H Q q)
theorem CallR.imp {f : Value} {r r' : List V → Hp → VK → Prop} (h : CallR X f r) (i : ∀ vs H Q, r' vs H Q → r vs H Q) : CallR X f r' := fun pins s σ H vs us Q I rv q => h pins s σ H vs us Q I rv (i vs H Q q)
theorem BE.val {e : Expr} {t : TE} (h : PE X e t) (he : ∀ whole, isTrue e X.env whole = (do let v ← whole; standAt e.pos; holding [v] (truthy v))) : BE X e t := ⟨h, pt_val h he⟩
/-- a binary operator -/
theorem be_bin {p : Prim} {g : D → D → Option D} {op : Operator} {a b : Expr} {m k : MA} {pos : Pos} (hg : ∀ ds, primD p ds = match ds with | [a, b] => g a b | _ => none) (ho : OpR X (binaryOp op) (r2D X.K g)) (ha : PE X a (tA T X.K m)) (hb : PE X b (tA T X.K k)) :
    BE X (.BinOp a op b pos) (tP T X.K p (.cons m (.cons k .nil))) :=
  .val (pe_op (OpR.imp (r' := fun x y H Q => rD X.K (primD p) [x, y] H Q) ho fun x y H Q q => r2_of hg q) ha hb) fun _ => rfl
theorem be_cmp {p : Prim} {g : D → D → Option D} {op : CmpOp} {a b : Expr} {m k : MA} {pos : Pos} (hg : ∀ ds, primD p ds = match ds with | [a, b] => g a b | _ => none) (ho : OpR X (compareOp op) (r2D X.K g)) (ha : PE X a (tA T X.K m)) (hb : PE X b (tA T X.K k))
    (hm : behindInMarks op b = false) : BE X (.Compare a [op] [b] pos) (tP T X.K p (.cons m (.cons k .nil))) :=
  ⟨pe_cmpR (OpR.imp (r' := fun x y H Q => rD X.K (primD p) [x, y] H Q) ho fun x y H Q q => r2_of hg q) ha hb hm, pt_cmpR (OpR.imp (r' := fun x y H Q => rD X.K (primD p) [x, y] H Q) ho fun x y H Q q => r2_of hg q) ha hb hm⟩
/-- a comparison with a written value -/
theorem be_is {p : Prim} {g : D → Option D} {op : CmpOp} {a b : Expr} {m : MA} {pos : Pos} {w : V} (hg : ∀ ds, primD p ds = match ds with | [a] => g a | _ => none) (ho : OpR X (compareOp op) (fun x y H Q => y = w ∧ r1D X.K g x H Q)) (ha : PE X a (tA T X.K m)) (hb : PE X b (tC w))
    (hm : behindInMarks op b = false) : BE X (.Compare a [op] [b] pos) (tP T X.K p (.cons m .nil)) := by
  have o : OpR X (compareOp op) (fun x y H Q => y = w ∧ rD X.K (primD p) [x] H Q) := OpR.imp ho fun x y H Q q => ⟨q.1, by
    obtain ⟨z, e, q2⟩ := r1_of hg q.2
    cases e
    exact q2⟩
  have i : ∀ (σ : St) (H : Hp) (Q : VK), tP T X.K p (.cons m .nil) σ H Q → tOp (fun x y H Q => y = w ∧ rD X.K (primD p) [x] H Q) (tA T X.K m) (tC w) σ H Q := fun σ H Q q => by
    cases m with
    | e m =>
      obtain ⟨ρ, d, ρ', R, e, q⟩ := q
      exact ⟨ρ, d, ρ', R, e, fun v H' a b c d => ⟨rfl, q v H' a b c d⟩⟩
    | o i =>
      obtain ⟨v, e, q⟩ := q
      exact ⟨v, e, rfl, q⟩
    | l i =>
      obtain ⟨v, e, q⟩ := q
      exact ⟨v, e, rfl, q⟩
    | f i n => exact q.elim
  exact ⟨PE.imp (pe_cmpR o ha hb hm) i, PT.imp (pt_cmpR o ha hb hm) fun σ H Q q => i σ H _ q⟩
/-- a built-in function, class -/
theorem be_call {p : Prim} {x : Str} {id : String} {e : Expr} {es : List Expr} {ms : MEs} {pos pos' : Pos} (G : Gd X T bl) (hx : glB X.env.scope bl x x = true) (hv : bootBuiltins x = some (.builtin id)) (ho : CallR X (.builtin id) (rD X.K (primD p))) (ha : ArgsP X T ms (e :: es)) :
    BE X (.Call (.Name x pos') (e :: es) [] pos) (tP T X.K p ms) := by
  simp only [glB, Bool.and_eq_true, decide_eq_true_eq, Bool.not_eq_true'] at hx
  obtain ⟨⟨⟨⟨_, h1⟩, h2⟩, h3⟩, h4⟩ := hx
  cases id' : ha with
  | cons p' n r =>
    exact .val (pe_callB ho h1 (G.blt x h2) hv ha.pa (by simpa using h3) h4 (star_off n) (r.plain _ _)) fun _ => rfl
theorem be_callTy {p : Prim} {x : Str} {id : String} {e : Expr} {es : List Expr} {ms : MEs} {pos pos' : Pos} (G : Gd X T bl) (hx : glB X.env.scope bl x x = true) (hv : bootBuiltins x = some (.type id)) (ho : CallR X (.type id) (rD X.K (primD p))) (ha : ArgsP X T ms (e :: es)) :
    BE X (.Call (.Name x pos') (e :: es) [] pos) (tP T X.K p ms) := by
  simp only [glB, Bool.and_eq_true, decide_eq_true_eq, Bool.not_eq_true'] at hx
  obtain ⟨⟨⟨⟨_, h1⟩, h2⟩, h3⟩, h4⟩ := hx
  cases id' : ha with
  | cons p' n r =>
    exact .val (pe_callTy ho h1 (G.blt x h2) hv ha.pa (by simpa using h3) h4 (star_off n) (r.plain _ _)) fun _ => rfl
theorem c1_of {p : Prim} {g : D → Option D} (hg : ∀ ds, primD p ds = match ds with | [a] => g a | _ => none) {f : Value} (h : CallR X f (c1D X.K g)) : CallR X f (rD X.K (primD p)) :=
  CallR.imp h fun vs H Q q => r1_of hg q
theorem c2_of {p : Prim} {g : D → D → Option D} (hg : ∀ ds, primD p ds = match ds with | [a, b] => g a b | _ => none) {f : Value} (h : CallR X f (c2D X.K g)) : CallR X f (rD X.K (primD p)) :=
  CallR.imp h fun vs H Q q => by
    obtain ⟨ds, z, r, e, q'⟩ := id q
    rw [hg] at e
    cases r with
    | nil => cases e
    | cons ra r =>
      cases r with
      | nil => cases e
      | cons rb r =>
        cases r with
        | nil => exact ⟨_, _, rfl, r2_of hg q⟩
        | cons _ _ => cases e
theorem glB_self {sc : Scope} {x y : Str} (h : glB sc bl x y = true) : x = y ∧ glB sc bl y y = true := by
  have : x = y := by
    simp only [glB, Bool.and_eq_true, decide_eq_true_eq] at h
    exact h.1.1.1.1
  subst this
  exact ⟨rfl, h⟩
theorem mark_off {b : Expr} {op : CmpOp} (h : notSet b = true) : behindInMarks op b = false := by
  cases b <;> first | rfl | cases h
theorem plainIx_of {b : Expr} (h : notSlice b = true) : PlainIx b := by
  cases b <;> first | (exact fun _ _ => rfl) | cases h
theorem boot_ty {T : String} (h : okT T = true) : bootBuiltins (Str.ofString T) = some (.type T) := by
  have : ∀ T ∈ ["int", "str", "bool", "tuple", "list", "dict"], bootBuiltins (Str.ofString T) = some (.type T) := by
    intro T hT
    simp only [List.mem_cons, List.not_mem_nil, or_false] at hT
    rcases hT with rfl | rfl | rfl | rfl | rfl | rfl <;> decide +kernel
  exact this T (List.contains_iff_mem.mp h)
theorem pe_tyname {T : CT} {t : String} {y : Str} {pos : Pos} (G : Gd X T bl) (h : glB X.env.scope bl y (Str.ofString t) = true) (hT : okT t = true) : PE X (.Name y pos) (tC (.ty t)) := by
  obtain ⟨rfl, h⟩ := glB_self h
  simp only [glB, Bool.and_eq_true, decide_eq_true_eq, Bool.not_eq_true'] at h
  obtain ⟨⟨⟨⟨_, h1⟩, h2⟩, h3⟩, h4⟩ := h
  exact pe_bltn h1 (G.blt _ h2) (boot_ty hT) rfl (by simpa using h3) h4
/-- sorted(set(a)) -/
def rSS (K : PySem.W.Frag) (v : V) (H1 : Hp) (Q : VK) : Prop := ∃ d ds, Ry K H1 v d ∧ sortSetD d = some (.list ds) ∧ ∀ v' H', fresh K H1 (.list ds) (fun _ _ => True) v' H' → Q v' H'
theorem sortSet_pe (G : Gd X T bl) {x y : Str} {px py p2 pos : Pos} {a : Expr} {m : MA} (h1 : glB X.env.scope bl x "sorted" = true) (h2 : glB X.env.scope bl y "set" = true) (ha : PE X a (tA T X.K m)) (n : notStar a = true) :
    PE X (.Call (.Name x px) [.Call (.Name y py) [a] [] p2] [] pos) (fun σ H Q => tA T X.K m σ H fun v H1 => rSS X.K v H1 Q) := by
  obtain ⟨rfl, h1⟩ := glB_self h1
  obtain ⟨rfl, h2⟩ := glB_self h2
  simp only [glB, Bool.and_eq_true, decide_eq_true_eq, Bool.not_eq_true'] at h1 h2
  obtain ⟨⟨⟨⟨_, q1⟩, q2⟩, q3⟩, q4⟩ := h1
  obtain ⟨⟨⟨⟨_, p1⟩, p2⟩, p3⟩, p4⟩ := h2
  have inner := fun pos p => pe_callTy (pos := pos) (p := p) (cd_set G.calm) p1 (G.blt _ p2) (by decide +kernel) (pa_cons ha pa_nil (star_off n)) (by simpa using p3) p4 (star_off n) (by rfl)
  refine PE.imp (pe_callB (cd_sortset0 G.calm) q1 (G.blt _ q2) (by decide +kernel) (pa_cons (inner _ _) pa_nil (star_off rfl)) (by simpa using q3) q4 (star_off rfl) (by rfl)) fun σ H Q q => ?_
  cases m with
  | e m =>
    obtain ⟨ρ, d, ρ', R, e, q⟩ := q
    refine ⟨ρ, d, ρ', R, e, fun v H' k s R' z => ?_⟩
    obtain ⟨d', ds, ry, e', f⟩ := q v H' k s R' z
    obtain ⟨xs, e1, e2⟩ := Option.bind_eq_some_iff.mp (show (strsIn d').bind _ = _ from e')
    split at e2
    · rename_i c
      cases e2
      refine ⟨v, d', xs, rfl, ry, e1, c.1, fun p hp => ⟨p, xs, rfl, upd_same, c.2, fun v2 H2 fr => f v2 H2 ?_⟩⟩
      obtain ⟨D, rfl, hD, sm, o, _⟩ := fr
      have hDp : D ≠ p := fun e => by subst e; rw [upd_same] at hD; cases hD
      rw [upd_ne hDp] at hD
      exact ⟨D, rfl, hD, fun b u hb => sm b u (by rw [upd_ne (ne_of_none hb hp)]; exact hb), o, trivial⟩
    · cases e2
  | o i =>
    obtain ⟨v, hv, d', ds, ry, e', f⟩ := q
    obtain ⟨xs, e1, e2⟩ := Option.bind_eq_some_iff.mp (show (strsIn d').bind _ = _ from e')
    split at e2
    · rename_i c
      cases e2
      refine ⟨v, hv, v, d', xs, rfl, ry, e1, c.1, fun p hp => ⟨p, xs, rfl, upd_same, c.2, fun v2 H2 fr => f v2 H2 ?_⟩⟩
      obtain ⟨D, rfl, hD, sm, o, _⟩ := fr
      have hDp : D ≠ p := fun e => by subst e; rw [upd_same] at hD; cases hD
      rw [upd_ne hDp] at hD
      exact ⟨D, rfl, hD, fun b u hb => sm b u (by rw [upd_ne (ne_of_none hb hp)]; exact hb), o, trivial⟩
    · cases e2
  | l i =>
    obtain ⟨v, hv, d', ds, ry, e', f⟩ := q
    obtain ⟨xs, e1, e2⟩ := Option.bind_eq_some_iff.mp (show (strsIn d').bind _ = _ from e')
    split at e2
    · rename_i c
      cases e2
      refine ⟨v, hv, v, d', xs, rfl, ry, e1, c.1, fun p hp => ⟨p, xs, rfl, upd_same, c.2, fun v2 H2 fr => f v2 H2 ?_⟩⟩
      obtain ⟨D, rfl, hD, sm, o, _⟩ := fr
      have hDp : D ≠ p := fun e => by subst e; rw [upd_same] at hD; cases hD
      rw [upd_ne hDp] at hD
      exact ⟨D, rfl, hD, fun b u hb => sm b u (by rw [upd_ne (ne_of_none hb hp)]; exact hb), o, trivial⟩
    · cases e2
  | f i n => exact q.elim
/-- .. frozen -/
theorem PE.frzS {e : Expr} {m : MA} (h : PE X e (fun σ H Q => tA T X.K m σ H fun v H1 => rSS X.K v H1 Q)) : PE X e (tP T X.K .sortSet (.cons m .nil)) := by
  refine ⟨fun pins s σ H Q I q => ?_⟩
  refine thn (h.run pins s σ H (fun v H' => ∃ H1 z, later X.K H1 z Q v H') I ?_) fun u s' hq => ?_
  · have mono : ∀ (m : MA), tA T X.K m σ H (fun v H1 => rD X.K (primD .sortSet) [v] H1 Q) → tA T X.K m σ H (fun v H1 => rSS X.K v H1 fun v H' => ∃ H1 z, later X.K H1 z Q v H') := fun m q => by
      have step : ∀ (v : V) (H1 : Hp), rD X.K (primD .sortSet) [v] H1 Q → rSS X.K v H1 fun v H' => ∃ H1 z, later X.K H1 z Q v H' := fun v H1 q => by
        obtain ⟨ds, z, r, e, q⟩ := q
        cases r with
        | cons ra r =>
          cases r
          have e : sortSetD _ = some z := e
          obtain ⟨xs, e1, e2⟩ := Option.bind_eq_some_iff.mp (show (strsIn _).bind _ = _ from e)
          split at e2
          · cases e2
            refine ⟨_, _, ra, e, fun v' H' fr => ⟨H1, .list (lsD (sortS (metS xs))), ?_⟩⟩
            obtain ⟨p, rfl, hp, sm, o, _⟩ := fr
            exact ⟨p, rfl, hp, sm, o, fun H'' k z => q _ _ k z⟩
          · cases e2
      cases m with
      | e m => obtain ⟨ρ, d, ρ', R, e, q⟩ := q; exact ⟨ρ, d, ρ', R, e, fun v H' a b c d => step _ _ (q v H' a b c d)⟩
      | o j => obtain ⟨v, e, q⟩ := q; exact ⟨v, e, step _ _ q⟩
      | l j => obtain ⟨v, e, q⟩ := q; exact ⟨v, e, step _ _ q⟩
      | f j n => exact q.elim
    exact mono m q
  · obtain ⟨v, H', I', r, H1, z, l⟩ := hq
    exact EP.freeze ⟨v, H', I', r, l⟩
end
end Mp
namespace Mp
open PySem PySem.Spec L2
open PyProof.Rows hiding St
variable [LamT]
section
variable {X : Cx} {T : CT} {bl : List Str}
theorem tA_mono {K : PySem.W.Frag} (m : MA) (σ : St) (H : Hp) (Q Q' : VK) (i : ∀ v H', Q v H' → Q' v H') (q : tA T K m σ H Q) : tA T K m σ H Q' := by
  cases m with
  | e m => obtain ⟨ρ, d, ρ', R, e, q⟩ := q; exact ⟨ρ, d, ρ', R, e, fun v H' a b c d => i _ _ (q v H' a b c d)⟩
  | o j => obtain ⟨v, e, q⟩ := q; exact ⟨v, e, i _ _ q⟩
  | l j => obtain ⟨v, e, q⟩ := q; exact ⟨v, e, i _ _ q⟩
  | f j n => exact q.elim
/-- a bound that may be None -/
def tPartM (t : TE) : TO := fun σ H Q => t σ H fun x H1 => (∃ i, x = .int i ∧ Q (some i) H1) ∨ (x = .non ∧ Q none H1)
theorem po_may {e : Expr} {te : TE} (h : PE X e te) : PO X (some e) (tPartM te) := by
  refine ⟨fun pins s σ H Q I hw => ?_⟩
  rw [evalPart_some]
  refine thn (h.run pins s σ H _ I hw) fun u s1 ⟨x, H1, I1, r1, q1⟩ => ?_
  rcases q1 with ⟨i, rfl, q⟩ | ⟨rfl, q⟩
  · obtain ⟨t, rfl⟩ := r1
    exact ⟨some i, H1, I1, .int i t, q⟩
  · cases r1
    exact ⟨none, H1, I1, .none, q⟩
theorem ry_non {K : PySem.W.Frag} {H : Hp} {v : V} (r : Ry K H v .none) : v = .non := by
  rcases r with z | ⟨p, _, o⟩
  · cases z; rfl
  · exact o.elim
/-- a slice's reading is that of its operands -/
theorem be_slc {lo hi : Bool} {a : Expr} {l u : Option Expr} {as : List Expr} {es : MEs} {p2 pos : Pos} (h : slcArgs lo hi l u = some as) (ha : ArgsP X T es (a :: as)) : BE X (.Subscript a (.Slice l u none p2) pos) (tP T X.K (.slc lo hi) es) := by
  refine .val ?_ fun _ => rfl
  have fin : ∀ {x : V} {H : Hp} {Q : VK} {l u : Option Int} {vs : List V}, (∀ ds z, RyAll X.K H (x :: vs) ds → slcD lo hi ds = some z → ∃ a, Ry X.K H x a ∧ sliceD a l u = some z) → rD X.K (primD (.slc lo hi)) (x :: vs) H Q → rSlcD X.K x l u H Q := fun k q => by
    obtain ⟨ds, z, r, e, q⟩ := q
    obtain ⟨a, h1, h2⟩ := k ds z r e
    exact ⟨a, z, h1, h2, q⟩
  have inv1 : ∀ {x : V} {vs : List V} {H : Hp} {ds : List D}, RyAll X.K H (x :: vs) ds → ∃ a r, ds = a :: r ∧ Ry X.K H x a ∧ RyAll X.K H vs r := fun h => by
    cases h with
    | cons a r => exact ⟨_, _, rfl, a, r⟩
  cases lo <;> cases hi
  · cases l <;> cases u <;> cases h
    obtain ⟨m, rfl, p, _⟩ := ha.one
    refine PE.imp (pe_slice od_slc p po_none po_none) fun σ H Q q => ?_
    refine tA_mono m σ H _ _ (fun v H' q => ?_) q
    refine fin (vs := []) (fun ds z r e => ?_) q
    obtain ⟨a, r', rfl, ra, r2⟩ := inv1 r
    cases r2
    exact ⟨a, ra, e⟩
  · cases l <;> cases u <;> cases h
    obtain ⟨m, k, rfl, p, p', _, _⟩ := ha.two
    refine PE.imp (pe_slice od_slc p po_none (po_may p')) fun σ H Q q => ?_
    refine tA_mono m σ H _ _ (fun v H' q => tA_mono k σ H' _ _ (fun w H2 q => ?_) q) q
    obtain ⟨ds, z, r, e, q⟩ := q
    obtain ⟨a, r', rfl, ra, r2⟩ := inv1 r
    obtain ⟨b, r3, rfl, rb, r4⟩ := inv1 r2
    cases r4
    cases b <;> first | (cases e; done) | skip
    · obtain rfl := ry_non rb
      exact .inr ⟨rfl, a, z, ra, e, q⟩
    · cases rb.int
      exact .inl ⟨_, rfl, a, z, ra, e, q⟩
  · cases l <;> cases u <;> cases h
    obtain ⟨m, k, rfl, p, p', _, _⟩ := ha.two
    refine PE.imp (pe_slice od_slc p (po_may p') po_none) fun σ H Q q => ?_
    refine tA_mono m σ H _ _ (fun v H' q => tA_mono k σ H' _ _ (fun w H2 q => ?_) q) q
    obtain ⟨ds, z, r, e, q⟩ := q
    obtain ⟨a, r', rfl, ra, r2⟩ := inv1 r
    obtain ⟨b, r3, rfl, rb, r4⟩ := inv1 r2
    cases r4
    cases b <;> first | (cases e; done) | skip
    · obtain rfl := ry_non rb
      exact .inr ⟨rfl, a, z, ra, e, q⟩
    · cases rb.int
      exact .inl ⟨_, rfl, a, z, ra, e, q⟩
  · cases l <;> cases u <;> cases h
/-- every operation that the text shows -/
theorem prim_be (G : Gd X T bl) {p : Prim} {e : Expr} {as : List Expr} {es : MEs} (hx : lateP p = false) (h : cmP X.env.scope bl p e = some as) (A : ArgsP X T es as) : BE X e (tP T X.K p es) := by
  cases p with
  | add =>
    unfold cmP at h; simp only at h; split at h <;> cases h
    obtain ⟨m, k, rfl, a, b, _, _⟩ := A.two
    exact be_bin (fun ds => by rcases ds with _ | ⟨a, _ | ⟨b, _ | ⟨c, r⟩⟩⟩ <;> rfl) od_add a b
  | sub =>
    unfold cmP at h; simp only at h; split at h <;> cases h
    obtain ⟨m, k, rfl, a, b, _, _⟩ := A.two
    exact be_bin (fun ds => by rcases ds with _ | ⟨a, _ | ⟨b, _ | ⟨c, r⟩⟩⟩ <;> rfl) od_sub a b
  | mul =>
    unfold cmP at h; simp only at h; split at h <;> cases h
    obtain ⟨m, k, rfl, a, b, _, _⟩ := A.two
    exact be_bin (fun ds => by rcases ds with _ | ⟨a, _ | ⟨b, _ | ⟨c, r⟩⟩⟩ <;> rfl) od_mulA a b
  | fdiv =>
    unfold cmP at h; simp only at h; split at h <;> cases h
    obtain ⟨m, k, rfl, a, b, _, _⟩ := A.two
    exact be_bin (fun ds => by rcases ds with _ | ⟨a, _ | ⟨b, _ | ⟨c, r⟩⟩⟩ <;> rfl) od_fdiv a b
  | mod =>
    unfold cmP at h; simp only at h; split at h <;> cases h
    obtain ⟨m, k, rfl, a, b, _, _⟩ := A.two
    exact be_bin (fun ds => by rcases ds with _ | ⟨a, _ | ⟨b, _ | ⟨c, r⟩⟩⟩ <;> rfl) od_mod a b
  | pow =>
    unfold cmP at h; simp only at h; split at h <;> cases h
    obtain ⟨m, k, rfl, a, b, _, _⟩ := A.two
    exact be_bin (fun ds => by rcases ds with _ | ⟨a, _ | ⟨b, _ | ⟨c, r⟩⟩⟩ <;> rfl) od_pow a b
  | eq =>
    unfold cmP at h; simp only at h; split at h <;> cases h
    obtain ⟨m, k, rfl, a, b, _, _⟩ := A.two
    exact be_cmp (fun ds => by rcases ds with _ | ⟨a, _ | ⟨b, _ | ⟨c, r⟩⟩⟩ <;> rfl) (od_eq G.units) a b (nomark _)
  | ne =>
    unfold cmP at h; simp only at h; split at h <;> cases h
    obtain ⟨m, k, rfl, a, b, _, _⟩ := A.two
    exact be_cmp (fun ds => by rcases ds with _ | ⟨a, _ | ⟨b, _ | ⟨c, r⟩⟩⟩ <;> rfl) (od_ne G.units) a b (nomark _)
  | lt =>
    unfold cmP at h; simp only at h; split at h <;> cases h
    obtain ⟨m, k, rfl, a, b, _, _⟩ := A.two
    exact be_cmp (fun ds => by rcases ds with _ | ⟨a, _ | ⟨b, _ | ⟨c, r⟩⟩⟩ <;> rfl) (od_lt G.units) a b (nomark _)
  | le =>
    unfold cmP at h; simp only at h; split at h <;> cases h
    obtain ⟨m, k, rfl, a, b, _, _⟩ := A.two
    exact be_cmp (fun ds => by rcases ds with _ | ⟨a, _ | ⟨b, _ | ⟨c, r⟩⟩⟩ <;> rfl) od_le a b (nomark _)
  | gt =>
    unfold cmP at h; simp only at h; split at h <;> cases h
    obtain ⟨m, k, rfl, a, b, _, _⟩ := A.two
    exact be_cmp (fun ds => by rcases ds with _ | ⟨a, _ | ⟨b, _ | ⟨c, r⟩⟩⟩ <;> rfl) od_gt a b (nomark _)
  | ge =>
    unfold cmP at h; simp only at h; split at h <;> cases h
    obtain ⟨m, k, rfl, a, b, _, _⟩ := A.two
    exact be_cmp (fun ds => by rcases ds with _ | ⟨a, _ | ⟨b, _ | ⟨c, r⟩⟩⟩ <;> rfl) od_ge a b (nomark _)
  | isin =>
    unfold cmP at h; simp only at h; split at h
    · split at h <;> cases h
      rename_i hs
      obtain ⟨m, k, rfl, a, b, _, _⟩ := A.two
      exact be_cmp (fun ds => by rcases ds with _ | ⟨a, _ | ⟨b, _ | ⟨c, r⟩⟩⟩ <;> rfl) (od_in G.units) a b (mark_off hs)
    · cases h
  | notin =>
    unfold cmP at h; simp only at h; split at h
    · split at h <;> cases h
      rename_i hs
      obtain ⟨m, k, rfl, a, b, _, _⟩ := A.two
      exact be_cmp (fun ds => by rcases ds with _ | ⟨a, _ | ⟨b, _ | ⟨c, r⟩⟩⟩ <;> rfl) (od_notin G.units) a b (mark_off hs)
    · cases h
  | isN =>
    unfold cmP at h; simp only at h; split at h <;> cases h
    obtain ⟨m, rfl, a, _⟩ := A.one
    exact be_is (fun ds => by rcases ds with _ | ⟨a, _ | ⟨b, r⟩⟩ <;> rfl) od_isN a pe_non (nomark _)
  | notN =>
    unfold cmP at h; simp only at h; split at h <;> cases h
    obtain ⟨m, rfl, a, _⟩ := A.one
    exact be_is (fun ds => by rcases ds with _ | ⟨a, _ | ⟨b, r⟩⟩ <;> rfl) od_notN a pe_non (nomark _)
  | isB c =>
    unfold cmP at h; simp only at h; split at h
    · split at h <;> cases h
      rename_i hc
      subst hc
      obtain ⟨m, rfl, a, _⟩ := A.one
      exact be_is (fun ds => by rcases ds with _ | ⟨a, _ | ⟨b, r⟩⟩ <;> rfl) od_isB a pe_bl (nomark _)
    · cases h
  | notB c =>
    unfold cmP at h; simp only at h; split at h
    · split at h <;> cases h
      rename_i hc
      subst hc
      obtain ⟨m, rfl, a, _⟩ := A.one
      exact be_is (fun ds => by rcases ds with _ | ⟨a, _ | ⟨b, r⟩⟩ <;> rfl) od_notB a pe_bl (nomark _)
    · cases h
  | idx =>
    unfold cmP at h; simp only at h; split at h
    · split at h <;> cases h
      rename_i hs
      obtain ⟨m, k, rfl, a, b, _, _⟩ := A.two
      exact .val (pe_ix (IxR.imp (r' := fun x y H Q => rD X.K (primD .idx) [x, y] H Q) (od_idxD (Nat.lt_of_le_of_lt (Nat.add_le_add_left (by decide : 1 ≤ 64) _) G.units)) fun x y H Q q => r2_of (fun ds => by rcases ds with _ | ⟨a, _ | ⟨b, _ | ⟨c, r⟩⟩⟩ <;> rfl) q) a b (plainIx_of hs)) fun _ => rfl
    · cases h
  | slc lo hi =>
    unfold cmP at h; simp only at h; split at h
    · obtain ⟨bs, h1, h2⟩ := Option.map_eq_some_iff.mp h
      cases h2
      exact be_slc h1 A
    · cases h
  | len =>
    unfold cmP at h; simp only at h; split at h
    · split at h <;> cases h
      rename_i hs
      obtain ⟨rfl, hs⟩ := glB_self hs
      exact be_call G hs (by decide +kernel) (c1_of (fun ds => by rcases ds with _ | ⟨a, _ | ⟨b, r⟩⟩ <;> rfl) cd_len) A
    · cases h
  | isinst t =>
    unfold cmP at h; simp only at h; split at h
    · split at h <;> cases h
      rename_i hs
      obtain ⟨h1, h2, h3⟩ := hs
      obtain ⟨rfl, h1⟩ := glB_self h1
      obtain ⟨m, rfl, a, n⟩ := A.one
      simp only [glB, Bool.and_eq_true, decide_eq_true_eq, Bool.not_eq_true'] at h1
      obtain ⟨⟨⟨⟨_, q1⟩, q2⟩, q3⟩, q4⟩ := h1
      refine .val (PE.imp (pe_callB (CallR.imp (r' := fun vs H Q => ∃ x, vs = [x, .ty t] ∧ rD X.K (primD (.isinst t)) [x] H Q) (cd_isinst h3) fun vs H Q q => ?_) q1 (G.blt _ q2) (by decide +kernel) (pa_cons a (pa_cons (pe_tyname G h2 h3) pa_nil (star_off rfl)) (star_off n)) (by simpa using q3) q4 (star_off n) ?_) fun σ H Q q => ?_) fun _ => rfl
      · obtain ⟨x, rfl, q⟩ := q
        obtain ⟨z, e, q⟩ := r1_of (fun ds => by rcases ds with _ | ⟨a, _ | ⟨b, r⟩⟩ <;> rfl) q
        cases e
        exact ⟨x, rfl, q⟩
      · rw [star_off rfl]; rfl
      · exact tA_mono m σ H _ _ (fun v H' q => ⟨v, rfl, q⟩) q
    · cases h
  | abs =>
    unfold cmP at h; simp only at h; split at h
    · split at h <;> cases h
      rename_i hs
      obtain ⟨rfl, hs⟩ := glB_self hs
      exact be_call G hs (by decide +kernel) (c1_of (fun ds => by rcases ds with _ | ⟨a, _ | ⟨b, r⟩⟩ <;> rfl) cd_abs) A
    · cases h
  | max2 =>
    unfold cmP at h; simp only at h; split at h
    · split at h <;> cases h
      rename_i hs
      obtain ⟨rfl, hs⟩ := glB_self hs
      exact be_call G hs (by decide +kernel) (c2_of (fun ds => by rcases ds with _ | ⟨a, _ | ⟨b, _ | ⟨c, r⟩⟩⟩ <;> rfl) (cd_max G.calm)) A
    · cases h
  | min2 =>
    unfold cmP at h; simp only at h; split at h
    · split at h <;> cases h
      rename_i hs
      obtain ⟨rfl, hs⟩ := glB_self hs
      exact be_call G hs (by decide +kernel) (c2_of (fun ds => by rcases ds with _ | ⟨a, _ | ⟨b, _ | ⟨c, r⟩⟩⟩ <;> rfl) (cd_min G.calm)) A
    · cases h
  | toInt =>
    unfold cmP at h; simp only at h; split at h
    · split at h <;> cases h
      rename_i hs
      obtain ⟨rfl, hs⟩ := glB_self hs
      exact be_callTy G hs (by decide +kernel) (c1_of (fun ds => by rcases ds with _ | ⟨a, _ | ⟨b, r⟩⟩ <;> rfl) cd_int) A
    · cases h
  | toTuple =>
    unfold cmP at h; simp only at h; split at h
    · split at h <;> cases h
      rename_i hs
      obtain ⟨rfl, hs⟩ := glB_self hs
      exact be_callTy G hs (by decide +kernel) (c1_of (fun ds => by rcases ds with _ | ⟨a, _ | ⟨b, r⟩⟩ <;> rfl) cd_tuple) A
    · cases h
  | toList =>
    unfold cmP at h; simp only at h; split at h
    · split at h <;> cases h
      rename_i hs
      obtain ⟨rfl, hs⟩ := glB_self hs
      exact be_callTy G hs (by decide +kernel) (c1_of (fun ds => by rcases ds with _ | ⟨a, _ | ⟨b, r⟩⟩ <;> rfl) cd_list) A
    · cases h
  | all =>
    unfold cmP at h; simp only at h; split at h
    · split at h <;> cases h
      rename_i hs
      obtain ⟨rfl, hs⟩ := glB_self hs
      exact be_call G hs (by decide +kernel) (c1_of (fun ds => by rcases ds with _ | ⟨a, _ | ⟨b, r⟩⟩ <;> rfl) (cd_all G.calm)) A
    · cases h
  | neg =>
    unfold cmP at h; simp only at h; split at h <;> cases h
    obtain ⟨m, rfl, a, _⟩ := A.one
    refine .val (PE.imp (pe_un ud_neg a) fun σ H Q q => tA_mono m σ H _ _ (fun v H' q => ?_) q) fun _ => rfl
    obtain ⟨z, e, q⟩ := r1_of (fun ds => by rcases ds with _ | ⟨a, _ | ⟨b, r⟩⟩ <;> rfl) q
    cases e
    exact q
  | lenSet =>
    unfold cmP at h; simp only at h; split at h
    · split at h <;> cases h
      rename_i hs
      obtain ⟨h1, h2⟩ := hs
      obtain ⟨rfl, h1⟩ := glB_self h1
      obtain ⟨rfl, h2⟩ := glB_self h2
      simp only [glB, Bool.and_eq_true, decide_eq_true_eq, Bool.not_eq_true'] at h1 h2
      obtain ⟨⟨⟨⟨_, q1⟩, q2⟩, q3⟩, q4⟩ := h1
      obtain ⟨⟨⟨⟨_, p1⟩, p2⟩, p3⟩, p4⟩ := h2
      obtain ⟨m, rfl, a, n⟩ := A.one
      have inner := fun pos p => pe_callTy (pos := pos) (p := p) (cd_set G.calm) p1 (G.blt _ p2) (by decide +kernel) (pa_cons a pa_nil (star_off n)) (by simpa using p3) p4 (star_off n) (by rfl)
      refine .val (PE.imp (pe_callB cd_lenset q1 (G.blt _ q2) (by decide +kernel) (pa_cons (inner _ _) pa_nil (star_off rfl)) (by simpa using q3) q4 (star_off rfl) (by rfl)) fun σ H Q q => tA_mono m σ H _ _ (fun v H' q => ?_) q) fun _ => rfl
      obtain ⟨z, e, q⟩ := r1_of (fun ds => by rcases ds with _ | ⟨a, _ | ⟨b, r⟩⟩ <;> rfl) q
      cases e
      obtain ⟨d, z, ra, e, q⟩ := q
      have e : lenSetD d = some z := e
      unfold lenSetD at e
      obtain ⟨xs, e1, e2⟩ := Option.bind_eq_some_iff.mp e
      split at e2
      · rename_i hl
        cases e2
        refine ⟨v, d, xs, rfl, ra, e1, Nat.le_trans hl (by decide), fun p hp => ⟨p, xs, rfl, upd_same, hl, q _ _ (same_new hp) (.int _)⟩⟩
      · cases e2
    · cases h
  | repr =>
    unfold cmP at h; simp only at h; split at h
    · split at h <;> cases h
      rename_i hs
      obtain ⟨rfl, hs⟩ := glB_self hs
      exact be_call G hs (by decide +kernel) (c1_of (fun ds => by rcases ds with _ | ⟨a, _ | ⟨b, r⟩⟩ <;> rfl) (cd_repr G.units G.quiet)) A
    · cases h
  | split sep =>
    unfold cmP at h; simp only at h; split at h
    · split at h <;> cases h
      rename_i c k p2 p3 hs
      obtain ⟨rfl, rfl, hl⟩ := hs
      obtain ⟨m, rfl, a, n⟩ := A.one
      refine .val (PE.imp (pe_m1 PySem.F.slot_str_split PySem.F.type_str_split (mt_splitD c) a pe_str rfl rfl hl) fun σ H Q q => tA_mono m σ H _ _ (fun v H' q => ?_) q) fun _ => rfl
      obtain ⟨ds, z, r, e, q⟩ := q
      cases r with
      | cons r1 r2 =>
        cases r2
        rename_i dd
        cases dd with
        | str y =>
          cases r1.str
          exact ⟨⟨y, rfl⟩, y, z, rfl, rfl, e, q⟩
        | _ => cases e
    · cases h
  | toDict =>
    unfold cmP at h; simp only at h; split at h
    · split at h <;> cases h
      rename_i hs
      obtain ⟨rfl, hs⟩ := glB_self hs
      exact be_callTy G hs (by decide +kernel) (c1_of (fun ds => by rcases ds with _ | ⟨a, _ | ⟨b, r⟩⟩ <;> rfl) (cd_dict G.calm)) A
    · cases h
  | index => cases hx
  | sindex sep =>
    unfold cmP at h; simp only at h; split at h
    · split at h <;> cases h
      rename_i c k p2 p3 hs
      obtain ⟨rfl, rfl, hl⟩ := hs
      obtain ⟨m, rfl, a, n⟩ := A.one
      refine .val (PE.imp (pe_m1 PySem.F.slot_str_index PySem.F.type_str_index (mt_sindexD c) a pe_str rfl rfl hl) fun σ H Q q => tA_mono m σ H _ _ (fun v H' q => ?_) q) fun _ => rfl
      obtain ⟨ds, z, r, e, q⟩ := q
      cases r with
      | cons r1 r2 =>
        cases r2
        rename_i dd
        cases dd with
        | str y =>
          cases r1.str
          exact ⟨⟨y, rfl⟩, y, z, rfl, rfl, e, q⟩
        | _ => cases e
    · cases h
  | scount sep =>
    unfold cmP at h; simp only at h; split at h
    · split at h <;> cases h
      rename_i c k p2 p3 hs
      obtain ⟨rfl, rfl, hl⟩ := hs
      obtain ⟨m, rfl, a, n⟩ := A.one
      refine .val (PE.imp (pe_m1 PySem.F.slot_str_count PySem.F.type_str_count (mt_scountD c) a pe_str rfl rfl hl) fun σ H Q q => tA_mono m σ H _ _ (fun v H' q => ?_) q) fun _ => rfl
      obtain ⟨ds, z, r, e, q⟩ := q
      cases r with
      | cons r1 r2 =>
        cases r2
        rename_i dd
        cases dd with
        | str y =>
          cases r1.str
          exact ⟨⟨y, rfl⟩, y, z, rfl, rfl, e, q⟩
        | _ => cases e
    · cases h
  | sortSet =>
    unfold cmP at h; simp only at h; split at h
    · split at h <;> cases h
      rename_i hs
      obtain ⟨h1, h2⟩ := hs
      obtain ⟨m, rfl, a, n⟩ := A.one
      exact .val (PE.frzS (sortSet_pe G h1 h2 a n)) fun _ => rfl
    · cases h
  | sortKeys =>
    unfold cmP at h; simp only at h; split at h
    · split at h <;> cases h
      rename_i hs
      obtain ⟨rfl, hs⟩ := glB_self hs
      exact be_call G hs (by decide +kernel) (c1_of (fun ds => by rcases ds with _ | ⟨a, _ | ⟨b, r⟩⟩ <;> rfl) (cd_sortKeys G.calm)) A
    · cases h
  | dnew =>
    unfold cmP at h; simp only at h; split at h <;> cases h
    cases A
    refine .val (PE.imp pe_dnewD fun σ H Q q => ?_) fun _ => rfl
    obtain ⟨ds, z, r, e, q⟩ := q
    cases r
    cases e
    exact fun v H' k z => q v H' k z
end
end Mp
namespace Mp
open PySem PySem.Spec L2 LamX
open PyProof.Rows hiding St
variable [LamT]

/-! ### the text against the little language: expressions -/
def varB (N : List Str) (sc : Scope) (i : Nat) (x : Str) : Bool :=
  decide (N[i]? = some x) && (match sc.names.lookup x with | some .local => true | some .cell => true | some .free => true | _ => false) && !(x == ("__debug__" : Str)) && !(x == ("__classdict__" : Str))
def gloB (sc : Scope) (x : Str) : Bool := decide (sc.names.lookup x = some .globalImplicit) && !(x == ("__debug__" : Str))
def cstB : Const → D → Bool
  | .none, .none => true
  | .bool b, .bool c => b == c
  | .int i, .int j => i == j
  | .str x, .str y => decide (x = y)
  | _, _ => false
def kwB : List Keyword → List Str → Bool
  | [], [] => true
  | ⟨some n, v, _⟩ :: r, k :: ks => decide (n = k) && notStar v && kwB r ks
  | _, _ => false
def cmpOf : Prim → Option CmpOp
  | .lt => some .Lt
  | .le => some .LtE
  | .gt => some .Gt
  | .ge => some .GtE
  | _ => none
/-- a target's name within a block -/
def tgB (N : List Str) (scope : Scope) (i : Nat) (x : Str) : Bool := decide (N[i]? = some x) && (match scope.names.lookup x with | some .local => true | some .cell => true | _ => false)
def tgsB (N : List Str) (scope : Scope) : List Nat → List Expr → Bool
  | [], [] => true
  | i :: is, .Name x _ :: es => tgB N scope i x && tgsB N scope is es
  | _, _ => false
def cmTg (N : List Str) (scope : Scope) (own : List Nat) : Tg → Expr → Bool
  | .v i, .Name x _ => tgB N scope i x && own.contains i
  | .tp is, .Tuple es _ _ => tgsB N scope is es && is.all own.contains
  | _, _ => false
def MEs.len : MEs → Nat
  | .nil => 0
  | .cons _ r => r.len + 1
def ownN (N : List Str) (own : List Nat) : List (Str × Nat) := own.map fun i => (N.getD i Str.empty, i)
def MEs.headE : MEs → Bool
  | .cons (.e _) _ => true
  | _ => false
def keysB : List Str → List (Option Expr) → Bool
  | [], [] => true
  | k :: ks, some (.Constant (.str c) _ _) :: r => decide (c = k) && keysB ks r
  | _, _ => false
def noLam (bl : List Str) : List Str := bl.filter fun b => !decide (b = "<lam>") && !decide (b = "<deep>") && !decide (b = "<here>")
/-- within a comprehension's block -/
def noHere (bl : List Str) : List Str := bl.filter fun b => !decide (b = "<here>")
theorem noHere_sub {bl : List Str} {b : Str} (h : b ∈ noHere bl) : b ∈ bl ∧ b ≠ "<here>" := by
  unfold noHere at h
  rw [List.mem_filter] at h
  simp only [Bool.not_eq_true', decide_eq_false_iff_not] at h
  exact h
def isEn : MI → Bool
  | .enum _ => true
  | _ => false
/-- an enumerate's items go into a tuple of names -/
def enTg (it : MI) : Expr → Bool
  | .Tuple _ _ _ => true
  | _ => !isEn it
/-- how a lambda's one parameter is bound -/
def par1 (params : Arguments) (p : Str) : Bool := match params with
  | ⟨[], [a], none, [], [], none, []⟩ => decide (a.arg = p)
  | _ => false
/-- a lambda's names: the parameter p, captured ones, globals -/
def lamPB (sc scope : Scope) (p : Str) : Bool :=
  decide (scope.kind = .function) && !scope.isCoroutine && !scope.isGenerator && decide (scope.names.lookup p = some .local) &&
    scope.names.all fun y => !decide (y.2 = .cell) && (!decide (y.2 = .local) || decide (y.1 = p)) && (!decide (y.2 = .free) || (decide (sc.names.lookup y.1 = some .cell) || decide (sc.names.lookup y.1 = some .free)))
mutual
def cm (T : CT) (bl : List Str) (sc : Scope) : ME → Expr → Bool
  | .var i, e => match e with | .Name x _ => varB T.N sc i x | _ => false
  | .cst d, e => match e with | .Constant c _ _ => cstB c d | _ => false
  | .glb g, e => match e with | .Name x _ => (match T.cons[g]? with | some p => decide (x = p.1) && gloB sc x | none => false) | _ => false
  | .tup es, e => match e with | .Tuple xs _ _ => cms T bl sc es xs && decide (xs.length ≤ 1000) | _ => false
  | .lst es, e => match e with | .List xs _ => cms T bl sc es xs && decide (xs.length ≤ 1000) | _ => false
  | .prim p es, e => match cmP sc bl p e with | some as => cms T bl sc es as && (!lateP p || es.headE) | none => false
  | .fn f es, e => match e with
    | .Call (.Name x _) as kws _ => (match T.fns[f]? with
      | some (y, F) => decide (x = y) && gloB sc x && decide (as.length = F.np) && kwB kws F.ks && cms T bl sc es (as ++ kws.map (·.value))
      | none => false)
    | _ => false
  | .fnF _ _, _ => false
  | .mth f h es, e => match e with
    | .Call (.Attribute y m apos) as kws pos => (match T.mts[f]? with
      | some (n, al) => decide (m = n) && noSup y && (apos.endLine == pos.line) && decide (as.length + kws.length < 20) && al.all (fun p => decide (as.length + 1 = p.2.np) && kwB kws p.2.ks) && cmA T bl sc h y && cms T bl sc es (as ++ kws.map (·.value))
      | none => false)
    | _ => false
  | .mthF _ _ _, _ => false
  | .sortK a i m, e => match e with
    | .Call (.Name x _) [y] [⟨some n, .Lambda params body scope _, _⟩] _ => glB sc bl x "sorted" && decide (n = "key") && notStar y && cmA T bl sc a y && (match T.N[i]? with | some p => par1 params p && lamPB sc scope p | none => false) && bl.contains "<lam>" && bl.contains "<deep>" && cm T (noLam bl) scope m body
    | _ => false
  | .sortF a f, e => match e with
    | .Call (.Name x _) [y] [⟨some n, .Name z _, _⟩] _ => glB sc bl x "sorted" && decide (n = "key") && notStar y && cmA T bl sc a y && gloB sc z && bl.contains "<deep>" && T.pls.contains f && (match T.fns[f]? with | some (z', F) => decide (z = z') && decide (F.np = 1) && decide (F.ks = []) && decide (F.dfl.length = 0) && decide (F.pm = [0]) && decide (F.mask = [false]) && !F.ro | none => false)
    | _ => false
  | .app i a, e => match e with | .Call (.Name x _) [y] [] _ => varB T.N sc i x && notStar y && cm T bl sc a y | _ => false
  | .die, e => notSet e
  | .hoL h a i m, e => match e with
    | .Call (.Name x _) [y, .Lambda params body scope _] [] _ => (match T.ho[h]? with | some W => decide (x = W.1) | none => false) && gloB sc x && notStar y && cm T bl sc a y && (match T.N[i]? with | some p => par1 params p && lamPB sc scope p | none => false) && bl.contains "<lam>" && bl.contains "<deep>" && bl.contains "<here>" && cm T (noLam bl) scope m body
    | _ => false
  | .hoF h a f, e => match e with
    | .Call (.Name x _) [y, .Name z _] [] _ => (match T.ho[h]? with | some W => decide (x = W.1) | none => false) && gloB sc x && notStar y && cm T bl sc a y && gloB sc z && bl.contains "<deep>" && T.pls.contains f && (match T.fns[f]? with | some (z', F) => decide (z = z') && decide (F.np = 1) && decide (F.ks = []) && decide (F.dfl.length = 0) && decide (F.pm = [0]) && decide (F.mask = [false]) && !F.ro | none => false)
    | _ => false
  | .fldO i f, e => match e with | .Attribute (.Name x _) n _ => decide (n = f) && varB T.N sc i x | _ => false
  | .band a b, e => match e with
    | .BoolOp .And (x :: y :: r) pos => cm T bl sc a x && (match r with | [] => cm T bl sc b y | z :: r => cm T bl sc b (.BoolOp .And (y :: z :: r) pos))
    | _ => false
  | .bor a b, e => match e with
    | .BoolOp .Or (x :: y :: r) pos => cm T bl sc a x && (match r with | [] => cm T bl sc b y | z :: r => cm T bl sc b (.BoolOp .Or (y :: z :: r) pos))
    | _ => false
  | .bnot a, e => match e with | .UnaryOp .Not x _ => cm T bl sc a x | _ => false
  | .ite c a b, e => match e with | .IfExp x y z _ => cm T bl sc c x && cm T bl sc a y && cm T bl sc b z | _ => false
  | .chain p q a b c, e => match e with
    | .Compare x [o1, o2] [y, z] _ => cm T bl sc a x && cm T bl sc b y && cm T bl sc c z && (match cmpOf p, cmpOf q with | some p', some q' => o1 == p' && o2 == q' | _, _ => false)
    | _ => false
  | .comp elt tg it cs own, e => match e with
    | .ListComp x [⟨t, iter, ifs, 0⟩] scope _ => cmI T bl sc it iter && notSet iter && enTg it t && blkC T.N sc scope (ownN T.N own) && cmTg T.N scope own tg t && cmC T (noHere bl) (relS scope sc) cs ifs && cm T (noHere bl) (relS scope sc) elt x
    | _ => false
  | .dct ks es, e => match e with | .Dict keys values _ => keysB ks keys && cms T bl sc es values && decide (ks.length ≤ 15) && !ks.isEmpty && decide (keys.length = values.length) | _ => false
  | .fld f a, e => match e with | .Attribute y n _ => decide (n = f) && noSup y && cm T bl sc a y | _ => false
  | .isC x a, e => match e with | .Call (.Name i _) [y, .Name c _] [] _ => glB sc bl i "isinstance" && decide (c = x) && gloB sc c && notStar y && cm T bl sc a y | _ => false
  | .flat i j it m own, e => match e with
    | .ListComp (.Name y _) [⟨.Name a _, iter, [], 0⟩, ⟨.Name b _, iter1, [], 0⟩] scope _ => cmI T bl sc it iter && notSet iter && !isEn it && blkC T.N sc scope (ownN T.N own) && tgB T.N scope i a && own.contains i && tgB T.N scope j b && own.contains j && cm T (noHere bl) (relS scope sc) m iter1 && notSet iter1 && varB T.N (relS scope sc) j y
    | _ => false
  | .pop i a, e => match e with
    | .Call (.Attribute (.Name x _) m apos) [y] [] cpos => varB T.N sc i x && decide (m = "pop") && notStar y && cm T bl sc a y && apos.endLine == cpos.line
    | _ => false
def cmA (T : CT) (bl : List Str) (sc : Scope) : MA → Expr → Bool
  | .e m, e => cm T bl sc m e
  | .o i, e => match e with | .Name x _ => varB T.N sc i x | _ => false
  | .l i, e => match e with | .Name x _ => varB T.N sc i x | _ => false
  | .f _ _, _ => false
def cms (T : CT) (bl : List Str) (sc : Scope) : MEs → List Expr → Bool
  | .nil, es => match es with | [] => true | _ => false
  | .cons a r, es => match es with | e :: es => cmA T bl sc a e && notStar e && cms T bl sc r es | [] => false
def cmI (T : CT) (bl : List Str) (sc : Scope) : MI → Expr → Bool
  | .seq a, e => cm T bl sc a e
  | .rng1 a, e => match e with | .Call (.Name x _) [y] [] _ => glB sc bl x "range" && notStar y && cm T bl sc a y | _ => false
  | .rng2 a b, e => match e with | .Call (.Name x _) [y, z] [] _ => glB sc bl x "range" && notStar y && notStar z && cm T bl sc a y && cm T bl sc b z | _ => false
  | .enum a, e => match e with | .Call (.Name x _) [y] [] _ => glB sc bl x "enumerate" && notStar y && cm T bl sc a y | _ => false
def cmC (T : CT) (bl : List Str) (sc : Scope) : MC → List Expr → Bool
  | .all, es => match es with | [] => true | _ => false
  | .one c, es => match es with | [e] => cm T bl sc c e | _ => false
end

/-- terms that hand back no object of a class -/
def plainM : ME → Bool
  | .lst _ => true
  | .comp .. => true
  | .flat .. => true
  | .dct .. => true
  | .sortK .. => true
  | .sortF .. => true
  | _ => false
theorem sortD_frz {ks ds : List D} {z : D} (h : sortD ks ds = some z) : frzD z = z := by
  unfold sortD at h
  split at h
  · cases h; rfl
  · cases h
theorem put_nob {k : Key} {v : D} {ds : List (D × D)} (h : isOb (.dict ds) = false) : isOb (.dict (putD k v ds)) = false := by
  unfold putD
  split
  · cases ds with
    | nil => rfl
    | cons p r =>
      show isMK (if keyOf p.1 = some k then (p.1, v) else p).1 = false
      split <;> exact h
  · cases ds with
    | nil => exact keyD_mk k
    | cons p r => exact h
theorem fold_nob : ∀ (ps : List (Str × D)) (acc : List (D × D)), isOb (.dict acc) = false → isOb (.dict (ps.foldl (fun acc p => putD (.inr p.1) p.2 acc) acc)) = false
  | [], _, h => h
  | p :: r, acc, h => fold_nob r _ (put_nob h)
theorem frz_ev {T : CT} {m : ME} (hm : plainM m = true) {ρ ρ' : Ev} {d : D} (e : ev T m ρ = some (d, ρ')) : frzD d = d := by
  cases m <;> simp only [plainM, Bool.false_eq_true] at hm
  · unfold ev at e
    obtain ⟨⟨as, ρ1⟩, e1, e2⟩ := Option.bind_eq_some_iff.mp e
    obtain ⟨ds, e3, e4⟩ := Option.map_eq_some_iff.mp e2
    cases e4; rfl
  · unfold ev at e
    obtain ⟨⟨as, ρ1⟩, e1, e2⟩ := Option.bind_eq_some_iff.mp e
    obtain ⟨ds, e3, e4⟩ := Option.map_eq_some_iff.mp e2
    cases e4; rfl
  · unfold ev at e
    obtain ⟨⟨as, ρ1⟩, e1, e2⟩ := Option.bind_eq_some_iff.mp e
    obtain ⟨ds, e3, e4⟩ := Option.bind_eq_some_iff.mp e2
    obtain ⟨d', e5, e6⟩ := Option.map_eq_some_iff.mp e4
    cases e6
    unfold dctD at e5
    split at e5
    · cases e5
      exact frzD_id (fold_nob _ _ rfl)
    · cases e5
  · unfold ev at e
    obtain ⟨⟨ds, ρ1⟩, e1, e2⟩ := Option.bind_eq_some_iff.mp e
    obtain ⟨⟨out, ρe⟩, e3, e4⟩ := Option.bind_eq_some_iff.mp e2
    simp only at e4
    split at e4
    · cases e4; rfl
    · cases e4
  · unfold ev at e
    obtain ⟨⟨x, ρ1⟩, e1, e2⟩ := Option.bind_eq_some_iff.mp e
    obtain ⟨d0, e3, e4⟩ := Option.bind_eq_some_iff.mp e2
    cases d0 <;> simp only [reduceCtorEq] at e4
    split at e4
    · obtain ⟨ks, e5, e6⟩ := Option.bind_eq_some_iff.mp e4
      obtain ⟨z, e7, e8⟩ := Option.map_eq_some_iff.mp e6
      cases e8
      exact sortD_frz e7
    · cases e4
  · unfold ev at e
    obtain ⟨⟨x, ρ1⟩, e1, e2⟩ := Option.bind_eq_some_iff.mp e
    obtain ⟨d0, e3, e4⟩ := Option.bind_eq_some_iff.mp e2
    cases d0 <;> simp only [reduceCtorEq] at e4
    obtain ⟨F, _, e4⟩ := Option.bind_eq_some_iff.mp e4
    obtain ⟨ks, e5, e6⟩ := Option.bind_eq_some_iff.mp e4
    obtain ⟨z, e7, e8⟩ := Option.map_eq_some_iff.mp e6
    cases e8
    exact sortD_frz e7
section
variable {X : Cx} {T : CT} {bl : List Str}
theorem tst_ev {K : PySem.W.Frag} {m : ME} {σ : St} {H : Hp} {Q : Bool → Hp → Prop} (h : tTst T K m σ H Q) : tEv T K m σ H (fun x H' => ∃ k, x = .bl k ∧ Q k H') := by
  obtain ⟨ρ, b, ρ', R, e, q⟩ := h
  refine ⟨ρ, _, ρ', R, e, fun v H' k s R' z => ?_⟩
  cases z
  exact ⟨b, rfl, q H' k s R'⟩
theorem PW.imp {e : Expr} {t t' : TT} (h : PW X e t) (i : ∀ σ H Q, t' σ H Q → t σ H Q) : PW X e t' := ⟨fun w pins s σ H Q I q => h.run w pins s σ H Q I (i σ H Q q)⟩
structure Good (X : Cx) (T : CT) (m : ME) (e : Expr) : Prop where
  pe : PE X e (tEv T X.K m)
  pt : PT X e (tTst T X.K m)
  pw : ∀ op vs pos, e = .BoolOp op vs pos → PW X e (tTst T X.K m)
theorem Good.of {m : ME} {e : Expr} (h : PE X e (tEv T X.K m)) (hb : ∀ op vs pos, e ≠ .BoolOp op vs pos) (he : ∀ whole, isTrue e X.env whole = (do let v ← whole; standAt e.pos; holding [v] (truthy v))) : Good X T m e :=
  ⟨h, PT.imp (pt_val h he) fun σ H Q q => tst_ev q, fun op vs pos q => absurd q (hb op vs pos)⟩
theorem Good.of_be {p : Prim} {es : MEs} {e : Expr} (h : BE X e (tP T X.K p es)) (hb : ∀ op vs pos, e ≠ .BoolOp op vs pos) : Good X T (.prim p es) e :=
  ⟨PE.imp h.pe fun σ H Q q => tP_imp q, PT.imp h.pt fun σ H Q q => tP_imp (tst_ev q), fun op vs pos q => absurd q (hb op vs pos)⟩
theorem varB_spec {N : List Str} {sc : Scope} {i : Nat} {x : Str} (h : varB N sc i x = true) : N[i]? = some x ∧ Vis sc x ∧ (x == ("__debug__" : Str)) = false ∧ (x == ("__classdict__" : Str)) = false := by
  simp only [varB, Bool.and_eq_true, decide_eq_true_eq, Bool.not_eq_true'] at h
  obtain ⟨⟨⟨h1, h2⟩, h3⟩, h4⟩ := h
  refine ⟨h1, ?_, h3, h4⟩
  unfold Vis
  split at h2 <;> first | (rename_i q; rw [q]; simp) | cases h2
theorem pe_name (G : Gd X T bl) {i : Nat} {x : Str} {pos : Pos} (h : varB T.N X.env.scope i x = true) : PE X (.Name x pos) (tVar i) := by
  obtain ⟨h1, h2, h3, h4⟩ := varB_spec h
  exact pe_var (by rw [G.hN]; exact h1) h2 h3 h4
theorem pures_rz {K : PySem.W.Frag} {H : Hp} {σ : St} : ∀ {vs : List V} {as : List Arg} {ds : List D}, ArgRel K H σ vs as → pures as = some ds → RzAll K H vs ds
  | _, _, _, .nil, e => by cases e; exact .nil
  | _, _, _, .v z r, e => by
    unfold pures at e
    obtain ⟨ds, e1, e2⟩ := Option.map_eq_some_iff.mp e
    cases e2
    exact .cons z (pures_rz r e1)
  | _, _, _, .o _ _, e => by cases e
  | _, _, _, .l _ _, e => by cases e
theorem evs_len {T : CT} : ∀ {es : MEs} {ρ ρ' : Ev} {as : List Arg}, evs T es ρ = some (as, ρ') → as.length = es.len
  | .nil, _, _, _, e => by unfold evs at e; cases e; rfl
  | .cons a r, _, _, _, e => by
    unfold evs at e
    obtain ⟨⟨x, ρ1⟩, _, e2⟩ := Option.bind_eq_some_iff.mp e
    obtain ⟨⟨xs, ρ2⟩, e3, e4⟩ := Option.map_eq_some_iff.mp e2
    cases e4
    have := evs_len e3
    simp [MEs.len, this]
theorem ArgsP.len {es : MEs} {as : List Expr} (h : ArgsP X T es as) : es.len = as.length := by
  induction h with
  | nil => rfl
  | cons _ _ _ ih => simp [MEs.len, ih]

/-! the new objects -/
theorem own_ne {K : PySem.W.Frag} {H : Hp} {σ : St} {ρ : Ev} {p b : Addr} (R : Rel K H σ ρ) (h : H p = none) (o : Owned H σ ρ b) : b ≠ p := fun e => by
  obtain ⟨u, hu, _⟩ := R.mut o
  rw [e, h] at hu; cases hu
/-- a new thing is laid: what was known stays known -/
theorem new_tup {K : PySem.W.Frag} {H : Hp} {xs : List V} {ds : List D} {p : Addr} (z : RzAll K H xs ds) (h : H p = none) : Rz K (upd H p (.tup xs)) (.ref p) (.tuple ds) :=
  .tup (.inl (.inl upd_same)) (z.per (Per.of_same (same_new h)))
theorem good_tup {es : MEs} {xs : List Expr} {k : Nat} {pos : Pos} (A : ArgsP X T es xs) (hl : xs.length ≤ 1000) : PE X (.Tuple xs k pos) (tEv T X.K (.tup es)) := by
  refine PE.imp (pe_tup A.pa) fun σ H Q q => ?_
  obtain ⟨ρ, d, ρ', R, e, q⟩ := q
  unfold ev at e
  obtain ⟨⟨as, ρ1⟩, e1, e2⟩ := Option.bind_eq_some_iff.mp e
  obtain ⟨ds, e3, e4⟩ := Option.map_eq_some_iff.mp e2
  cases e4
  refine tAs_imp es σ H _ ⟨ρ, as, ρ', R, e1, fun vs H1 k s R1 ar => ⟨?_, fun p hp => ?_⟩⟩
  · rw [ar.length, evs_len e1, A.len]
    exact Nat.le_trans hl (by rw [sizeLine_eq]; decide)
  · have sm := same_new (o := .tup vs) hp
    exact q _ _ (k.trans s (Keep.same R1 sm)) s (R1.same sm) (new_tup (pures_rz ar e3) hp)
/-- what comes back is a new thing of one's own -/
def tEvF (T : CT) (K : PySem.W.Frag) (m : ME) : TE := fun σ H Q => ∃ ρ d ρ', Rel K H σ ρ ∧ ev T m ρ = some (d, ρ') ∧
  ∀ p H', Keep σ ρ H ρ' H' → Sk ρ ρ' → Rel K H' σ ρ' → (∀ b, Foot H' p d b → H b = none) → (∀ b, Foot H' p d b → ¬ Owned H' σ ρ' b) → Own K H' p d → Q (.ref p) H'
/-- the same of any reckoning -/
def tEvFG (K : PySem.W.Frag) (g : Ev → Option (D × Ev)) : TE := fun σ H Q => ∃ ρ d ρ', Rel K H σ ρ ∧ g ρ = some (d, ρ') ∧
  ∀ p H', Keep σ ρ H ρ' H' → Sk ρ ρ' → Rel K H' σ ρ' → (∀ b, Foot H' p d b → H b = none) → (∀ b, Foot H' p d b → ¬ Owned H' σ ρ' b) → Own K H' p d → Q (.ref p) H'
/-- all but what is owned may change, as long as what stands still stays -/
theorem Rel.off {K : PySem.W.Frag} {H H' : Hp} {σ : St} {ρ : Ev} (R : Rel K H σ ρ) (k : ∀ b, Owned H σ ρ b → H' b = H b) (per : Per H H') (tb : TabsK K H') : Rel K H' σ ρ ∧ ∀ i b, (OwnedAt H' σ ρ i b ↔ OwnedAt H σ ρ i b) := by
  have ft : ∀ {i : Nat} {d : D} {p : Addr}, ρ[i]? = some (.ow d) → σ[i]? = some (some (.ref p)) → ∀ b, (Foot H' p d b ↔ Foot H p d b) := fun {i d p} h1 h2 b => Foot.iff (k p ⟨i, d, p, h1, h2, Foot.self ..⟩)
  refine ⟨⟨fun i d h => ?_, fun i d h => ?_, fun i j d e p q b hij h1 h2 h3 h4 f1 f2 => R.ne i j d e p q b hij h1 h2 h3 h4 ((ft h1 h3 b).mp f1) ((ft h2 h4 b).mp f2), R.len, tb, fun i h => ⟨(R.fv i h).1, (R.fv i h).2.trans per⟩⟩, fun i b => ⟨fun ⟨d, p, h1, h2, f⟩ => ⟨d, p, h1, h2, (ft h1 h2 b).mp f⟩, fun ⟨d, p, h1, h2, f⟩ => ⟨d, p, h1, h2, (ft h1 h2 b).mpr f⟩⟩⟩
  · obtain ⟨v, a, z⟩ := R.da i d h
    exact ⟨v, a, z.per per⟩
  · obtain ⟨p, a, z⟩ := R.ow i d h
    exact ⟨p, a, z.keep (fun b f => k b ⟨i, d, p, h, a, f⟩) per⟩
/-- what is new belongs to no slot -/
theorem fresh_unowned {K : PySem.W.Frag} {H H' : Hp} {σ : St} {ρ : Ev} {p : Addr} (R : Rel K H σ ρ) (hp : H p = none) (sm : ∀ b, Owned H σ ρ b → H' b = H b) : ¬ Owned H' σ ρ p := fun ⟨i, d, q, h1, h2, f⟩ => by
  have e := sm q ⟨i, d, q, h1, h2, Foot.self ..⟩
  exact own_ne R hp ⟨i, d, q, h1, h2, (Foot.iff e).mp f⟩ rfl
theorem same_owned {K : PySem.W.Frag} {H H' : Hp} {σ : St} {ρ : Ev} (R : Rel K H σ ρ) (sm : Same H H') : ∀ b, Owned H σ ρ b → H' b = H b := fun b w => by
  obtain ⟨u, hu, _⟩ := R.mut w
  exact (sm b u hu).trans hu.symm
/-- behind a thing that stands still from now on -/
theorem PE.frzG {g : Ev → Option (D × Ev)} {e : Expr} (h : PE X e (tEvFG X.K g)) : PE X e (tEvG X.K fun ρ => (g ρ).map fun p => (frzD p.1, p.2)) := by
  refine ⟨fun pins s σ H Q I q => ?_⟩
  obtain ⟨ρ, d, ρ', R, ee, q⟩ := q
  obtain ⟨⟨d0, ρ0⟩, e1, e2⟩ := Option.map_eq_some_iff.mp ee
  cases e2
  refine thn (h.run pins s σ H (fun v H' => ∃ p, v = .ref p ∧ Keep σ ρ H ρ0 H' ∧ Sk ρ ρ0 ∧ Rel X.K H' σ ρ0 ∧ (∀ b, Foot H' p d0 b → H b = none) ∧ (∀ b, Foot H' p d0 b → ¬ Owned H' σ ρ0 b) ∧ Own X.K H' p d0) I ⟨ρ, d0, ρ0, R, e1, fun p H' a b c f g o => ⟨p, rfl, a, b, c, f, g, o⟩⟩) fun u s' h => ?_
  obtain ⟨v, H', I', r, p, rfl, k, s, R', hp, hn, o⟩ := h
  obtain ⟨HL, IL, h1, h2, z⟩ := o.lock I'
  have per := still_per h1 h2
  have nf : ∀ b, Owned H' σ ρ0 b → ¬ Foot H' p d0 b := fun b w f => hn b f w
  obtain ⟨RL, oL⟩ := R'.off (fun b w => h1 b (nf b w)) per (fun t ht => still_tabs h1 h2 _ _ (R'.tb t ht))
  refine ⟨.ref p, HL, IL, r, q _ _ ⟨fun b o hb n t => ?_, fun i b w => k.own i b ((oL i b).mp w), fun b hb => k.alive b (still_alive h1 h2 b hb), fun P q mt t => still_tabs h1 h2 P q (k.tabs P q mt t)⟩ s RL z⟩
  rw [h1 b fun f => by rw [hp b f] at hb; cases hb]
  exact k.keep b o hb n t
theorem PE.frz {m : ME} {e : Expr} (h : PE X e (tEvF T X.K m)) (hm : ∀ ρ d ρ', ev T m ρ = some (d, ρ') → frzD d = d := by exact fun _ _ _ => frz_ev rfl) : PE X e (tEv T X.K m) := by
  refine PE.imp (PE.frzG (g := ev T m) h) fun σ H Q q => ?_
  obtain ⟨ρ, d, ρ', R, ee, q⟩ := q
  exact ⟨ρ, d, ρ', R, by show (ev T m ρ).map _ = _; rw [ee]; show some (frzD d, ρ') = _; rw [hm _ _ _ ee], q⟩
theorem good_lstF {es : MEs} {xs : List Expr} {pos : Pos} (A : ArgsP X T es xs) (hl : xs.length ≤ 1000) : PE X (.List xs pos) (tEvF T X.K (.lst es)) := by
  refine PE.imp (pe_lst A.pa) fun σ H Q q => ?_
  obtain ⟨ρ, d, ρ', R, e, q⟩ := q
  unfold ev at e
  obtain ⟨⟨as, ρ1⟩, e1, e2⟩ := Option.bind_eq_some_iff.mp e
  obtain ⟨ds, e3, e4⟩ := Option.map_eq_some_iff.mp e2
  cases e4
  refine tAs_imp es σ H _ ⟨ρ, as, ρ', R, e1, fun vs H1 k s R1 ar => ⟨?_, fun p hp => ?_⟩⟩
  · rw [ar.length, evs_len e1, A.len]
    exact Nat.le_trans hl (by rw [sizeLine_eq]; decide)
  · have sm := same_new (o := .lst vs) hp
    have o : OwnS X.K (upd H1 p (.lst vs)) p (.list ds) := ⟨vs, upd_same, (pures_rz ar e3).per (Per.of_same sm)⟩
    exact q p _ (k.trans s (Keep.same R1 sm)) s (R1.same sm) (fun b f => by rw [Foot.alone o f]; exact k.alive p hp) (fun b f => by rw [Foot.alone o f]; exact fresh_unowned R1 hp (same_owned R1 sm)) o.own
end
end Mp
namespace Mp
open PySem PySem.Spec L2 LamX
open PyProof.Rows hiding St
variable [LamT]

/-! ### a block's own slots -/
theorem wipe_get (σ : St) : ∀ (vs : List Nat) (i : Nat), (wipe σ vs)[i]? = if i ∈ vs then (if i < σ.length then some none else none) else σ[i]?
  | [], i => by simp [wipe]
  | v :: vs, i => by
    unfold wipe
    by_cases h : v = i
    · subst h
      by_cases hl : v < σ.length
      · rw [List.getElem?_set_self (by rw [wipe_length]; exact hl)]
        simp [hl]
      · rw [List.getElem?_eq_none (by simp [wipe_length]; omega)]
        simp [hl]
    · rw [List.getElem?_set_ne h, wipe_get σ vs i]
      have : i ≠ v := fun e => h e.symm
      simp [this]
theorem wipes_length (ρ : Ev) : ∀ vs : List Nat, (wipes ρ vs).length = ρ.length
  | [] => rfl
  | v :: vs => by unfold wipes; rw [List.length_set, wipes_length ρ vs]
theorem wipes_get (ρ : Ev) : ∀ (vs : List Nat) (i : Nat), (wipes ρ vs)[i]? = if i ∈ vs then (if i < ρ.length then some .un else none) else ρ[i]?
  | [], i => by simp [wipes]
  | v :: vs, i => by
    unfold wipes
    by_cases h : v = i
    · subst h
      by_cases hl : v < ρ.length
      · rw [List.getElem?_set_self (by rw [wipes_length]; exact hl)]
        simp [hl]
      · rw [List.getElem?_eq_none (by simp [wipes_length]; omega)]
        simp [hl]
    · rw [List.getElem?_set_ne h, wipes_get ρ vs i]
      have : i ≠ v := fun e => h e.symm
      simp [this]
theorem restore_length (ρ0 ρ : Ev) : ∀ vs : List Nat, (restore ρ0 ρ vs).length = ρ.length
  | [] => rfl
  | v :: vs => by unfold restore; rw [List.length_set, restore_length ρ0 ρ vs]
theorem restore_get (ρ0 ρ : Ev) : ∀ (vs : List Nat) (i : Nat), (restore ρ0 ρ vs)[i]? = if i ∈ vs then (if i < ρ.length then some (ρ0.getD i .un) else none) else ρ[i]?
  | [], i => by simp [restore]
  | v :: vs, i => by
    unfold restore
    by_cases h : v = i
    · subst h
      by_cases hl : v < ρ.length
      · rw [List.getElem?_set_self (by rw [restore_length]; exact hl)]
        simp [hl]
      · rw [List.getElem?_eq_none (by simp [restore_length]; omega)]
        simp [hl]
    · rw [List.getElem?_set_ne h, restore_get ρ0 ρ vs i]
      have : i ≠ v := fun e => h e.symm
      simp [this]
theorem set_same {α : Type} {l : List α} {i : Nat} {a : α} (h : i < l.length → l[i]? = some a) : l.set i a = l := by
  apply List.ext_getElem?
  intro j
  by_cases hj : i = j
  · subst hj
    by_cases hl : i < l.length
    · rw [List.getElem?_set_self hl, h hl]
    · rw [List.getElem?_eq_none (by simp; omega), List.getElem?_eq_none (by omega)]
  · rw [List.getElem?_set_ne hj]
theorem wipe_set {σ : St} {vs : List Nat} {i : Nat} {x : Option V} (h : i ∈ vs) : wipe (σ.set i x) vs = wipe σ vs := by
  apply List.ext_getElem?
  intro j
  rw [wipe_get, wipe_get, List.length_set]
  by_cases hj : j ∈ vs
  · simp [hj]
  · rw [if_neg hj, if_neg hj, List.getElem?_set_ne (fun e : i = j => hj (by rw [← e]; exact h))]
theorem wipe_wipe (σ : St) (vs : List Nat) : wipe (wipe σ vs) vs = wipe σ vs := by
  apply List.ext_getElem?
  intro j
  rw [wipe_get (wipe σ vs), wipe_length, wipe_get]
  by_cases hj : j ∈ vs <;> simp [hj]

section
variable {K : PySem.W.Frag} {H H' H'' : Hp} {σ σ' : St} {ρ ρ' ρ0 : Ev} {vs : List Nat}
theorem wipes_ow {i : Nat} {d : D} (h : (wipes ρ vs)[i]? = some (.ow d)) : i ∉ vs ∧ ρ[i]? = some (.ow d) := by
  rw [wipes_get] at h
  split at h
  · split at h <;> cases h
  · rename_i hm; exact ⟨hm, h⟩
theorem wipe_at {i : Nat} (hm : i ∉ vs) : (L2.wipe σ vs)[i]? = σ[i]? := by rw [wipe_get, if_neg hm]
theorem Rel.wipe (R : Rel K H σ ρ) (vs : List Nat) : Rel K H (L2.wipe σ vs) (wipes ρ vs) := by
  refine ⟨fun i d h => ?_, fun i d h => ?_, fun i j d e p q b hij h1 h2 h3 h4 => ?_, by rw [wipes_length, wipe_length]; exact R.len, R.tb, fun i h => by
    rw [wipes_get] at h
    split at h
    · split at h <;> cases h
    · rename_i hm
      rw [wipe_get, if_neg hm]
      exact R.fv i h⟩
  · rw [wipes_get] at h
    split at h
    · split at h <;> cases h
    · rename_i hm
      obtain ⟨v, a, z⟩ := R.da i d h
      exact ⟨v, by rw [wipe_get, if_neg hm]; exact a, z⟩
  · obtain ⟨hm, h⟩ := wipes_ow h
    obtain ⟨v, a, z⟩ := R.ow i d h
    exact ⟨v, by rw [wipe_get, if_neg hm]; exact a, z⟩
  · obtain ⟨m1, h1⟩ := wipes_ow h1
    obtain ⟨m2, h2⟩ := wipes_ow h2
    rw [wipe_at m1] at h3
    rw [wipe_at m2] at h4
    exact R.ne i j d e p q b hij h1 h2 h3 h4
theorem OwnedAt.wiped {i : Nat} {b : Addr} (h : OwnedAt H (L2.wipe σ vs) (wipes ρ vs) i b) : OwnedAt H σ ρ i b := by
  obtain ⟨d, p, h1, h2, f⟩ := h
  obtain ⟨hm, h1⟩ := wipes_ow h1
  rw [wipe_at hm] at h2
  exact ⟨d, p, h1, h2, f⟩
theorem Owned.wiped {b : Addr} (h : Owned H (L2.wipe σ vs) (wipes ρ vs) b) : Owned H σ ρ b := let ⟨i, w⟩ := h; ⟨i, w.wiped⟩
/-- the outer slots again, behind a block -/
theorem rel_restore {ρe : Ev} (R : Rel K H σ ρ) (R' : Rel K H' (L2.wipe σ vs) (wipes ρe vs)) (s : Sk (wipes ρ vs) (wipes ρe vs)) (k : Keep (L2.wipe σ vs) (wipes ρ vs) H (wipes ρe vs) H') :
    Rel K H' σ (restore ρ ρe vs) ∧ Sk ρ (restore ρ ρe vs) ∧ Keep σ ρ H (restore ρ ρe vs) H' := by
  have hlen : ρe.length = ρ.length := by
    have := s.len
    rwa [wipes_length, wipes_length] at this
  have sk : Sk ρ (restore ρ ρe vs) := by
    unfold Sk
    apply List.ext_getElem?
    intro i
    rw [List.getElem?_map, List.getElem?_map, restore_get, hlen]
    by_cases hm : i ∈ vs
    · rw [if_pos hm]
      by_cases hl : i < ρ.length
      · rw [if_pos hl, List.getD_eq_getElem?_getD, List.getElem?_eq_getElem hl]; rfl
      · rw [if_neg hl, List.getElem?_eq_none (by omega)]
    · rw [if_neg hm]
      have := s.at i
      rwa [wipes_get, wipes_get, if_neg hm, if_neg hm] at this
  have per : Per H H' := k.per (R.wipe vs)
  have back : ∀ (i : Nat) (x : Slot), i ∈ vs → (restore ρ ρe vs)[i]? = some x → ρ[i]? = some x := fun i x hm h => by
    rw [restore_get, if_pos hm, hlen] at h
    by_cases hl : i < ρ.length
    · rw [if_pos hl, List.getD_eq_getElem?_getD, List.getElem?_eq_getElem hl] at h
      rw [List.getElem?_eq_getElem hl]
      exact h
    · rw [if_neg hl] at h
      cases h
  have on : ∀ (i : Nat) (x : Slot), i ∉ vs → (restore ρ ρe vs)[i]? = some x → ρe[i]? = some x := fun i x hm h => by
    rwa [restore_get, if_neg hm] at h
  -- a block's own slot stood still within it
  have still : ∀ {i : Nat} {d : D} {p b : Addr}, i ∈ vs → ρ[i]? = some (.ow d) → σ[i]? = some (some (.ref p)) → Foot H p d b → H' b = H b := fun {i d p b} hm h0 hp f => by
    obtain ⟨q, a, z⟩ := R.ow i d h0
    rw [hp] at a; cases a
    obtain ⟨u, hu, c⟩ := z.feet f
    refine (k.keep b u hu (fun w => ?_) (fun ps e => by subst e; cases c)).trans hu.symm
    obtain ⟨j, e, q, h1, h2, f2⟩ := w
    obtain ⟨hj, h1⟩ := wipes_ow h1
    rw [wipe_at hj] at h2
    exact R.ne i j d e p q b (fun q => hj (by rw [← q]; exact hm)) h0 h1 hp h2 f f2
  have slotO : ∀ {i : Nat} {d : D}, i ∉ vs → (restore ρ ρe vs)[i]? = some (.ow d) → (wipes ρe vs)[i]? = some (.ow d) := fun {i d} hm h => by rw [wipes_get, if_neg hm]; exact on i _ hm h
  -- whose it is
  have ownA : ∀ {i : Nat} {b : Addr}, OwnedAt H' σ (restore ρ ρe vs) i b → OwnedAt H σ ρ i b ∨ H b = none := fun {i b} ⟨d, p, h1, h2, f⟩ => by
    by_cases hm : i ∈ vs
    · have h0 := back i _ hm h1
      exact .inl ⟨d, p, h0, h2, (Foot.iff (still hm h0 h2 (Foot.self ..))).mp f⟩
    · rcases k.own i b ⟨d, p, slotO hm h1, by rw [wipe_at hm]; exact h2, f⟩ with w | w
      · exact .inl w.wiped
      · exact .inr w
  refine ⟨⟨fun i d h => ?_, fun i d h => ?_, fun i j d e p q b hij h1 h2 h3 h4 f1 f2 => ?_, sk.len.trans R.len, R'.tb, fun i h => by
    by_cases hm : i ∈ vs
    · obtain ⟨a, z⟩ := R.fv i (back i _ hm h)
      exact ⟨a, z.trans per⟩
    · obtain ⟨a, z⟩ := R'.fv i (by rw [wipes_get, if_neg hm]; exact on i _ hm h)
      rw [wipe_get, if_neg hm] at a
      exact ⟨a, z⟩⟩, sk, ⟨fun b o h n t => k.keep b o h (fun w => n w.wiped) t, fun i b w => ownA w, k.alive, k.tabs⟩⟩
  · by_cases hm : i ∈ vs
    · obtain ⟨v, a, z⟩ := R.da i d (back i _ hm h)
      exact ⟨v, a, z.per per⟩
    · obtain ⟨v, a, z⟩ := R'.da i d (by rw [wipes_get, if_neg hm]; exact on i _ hm h)
      rw [wipe_get, if_neg hm] at a
      exact ⟨v, a, z⟩
  · by_cases hm : i ∈ vs
    · have h0 := back i _ hm h
      obtain ⟨p, a, z⟩ := R.ow i d h0
      exact ⟨p, a, z.keep (fun b f => still hm h0 a f) per⟩
    · obtain ⟨p, a, z⟩ := R'.ow i d (slotO hm h)
      rw [wipe_get, if_neg hm] at a
      exact ⟨p, a, z⟩
  · have mix : ∀ {i j : Nat} {d e : D} {p q : Addr}, i ≠ j → i ∈ vs → j ∉ vs → (restore ρ ρe vs)[i]? = some (.ow d) → (restore ρ ρe vs)[j]? = some (.ow e) → σ[i]? = some (some (.ref p)) → σ[j]? = some (some (.ref q)) → Foot H' p d b → Foot H' q e b → False := fun {i j d e p q} hij hi hj h1 h2 h3 h4 f1 f2 => by
      have h0 := back i _ hi h1
      have f1 := (Foot.iff (still hi h0 h3 (Foot.self ..))).mp f1
      rcases k.own j b ⟨e, q, slotO hj h2, by rw [wipe_at hj]; exact h4, f2⟩ with w | w
      · obtain ⟨e', q', w1, w2, w3⟩ := w.wiped
        exact R.ne i j d e' p q' b hij h0 w1 h3 w2 f1 w3
      · obtain ⟨p', a, z⟩ := R.ow i d h0
        rw [h3] at a; cases a
        obtain ⟨u, hu, _⟩ := z.feet f1
        rw [w] at hu; cases hu
    by_cases hi : i ∈ vs
    · by_cases hj : j ∈ vs
      · have i0 := back i _ hi h1
        have j0 := back j _ hj h2
        exact R.ne i j d e p q b hij i0 j0 h3 h4 ((Foot.iff (still hi i0 h3 (Foot.self ..))).mp f1) ((Foot.iff (still hj j0 h4 (Foot.self ..))).mp f2)
      · exact mix hij hi hj h1 h2 h3 h4 f1 f2
    · by_cases hj : j ∈ vs
      · exact mix (fun e => hij e.symm) hj hi h2 h1 h4 h3 f2 f1
      · exact R'.ne i j d e p q b hij (slotO hi h1) (slotO hj h2) (by rw [wipe_at hi]; exact h3) (by rw [wipe_at hj]; exact h4) f1 f2

/-! ### targets -/
def gNames : List Nat → TGs
  | [] => gNil
  | i :: is => gCons (gName i) (gNames is)
def gTg (K : PySem.W.Frag) : Tg → TG
  | .v i => gName i
  | .tp is => gTup K is.length (gNames is)
theorem setDa_spec {i : Nat} {d : D} (h : setDa ρ i d = some ρ') : ρ' = ρ.set i (.da d) ∧ i < ρ.length ∧ ∀ e, ρ[i]? ≠ some (.ow e) := by
  unfold setDa at h
  split at h
  · cases h
  · rename_i x n hx
    cases h
    exact ⟨rfl, (List.getElem?_eq_some_iff.mp hx).1, fun e q => n e (by rw [hx] at q; exact Option.some.inj q)⟩
  · cases h
theorem Rel.set_da {i : Nat} {d : D} {v : V} (R : Rel K H σ ρ) (h : setDa ρ i d = some ρ') (z : Rz K H v d) : Rel K H (σ.set i (some v)) ρ' ∧ (∀ H' j b, OwnedAt H' (σ.set i (some v)) ρ' j b → OwnedAt H' σ ρ j b) := by
  obtain ⟨rfl, l, n⟩ := setDa_spec h
  have at_ : ∀ j e, (ρ.set i (.da d))[j]? = some (.ow e) → j ≠ i ∧ ρ[j]? = some (.ow e) := fun j e q => by
    by_cases hj : i = j
    · subst hj
      rw [List.getElem?_set_self l] at q; cases q
    · rw [List.getElem?_set_ne hj] at q
      exact ⟨fun e => hj e.symm, q⟩
  refine ⟨⟨fun j e q => ?_, fun j e q => ?_, fun j k e f p r b hjk h1 h2 h3 h4 => ?_, by rw [List.length_set, List.length_set]; exact R.len, R.tb, fun j h => by
    by_cases hj : i = j
    · subst hj
      rw [List.getElem?_set_self l] at h; cases h
    · rw [List.getElem?_set_ne hj] at h
      rw [List.getElem?_set_ne hj]
      exact R.fv j h⟩, fun H' j b w => ?_⟩
  · by_cases hj : i = j
    · subst hj
      rw [List.getElem?_set_self l] at q; cases q
      exact ⟨v, List.getElem?_set_self (by rw [← R.len]; exact l), z⟩
    · rw [List.getElem?_set_ne hj] at q
      obtain ⟨v', a, z'⟩ := R.da j e q
      exact ⟨v', by rw [List.getElem?_set_ne hj]; exact a, z'⟩
  · obtain ⟨hj, q⟩ := at_ j e q
    obtain ⟨p, a, o⟩ := R.ow j e q
    exact ⟨p, by rw [List.getElem?_set_ne (Ne.symm hj)]; exact a, o⟩
  · obtain ⟨n1, h1⟩ := at_ j e h1
    obtain ⟨n2, h2⟩ := at_ k f h2
    rw [List.getElem?_set_ne (Ne.symm n1)] at h3
    rw [List.getElem?_set_ne (Ne.symm n2)] at h4
    exact R.ne j k e f p r b hjk h1 h2 h3 h4
  · obtain ⟨e, p, h1, h2, f⟩ := w
    obtain ⟨n1, h1⟩ := at_ j e h1
    rw [List.getElem?_set_ne (Ne.symm n1)] at h2
    exact ⟨e, p, h1, h2, f⟩
theorem setDas_ok : ∀ {is : List Nat} {ds : List D} {xs : List V} {σ : St} {ρ ρ' : Ev} {Q : St → Hp → Prop}, Rel K H σ ρ → setDas ρ is ds = some ρ' → RzAll K H xs ds → (∀ i ∈ is, i ∈ vs) →
    (∀ σ', Rel K H σ' ρ' → (∀ H' j b, OwnedAt H' σ' ρ' j b → OwnedAt H' σ ρ j b) → L2.wipe σ' vs = L2.wipe σ vs → Q σ' H) → xs.length = is.length ∧ gNames is xs σ H Q
  | [], [], _, _, _, _, _, R, e, .nil, _, q => by
    cases e
    exact ⟨rfl, rfl, q _ R (fun _ _ _ h => h) rfl⟩
  | [], _ :: _, _, _, _, _, _, _, e, _, _, _ => by cases e
  | i :: is, d :: ds, _, σ, ρ, ρ', Q, R, e, .cons (v := v) (vs := xs) z r, hm, q => by
    unfold setDas at e
    obtain ⟨ρ1, e1, e2⟩ := Option.bind_eq_some_iff.mp e
    obtain ⟨R1, o1⟩ := R.set_da e1 z
    obtain ⟨rfl, l, _⟩ := setDa_spec e1
    have step := setDas_ok (Q := Q) R1 e2 r (fun j hj => hm j (List.mem_cons_of_mem _ hj)) fun σ' a c d' => q σ' a (fun H' j b' w => o1 H' j b' (c H' j b' w)) (by rw [d', wipe_set (hm i List.mem_cons_self)])
    exact ⟨by rw [List.length_cons, List.length_cons, step.1], v, xs, rfl, step.2⟩
  | _ :: _, [], _, _, _, _, _, _, e, _, _, _ => by cases e
theorem bindT_ok {tg : Tg} {d : D} {x : V} {Q : St → Hp → Prop} (R : Rel K H σ ρ) (e : bindT tg d ρ = some ρ') (z : Rz K H x d) (hm : ∀ i, (match tg with | .v j => i = j | .tp is => i ∈ is) → i ∈ vs)
    (q : ∀ σ', Rel K H σ' ρ' → (∀ H' j b, OwnedAt H' σ' ρ' j b → OwnedAt H' σ ρ j b) → L2.wipe σ' vs = L2.wipe σ vs → Q σ' H) : gTg K tg x σ H Q := by
  cases tg with
  | v i =>
    have e : setDa ρ i d = some ρ' := e
    obtain ⟨R1, o1⟩ := R.set_da e z
    obtain ⟨rfl, l, _⟩ := setDa_spec e
    exact q _ R1 o1 (wipe_set (hm i rfl))
  | tp is =>
    cases d with
    | tuple ds =>
      have e : setDas ρ is ds = some ρ' := e
      cases z with
      | tup s r =>
        obtain ⟨h1, h2⟩ := setDas_ok (vs := vs) R e r (fun i hi => hm i hi) q
        exact ⟨_, _, rfl, s, h1, h2⟩
    | _ => cases e
end
end Mp
/-! enumerate over a tuple -/
namespace PySem
open PyProof.Rows hiding St
section
variable {prog : Program} {w : World} {A : Around} {E : Value → Shared → Prop} {s : Shared}
/-- the iterator below, and the enumerate object above it -/
abbrev enT1 (t : Addr) : Obj := { cls := .type "tuple_iterator", data := .fields #[.ref t, .int 0 0] }
abbrev enT2 (i : Addr) : Obj := { cls := .type "enumerate", data := .fields #[.none, .bool false, .ref i, rawInt 0, .none, .none] }
theorem enT_new (t : Addr) (its : Array Value) (n : Nat) (dc : Option Addr) (sl : Array (Option Value)) :
    Meets (Builtin.«enumerate.__new__» ⟨[.type "enumerate", .ref t], []⟩) (fun _ R s => s.heap.get? t = some { cls := .type "tuple", dict := dc, data := .seq its n, slots := sl } ∧
      R (.ok (.ret (.ref (s.heap.push (enT1 t)).objs.size))) { s with heap := (s.heap.push (enT1 t)).push (enT2 s.heap.objs.size) }) := by
  refine .of_wp ?_
  intro prog w A R s h
  have hsub := sub_enumerate
  cases s with
  | mk hp g d tk os =>
  obtain ⟨ht, h⟩ := h
  have hT : Heap.IsTuple (Shared.heap ⟨hp, g, d, tk, os⟩) t its := ⟨_, ht, rfl, n, rfl⟩
  wp_walk using AutoSeq1.wpAny_loadPart' ht
  refine wpAny_stack_any fun _ => wpAny_pure ?_
  split
  · rename_i c _ _ _ _ _
    cases (c == Value.type "enumerate") <;> (wp_walk using AutoSeq1.wpAny_loadPart' ht, wpAny_pyIter_tuple hT; exact ⟨_, rfl, h⟩)
  · wp_walk using AutoSeq1.wpAny_loadPart' ht, wpAny_pyIter_tuple hT
    exact ⟨_, rfl, h⟩
theorem call_enT {t : Addr} {its : Array Value} {Q : Value → Shared → Prop} (hT : s.heap.IsTuple t its)
    (h : ∀ h', IsEnum h' (s.heap.objs.size + 1) s.heap.objs.size 0 .none → h'.IsTupleIter s.heap.objs.size t 0 → (∀ b o, s.heap.get? b = some o → h'.get? b = some o) → Q (.ref (s.heap.objs.size + 1)) { s with heap := h' }) :
    wpAny (model prog w) A (call (.type "enumerate") [.ref t]) Q E s := by
  obtain ⟨ob, ht, hc, n, hd⟩ := hT
  cases ob with
  | mk c dc dt sl =>
  cases hc
  cases hd
  have hz : (s.heap.push (enT1 t)).objs.size = s.heap.objs.size + 1 := Heap.size_push ..
  refine callType_new F.called_enumerate (by decide) (F.typeCall_enumerate_1 _) (F.newCall_enumerate_1 _) (fun obj => F.args_object_init_2 obj _) F.entry_enumerate_new (enT_new t its n dc sl) ⟨ht, ?_⟩
  show _ ∧ _
  rw [hz]
  have e2 : ((s.heap.push (enT1 t)).push (enT2 s.heap.objs.size)).get? (s.heap.objs.size + 1) = some (enT2 s.heap.objs.size) := by
    rw [← hz]
    exact Heap.get?_push_size _ rfl
  have e1 : ((s.heap.push (enT1 t)).push (enT2 s.heap.objs.size)).get? s.heap.objs.size = some (enT1 t) := Heap.get?_push_of_some _ (Heap.get?_push_size _ rfl)
  exact ⟨⟨_, e2, rfl⟩, h _ e2 ⟨_, e1, rfl, rfl⟩ fun b o e => Heap.get?_push_of_some _ (Heap.get?_push_of_some _ e)⟩
end
end PySem
namespace Mp
open PySem PySem.Spec L2 LamX
open PyProof.Rows hiding St
/-- the tuple at a, turn by turn, each item in a new pair -/
def IteT (K : PySem.W.Frag) (a : Addr) : It :=
  ⟨fun i H => ∃ (xs : List V) (x : V), SqT K H a xs ∧ xs[i]? = some x, fun i H v H' => ∃ T x, v = .ref T ∧ H T = none ∧ H' = upd H T (.tup [.int (i : Nat), x]) ∧ ∀ xs, SqT K H a xs → xs[i]? = some x, fun i H => ∃ xs : List V, SqT K H a xs ∧ xs.length ≤ i⟩
theorem turn_enT {P : Program} {w : World} {K : PySem.W.Frag} {elts : List Expr} {kk : Nat} {tpos : Pos} (a e it : Addr) :
    Turn P w K (.Tuple elts kk tpos) (IteT K a) [e, it] e (fun i h => (∃ old, IsEnum h e it ((i : Nat) : Int) old) ∧ h.IsTupleIter it a i ∧ e ≠ it) where
  mem := List.mem_cons_self
  self := fun A i s Q E ⟨⟨_, h1⟩, _⟩ h => wpAny_pyIter_enum h1 h
  keep := fun i h h' ⟨⟨old, h1⟩, h2, h3⟩ k => ⟨⟨old, k e List.mem_cons_self _ h1⟩, h2.at fun o q => k it (by simp) o q, h3⟩
  obj := fun i h ⟨⟨old, h1⟩, ⟨o, ho, _, hd⟩, _⟩ b hb => by
    rcases List.mem_cons.mp hb with z | z
    · subst z; exact ⟨_, h1, fun v q => nomatch q⟩
    · rw [List.mem_singleton.mp z]; exact ⟨o, ho, fun v q => by rw [hd] at q; cases q⟩
  item := by
    intro X hP hw hK hc i pins s σ H E I hf st hg
    subst hP hw hK
    obtain ⟨⟨old, h1⟩, h2, h3⟩ := st
    obtain ⟨xs, x, hq, hx⟩ := hg
    obtain ⟨its, rv, p, hz⟩ := I.tuple hq
    obtain ⟨u, hu, ru⟩ := rv.get hx
    have hT : s.heap.IsTuple a its.toArray := p
    have nai : a ≠ it := fun z => by
      obtain ⟨o, ho, oc, _⟩ := hT
      obtain ⟨o', ho', oc', _⟩ := h2
      rw [z, ho'] at ho; cases ho
      rw [oc'] at oc
      injection oc with q
      exact absurd q (by decide)
    have nae : e ∉ [it, a] := fun z => by
      rcases List.mem_cons.mp z with z | z
      · exact h3 z
      · obtain ⟨o, ho, oc, _⟩ := hT
        rw [← List.mem_singleton.mp z, h1] at ho; cases ho
        injection oc with q
        exact absurd q (by decide)
    have hel : e < s.heap.objs.size := Heap.lt_size h1
    have hil : it < s.heap.objs.size := let ⟨_, q, _⟩ := h2; Heap.lt_size q
    have hlt : i < its.toArray.size := by
      have := (List.getElem?_eq_some_iff.mp hu).1
      simpa using this
    refine wpAny_pyNext_enum_itemD (Draws.tuple (prog := X.prog) (w := X.w) (A := X.A.in1) (I.ok.hd hc) it a nai its.toArray) h1 ⟨h2, hT⟩ hlt h3 nae fun y h' tk hy ho hst hN hsz hk => ?_
    have hy' : its[i]? = some y := by simpa using hy
    rw [hu] at hy'
    cases hy'
    refine ⟨_, rfl, wpAny_letOwnedTupleGo_enum (s := { s with heap := h', toks := tk + 1 }) ho fun h'' he' sb => ?_⟩
    have hT2 : h''.get? s.heap.objs.size = some { cls := .type "tuple", data := .seq #[.int i tk, u] } := (sb.2 _ (Nat.ne_of_gt hel)).trans hN
    have new : ObjOk X.prog X.w (upd H s.heap.objs.size (.tup [.int (i : Nat), x])) h'' s.heap.objs.size (.tup [.int (i : Nat), x]) :=
      ⟨by show 2 ≤ sizeLine; decide, [.int i tk, u], .cons ⟨_, rfl⟩ (.cons ru .nil), ⟨_, hT2, rfl, _, rfl⟩⟩
    have I1 : L2.Inv X pins σ (upd H s.heap.objs.size (.tup [.int (i : Nat), x])) { s with heap := h'', toks := tk + 1 } :=
      I.turnedNew (ch := [e, it]) (fun b ob hb q => by
        have n1 : b ≠ e := fun z => hb (by simp [z])
        have n2 : b ≠ it := fun z => hb (by simp [z])
        exact (sb.2 b n1).trans (hk b ob n1 n2 q)) hf (Nat.le_refl _) new
    refine ⟨.ref s.heap.objs.size, _, I1, rfl, ⟨_, x, rfl, I.hok.fresh (Nat.le_refl _), rfl, fun ys hy => by rw [I.tuple_inj hy hq]; exact hx⟩, ⟨⟨u, ?_⟩, hst.1.at fun o q => (sb.2 it (Ne.symm h3)).trans q, h3⟩, fun b hb => ?_⟩
    · rw [show ((i + 1 : Nat) : Int) = (i : Int) + 1 by omega]
      exact he'
    · have hb' : b < s.heap.objs.size := by
        rcases List.mem_cons.mp hb with z | z
        · rw [z]; exact hel
        · rw [List.mem_singleton.mp z]; exact hil
      rw [upd_ne (Nat.ne_of_lt hb')]
      exact (hf b hb).1
  done := by
    intro X hP hw hK hc i pins s σ H E I hf st hg
    subst hP hw hK
    obtain ⟨⟨old, h1⟩, h2, h3⟩ := st
    obtain ⟨xs, hq, hx⟩ := hg
    obtain ⟨its, rv, p, hz⟩ := I.tuple hq
    have hT : s.heap.IsTuple a its.toArray := p
    have nai : a ≠ it := fun z => by
      obtain ⟨o, ho, oc, _⟩ := hT
      obtain ⟨o', ho', oc', _⟩ := h2
      rw [z, ho'] at ho; cases ho
      rw [oc'] at oc
      injection oc with q
      exact absurd q (by decide)
    obtain ⟨f0, f1, f2, f3, f4, f5⟩ := hf it (by simp)
    have hl := rv.length
    unfold pyNext
    refine wpAny_bind (wpAny_attempt (wpAny_callSpecial?_slot (name := Str.ofString "__next__") (T := "enumerate") ⟨_, h1, rfl⟩ F.slot_enumerate_next
      (wpAny_call_entry F.slot_enumerate_next (T := "enumerate") ⟨_, h1, rfl⟩ F.entry_enumerate_next ?_ (F.args_enumerate_next_1 _))))
    show wpAny _ _ (field (.ref e) 2 >>= _) _ _ _
    refine wpAny_bind (wpAny_field h1 rfl (x := .ref it) rfl ?_)
    refine wpAny_bind (wpAny_nextOf_tuple_end (I.ok.hd hc) h2 hT (by simp; omega) fun h' y eb hy => ?_)
    obtain ⟨o, ho, hoc⟩ := hy
    refine wpAny_bind (wpAny_isInstance (T := "StopIteration") (b := true) ⟨o, ho, hoc⟩ isSubtype_stop ?_)
    exact wpAny_pure ⟨rfl, I.turned (t' := s.toks) (fun b o hb q => eb b o hb q) f0 f1 f3 f4 f5⟩
def iEnT (K : PySem.W.Frag) (ta : TA) : TI := fun σ H R => ta σ H fun vs H1 => (∃ a xs, vs = [.ref a] ∧ SqL K H1 a xs ∧ R (Ite K a) H1) ∨ ∃ a xs, vs = [.ref a] ∧ SqT K H1 a xs ∧ R (IteT K a) H1
theorem pi_enT {X : Cx} {e : Expr} {ta : TA} {p pos tpos : Pos} {elts : List Expr} {kk : Nat} (hg : Gl X "enumerate") (hm : X.mg "enumerate" = none) (ha : PA X [e] ta) (hs : starEach [e] X.env = [(false, eval e X.env)]) :
    PI X (.Tuple elts kk tpos) (.Call (.Name "enumerate" p) [e] [] pos) (iEnT X.K ta) := by
  refine ⟨fun pins s σ H R I h => Call_ (ld_blt I hg hm boot_enumerate (PyProof.Rows.callWith_type1 (thn (ha.run pos pins s σ H _ I h) fun us s1 ⟨vs, H1, I1, r1, q1⟩ => ?_) hs rfl))⟩
  have far : ∀ b ∈ [s1.heap.objs.size + 1, s1.heap.objs.size], FpOk X pins H1 b := fun b hb => by
    have hle : s1.heap.objs.size ≤ b := by
      rcases List.mem_cons.mp hb with z | z
      · rw [z]; exact Nat.le_succ _
      · rw [List.mem_singleton.mp z]; exact Nat.le_refl _
    exact I1.fpOk hle (I1.hok.fresh hle)
  rcases q1 with ⟨a, xs, rfl, hq, q⟩ | ⟨a, xs, rfl, hq, q⟩
  · obtain ⟨u, rfl, ru⟩ : ∃ u, us = [u] ∧ RelV (V.ref a) u := by
      cases r1 with
      | cons ru rn => cases rn; exact ⟨_, rfl, ru⟩
    cases ru
    obtain ⟨its, rv, p', hz⟩ := I1.list hq
    exact call_enumerate_list p'.isList fun h' he hit hsz hk => wpAny_pyIter_enum he ⟨_, _, _, _, H1, rfl, I1.kept (t' := s1.toks) hk, turn_enum a (s1.heap.objs.size + 1) s1.heap.objs.size, ⟨⟨.none, he⟩, hit, Nat.succ_ne_self _⟩, far, q⟩
  · obtain ⟨u, rfl, ru⟩ : ∃ u, us = [u] ∧ RelV (V.ref a) u := by
      cases r1 with
      | cons ru rn => cases rn; exact ⟨_, rfl, ru⟩
    cases ru
    obtain ⟨its, rv, p', hz⟩ := I1.tuple hq
    exact call_enT p' fun h' he hit hk => wpAny_pyIter_enum he ⟨_, _, _, _, H1, rfl, I1.kept (t' := s1.toks) hk, turn_enT a (s1.heap.objs.size + 1) s1.heap.objs.size, ⟨⟨.none, he⟩, hit, Nat.succ_ne_self _⟩, far, q⟩
end Mp
namespace Mp
open PySem PySem.Spec L2 LamX
open PyProof.Rows hiding St
variable [LamT]

/-! ### what is walked -/
inductive ItRel (K : PySem.W.Frag) (H : Hp) : It → List D → Prop
  | lst {a : Addr} {xs : List V} {ds : List D} : FzL K H a xs → RzAll K H xs ds → ItRel K H (Itl K a) ds
  | tup {a : Addr} {xs : List V} {ds : List D} : SqT K H a xs → RzAll K H xs ds → ItRel K H (Itt K a) ds
  | rng {lo : Int} {n : Nat} : ItRel K H (Itr lo n) (rngD lo n)
  | str {x : Str} : ItRel K H (Its x) (signsD x)
  | keys {d : Addr} {o : Obj} {ks : List (Key × V)} {ds : List (D × D)} : H d = some (.frz o (.dK ks)) → RzKv K H ks ds → ItRel K H (Itk d o ks) (ds.map (·.1))
/-- an enumerate -/
inductive ItEn (K : PySem.W.Frag) (H : Hp) : It → List D → Prop
  | lst {a : Addr} {xs : List V} {ds : List D} : FzL K H a xs → RzAll K H xs ds → ItEn K H (Ite K a) (enumD ds)
  | tup {a : Addr} {xs : List V} {ds : List D} : SqT K H a xs → RzAll K H xs ds → ItEn K H (IteT K a) (enumD ds)
def tIv (T : CT) (K : PySem.W.Frag) (it : MI) : TI := fun σ H R => ∃ ρ ds ρ', Rel K H σ ρ ∧ evi T it ρ = some (ds, ρ') ∧
  ∀ J H', Keep σ ρ H ρ' H' → Sk ρ ρ' → Rel K H' σ ρ' → (ItRel K H' J ds ∨ (isEn it = true ∧ ItEn K H' J ds)) → ds.length ≤ sizeLine → R J H'
/-- no list, no tuple is longer than the line -/
def Lens (K : PySem.W.Frag) (H : Hp) : Prop := ∀ a xs, (SqL K H a xs ∨ SqT K H a xs) → xs.length ≤ sizeLine
section
variable {X : Cx} {T : CT} {bl : List Str}
theorem PE.lens {e : Expr} {t : TE} (h : PE X e t) : PE X e (fun σ H Q => t σ H fun v H' => Lens X.K H' → Q v H') := by
  refine ⟨fun pins s σ H Q I q => thn (h.run pins s σ H _ I q) fun u s' h => ?_⟩
  obtain ⟨v, H', I', r, q⟩ := h
  refine ⟨v, H', I', r, q fun a xs hs => ?_⟩
  rcases hs with hs | hs
  · obtain ⟨_, _, _, z⟩ := I'.list hs
    exact z
  · obtain ⟨_, _, _, z⟩ := I'.tuple hs
    exact z
theorem PI.imp {tg iter : Expr} {w w' : TI} (h : PI X tg iter w) (i : ∀ σ H R, w' σ H R → w σ H R) : PI X tg iter w' := ⟨fun pins s σ H R I q => h.run pins s σ H R I (i σ H R q)⟩
theorem signsD_len (x : Str) : (signsD x).length = x.cps.size := by simp [signsD]
theorem RzKv.length {K : PySem.W.Frag} {H : Hp} : ∀ {ks : List (Key × V)} {ds : List (D × D)}, RzKv K H ks ds → ks.length = ds.length
  | _, _, .nil => rfl
  | _, _, .cons _ r => congrArg Nat.succ r.length
theorem RzKv.get' {K : PySem.W.Frag} {H : Hp} : ∀ {ks : List (Key × V)} {ds : List (D × D)} {i : Nat} {k : Key} {v : V}, RzKv K H ks ds → ks[i]? = some (k, v) → ∃ d, ds[i]? = some (keyD k, d) ∧ Rz K H v d
  | _, _, _, _, _, .nil, e => by simp at e
  | _, _, 0, _, _, .cons h _, e => by
    simp at e
    obtain ⟨rfl, rfl⟩ := e
    exact ⟨_, rfl, h⟩
  | _, _, i + 1, _, _, .cons _ r, e => by
    obtain ⟨d, h1, h2⟩ := r.get' (i := i) (by simpa using e)
    exact ⟨d, by simpa using h1, h2⟩
theorem rz_key {K : PySem.W.Frag} {H : Hp} (k : Key) : Rz K H (kV k) (keyD k) := by
  cases k with
  | inl i => exact .int i
  | inr x => exact .str x
theorem PE.lenK {e : Expr} {t : TE} (h : PE X e t) : PE X e (fun σ H Q => t σ H fun v H' => (∀ d o ks, H' d = some (.frz o (.dK ks)) → ks.length ≤ sizeLine) → Q v H') := by
  refine ⟨fun pins s σ H Q I q => thn (h.run pins s σ H _ I q) fun u s' h => ?_⟩
  obtain ⟨v, H', I', r, q⟩ := h
  exact ⟨v, H', I', r, q fun d o ks hd => (I'.hok d _ hd).2.1⟩
theorem pi_seq {tg e : Expr} {m : ME} (h : PE X e (tEv T X.K m)) : PI X tg e (tIv T X.K (.seq m)) := by
  refine ⟨fun pins s σ H R I q => ?_⟩
  obtain ⟨ρ, ds, ρ', Rl, ee, q⟩ := q
  unfold evi at ee
  obtain ⟨⟨d, ρ1⟩, e1, e2⟩ := Option.bind_eq_some_iff.mp ee
  cases d with
  | list xs =>
    cases e2
    exact (pi_list (PE.lens h)).run pins s σ H R I ⟨ρ, _, ρ', Rl, e1, fun v H' k s R' z ln => by
      cases z with
      | lst hs ha => exact ⟨_, rfl, ⟨_, hs.sq⟩, q _ H' k s R' (.inl (.lst hs ha)) (by rw [← ha.length]; exact ln _ _ (.inl hs.sq))⟩⟩
  | tuple xs =>
    cases e2
    exact (pi_tup (PE.lens h)).run pins s σ H R I ⟨ρ, _, ρ', Rl, e1, fun v H' k s R' z ln => by
      cases z with
      | tup hs ha => exact ⟨_, rfl, ⟨_, hs⟩, q _ H' k s R' (.inl (.tup hs ha)) (by rw [← ha.length]; exact ln _ _ (.inr hs))⟩⟩
  | str x =>
    simp only at e2
    split at e2
    · rename_i hz
      cases e2
      exact (pi_str h).run pins s σ H R I ⟨ρ, _, ρ', Rl, e1, fun v H' k s R' z => by
        cases z
        exact ⟨x, rfl, q _ H' k s R' (.inl .str) (by rw [signsD_len]; exact hz)⟩⟩
    · cases e2
  | dict ks =>
    simp only at e2
    split at e2
    · cases e2
    rename_i nob
    cases e2
    exact (pi_keys (PE.lenK h)).run pins s σ H R I ⟨ρ, _, ρ', Rl, e1, fun v H' k s R' z ln => by
      cases z with
      | obj _ _ _ => exact absurd isMK_mk nob
      | dct hd hr => exact ⟨_, _, rfl, .inl ⟨_, hd, q _ H' k s R' (.inl (.keys hd hr)) (by rw [List.length_map, ← hr.length]; exact ln _ _ _ hd)⟩⟩⟩
  | _ => cases e2
theorem line62 : (sizeLine : Int) < 2 ^ 62 := by rw [sizeLine_eq]; decide
theorem rngD_length (lo : Int) (n : Nat) : (rngD lo n).length = n := by simp [rngD]
theorem pi_rng1 {tg e : Expr} {m : ME} {x : Str} {p pos : Pos} (G : Gd X T bl) (hx : glB X.env.scope bl x "range" = true) (n : notStar e = true) (h : PE X e (tEv T X.K m)) : PI X tg (.Call (.Name x p) [e] [] pos) (tIv T X.K (.rng1 m)) := by
  obtain ⟨rfl, hx⟩ := glB_self hx
  simp only [glB, Bool.and_eq_true, decide_eq_true_eq, Bool.not_eq_true'] at hx
  obtain ⟨⟨⟨⟨_, q1⟩, q2⟩, q3⟩, q4⟩ := hx
  refine PI.imp (pi_range1 q1 (G.blt _ q2) (pa_cons h pa_nil (star_off n)) (star_off n)) fun σ H R q => ?_
  obtain ⟨ρ, ds, ρ', Rl, ee, q⟩ := q
  unfold evi at ee
  obtain ⟨⟨d, ρ1⟩, e1, e2⟩ := Option.bind_eq_some_iff.mp ee
  cases d with
  | int k =>
    simp only at e2
    split at e2
    · rename_i hk
      cases e2
      have hl := line62
      refine ⟨ρ, _, ρ', Rl, e1, fun v H' kp s R' z => ?_⟩
      cases z
      exact ⟨k, rfl, by omega, by omega, q _ H' kp s R' (.inl .rng) (by rw [rngD_length]; omega)⟩
    · cases e2
  | _ => cases e2
theorem pi_rng2 {tg e e' : Expr} {m m' : ME} {x : Str} {p pos : Pos} (G : Gd X T bl) (hx : glB X.env.scope bl x "range" = true) (n : notStar e = true) (n' : notStar e' = true) (h : PE X e (tEv T X.K m)) (h' : PE X e' (tEv T X.K m')) :
    PI X tg (.Call (.Name x p) [e, e'] [] pos) (tIv T X.K (.rng2 m m')) := by
  obtain ⟨rfl, hx⟩ := glB_self hx
  simp only [glB, Bool.and_eq_true, decide_eq_true_eq, Bool.not_eq_true'] at hx
  obtain ⟨⟨⟨⟨_, q1⟩, q2⟩, q3⟩, q4⟩ := hx
  have st2 : starEach [e, e'] X.env = [(false, eval e X.env), (false, eval e' X.env)] := by rw [star_off n, star_off n']; rfl
  have st1 : starEach [e'] X.env = [(false, eval e' X.env)] := by rw [star_off n']; rfl
  refine PI.imp (pi_range2 q1 (G.blt _ q2) (pa_cons h (pa_cons h' pa_nil (star_off n')) (star_off n)) st2 st1) fun σ H R q => ?_
  obtain ⟨ρ, ds, ρ', Rl, ee, q⟩ := q
  unfold evi at ee
  obtain ⟨⟨d, ρ1⟩, e1, e2⟩ := Option.bind_eq_some_iff.mp ee
  obtain ⟨⟨d', ρ2⟩, e3, e4⟩ := Option.bind_eq_some_iff.mp e2
  cases d with
  | int i =>
    cases d' with
    | int j =>
      simp only at e4
      split at e4
      · rename_i hk
        cases e4
        have hl := line62
        refine ⟨ρ, _, ρ1, Rl, e1, fun v H1 k1 s1 R1 z1 => ⟨ρ1, _, _, R1, e3, fun w H2 k2 s2 R2 z2 => ?_⟩⟩
        cases z1
        cases z2
        exact ⟨i, j, rfl, ⟨by omega, by omega, by omega, by omega⟩, q _ H2 (k1.trans s1 k2) (s1.trans s2) R2 (.inl .rng) (by rw [rngD_length]; omega)⟩
      · cases e4
    | _ => cases e4
  | _ => cases e4

theorem enumD_len (ds : List D) : (enumD ds).length = ds.length := by simp [enumD]
theorem enumD_at {ds : List D} {i : Nat} {d : D} (h : ds[i]? = some d) : (enumD ds)[i]? = some (.tuple [.int i, d]) := by
  unfold enumD
  rw [List.getElem?_map, List.getElem?_zipIdx, h]
  simp
theorem pi_enumM {e : Expr} {m : ME} {x : Str} {p pos tpos : Pos} {elts : List Expr} {kk : Nat} (G : Gd X T bl) (hx : glB X.env.scope bl x "enumerate" = true) (n : notStar e = true) (h : PE X e (tEv T X.K m)) : PI X (.Tuple elts kk tpos) (.Call (.Name x p) [e] [] pos) (tIv T X.K (.enum m)) := by
  obtain ⟨rfl, hx⟩ := glB_self hx
  simp only [glB, Bool.and_eq_true, decide_eq_true_eq, Bool.not_eq_true'] at hx
  obtain ⟨⟨⟨⟨_, q1⟩, q2⟩, q3⟩, q4⟩ := hx
  refine PI.imp (pi_enT q1 (G.blt _ q2) (pa_cons (PE.lens h) pa_nil (star_off n)) (star_off n)) fun σ H R q => ?_
  obtain ⟨ρ, ds, ρ', Rl, ee, q⟩ := q
  unfold evi at ee
  obtain ⟨⟨d, ρ1⟩, e1, e2⟩ := Option.bind_eq_some_iff.mp ee
  refine ⟨ρ, d, ρ1, Rl, e1, fun v H' kp s R' z ln => ?_⟩
  cases d with
  | list xs =>
    cases e2
    cases z with
    | lst hs ha => exact .inl ⟨_, _, rfl, hs.sq, q _ H' kp s R' (.inr ⟨rfl, .lst hs ha⟩) (by rw [enumD_len, ← ha.length]; exact ln _ _ (.inl hs.sq))⟩
  | tuple xs =>
    cases e2
    cases z with
    | tup hs ha => exact .inr ⟨_, _, rfl, hs, q _ H' kp s R' (.inr ⟨rfl, .tup hs ha⟩) (by rw [enumD_len, ← ha.length]; exact ln _ _ (.inr hs))⟩
  | _ => cases e2
/-- a tuple's enumerate -/
theorem walk_enT {K : PySem.W.Frag} {a : Addr} {xs : List V} : Walk (IteT K a) xs.length (fun H => SqT K H a xs) (YPair (fun i => some (.int (i : Nat))) (fun i => xs[i]?)) := by
  refine ⟨fun i _ hi q => ⟨xs, xs[i], q, by simp [hi]⟩, fun _ q => ⟨xs, q, Nat.le_refl _⟩, fun i H v H' _ q y => ?_⟩
  obtain ⟨t, x, h1, h2, h3, h4⟩ := y
  exact ⟨t, .int (i : Nat), x, h1, h2, h3, rfl, h4 xs q⟩
/-! ### comprehensions -/
def compF (T : CT) (elt : ME) (tg : Tg) (cs : MC) : D → Ev → Option (Option D × Ev) := fun x ρt => (bindT tg x ρt).bind fun ρ2 => (evc T cs ρ2).bind fun (b, ρ3) =>
  if b = true then (ev T elt ρ3).map fun (d, ρ4) => (some d, ρ4) else some (none, ρ3)
def tC' (T : CT) (K : PySem.W.Frag) : MC → TT
  | .all => tYes
  | .one c => tTst T K c
def tgIn (own : List Nat) : Tg → Prop
  | .v i => i ∈ own
  | .tp is => ∀ i ∈ is, i ∈ own
theorem wipes_wipes (ρ : Ev) (vs : List Nat) : wipes (wipes ρ vs) vs = wipes ρ vs := by
  apply List.ext_getElem?
  intro j
  rw [wipes_get (wipes ρ vs), wipes_length, wipes_get]
  by_cases hj : j ∈ vs <;> simp [hj]
theorem wipes_set {ρ : Ev} {vs : List Nat} {i : Nat} {x : Slot} (h : i ∈ vs) : wipes (ρ.set i x) vs = wipes ρ vs := by
  apply List.ext_getElem?
  intro j
  rw [wipes_get, wipes_get, List.length_set]
  by_cases hj : j ∈ vs
  · simp [hj]
  · rw [if_neg hj, if_neg hj, List.getElem?_set_ne (fun e : i = j => hj (by rw [← e]; exact h))]
theorem wipes_das {own : List Nat} : ∀ {is : List Nat} {ds : List D} {ρ ρ' : Ev}, (∀ i ∈ is, i ∈ own) → setDas ρ is ds = some ρ' → wipes ρ' own = wipes ρ own
  | [], [], _, _, _, e => by cases e; rfl
  | [], _ :: _, _, _, _, e => by cases e
  | i :: is, d :: ds, _, _, h, e => by
    unfold setDas at e
    obtain ⟨ρ1, e1, e2⟩ := Option.bind_eq_some_iff.mp e
    obtain ⟨rfl, _, _⟩ := setDa_spec e1
    rw [wipes_das (fun j hj => h j (List.mem_cons_of_mem _ hj)) e2, wipes_set (h i List.mem_cons_self)]
  | _ :: _, [], _, _, _, e => by cases e
theorem wipes_bind {own : List Nat} {tg : Tg} {d : D} {ρ ρ' : Ev} (h : tgIn own tg) (e : bindT tg d ρ = some ρ') : wipes ρ' own = wipes ρ own := by
  cases tg with
  | v i =>
    obtain ⟨rfl, _, _⟩ := setDa_spec (show setDa ρ i d = some ρ' from e)
    exact wipes_set h
  | tp is =>
    cases d with
    | tuple ds => exact wipes_das h (show setDas ρ is ds = some ρ' from e)
    | _ => cases e
theorem Sk.wipes {ρ ρ' : Ev} (s : Sk ρ ρ') (vs : List Nat) : Sk (wipes ρ vs) (wipes ρ' vs) := by
  unfold Sk
  apply List.ext_getElem?
  intro i
  rw [List.getElem?_map, List.getElem?_map, wipes_get, wipes_get, s.len]
  split
  · rfl
  · exact s.at i
/-- the state behind i turns -/
structure LcAt (T : CT) (K : PySem.W.Frag) (elt : ME) (tg : Tg) (cs : MC) (own : List Nat) (σ : St) (ρ1 : Ev) (H1 : Hp) (Dd : Addr) (ds out : List D) (ρe : Ev) (i : Nat) (H : Hp) : Prop where
  ex : ∃ (acc : List V) (accD : List D) (ρi : Ev) (rest : List D), H Dd = some (.lst acc) ∧ RzAll K H acc accD ∧ Rel K H (wipe σ own) (wipes ρi own) ∧ Sk (wipes ρ1 own) (wipes ρi own) ∧
    Keep (wipe σ own) (wipes ρ1 own) H1 (wipes ρi own) H ∧ compLoop (compF T elt tg cs) own (ds.drop i) ρi = some (rest, ρe) ∧ accD ++ rest = out ∧ accD.length ≤ i ∧ ¬ Owned H (wipe σ own) (wipes ρi own) Dd
/-- a new thing laid between -/
theorem LcAt.new {T : CT} {K : PySem.W.Frag} {elt : ME} {tg : Tg} {cs : MC} {own : List Nat} {σ : St} {ρ1 : Ev} {H1 : Hp} {Dd : Addr} {ds out : List D} {ρe : Ev} {i : Nat} {H : Hp} {p : Addr} {o : HO} (P : LcAt T K elt tg cs own σ ρ1 H1 Dd ds out ρe i H) (hp : H p = none) :
    LcAt T K elt tg cs own σ ρ1 H1 Dd ds out ρe i (upd H p o) := by
  obtain ⟨acc, accD, ρi, rest, hacc, za, Ri, ski, kp, ee, eo, ln, nD⟩ := P.ex
  have sm := same_new (o := o) hp
  refine ⟨acc, accD, ρi, rest, (sm _ _ hacc), za.per (Per.of_same sm), Ri.same sm, ski, kp.trans ski (Keep.same Ri sm), ee, eo, ln, fun ⟨j, d, q, h1, h2, f⟩ => nD ⟨j, d, q, h1, h2, ?_⟩⟩
  obtain ⟨q', a, z⟩ := Ri.ow j d h1
  rw [h2] at a; cases a
  obtain ⟨u, hu, _⟩ := z.obj
  exact (Foot.iff ((sm _ _ hu).trans hu.symm)).mp f
theorem lc_turn {K : PySem.W.Frag} {elt : ME} {tg : Tg} {cs : MC} {own : List Nat} {σ : St} {ρ1 : Ev} {H1 : Hp} {Dd : Addr} {ds out : List D} {ρe : Ev} {i : Nat} {H : Hp} {x : V} {d : D} (ht : tgIn own tg) (R1 : Rel K H1 σ ρ1) (hD : H1 Dd = none)
    (hd : ds[i]? = some d) (hl : ds.length ≤ sizeLine) (z : Rz K H x d) (P : LcAt T K elt tg cs own σ ρ1 H1 Dd ds out ρe i H) :
    gTg K tg x (wipe σ own) H fun σ2 H2 => wipe σ2 own = wipe σ own ∧ tC' T K cs σ2 H2 fun b H3 =>
      if b = true then tEv T K elt σ2 H3 fun y H4 => ∃ acc, H4 Dd = some (.lst acc) ∧ acc.length < sizeLine ∧ LcAt T K elt tg cs own σ ρ1 H1 Dd ds out ρe (i + 1) (upd H4 Dd (.lst (acc ++ [y]))) else LcAt T K elt tg cs own σ ρ1 H1 Dd ds out ρe (i + 1) H3 := by
  obtain ⟨acc, accD, ρi, rest, hacc, za, Ri, ski, kp, ee, eo, ln, nD0⟩ := P.ex
  have hi := (List.getElem?_eq_some_iff.mp hd).1
  have hdrop : ds.drop i = d :: ds.drop (i + 1) := by
    rw [List.drop_eq_getElem_cons hi]
    congr 1
    rw [List.getElem?_eq_getElem hi] at hd
    exact Option.some.inj hd
  rw [hdrop] at ee
  unfold compLoop at ee
  obtain ⟨⟨o, ρ'⟩, e1, e2⟩ := Option.bind_eq_some_iff.mp ee
  obtain ⟨⟨rest', ρe'⟩, e3, e4⟩ := Option.map_eq_some_iff.mp e2
  cases e4
  unfold compF at e1
  obtain ⟨ρ2, b1, b2⟩ := Option.bind_eq_some_iff.mp e1
  obtain ⟨⟨b, ρ3⟩, c1, c2⟩ := Option.bind_eq_some_iff.mp b2
  -- who is owned within the turn was owned ahead of the block, or is new
  have wb := wipes_bind ht b1
  refine bindT_ok (vs := own) Ri b1 z (fun j hj => ?_) fun σ2 R2 o2 w2 => ?_
  · cases tg with
    | v k => exact hj ▸ ht
    | tp is => exact ht j hj
  rw [wipe_wipe] at w2
  refine ⟨w2, ?_⟩
  have nD2 : ¬ Owned H σ2 ρ2 Dd := fun ⟨j, w⟩ => nD0 ⟨j, o2 H j Dd w⟩
  -- from the turn's slots back to the block's
  have back : ∀ {H3 : Hp} {ρ3 : Ev}, Keep σ2 ρ2 H ρ3 H3 → Keep (wipe σ own) (wipes ρ1 own) H1 (wipes ρ3 own) H3 := fun {H3 ρ3} k3 => by
    refine ⟨fun q u hq n t => k3.keep q u (kp.keep q u hq n t) (fun ⟨j, w⟩ => ?_) t, fun j q w => ?_, fun q h => kp.alive q (k3.alive q h), fun P q mt t => k3.tabs P q mt (kp.tabs P q mt t)⟩
    · rcases kp.owned ⟨j, o2 H j q w⟩ with w | w
      · exact n w
      · rw [hq] at w; cases w
    · have w' : OwnedAt H3 σ2 ρ3 j q := by rw [← w2] at w; exact w.wiped
      rcases k3.own j q w' with w | w
      · exact kp.own j q (o2 H j q w)
      · exact .inr (kp.alive q w)
  -- the rest of a turn, from the state behind the tests
  have step : ∀ (H3 : Hp), Keep σ2 ρ2 H ρ3 H3 → Sk ρ2 ρ3 → Rel K H3 σ2 ρ3 → (if b = true then tEv T K elt σ2 H3 fun y H4 => ∃ acc, H4 Dd = some (.lst acc) ∧ acc.length < sizeLine ∧ LcAt T K elt tg cs own σ ρ1 H1 Dd ds out ρe (i + 1) (upd H4 Dd (.lst (acc ++ [y]))) else LcAt T K elt tg cs own σ ρ1 H1 Dd ds out ρe (i + 1) H3) := by
    intro H3 k3 s3 R3
    have per3 := k3.per R2
    have nD3 : ¬ Owned H3 σ2 ρ3 Dd := fun w => (k3.owned w).elim nD2 fun e => by rw [hacc] at e; cases e
    have ntl : ∀ {xs : List V} (ps : Array Value), HO.lst xs ≠ .tbl ps := fun ps e => by cases e
    cases b with
    | false =>
      rw [if_neg Bool.false_ne_true]
      simp only [Bool.false_eq_true, if_false] at c2
      cases c2
      refine ⟨⟨acc, accD, _, rest', k3.keep _ _ hacc nD2 ntl, za.per per3, ?_, ?_, back k3, e3, eo, Nat.le_succ_of_le ln, fun ⟨j, w⟩ => nD3 ⟨j, ?_⟩⟩⟩
      · have := R3.wipe own
        rwa [w2] at this
      · exact ski.trans (by have := s3.wipes own; rwa [wb, wipes_wipes] at this)
      · rw [← w2] at w; exact w.wiped
    | true =>
      rw [if_pos rfl]
      simp only [if_true] at c2
      obtain ⟨⟨y, ρ4⟩, f1, f2⟩ := Option.map_eq_some_iff.mp c2
      cases f2
      refine ⟨ρ3, y, ρ4, R3, f1, fun v H4 k4 s4 R4 zy => ?_⟩
      have per4 := k4.per R3
      have h3 : H3 Dd = some (.lst acc) := k3.keep _ _ hacc nD2 ntl
      have h4 : H4 Dd = some (.lst acc) := k4.keep _ _ h3 nD3 ntl
      have nD4 : ¬ Owned H4 σ2 ρ4 Dd := fun w => (k4.owned w).elim nD3 fun e => by rw [h3] at e; cases e
      have per5 : Per H4 (upd H4 Dd (.lst (acc ++ [v]))) := by
        refine ⟨fun q xs hq => ?_, fun q ob u hq => ?_, fun q xs hq => ?_⟩
        · rw [upd_ne (fun e => by subst e; rw [h4] at hq; cases hq)]; exact hq
        · rw [upd_ne (fun e => by subst e; rw [h4] at hq; cases hq)]; exact hq
        · rw [upd_ne (fun e => by subst e; rw [h4] at hq; cases hq)]; exact hq
      have hla := za.length
      obtain ⟨R5, o5⟩ := R4.off (H' := upd H4 Dd (.lst (acc ++ [v]))) (fun q w => upd_ne (fun e => nD4 (by rw [← e]; exact w))) per5 (tabs_upd R4.tb h4 rfl)
      have k34 := k3.trans s3 k4
      have B := back k34
      refine ⟨acc, h4, by omega, ⟨⟨acc ++ [v], accD ++ [y], ρ4, rest', upd_same, ((za.per (per3.trans per4)).append (.cons zy .nil)).per per5, ?_, ?_, ?_, e3, by rw [List.append_assoc]; exact eo, by simp; omega, fun ⟨j, w⟩ => nD4 ⟨j, ?_⟩⟩⟩⟩
      · have := R5.wipe own
        rwa [w2] at this
      · exact ski.trans (by have := (s3.trans s4).wipes own; rwa [wb, wipes_wipes] at this)
      · refine ⟨fun q u hq n t => ?_, fun j q w => ?_, fun q h => ?_, fun P q mt t => ?_⟩
        · rw [upd_ne (ne_of_none hq hD)]
          exact B.keep q u hq n t
        · have w' : OwnedAt H4 (wipe σ own) (wipes ρ4 own) j q := by
            obtain ⟨d', p', h1, h2, f⟩ := w
            refine ⟨d', p', h1, h2, (Foot.iff (upd_ne fun e => ?_)).mp f⟩
            obtain ⟨hj, h1'⟩ := wipes_ow h1
            rw [← w2, wipe_at hj] at h2
            exact nD4 ⟨j, d', p', h1', h2, .inl e.symm⟩
          exact B.own j q w'
        · refine B.alive q ?_
          by_cases e : q = Dd
          · subst e; rw [upd_same] at h; cases h
          · rwa [upd_ne e] at h
        · refine tabs_of (fun q u hq c => ?_) P q (B.tabs P q mt t)
          rw [upd_ne (fun e => by subst e; rw [h4] at hq; cases hq; cases c)]
          exact hq
      · rw [← w2] at w
        exact (o5 j Dd).mp w.wiped
  cases cs with
  | all =>
    unfold evc at c1
    cases c1
    exact step H Keep.refl (Sk.refl _) R2
  | one c =>
    unfold evc at c1
    obtain ⟨⟨d', ρ3'⟩, g1, g2⟩ := Option.bind_eq_some_iff.mp c1
    cases d' with
    | bool b' =>
      cases g2
      exact ⟨ρ2, b, ρ3, R2, g1, fun H3 k s R => step H3 k s R⟩
    | _ => cases g2
theorem lcAt_zero {K : PySem.W.Frag} {elt : ME} {tg : Tg} {cs : MC} {own : List Nat} {σ : St} {ρ1 ρe : Ev} {H1 : Hp} {Dd : Addr} {ds out : List D} (R1 : Rel K H1 σ ρ1) (hD : H1 Dd = none) (e : compLoop (compF T elt tg cs) own ds ρ1 = some (out, ρe)) :
    LcAt T K elt tg cs own σ ρ1 H1 Dd ds out ρe 0 (upd H1 Dd (.lst [])) :=
  ⟨⟨[], [], ρ1, out, upd_same, .nil, (R1.same (same_new hD)).wipe own, Sk.refl _, Keep.same (R1.wipe own) (same_new hD), e, rfl, Nat.le_refl _, fresh_unowned (R1.wipe own) hD (same_owned (R1.wipe own) (same_new hD))⟩⟩
theorem back_none {K : PySem.W.Frag} {H H' : Hp} {σ : St} {ρ ρ' : Ev} {p : Addr} (k : Keep σ ρ H ρ' H') (s : Sk ρ ρ') (R : Rel K H' σ ρ') (hp : H' p = none) : H p = none := k.alive p hp
theorem tg_ok {N : List Str} {scope sc : Scope} {own : List Nat} {tg : Tg} {e : Expr} (h : cmTg N scope own tg e = true) : tgIn own tg := by
  cases tg with
  | v i =>
    cases e <;> simp only [cmTg, Bool.and_eq_true, Bool.false_eq_true] at h
    exact List.contains_iff_mem.mp h.2
  | tp is =>
    cases e <;> simp only [cmTg, Bool.and_eq_true, Bool.false_eq_true] at h
    intro i hi
    exact List.contains_iff_mem.mp (List.all_eq_true.mp h.2 i hi)
theorem relS_at {sc scope : Scope} {x : Str} {k : NameKind} (hk : k ≠ .free) (h : scope.names.lookup x = some k) : (relS scope sc).names.lookup x = some k := lookup_relS_keep hk h
theorem pg_blk (G : Gd X T bl) {scope : Scope} {i : Nat} {x : Str} {pos : Pos} (h : tgB T.N scope i x = true) (s : Shared) (H : Hp) (C : Addr) (cl : List (Str × Addr)) (fp : List Addr) :
    PG (X.blk s H scope (compEnvC scope cl C X.env) fp) (.Name x pos) (gName i) := by
  simp only [tgB, Bool.and_eq_true, decide_eq_true_eq] at h
  obtain ⟨h1, h2⟩ := h
  have hN : X.N.Nodup := by rw [G.hN]; exact G.nd
  have hi : X.N[i]? = some x := by rw [G.hN]; exact h1
  split at h2
  · rename_i q
    exact pg_name (X := X.blk s H scope (compEnvC scope cl C X.env) fp) hN hi (.inl (relS_at (by decide) q)) (.inr (relS_at (by decide) q))
  · rename_i q
    exact pg_name (X := X.blk s H scope (compEnvC scope cl C X.env) fp) hN hi (.inr (relS_at (by decide) q)) (.inl (by show (scope.names.lookup x == some NameKind.cell) = true; rw [q]; rfl))
  · cases h2
theorem pgs_blk (G : Gd X T bl) {scope : Scope} (s : Shared) (H : Hp) (C : Addr) (cl : List (Str × Addr)) (fp : List Addr) : ∀ {is : List Nat} {es : List Expr}, tgsB T.N scope is es = true →
    PGs (X.blk s H scope (compEnvC scope cl C X.env) fp) es (gNames is) ∧ es.length = is.length ∧ (∀ env, (assignEach es env).findIdx? (·.1) = none) ∧ ∀ env, (assignEach es env).length = is.length
  | [], [], _ => ⟨pgs_nil, rfl, fun _ => rfl, fun _ => rfl⟩
  | [], e :: es, h => by cases e <;> cases h
  | i :: is, [], h => by cases h
  | i :: is, e :: es, h => by
    cases e <;> simp only [tgsB, Bool.and_eq_true, Bool.false_eq_true] at h
    obtain ⟨a, b, c, d⟩ := pgs_blk G s H C cl fp h.2
    exact ⟨pgs_cons (pg_blk G h.1 s H C cl fp) a, by simp [b], fun env => by
      have := c env
      show ((false, _) :: assignEach es env).findIdx? (·.1) = none
      rw [List.findIdx?_cons]
      simp [this], fun env => by
      show ((false, _) :: assignEach es env).length = _
      simp [d env]⟩
theorem pg_tg (G : Gd X T bl) {scope : Scope} {own : List Nat} {tg : Tg} {e : Expr} (h : cmTg T.N scope own tg e = true) (s : Shared) (H : Hp) (C : Addr) (cl : List (Str × Addr)) (fp : List Addr) :
    PG (X.blk s H scope (compEnvC scope cl C X.env) fp) e (gTg X.K tg) := by
  cases tg with
  | v i =>
    cases e <;> simp only [cmTg, Bool.and_eq_true, Bool.false_eq_true] at h
    exact pg_blk G h.1 s H C cl fp
  | tp is =>
    cases e <;> simp only [cmTg, Bool.and_eq_true, Bool.false_eq_true] at h
    obtain ⟨a, b, c, d⟩ := pgs_blk G s H C cl fp h.1
    exact pg_tup (X := X.blk s H scope (compEnvC scope cl C X.env) fp) G.calm a (d _) (c _)
/-- what is new within the block and no slot's there, is no slot's behind it -/
theorem restore_un {K : PySem.W.Frag} {H H' : Hp} {σ : St} {ρ ρe : Ev} {vs : List Nat} {p : Addr} (R : Rel K H σ ρ) (R' : Rel K H' (wipe σ vs) (wipes ρe vs)) (s : Sk (wipes ρ vs) (wipes ρe vs)) (k : Keep (wipe σ vs) (wipes ρ vs) H (wipes ρe vs) H') (hp : H p = none)
    (n : ¬ Owned H' (wipe σ vs) (wipes ρe vs) p) : ¬ Owned H' σ (restore ρ ρe vs) p := fun ⟨i, d, q, h1, h2, f⟩ => by
  have hlen : ρe.length = ρ.length := by
    have := s.len
    rwa [wipes_length, wipes_length] at this
  by_cases hm : i ∈ vs
  · rw [restore_get, if_pos hm, hlen] at h1
    by_cases hl : i < ρ.length
    · rw [if_pos hl, List.getD_eq_getElem?_getD, List.getElem?_eq_getElem hl] at h1
      have h0 : ρ[i]? = some (.ow d) := by rw [List.getElem?_eq_getElem hl]; exact h1
      -- such a slot stood still
      obtain ⟨q', a, z⟩ := R.ow i d h0
      rw [h2] at a; cases a
      have e : H' q = H q := by
        obtain ⟨u, hu, c⟩ := z.obj
        refine (k.keep q u hu (fun w => ?_) (fun ps e => by subst e; cases c)).trans hu.symm
        obtain ⟨j, e, q', h3, h4, f2⟩ := w
        obtain ⟨hj, h3⟩ := wipes_ow h3
        rw [wipe_at hj] at h4
        exact R.ne i j d e q q' q (fun z => hj (by rw [← z]; exact hm)) h0 h3 h2 h4 (Foot.self ..) f2
      obtain ⟨u, hu, _⟩ := z.feet ((Foot.iff e).mp f)
      rw [hp] at hu; cases hu
    · rw [if_neg hl] at h1; cases h1
  · rw [restore_get, if_neg hm] at h1
    exact n ⟨i, d, q, by rw [wipes_get, if_neg hm]; exact h1, by rw [wipe_at hm]; exact h2, f⟩
theorem comp_imp {elt : ME} {tg : Tg} {it : MI} {cs : MC} {own : List Nat} (ht : tgIn own tg) (σ : St) (H : Hp) (Q : VK) (q : tEvF T X.K (.comp elt tg it cs own) σ H Q) : tLc (tIv T X.K it) (gTg X.K tg) (tC' T X.K cs) (tEv T X.K elt) own σ H Q := by
  obtain ⟨ρ, d, ρ', R, ee, q⟩ := q
  unfold ev at ee
  obtain ⟨⟨ds, ρ1⟩, e1, e2⟩ := Option.bind_eq_some_iff.mp ee
  obtain ⟨⟨out, ρe⟩, e3, e4⟩ := Option.map_eq_some_iff.mp e2
  cases e4
  refine ⟨ρ, ds, ρ1, R, e1, fun J H1 k1 s1 R1 ir ln Dd hD => ?_⟩
  have h0 := lcAt_zero (T := T) (elt := elt) (tg := tg) (cs := cs) (own := own) R1 hD e3
  -- behind the last turn
  have fin : ∀ {n : Nat} {H2 : Hp}, n = ds.length → LcAt T X.K elt tg cs own σ ρ1 H1 Dd ds out ρe n H2 → Q (.ref Dd) H2 := fun {n H2} hn P => by
    obtain ⟨acc, accD, ρi, rest, hacc, za, Ri, ski, kp, el, eo, _, nd⟩ := P.ex
    subst hn
    rw [List.drop_length] at el
    cases el
    rw [List.append_nil] at eo
    subst eo
    obtain ⟨R2, s2, k2⟩ := rel_restore R1 Ri ski kp
    have o : OwnS X.K H2 Dd (.list accD) := ⟨acc, hacc, za⟩
    exact q Dd H2 (k1.trans s1 k2) (s1.trans s2) R2 (fun b f => by rw [Foot.alone o f]; exact k1.alive _ hD) (fun b f w => by
      rw [Foot.alone o f] at w
      exact restore_un (ρ := ρ1) R1 Ri ski kp hD nd w) o.own
  have per : ∀ {i : Nat} {H2 : Hp}, LcAt T X.K elt tg cs own σ ρ1 H1 Dd ds out ρe i H2 → Per H1 H2 := fun P => by
    obtain ⟨_, _, _, _, _, _, _, _, kp, _⟩ := P.ex
    exact kp.per (R1.wipe own)
  rcases ir with ir | ⟨_, ir⟩
  case inr =>
    -- the pair is new
    have pair : ∀ {i : Nat} {x : V} {d : D} {es : List D} {y : V} {H2 H2' : Hp}, ds = enumD es → es[i]? = some d → Rz X.K H2 x d → LcAt T X.K elt tg cs own σ ρ1 H1 Dd ds out ρe i H2 → (∃ t, y = .ref t ∧ H2 t = none ∧ H2' = upd H2 t (.tup [.int (i : Nat), x])) →
        gTg X.K tg y (wipe σ own) H2' fun σ2 H2 => wipe σ2 own = wipe σ own ∧ tC' T X.K cs σ2 H2 fun b H3 =>
          if b = true then tEv T X.K elt σ2 H3 fun y H4 => ∃ acc, H4 Dd = some (.lst acc) ∧ acc.length < sizeLine ∧ LcAt T X.K elt tg cs own σ ρ1 H1 Dd ds out ρe (i + 1) (upd H4 Dd (.lst (acc ++ [y]))) else LcAt T X.K elt tg cs own σ ρ1 H1 Dd ds out ρe (i + 1) H3 := fun {i x d es y H2 H2'} e hd z P ⟨t, ey, ht', eH⟩ => by
      subst ey eH e
      exact lc_turn ht R1 hD (enumD_at hd) ln (.tup (.inl (.inl upd_same)) (RzAll.per (Per.of_same (same_new ht')) (.cons (.int _) (.cons z .nil)))) (P.new ht')
    cases ir with
    | lst hs ha =>
      refine lc_it walk_enum (fun i H2 => LcAt T X.K elt tg cs own σ ρ1 H1 Dd _ out ρe i H2) h0 (fun i H2 _ P => (hs.per (per P)).sq) (fun i y H2 H2' hi P yy => ?_) fun H2 P => fin (by rw [enumD_len]; exact ha.length) P
      obtain ⟨t, v0, x, h1, h2, h3, h4, h5⟩ := yy
      cases h4
      obtain ⟨d, hd, z⟩ := ha.get' h5
      exact pair rfl hd (z.per (per P)) P ⟨t, h1, h2, h3⟩
    | tup hs ha =>
      refine lc_it walk_enT (fun i H2 => LcAt T X.K elt tg cs own σ ρ1 H1 Dd _ out ρe i H2) h0 (fun i H2 _ P => SqT.per (per P) hs) (fun i y H2 H2' hi P yy => ?_) fun H2 P => fin (by rw [enumD_len]; exact ha.length) P
      obtain ⟨t, v0, x, h1, h2, h3, h4, h5⟩ := yy
      cases h4
      obtain ⟨d, hd, z⟩ := ha.get' h5
      exact pair rfl hd (z.per (per P)) P ⟨t, h1, h2, h3⟩
  cases ir with
  | lst hs ha =>
    refine lc_list (K := X.K) (fun i H2 => LcAt T X.K elt tg cs own σ ρ1 H1 Dd ds out ρe i H2) h0 (fun i H2 _ P => (hs.per (per P)).sq) (fun i y H2 hy P => ?_) fun H2 P => fin ha.length P
    obtain ⟨d, hd, z⟩ := ha.get' hy
    exact lc_turn ht R1 hD hd ln (z.per (per P)) P
  | tup hs ha =>
    refine lc_tup (K := X.K) (fun i H2 => LcAt T X.K elt tg cs own σ ρ1 H1 Dd ds out ρe i H2) h0 (fun i H2 _ P => SqT.per (per P) hs) (fun i y H2 hy P => ?_) fun H2 P => fin ha.length P
    obtain ⟨d, hd, z⟩ := ha.get' hy
    exact lc_turn ht R1 hD hd ln (z.per (per P)) P
  | rng =>
    rename_i lo n
    refine lc_range (fun i H2 => LcAt T X.K elt tg cs own σ ρ1 H1 Dd _ out ρe i H2) h0 (fun i H2 hi P => ?_) fun H2 P => fin (rngD_length lo n).symm P
    exact lc_turn ht R1 hD (d := .int (lo + i)) (by simp [rngD, hi]) ln (.int _) P
  | str =>
    rename_i z
    refine lc_it walk_str (fun i H2 => LcAt T X.K elt tg cs own σ ρ1 H1 Dd _ out ρe i H2) h0 (fun _ _ _ _ => trivial) (fun i y H2 H2' hi P yy => ?_) fun H2 P => fin (signsD_len z).symm P
    obtain ⟨rfl, c, hc, rfl⟩ := yy
    exact lc_turn ht R1 hD (d := .str ⟨#[c]⟩) (by simp [signsD, hc]) ln (.str _) P
  | keys hd hr =>
    refine lc_it walk_keys (fun i H2 => LcAt T X.K elt tg cs own σ ρ1 H1 Dd _ out ρe i H2) h0 (fun i H2 _ P => (per P).2.1 _ _ _ hd) (fun i y H2 H2' hi P yy => ?_) fun H2 P => fin (by rw [List.length_map, hr.length]) P
    obtain ⟨rfl, k, v, hk, rfl⟩ := yy
    obtain ⟨d, e1, _⟩ := hr.get' hk
    exact lc_turn ht R1 hD (d := keyD k) (by simp [e1]) ln (rz_key k) P
theorem comp_frz (G : Gd X T bl) {elt : ME} {tg : Tg} {it : MI} {cs : MC} {own : List Nat} {x t iter : Expr} {ifs : List Expr} {scope : Scope} {pos : Pos} (hI : PI X t iter (tIv T X.K it)) (hs : notSet iter = true) (hb : blkC T.N X.env.scope scope (ownN T.N own) = true) (htg : cmTg T.N scope own tg t = true)
    (hc : ∀ (s : Shared) (H : Hp) (C : Addr) (cl : List (Str × Addr)) (fp : List Addr), PTs (X.blk s H scope (compEnvC scope cl C X.env) fp) ifs (tC' T X.K cs))
    (he : ∀ (s : Shared) (H : Hp) (C : Addr) (cl : List (Str × Addr)) (fp : List Addr), PE (X.blk s H scope (compEnvC scope cl C X.env) fp) x (tEv T X.K elt)) :
    PE X (.ListComp x [⟨t, iter, ifs, 0⟩] scope pos) (tEvF T X.K (.comp elt tg it cs own)) := by
  have ht := tg_ok (sc := scope) htg
  have eo : (ownN T.N own).map (·.2) = own := by simp [ownN, Function.comp_def]
  have base := pe_lc (pos := pos) G.calm (by rw [G.hN]; exact G.nd) hI (blkOk_by (by rw [G.hN]; exact hb)) (fun s H C cl fp => pg_tg G htg s H C cl fp) hc he (by intro z; cases iter <;> first | rfl | cases hs)
  refine PE.imp base fun σ H Q q => ?_
  rw [eo]
  exact comp_imp ht σ H Q q
end
end Mp
namespace Mp
open PySem PySem.Spec L2 LamX
open PyProof.Rows hiding St
variable [LamT]
section
variable {X : Cx} {T : CT} {bl : List Str}
/-! ### list.index -/
theorem mt_indexM (hu : X.A.units + 64 < cLine) : MtR X "list.index" (fun x xs H Q => ∃ y a b z, xs = [y] ∧ Ry X.K H x a ∧ Ry X.K H y b ∧ indexD a b = some z ∧ ∀ v H', Same H H' → Rz X.K H' v z → Q v H') := by
  intro pins s σ H x xs v us Q I rx rxs h
  obtain ⟨y, a, b, z, rfl, hx, hy, e, q⟩ := h
  cases a with
  | list ds =>
    simp only [indexD] at e
    split at e
    · rename_i c
      obtain ⟨j, e1, e2⟩ := Option.map_eq_some_iff.mp e
      cases e2
      obtain ⟨pl, dl⟩ := okD_spec c.1
      obtain ⟨pb, db⟩ := okD_spec c.2
      cases rxs with
      | cons ry rt =>
        rename_i uy ut
        cases rt
        obtain ⟨bs, r2⟩ := hy.reads (clean_plain _ pb) I ry
        obtain ⟨p, ws, rfl, s1, z1⟩ := hx.lst
        cases rx
        obtain ⟨its, rv, ⟨⟨cls, dd, data, sls⟩, n, ho, hc, hdn, hdt⟩, hlen⟩ := I.list s1
        simp only at hc hdt
        subst hc hdt
        obtain ⟨as, h4⟩ := Rz.readsAll I ds _ its (clean_plainAll ds (plain_lst pl)) z1 rv
        have hmap := PySem.SeqAt.readsAll_map_plain ds its as (plain_lst pl) h4
        have hvl := rv.length
        have hsl := sizeLine_eq
        have e3 : its.findIdx? (fun u => PyData.eqv (PySem.SeqAt.readOf s.heap u) b) = some j := by
          rw [← hmap, List.findIdx?_map] at e1
          exact e1
        obtain ⟨hj, h1, h2⟩ := List.findIdx?_eq_some_iff_getElem.mp e3
        refine call_meets PySem.F.slot_list_index ⟨_, ho, rfl⟩ PySem.F.entry_list_index (PySem.F.args_list_index_2 _ _)
          (SeqAt.list_indexAt p its.toArray n dd sls uy (fun u => PyData.eqv (PySem.SeqAt.readOf s.heap u) b) j (by simpa using hj) (by omega) (by simpa using h1) (fun m hm hmj => by simpa using h2 m hmj))
          ⟨ho, PySem.SeqAt.items_plain (vs := its.toArray) (by simpa using h4) r2 (plain_lst pl) pb (by omega), ⟨.int j, H, I.tok _, ⟨_, rfl⟩, q _ _ (Same.refl H) (.int _)⟩⟩
    · cases e
  | _ => cases e
theorem noSup_ok {y : Expr} {n : Str} {env : Env} {w : Sem Value} (h : noSup y = true) : attributeBase y n env w = w := by
  unfold attributeBase
  split
  · cases h
  · rfl
theorem index_pe (G : Gd X T bl) {es : MEs} {o : Expr} {apos cpos : Pos} {y : Expr} (ns : noSup o = true) (A : ArgsP X T es [o, y]) (n : notStar y = true) (hl : (apos.endLine == cpos.line) = true) (hE : es.headE = true) :
    PE X (.Call (.Attribute o "index" apos) [y] [] cpos) (tEv T X.K (.prim .index es)) := by
  obtain ⟨m, k, rfl, pa, pb, _, _⟩ := A.two
  have hst := star_off (es := []) (env := X.env) n
  refine PE.imp (pe_bm PySem.F.plainAttrs_list PySem.F.slot_list_index PySem.F.type_list_index (mt_indexM G.units) pa (pa_cons pb pa_nil hst) (noSup_ok ns) ?_ hl hst (by rfl)) fun σ H Q q => ?_
  · rw [hst]; rfl
  obtain ⟨ρ, d, ρ', R, ee, q⟩ := q
  unfold ev at ee
  obtain ⟨⟨as, ρ1⟩, e1, e2⟩ := Option.bind_eq_some_iff.mp ee
  obtain ⟨ds, e3, e4⟩ := Option.bind_eq_some_iff.mp e2
  obtain ⟨d', e5, e6⟩ := Option.map_eq_some_iff.mp e4
  cases e6
  unfold evs at e1
  obtain ⟨⟨a0, ρa⟩, f1, f2⟩ := Option.bind_eq_some_iff.mp e1
  obtain ⟨⟨xs, ρb⟩, f3, f4⟩ := Option.map_eq_some_iff.mp f2
  cases f4
  unfold resolveP at e3
  obtain ⟨u0, g1, g2⟩ := Option.bind_eq_some_iff.mp e3
  obtain ⟨us, g3, g4⟩ := Option.map_eq_some_iff.mp g2
  cases g4
  have hus : ∃ u1 l, us = [u1] ∧ u0 = .list l ∧ indexD u0 u1 = some d := by
    cases us with
    | nil => cases e5
    | cons u1 r =>
      cases r with
      | cons _ _ => cases e5
      | nil =>
        have e5 : indexD u0 u1 = some d := e5
        refine ⟨u1, ?_⟩
        unfold indexD at e5
        split at e5
        · exact ⟨_, rfl, rfl, by unfold indexD; exact e5⟩
        · cases e5
  obtain ⟨u1, l, rfl, rfl, e5⟩ := hus
  cases m with
  | e m =>
    unfold evA at f1
    obtain ⟨⟨d0, ρ1'⟩, e5', e6'⟩ := Option.map_eq_some_iff.mp f1
    cases e6'
    unfold resolveP1 at g1
    cases g1
    refine ⟨ρ, _, ρa, R, e5', fun v H1 k1 s1 R1 z1 => ⟨?_, ?_⟩⟩
    · cases z1 with
      | lst sq _ => exact .inl ⟨rfl, _, sq.sq⟩
    · refine tAs_imp (.cons k .nil) σ H1 _ ⟨ρa, xs, ρ', R1, f3, fun vs H2 k2 s2 R2 ar => ?_⟩
      obtain ⟨w, rfl, rw⟩ := (argRel_res R2 ar g3).one
      exact ⟨w, _, u1, d, rfl, .inl (z1.per (k2.per R1)), rw, e5, fun v H3 sm z => q v H3 ((k1.trans s1 k2).trans (s1.trans s2) (Keep.same R2 sm)) (s1.trans s2) (R2.same sm) z⟩
  | o i => cases hE
  | l i => cases hE
  | f i n => cases hE
/-! ### dicts written down -/
def trsK (T : CT) (K : PySem.W.Frag) : List Str → MEs → List (TE × TE)
  | k :: ks, .cons a r => (tC (.str k), tA T K a) :: trsK T K ks r
  | _, _ => []
theorem pps_of {pos : Pos} : ∀ {ks : List Str} {keys : List (Option Expr)} {es : MEs} {values : List Expr}, keysB ks keys = true → keys.length = values.length → ArgsP X T es values → PPs X pos keys values (trsK T X.K ks es)
  | [], [], _, _, _, hl, .nil => pps_nil
  | [], [], _, _, _, hl, .cons _ _ _ => by simp at hl
  | [], _ :: _, _, _, h, _, _ => by simp [keysB] at h
  | k :: ks, [], _, _, h, _, _ => by simp [keysB] at h
  | k :: ks, some e :: r, _, _, h, hl, .nil => by simp at hl
  | k :: ks, none :: r, _, _, h, hl, _ => by simp [keysB] at h
  | k :: ks, some e :: r, _, _, h, hl, .cons p n t => by
    unfold keysB at h
    split at h
    · rename_i h1 h2; cases h1
    · rename_i k' ks' c j ps r' h1 h2
      cases h1
      cases h2
      simp only [Bool.and_eq_true, decide_eq_true_eq] at h
      obtain ⟨rfl, h⟩ := h
      exact pps_cons pe_str p (pps_of h (by simpa using hl) t)
    · cases h
theorem tPairs_of {K : PySem.W.Frag} : ∀ {ks : List Str} {es : MEs} {σ : St} {H : Hp} {Q : List (V × V) → Hp → Prop}, ks.length = es.len → tAs' T K es σ H (fun vs H2 => Q ((ks.map V.str).zip vs) H2) → tPairs (trsK T K ks es) σ H Q
  | [], .nil, _, _, _, _, q => q
  | [], .cons _ _, _, _, _, hl, _ => by simp [MEs.len] at hl
  | _ :: _, .nil, _, _, _, hl, _ => by simp [MEs.len] at hl
  | k :: ks, .cons a r, σ, H, Q, hl, q => by
    show tA T K a σ H _
    refine tA_mono a σ H _ _ (fun v H' q => ?_) q
    exact tPairs_of (by simpa [MEs.len] using hl) q
theorem zip_kv : ∀ (ks : List Str) (vs : List V), (ks.map V.str).zip vs = ((ks.map (Sum.inr : Str → Key)).zip vs).map fun kv => (kV kv.1, kv.2)
  | [], _ => rfl
  | _ :: _, [] => rfl
  | k :: ks, v :: vs => by
    show (V.str k, v) :: (ks.map V.str).zip vs = (kV (Sum.inr k), v) :: _
    rw [zip_kv ks vs]
    rfl
theorem zip_paired {K : PySem.W.Frag} {H : Hp} : ∀ (ks : List Str) {vs : List V} {ds : List D}, RzAll K H vs ds → Paired (fun (p : Key × V) (q : Key × D) => p.1 = q.1 ∧ Rz K H p.2 q.2) ((ks.map (Sum.inr : Str → Key)).zip vs) ((ks.map (Sum.inr : Str → Key)).zip ds)
  | [], _, _, _ => .nil
  | _ :: _, _, _, .nil => .nil
  | k :: ks, _, _, .cons h r => .cons ⟨rfl, h⟩ (zip_paired ks r)
theorem foldl_zip (ks : List Str) (ds : List D) : ∀ acc, ((ks.map (Sum.inr : Str → Key)).zip ds).foldl (fun acc p => putD p.1 p.2 acc) acc = (ks.zip ds).foldl (fun acc p => putD (.inr p.1) p.2 acc) acc := by
  induction ks generalizing ds with
  | nil => intro acc; rfl
  | cons k ks ih =>
    cases ds with
    | nil => intro acc; rfl
    | cons d ds => intro acc; exact ih ds _
theorem keysB_all : ∀ {ks : List Str} {keys : List (Option Expr)}, keysB ks keys = true → keys.all (·.isSome) = true ∧ keys.length = ks.length
  | [], [], _ => ⟨rfl, rfl⟩
  | [], _ :: _, h => by simp [keysB] at h
  | _ :: _, [], h => by simp [keysB] at h
  | k :: ks, none :: r, h => by simp [keysB] at h
  | k :: ks, some e :: r, h => by
    unfold keysB at h
    split at h
    · rename_i h1 h2; cases h1
    · rename_i k' ks' c j ps r' h1 h2
      cases h1
      cases h2
      simp only [Bool.and_eq_true, decide_eq_true_eq] at h
      obtain ⟨a, b⟩ := keysB_all h.2
      exact ⟨by simpa using a, by simpa using b⟩
    · cases h
theorem dct_peF {ks : List Str} {keys : List (Option Expr)} {es : MEs} {values : List Expr} {pos : Pos} (hk : keysB ks keys = true) (A : ArgsP X T es values) (h15 : ks.length ≤ 15) (h0 : (!ks.isEmpty) = true) (hl : keys.length = values.length) :
    PE X (.Dict keys values pos) (tEvF T X.K (.dct ks es)) := by
  obtain ⟨ha, hkl⟩ := keysB_all hk
  refine PE.imp (pe_disp (pps_of hk hl A) ha hl (by intro e; rw [e] at hkl; cases ks <;> simp at h0 hkl) (by omega)) fun σ H Q q => ?_
  obtain ⟨ρ, d, ρ', R, ee, q⟩ := q
  unfold ev at ee
  obtain ⟨⟨as, ρ1⟩, e1, e2⟩ := Option.bind_eq_some_iff.mp ee
  obtain ⟨ds, e3, e4⟩ := Option.bind_eq_some_iff.mp e2
  obtain ⟨d', e5, e6⟩ := Option.map_eq_some_iff.mp e4
  cases e6
  unfold dctD at e5
  split at e5
  · rename_i hlen
    cases e5
    intro p hp
    refine tPairs_of (by rw [A.len, ← hl, hkl]) ?_
    refine tAs_imp es σ _ _ ⟨ρ, as, ρ', R.same (same_new hp), e1, fun vs H2 k s R2 ar => ?_⟩
    have no : ¬ Owned (upd H p (.dK [])) σ ρ p := fresh_unowned R hp (same_owned R (same_new hp))
    have h2p := k.keep p _ upd_same no (fun ps e => by cases e)
    have no2 : ¬ Owned H2 σ ρ' p := fun w => (k.owned w).elim no fun e => by rw [upd_same] at e; cases e
    have z := pures_rz ar e3
    refine ⟨h2p, (ks.map (Sum.inr : Str → Key)).zip vs, zip_kv ks vs, ?_, ?_⟩
    · rw [List.length_zip, List.length_map]; omega
    · have per : Per H2 (upd H2 p (.dK (mergeK [] ((ks.map (Sum.inr : Str → Key)).zip vs)))) := by
        refine ⟨fun b xs hb => ?_, fun b o u hb => ?_, fun b xs hb => ?_⟩
        · rw [upd_ne (fun eq => by subst eq; rw [h2p] at hb; cases hb)]; exact hb
        · rw [upd_ne (fun eq => by subst eq; rw [h2p] at hb; cases hb)]; exact hb
        · rw [upd_ne (fun eq => by subst eq; rw [h2p] at hb; cases hb)]; exact hb
      obtain ⟨R3, o3⟩ := R2.off (H' := upd H2 p (.dK (mergeK [] ((ks.map (Sum.inr : Str → Key)).zip vs)))) (fun b w => upd_ne (fun e => no2 (by rw [← e]; exact w))) per (tabs_upd R2.tb h2p rfl)
      have ks1 := Keep.same R (same_new (o := .dK []) hp)
      have o : OwnS X.K (upd H2 p (.dK (mergeK [] ((ks.map (Sum.inr : Str → Key)).zip vs)))) p (.dict ((ks.zip ds).foldl (fun acc p => putD (.inr p.1) p.2 acc) [])) := ⟨_, upd_same, by
        rw [← foldl_zip]
        exact RzKv.per per (merge_rz (zip_paired ks z) .nil)⟩
      have K2 := ks1.trans (Sk.refl _) k
      refine q p _ ⟨fun b o hb n t => ?_, fun i b w => K2.own i b ((o3 i b).mp w), fun b hb => ?_, fun P q mt t => ?_⟩ s R3 (fun b f => by rw [Foot.alone o f]; exact hp) (fun b f w => ?_) o.own
      · rw [upd_ne (ne_of_none hb hp)]
        exact K2.keep b o hb n t
      · refine K2.alive b ?_
        by_cases e : b = p
        · subst e; rw [upd_same] at hb; cases hb
        · rwa [upd_ne e] at hb
      · refine tabs_of (fun b u hb c => ?_) P q (K2.tabs P q mt t)
        rw [upd_ne (fun e => by subst e; rw [h2p] at hb; cases hb; cases c)]
        exact hb
      · rw [Foot.alone o f] at w
        obtain ⟨i, w⟩ := w
        exact no2 ⟨i, (o3 i p).mp w⟩
  · cases e5
end
end Mp
namespace Mp
open PySem PySem.Spec L2 LamX
open PyProof.Rows hiding St
variable [LamT]

/-! ### [y for x in a for y in b(x)] -/
structure ItW (K : PySem.W.Frag) (H1 : Hp) (J : It) (ds : List D) : Prop where
  stop : ∀ H, Per H1 H → J.stop ds.length H
  go : ∀ i H, i < ds.length → Per H1 H → J.go i H
  yld : ∀ i H x H', i < ds.length → Per H1 H → J.yld i H x H' → H' = H ∧ ∃ d, ds[i]? = some d ∧ Rz K H x d
theorem ItRel.w {K : PySem.W.Frag} {H1 : Hp} {J : It} {ds : List D} (ir : ItRel K H1 J ds) : ItW K H1 J ds := by
  cases ir with
  | lst hs ha =>
    rename_i a xs
    refine ⟨fun H p => ⟨xs, (hs.per p).sq, by rw [ha.length]; exact Nat.le_refl _⟩, fun i H hi p => ⟨xs, xs[i]'(by rw [ha.length]; exact hi), (hs.per p).sq, by simp⟩, fun i H x H' hi p y => ?_⟩
    obtain ⟨rfl, y⟩ := y
    obtain ⟨d, hd, z⟩ := ha.get' (y xs (hs.per p).sq)
    exact ⟨rfl, d, hd, z.per p⟩
  | tup hs ha =>
    rename_i a xs
    refine ⟨fun H p => ⟨xs, SqT.per p hs, by rw [ha.length]; exact Nat.le_refl _⟩, fun i H hi p => ⟨xs, xs[i]'(by rw [ha.length]; exact hi), SqT.per p hs, by simp⟩, fun i H x H' hi p y => ?_⟩
    obtain ⟨rfl, y⟩ := y
    obtain ⟨d, hd, z⟩ := ha.get' (y xs (SqT.per p hs))
    exact ⟨rfl, d, hd, z.per p⟩
  | rng =>
    rename_i lo n
    refine ⟨fun H p => ?_, fun i H hi p => ?_, fun i H x H' hi p y => ?_⟩
    · show n ≤ (rngD lo n).length
      rw [rngD_length]; exact Nat.le_refl _
    · show i < n
      rw [rngD_length] at hi; exact hi
    · obtain ⟨rfl, rfl⟩ := y
      rw [rngD_length] at hi
      exact ⟨rfl, .int (lo + i), by simp [rngD, hi], .int _⟩
  | str =>
    rename_i z
    refine ⟨fun H p => ?_, fun i H hi p => ?_, fun i H x H' hi p y => ?_⟩
    · show z.cps.size ≤ (signsD z).length
      rw [signsD_len]; exact Nat.le_refl _
    · show i < z.cps.size
      rw [signsD_len] at hi; exact hi
    · obtain ⟨rfl, c, hc, rfl⟩ := y
      exact ⟨rfl, .str ⟨#[c]⟩, by simp [signsD, hc], .str _⟩
  | keys hd hr =>
    rename_i d o ks es
    refine ⟨fun H p => ⟨p.2.1 _ _ _ hd, by rw [List.length_map, hr.length]; exact Nat.le_refl _⟩, fun i H hi p => ⟨p.2.1 _ _ _ hd, by rw [List.length_map] at hi; rw [hr.length]; exact hi⟩, fun i H x H' hi p y => ?_⟩
    obtain ⟨rfl, k, v, hk, rfl⟩ := y
    obtain ⟨e, e1, _⟩ := hr.get' hk
    exact ⟨rfl, keyD k, by simp [e1], rz_key k⟩
theorem fs_off {e : Expr} (h : notSet e = true) : ∀ env x, foldedSetIterable e env x = pure x := by
  intro env z
  cases e <;> first | rfl | cases h
theorem tYes_of {σ : St} {H : Hp} {A B : Hp → Prop} (h : A H) : tYes σ H (fun b H' => if b = true then A H' else B H') := by
  show (if true = true then A H else B H)
  rw [if_pos rfl]
  exact h
section
variable {X : Cx} {T : CT} {bl : List Str}
def flatF (T : CT) (i : Nat) (m : ME) : D → Ev → Option (List D × Ev) := fun x ρt => (setDa ρt i x).bind fun ρ2 => (ev T m ρ2).bind fun (d, ρ3) => match d with
        | .list xs => some (xs, ρ3)
        | _ => none
/-- the state behind n turns -/
def FlAt (T : CT) (K : PySem.W.Frag) (i : Nat) (m : ME) (own : List Nat) (σ : St) (ρ1 : Ev) (H1 : Hp) (Dd : Addr) (ds out : List D) (ρe : Ev) (n : Nat) (H : Hp) : Prop :=
  ∃ (acc : List V) (accD : List D) (ρi : Ev) (rest : List D), H Dd = some (.lst acc) ∧ RzAll K H acc accD ∧ Rel K H (wipe σ own) (wipes ρi own) ∧ Sk (wipes ρ1 own) (wipes ρi own) ∧
    Keep (wipe σ own) (wipes ρ1 own) H1 (wipes ρi own) H ∧ flatLoop (flatF T i m) own (ds.drop n) ρi = some (rest, ρe) ∧ accD ++ rest = out ∧ ¬ Owned H (wipe σ own) (wipes ρi own) Dd
theorem flat_imp {i j : Nat} {it : MI} {m : ME} {own : List Nat} (hE : isEn it = false) (hi : i ∈ own) (hj : j ∈ own) (σ : St) (H : Hp) (Q : VK) (q : tEvF T X.K (.flat i j it m own) σ H Q) :
    tLc2 (tIv T X.K it) (gName i) tYes (tIv T X.K (.seq m)) (gName j) tYes (tVar j) own [j] σ H Q := by
  obtain ⟨ρ, d, ρ', R, ee, q⟩ := q
  unfold ev at ee
  obtain ⟨⟨ds, ρ1⟩, e1, e2⟩ := Option.bind_eq_some_iff.mp ee
  obtain ⟨⟨out, ρe⟩, e3, e4⟩ := Option.bind_eq_some_iff.mp e2
  simp only at e4
  split at e4
  · rename_i hz
    cases e4
    obtain ⟨hz, hjl⟩ := hz
    refine ⟨ρ, ds, ρ1, R, e1, fun J H1 k1 s1 R1 ir ln Dd hD => ?_⟩
    have w := (ir.resolve_right fun z => by rw [hE] at z; exact nomatch z.1).w
    have h0 : FlAt T X.K i m own σ ρ1 H1 Dd ds out ρe 0 (upd H1 Dd (.lst [])) :=
      ⟨[], [], ρ1, out, upd_same, .nil, (R1.same (same_new hD)).wipe own, Sk.refl _, Keep.same (R1.wipe own) (same_new hD), e3, rfl, fresh_unowned (R1.wipe own) hD (same_owned (R1.wipe own) (same_new hD))⟩
    refine ⟨fun n k H2 => k = ds.length - n ∧ n ≤ ds.length ∧ FlAt T X.K i m own σ ρ1 H1 Dd ds out ρe n H2, ⟨ds.length, by simp, Nat.zero_le _, h0⟩, ?_⟩
    rintro n k H2 ⟨rfl, hn, acc, accD, ρi, rest, hacc, za, Ri, ski, kp, el, eo, nD0⟩
    have per : Per H1 H2 := kp.per (R1.wipe own)
    by_cases hlt : n < ds.length
    · refine .inr ⟨w.go n H2 hlt per, fun H' => FlAt T X.K i m own σ ρ1 H1 Dd ds out ρe (n + 1) H', fun H' p' => ⟨ds.length - (n + 1), by omega, rfl, hlt, p'⟩, fun x H' y => ?_⟩
      obtain ⟨rfl, dd, hd, z⟩ := w.yld n H2 x H' hlt per y
      have hdrop : ds.drop n = dd :: ds.drop (n + 1) := by
        rw [List.drop_eq_getElem_cons hlt]
        congr 1
        rw [List.getElem?_eq_getElem hlt] at hd
        exact Option.some.inj hd
      rw [hdrop] at el
      unfold flatLoop at el
      obtain ⟨⟨xs', ρ3'⟩, g1, g2⟩ := Option.bind_eq_some_iff.mp el
      obtain ⟨⟨rest', ρe'⟩, g3, g4⟩ := Option.map_eq_some_iff.mp g2
      cases g4
      unfold flatF at g1
      obtain ⟨ρ2, b1, b2⟩ := Option.bind_eq_some_iff.mp g1
      obtain ⟨⟨dl, ρ3⟩, c1, c2⟩ := Option.bind_eq_some_iff.mp b2
      cases dl <;> first | (cases c2; done) | skip
      rename_i xs
      cases c2
      obtain ⟨R2, o2⟩ := Ri.set_da b1 z
      have nD2 : ¬ Owned H' ((wipe σ own).set i (some x)) ρ2 Dd := fun ⟨j, w⟩ => nD0 ⟨j, o2 H' j Dd w⟩
      have ntl : ∀ {xs : List V} (ps : Array Value), HO.lst xs ≠ .tbl ps := fun ps e => by cases e
      have w2 : wipe ((wipe σ own).set i (some x)) own = wipe σ own := by rw [wipe_set hi, wipe_wipe]
      have wb : wipes ρ2 own = wipes ρi own := by
        obtain ⟨rfl, _, _⟩ := setDa_spec b1
        rw [wipes_set hi, wipes_wipes]
      refine ⟨w2, tYes_of ?_⟩
      have es : evi T (.seq m) ρ2 = some (xs', ρ3') := by
        unfold evi
        rw [c1]
        rfl
      refine ⟨ρ2, xs', ρ3', R2, es, fun J1 H4 k4 s4 R4 ir1 ln1 => ?_⟩
      have w1 := (ir1.resolve_right fun z => (by cases z.1)).w
      have per4 := k4.per R2
      have h4 : H4 Dd = some (.lst acc) := k4.keep _ _ hacc nD2 ntl
      have nD4 : ¬ Owned H4 ((wipe σ own).set i (some x)) ρ3' Dd := fun w => (k4.owned w).elim nD2 fun e => by rw [hacc] at e; cases e
      have upd_self : upd H4 Dd (.lst acc) = H4 := by
        funext b
        by_cases hb : b = Dd
        · subst hb; rw [upd_same, h4]
        · rw [upd_ne hb]
      have per5 : ∀ acc5, Per H4 (upd H4 Dd (.lst acc5)) := fun acc5 => by
        refine ⟨fun b ys hb => ?_, fun b o u hb => ?_, fun b ys hb => ?_⟩
        · rw [upd_ne (fun e => by subst e; rw [h4] at hb; cases hb)]; exact hb
        · rw [upd_ne (fun e => by subst e; rw [h4] at hb; cases hb)]; exact hb
        · rw [upd_ne (fun e => by subst e; rw [h4] at hb; cases hb)]; exact hb
      refine ⟨fun k k1 H5 => k1 = xs'.length - k ∧ k ≤ xs'.length ∧ ∃ acc5, H5 = upd H4 Dd (.lst acc5) ∧ RzAll X.K H5 acc5 (accD ++ xs'.take k), ⟨xs'.length, by simp, Nat.zero_le _, acc, upd_self.symm, by simpa using za.per per4⟩, ?_⟩
      rintro k k1 H5 ⟨rfl, hk, acc5, rfl, za5⟩
      have hlen5 := za5.length
      rw [List.length_append, List.length_take] at hlen5
      have hout : out.length = accD.length + (xs'.length + rest'.length) := by rw [← eo, List.length_append, List.length_append]
      by_cases hlk : k < xs'.length
      · refine .inr ⟨w1.go k _ hlk (per5 acc5), fun H' => ∃ acc6, H' = upd H4 Dd (.lst acc6) ∧ RzAll X.K H' acc6 (accD ++ xs'.take (k + 1)), fun H' p' => ⟨xs'.length - (k + 1), by omega, rfl, hlk, p'⟩, fun y H' yy => ?_⟩
        obtain ⟨rfl, de, hde, zy⟩ := w1.yld k _ y H' hlk (per5 acc5) yy
        refine ⟨by rw [wipe_set List.mem_cons_self, wipe_wipe], tYes_of ?_⟩
        have hjs : j < (wipe ((wipe σ own).set i (some x)) [j]).length := by
          rw [wipe_length, List.length_set, wipe_length, ← R1.len]
          exact hjl
        refine ⟨y, List.getElem?_set_self hjs, acc5, upd_same, by omega, acc5 ++ [y], upd_upd .., ?_⟩
        rw [upd_upd]
        have zn : RzAll X.K (upd H4 Dd (.lst acc5)) (acc5 ++ [y]) (accD ++ xs'.take (k + 1)) := by
          have et : xs'.take (k + 1) = xs'.take k ++ [de] := by
            rw [List.take_succ, hde]
            rfl
          rw [et, ← List.append_assoc]
          exact za5.append (.cons zy .nil)
        refine zn.per ⟨fun b ys hb => ?_, fun b o u hb => ?_, fun b P hb => ?_⟩
        · by_cases e : b = Dd
          · subst e; rw [upd_same] at hb; cases hb
          · rw [upd_ne e] at hb ⊢; exact hb
        · by_cases e : b = Dd
          · subst e; rw [upd_same] at hb; cases hb
          · rw [upd_ne e] at hb ⊢; exact hb
        · by_cases e : b = Dd
          · subst e; rw [upd_same] at hb; cases hb
          · rw [upd_ne e] at hb ⊢; exact hb
      · have ek : k = xs'.length := by omega
        subst ek
        obtain ⟨R5, o5⟩ := R4.off (H' := upd H4 Dd (.lst acc5)) (fun b w => upd_ne (fun e => nD4 (by rw [← e]; exact w))) (per5 acc5) (tabs_upd R4.tb h4 rfl)
        refine .inl ⟨w1.stop _ (per5 acc5), acc5, accD ++ xs', ρ3', rest', upd_same, by simpa using za5, ?_, ?_, ?_, g3, by rw [List.append_assoc]; exact eo, fun ⟨l, w⟩ => nD4 ⟨l, ?_⟩⟩
        · have := R5.wipe own
          rwa [w2] at this
        · exact ski.trans (by have := s4.wipes own; rwa [wb] at this)
        · refine ⟨fun b u hb n' t => ?_, fun l b w => ?_, fun b hb => ?_, fun P q mt t => ?_⟩
          · rw [upd_ne (ne_of_none hb hD)]
            refine k4.keep _ _ (kp.keep b u hb n' t) (fun ⟨l, w'⟩ => ?_) t
            rcases kp.owned ⟨l, o2 H' l b w'⟩ with z | z
            · exact n' z
            · rw [hb] at z; cases z
          · have w' : OwnedAt H4 ((wipe σ own).set i (some x)) ρ3' l b := by
              rw [← w2] at w
              exact (o5 l b).mp w.wiped
            rcases k4.own l b w' with z | z
            · exact kp.own l b (o2 H' l b z)
            · exact .inr (kp.alive b z)
          · refine kp.alive b (k4.alive b ?_)
            by_cases e : b = Dd
            · subst e; rw [upd_same] at hb; cases hb
            · rwa [upd_ne e] at hb
          · refine tabs_of (fun b u hb c => ?_) P q (k4.tabs P q mt (kp.tabs P q mt t))
            rw [upd_ne (fun e => by subst e; rw [h4] at hb; cases hb; cases c)]
            exact hb
        · rw [← w2] at w
          exact (o5 l Dd).mp w.wiped
    · have en : n = ds.length := by omega
      subst en
      rw [List.drop_length] at el
      cases el
      rw [List.append_nil] at eo
      subst eo
      obtain ⟨R2, s2, k2⟩ := rel_restore R1 Ri ski kp
      have o : OwnS X.K H2 Dd (.list accD) := ⟨acc, hacc, za⟩
      exact .inl ⟨w.stop H2 per, q Dd H2 (k1.trans s1 k2) (s1.trans s2) R2 (fun b f => by rw [Foot.alone o f]; exact k1.alive _ hD) (fun b f w => by
        rw [Foot.alone o f] at w
        exact restore_un (ρ := ρ1) R1 Ri ski kp hD nD0 w) o.own⟩
  · cases e4
theorem flat_frz (G : Gd X T bl) {i j : Nat} {it : MI} {m : ME} {own : List Nat} {y a b : Str} {py pa pb : Pos} {iter iter1 : Expr} {scope : Scope} {pos : Pos} (hE : isEn it = false) (hI : PI X (.Name a pa) iter (tIv T X.K it)) (hs : notSet iter = true) (hb : blkC T.N X.env.scope scope (ownN T.N own) = true)
    (ha : tgB T.N scope i a = true) (hi : i ∈ own) (hb' : tgB T.N scope j b = true) (hj : j ∈ own) (hs1 : notSet iter1 = true)
    (hm : ∀ (s : Shared) (H : Hp) (C : Addr) (cl : List (Str × Addr)) (fp : List Addr), PE (X.blk s H scope (compEnvC scope cl C X.env) fp) iter1 (tEv T X.K m))
    (hy : ∀ (s : Shared) (H : Hp) (C : Addr) (cl : List (Str × Addr)) (fp : List Addr), PE (X.blk s H scope (compEnvC scope cl C X.env) fp) (.Name y py) (tVar j)) :
    PE X (.ListComp (.Name y py) [⟨.Name a pa, iter, [], 0⟩, ⟨.Name b pb, iter1, [], 0⟩] scope pos) (tEvF T X.K (.flat i j it m own)) := by
  have eo : (ownN T.N own).map (·.2) = own := by simp [ownN, Function.comp_def]
  have base := pe_lc2 (wi1 := tIv T X.K (.seq m)) (te := tVar j) (g := gName i) (g1 := gName j) (iter1 := iter1) (tg1 := .Name b pb) (pos := pos) (vs1 := [j]) (tt := tYes) (tt1 := tYes) G.calm (by rw [G.hN]; exact G.nd) hI (blkOk_by (by rw [G.hN]; exact hb)) (by rw [eo]; intro k hk; rw [List.mem_singleton.mp hk]; exact hj)
    (fun s H C cl fp => pg_blk G ha s H C cl fp) (fun s H C cl fp => pts_nil) (fun s H C cl fp => pi_seq (X := X.blk s H scope (compEnvC scope cl C X.env) fp) (tg := .Name b pb) (hm s H C cl fp)) (fun s H C cl fp => pg_blk G hb' s H C cl fp) (fun s H C cl fp => pts_nil) hy
    (fs_off hs _) (fs_off hs1)
  refine PE.imp base fun σ H Q q => ?_
  rw [eo]
  exact flat_imp hE hi hj σ H Q q
end
end Mp
namespace Mp
open PySem PySem.Spec L2 LamX
open PyProof.Rows hiding St
variable [LamT]
section
variable {X : Cx} {T : CT} {bl : List Str}
/-! ### objects: a field read, isinstance of a class -/
theorem valV_fKey (f : Str) : ∀ fs : List (Str × V), valV (fKey fs) (.inr f) = fs.lookup f
  | [] => rfl
  | (g, v) :: r => by
    have ih := valV_fKey f r
    unfold valV fKey at ih ⊢
    rw [List.map_cons, List.lookup_cons]
    by_cases e : g = f
    · subst e
      simp
    · have e1 : (f == g) = false := by simpa using fun z : f = g => e z.symm
      have e2 : ¬ (Sum.inr g : Key) = Sum.inr f := fun z => e (Sum.inr.inj z)
      rw [e1, List.find?_cons_of_neg (by simpa using e2)]
      exact ih
theorem fld_ob {tb : List (Str × Str)} {f : Str} {d z : D} (e : fldD tb f d = some z) : isOb d = true ∧ ∃ k nm ds, d = .dict ((k, .str nm) :: ds) ∧ (nm, f) ∈ tb ∧ valD (.inr f) ds = some z := by
  unfold fldD at e
  split at e
  · split at e
    · rename_i h
      exact ⟨h.1, _, _, _, rfl, h.2, e⟩
    · cases e
  · cases e
theorem fld_pe (G : Gd X T bl) {y : Expr} {f : Str} {pos : Pos} {a : ME} (hn : noSup y = true) (he : PE X y (tEv T X.K a)) : PE X (.Attribute y f pos) (tEv T X.K (.fld f a)) := by
  refine ⟨fun pins s σ H Q I q => ?_⟩
  obtain ⟨ρ, d, ρ', R, ee, q⟩ := q
  unfold ev at ee
  obtain ⟨⟨d0, ρ1⟩, e1, e2⟩ := Option.bind_eq_some_iff.mp ee
  obtain ⟨z, e3, e4⟩ := Option.map_eq_some_iff.mp e2
  cases e4
  obtain ⟨io, k, nm, ds, rfl, ht, ev'⟩ := fld_ob e3
  refine attr_of (noSup_ok hn) (thn (he.run pins s σ H (fun v H' => Keep σ ρ H ρ' H' ∧ Sk ρ ρ' ∧ Rel X.K H' σ ρ' ∧ Rz X.K H' v (.dict ((k, .str nm) :: ds))) I ⟨ρ, _, ρ', R, e1, fun v H' a b c d => ⟨a, b, c, d⟩⟩) fun u s1 ⟨x, H1, I1, rx, kp, sk, R1, rz⟩ => ?_)
  obtain ⟨p, C, nm', fs, ds', rfl, ed, o, c, r⟩ := rz.ob io
  cases ed
  obtain rfl : u = Value.ref p := rx
  obtain ⟨w, ew, zw⟩ := valD_rz r ev'
  rw [valV_fKey] at ew
  exact o.get (G.fld _ ht C c) ew I1 fun u' tk ru => ⟨w, H1, I1.tok _, ru, q w H1 kp sk R1 zw⟩
theorem pe_cls {mg : Str → Option Value} {x : Str} {p : Pos} {v : V} {u : Value} (hx : gloB X.env.scope x = true) (h : NameV X.mg x v u) : PE X (.Name x p) (tC v) := by
  simp only [gloB, Bool.and_eq_true, decide_eq_true_eq, Bool.not_eq_true'] at hx
  rcases h with ⟨h1, h2, _⟩ | ⟨Tn, h1, h2, rfl, rfl, h3⟩
  · exact pe_glob hx.1 h1 h2 hx.2
  · exact ⟨fun _ _ _ H _ I h => ld_blt I hx.1 h1 h2 ⟨.ty Tn, H, I, rfl, h⟩ h3 hx.2⟩
theorem call_isOb (D : Value) : CallR X (.builtin "isinstance") (fun vs H Q => ∃ a C fs b c, vs = [.ref a, c] ∧ (∀ z, RelV c z → z = D) ∧ ObAt X.K H a C fs ∧ PySem.W.kitOne X.K (.ref C) D = some b ∧ Q (.bl b) H) := by
  intro pins s σ H vs us Q I r h
  obtain ⟨a, C, fs, b, c, rfl, hc, o, e, q⟩ := h
  cases r with
  | cons rx rr =>
    cases rr with
    | cons rt rr =>
      cases rr
      cases rx
      have e' := hc _ rt
      subst e'
      exact o.isi I e fun tk => ⟨.bl b, H, I.tok _, rfl, q⟩
theorem lookup_mem {α β : Type} [BEq α] [LawfulBEq α] {a : α} {b : β} : ∀ {l : List (α × β)}, l.lookup a = some b → (a, b) ∈ l
  | [], h => by cases h
  | (c, d) :: r, h => by
    rw [List.lookup_cons] at h
    split at h
    · rename_i e
      cases h
      rw [eq_of_beq e]
      exact List.mem_cons_self
    · exact List.mem_cons_of_mem _ (lookup_mem h)
theorem isc_ob {tb : List ((Str × Str) × Bool)} {x : Str} {d z : D} (e : isCD tb x d = some z) : isOb d = true ∧ ∃ k nm ds b, d = .dict ((k, .str nm) :: ds) ∧ ((nm, x), b) ∈ tb ∧ z = .bool b := by
  unfold isCD at e
  split at e
  · split at e
    · rename_i h
      obtain ⟨b, e1, e2⟩ := Option.map_eq_some_iff.mp e
      exact ⟨h, _, _, _, b, rfl, lookup_mem e1, e2.symm⟩
    · cases e
  · cases e
theorem isC_pe (G : Gd X T bl) {y : Expr} {i c : Str} {p1 p2 pos : Pos} {a : ME} (hi : glB X.env.scope bl i "isinstance" = true) (hc : gloB X.env.scope c = true) (ns : notStar y = true) (he : PE X y (tEv T X.K a)) :
    PE X (.Call (.Name i p1) [y, .Name c p2] [] pos) (tEv T X.K (.isC c a)) := by
  obtain ⟨rfl, hi⟩ := glB_self hi
  simp only [glB, Bool.and_eq_true, decide_eq_true_eq, Bool.not_eq_true'] at hi
  obtain ⟨⟨⟨⟨_, q1⟩, q2⟩, q3⟩, q4⟩ := hi
  refine ⟨fun pins s σ H Q I q => ?_⟩
  obtain ⟨ρ, d, ρ', R, ee, q⟩ := q
  unfold ev at ee
  obtain ⟨⟨d0, ρ1⟩, e1, e2⟩ := Option.bind_eq_some_iff.mp ee
  obtain ⟨z, e3, e4⟩ := Option.map_eq_some_iff.mp e2
  cases e4
  obtain ⟨io, k, nm, ds, b, rfl, ht, rfl⟩ := isc_ob e3
  obtain ⟨v, u, nv, kit⟩ := G.isc _ ht
  have uq : ∀ z, RelV v z → z = u := by
    rcases nv with ⟨_, _, h⟩ | ⟨Tn, _, _, rfl, rfl, _⟩
    · exact h
    · exact fun z h => h
  have P := pe_callB (pos := pos) (p := p1) (call_isOb (X := X) u) q1 (G.blt _ q2) (by decide +kernel) (pa_cons he (pa_cons (pe_cls (mg := X.mg) (p := p2) hc nv) pa_nil (star_off rfl)) (star_off ns)) (by simpa using q3) q4 (star_off ns) (by rw [star_off rfl]; rfl)
  refine P.run pins s σ H Q I ⟨ρ, _, ρ', R, e1, fun w H' kp sk R1 rz => ?_⟩
  obtain ⟨p, C, nm', fs, ds', rfl, ed, o, cn, r⟩ := rz.ob io
  cases ed
  exact ⟨p, C, fs, b, v, rfl, uq, o, kit C cn, q _ H' kp sk R1 (.bl _)⟩
end
end Mp
namespace Mp
open PySem PySem.Spec L2 LamX
open PyProof.Rows hiding St
variable [LamT]

/-! ### a call that may be lent one thing to look at -/
section
variable {X : Cx} {F : FnT} {g : Addr}
def RunL (X : Cx) (F : FnT) (g : Addr) : Prop := ∀ {pins : List (Addr × Obj)} {σ : St} {H : Hp} {s : Shared} {Q : VK} {us ws : List Value} {vs zs : List V} {ρ ρ' : Ev} {as : List Arg} {d : D}, L2.Inv X pins σ H s → Vals vs us → Vals zs ws → vs.length = F.np → zs.length = F.ks.length →
  Rel X.K H σ ρ → ArgRel X.K H σ (vs ++ zs) as → callL F as ρ = some (d, ρ') →
  (∀ v H', Keep σ ρ H ρ' H' → Sk ρ ρ' → Rel X.K H' σ ρ' → RetC X.K H H' σ ρ' F.ro v d → Q v H') →
  wpAny (model X.prog X.w) X.A (call (.ref g) us (F.ks.zip ws)) (EP X pins σ Q) X.xe s
theorem run_l (G : RunAt X F g) : RunL X F g := by
  intro pins σ H s Q us ws vs zs ρ ρ' as d I rv rz lv lz R ar e q
  unfold callL at e
  split at e
  · exact G I rv rz lv lz R ar e fun v H' k s R' r _ => q v H' k s R' r
  · rename_i i hi
    split at e
    · rename_i c hc
      split at e
      · rename_i hm
        obtain ⟨hm, hro⟩ := hm
        obtain ⟨⟨d2, ρ2⟩, e1, e2⟩ := Option.bind_eq_some_iff.mp e
        simp only at e2
        split at e2
        · rename_i hok
          cases e2
          obtain ⟨p, hp, o⟩ := R.ow i c hc
          obtain ⟨HL, IL, hn, hf, zL⟩ := o.lock I
          have per := still_per hn hf
          have R1 : Rel X.K HL σ (ρ.set i (.da (frzD c))) := by
            have hl := (List.getElem?_eq_some_iff.mp hc).1
            have at_ : ∀ {j : Nat} {x : D}, (ρ.set i (.da (frzD c)))[j]? = some (.ow x) → i ≠ j ∧ ρ[j]? = some (.ow x) := fun {j x} h => by
              by_cases hj : i = j
              · subst hj; rw [List.getElem?_set_self hl] at h; cases h
              · rw [List.getElem?_set_ne hj] at h; exact ⟨hj, h⟩
            have st : ∀ {j : Nat} {x : D} {b : Addr} {r : Addr}, i ≠ j → ρ[j]? = some (.ow x) → σ[j]? = some (some (.ref r)) → Foot H r x b → HL b = H b := fun {j x b r} hj h1 h2 f => hn b fun f' => R.ne i j c x p r b hj hc h1 hp h2 f' f
            refine ⟨fun j x h => ?_, fun j x h => ?_, fun j k x y r t b hjk h1 h2 h3 h4 f1 f2 => ?_, by rw [List.length_set]; exact R.len, fun t ht => still_tabs hn hf _ _ (R.tb t ht), fun j h => by
              by_cases hj : i = j
              · subst hj
                rw [List.getElem?_set_self hl] at h; cases h
              · rw [List.getElem?_set_ne hj] at h
                exact ⟨(R.fv j h).1, (R.fv j h).2.trans per⟩⟩
            · by_cases hj : i = j
              · subst hj
                rw [List.getElem?_set_self hl] at h; cases h
                exact ⟨_, hp, zL⟩
              · rw [List.getElem?_set_ne hj] at h
                obtain ⟨v, a, z⟩ := R.da j x h
                exact ⟨v, a, z.per per⟩
            · obtain ⟨hj, h⟩ := at_ h
              obtain ⟨r, a, z⟩ := R.ow j x h
              exact ⟨r, a, z.keep (fun b f => st hj h a f) per⟩
            · obtain ⟨n1, h1⟩ := at_ h1
              obtain ⟨n2, h2⟩ := at_ h2
              exact R.ne j k x y r t b hjk h1 h2 h3 h4 ((Foot.iff (st n1 h1 h3 (Foot.self ..))).mp f1) ((Foot.iff (st n2 h2 h4 (Foot.self ..))).mp f2)
          refine thn (G IL rv rz lv lz R1 (unl_rel per hp zL ar) e1 (Q := fun v H' => (∀ b o, HL b = some o → (∀ ps, o ≠ .tbl ps) → H' b = some o) ∧ (∀ b, H' b = none → HL b = none) ∧ (∀ P q, (P, q) ∈ LamT.ts → TabS HL P q → TabS H' P q) ∧ Rz X.K H' v d) fun v H' k _ _ r st => ?_) fun u s' h => ?_
          · unfold RetC at r
            rw [hro] at r
            exact ⟨st hm, k.alive, k.tabs, r⟩
          · obtain ⟨v, H', I', rv', st, al, tb, z⟩ := h
            have fz : ∀ b, Foot H p c b → ∃ u ob, H b = some u ∧ canFz u = true ∧ H' b = some (.frz ob u) := fun b f => by
              obtain ⟨u, ob, h1, h2, h3⟩ := hf b f
              exact ⟨u, ob, h1, h2, st b _ h3 (fun _ e => by cases e)⟩
            obtain ⟨HU, IU, u1, u2⟩ := Mp.Inv.thaws I I' (feetL H p c) fun b hb => fz b (mem_feetL.mp hb)
            have u1 : ∀ b, Foot H p c b → HU b = H b := fun b f => u1 b (mem_feetL.mpr f)
            have u2 : ∀ b, ¬ Foot H p c b → HU b = H' b := fun b f => u2 b fun z => f (mem_feetL.mp z)
            have stay : ∀ b o, H b = some o → (∀ ps, o ≠ .tbl ps) → HU b = some o := fun b o hb t => by
              by_cases f : Foot H p c b
              · rw [u1 b f]; exact hb
              · rw [u2 b f]; exact st b o (by rw [hn b f]; exact hb) t
            have perU : Per H HU := ⟨fun b xs hb => stay b _ hb fun _ e => (by cases e), fun b o u hb => stay b _ hb fun _ e => (by cases e), fun b P hb => stay b _ hb fun _ e => (by cases e)⟩
            have tabU : ∀ P q, (P, q) ∈ LamT.ts → TabS H P q → TabS HU P q := fun P q mt t => by
              obtain ⟨ps, h1, h2, h3⟩ := tb P q mt (still_tabs hn hf P q t)
              have nf : ∀ {b o}, H' b = some o → (∀ ob u, o ≠ .frz ob u) → HU b = some o := fun {b o} hb n => by
                rw [u2 b fun f => ?_]
                · exact hb
                · obtain ⟨u, ob, _, _, e⟩ := fz b f
                  rw [hb] at e; cases e; exact n _ _ rfl
              refine ⟨ps, nf h1 (fun _ _ e => by cases e), h2, fun pos cv hc => ?_⟩
              obtain ⟨c0, g1, g2⟩ := h3 pos cv hc
              exact ⟨c0, g1, nf g2 (fun _ _ e => by unfold CodeO at e; cases e)⟩
            obtain ⟨RU, oU⟩ := R.off (fun b w => by
              obtain ⟨u, hu, cu⟩ := R.mut w
              exact (stay b u hu fun ps e => by subst e; cases cu).trans hu.symm) perU (fun t ht => tabU _ _ ht (R.tb t ht))
            refine ⟨v, HU, IU, rv', q v HU ⟨fun b o hb _ t => stay b o hb t, fun j b w => .inl ((oU j b).mp w), fun b hb => ?_, fun P q mt t => ?_⟩ (Sk.refl _) RU ?_⟩
            · by_cases f : Foot H p c b
              · rwa [u1 b f] at hb
              · rw [u2 b f] at hb
                rw [← hn b f]; exact al b hb
            · exact tabU P q mt t
            · unfold RetC
              rw [hro, if_neg Bool.false_ne_true]
              unfold okL at hok
              split at hok
              · refine okL_flat (P := Foot H p c) u2 (fun b f => ?_) hok z
                obtain ⟨u, ob, _, h2, h3⟩ := fz b f
                exact ⟨ob, u, h3, h2⟩
              · rename_i hl
                refine okL_nod (P := Foot H p c) u2 (fun b f => ?_) hok z
                obtain ⟨u, ob, h1, h2, h3⟩ := fz b f
                exact ⟨ob, u, h3, h2, fun xs e => hl (foot_lst o f (by rw [h1, e]))⟩
        · cases e2
      · cases e
    · cases e
end
end Mp
namespace Mp
open PySem PySem.Spec L2 LamX
open PyProof.Rows hiding St
variable [LamT]
/-! ### what is reckoned from data alone -/
theorem hide_at {ρ : Ev} {i : Nat} : (hide ρ)[i]? = (ρ[i]?).map hideS := List.getElem?_map
theorem hide_no {ρ : Ev} {i : Nat} {d : D} : (hide ρ)[i]? ≠ some (.ow d) := fun h => by
  rw [hide_at] at h
  cases e : ρ[i]? with
  | none => rw [e] at h; cases h
  | some s => rw [e] at h; cases s <;> cases h
theorem hide_da {ρ : Ev} {i : Nat} {d : D} (h : (hide ρ)[i]? = some (.da d)) : ρ[i]? = some (.da d) := by
  rw [hide_at] at h
  cases e : ρ[i]? with
  | none => rw [e] at h; cases h
  | some s => rw [e] at h; cases s <;> first | exact h | cases h
theorem hide_fv {ρ : Ev} {i : Nat} (h : (hide ρ)[i]? = some .fv) : ρ[i]? = some .fv := by
  rw [hide_at] at h
  cases e : ρ[i]? with
  | none => rw [e] at h; cases h
  | some s => rw [e] at h; cases s <;> first | exact h | cases h
theorem Rel.hide {K : PySem.W.Frag} {H : Hp} {σ : St} {ρ : Ev} (R : Rel K H σ ρ) : Rel K H σ (hide ρ) :=
  ⟨fun i d h => R.da i d (hide_da h), fun i d h => (hide_no h).elim, fun i j d e p q b _ h => (hide_no h).elim, by unfold Mp.hide; rw [List.length_map]; exact R.len, R.tb, fun i h => R.fv i (hide_fv h)⟩
theorem hide_owned {H : Hp} {σ : St} {ρ : Ev} {b : Addr} : ¬ Owned H σ (hide ρ) b := fun ⟨i, d, p, h, _⟩ => hide_no h
/-- what is reckoned from data alone leaves all as it was -/
theorem hide_keep {K : PySem.W.Frag} {H H' : Hp} {σ : St} {ρ ρ' : Ev} (R : Rel K H σ ρ) (k : Keep σ (hide ρ) H ρ' H') : (∀ b o, H b = some o → (∀ ps, o ≠ .tbl ps) → H' b = some o) ∧ Rel K H' σ ρ ∧ Keep σ ρ H ρ H' := by
  have st : ∀ b o, H b = some o → (∀ ps, o ≠ .tbl ps) → H' b = some o := fun b o h t => k.keep b o h hide_owned t
  have per : Per H H' := ⟨fun b xs h => st b _ h fun _ e => (by cases e), fun b o u h => st b _ h fun _ e => (by cases e), fun b P h => st b _ h fun _ e => (by cases e)⟩
  obtain ⟨R', o⟩ := R.off (fun b w => by
    obtain ⟨u, hu, cu⟩ := R.mut w
    exact (st b u hu fun ps e => by subst e; cases cu).trans hu.symm) per (fun t ht => k.tabs _ _ ht (R.tb t ht))
  exact ⟨st, R', fun b o h _ t => st b o h t, fun i b w => .inl ((o i b).mp w), k.alive, k.tabs⟩
end Mp
namespace Mp
open PySem PySem.Spec L2 LamX
open PyProof.Rows hiding St
variable [LamT]
section
variable {X : Cx} {T : CT} {bl : List Str}
/-! ### calls of defs -/
theorem tAs'_mono {K : PySem.W.Frag} : ∀ (es : MEs) (σ : St) (H : Hp) (Q Q' : List V → Hp → Prop), (∀ ws H2, ws.length = es.len → Q ws H2 → Q' ws H2) → tAs' T K es σ H Q → tAs' T K es σ H Q'
  | .nil, σ, H, Q, Q', i, q => i [] H rfl q
  | .cons a r, σ, H, Q, Q', i, q => tA_mono a σ H _ _ (fun v H1 q => tAs'_mono r σ H1 _ _ (fun ws H2 l q => i (v :: ws) H2 (by simp [l, MEs.len]) q) q) q
theorem args_split {K : PySem.W.Frag} : ∀ {as bs : List Expr} {es : MEs}, ArgsP X T es (as ++ bs) → K = X.K → ∃ e1 e2 : MEs, ArgsP X T e1 as ∧ ArgsP X T e2 bs ∧
    ∀ (σ : St) (H : Hp) (Q : List V → Hp → Prop) (Q' : List V → List V → Hp → Prop), (∀ vs ws H2, vs.length = as.length → ws.length = bs.length → Q (vs ++ ws) H2 → Q' vs ws H2) → tAs' T K es σ H Q → tAs' T K e1 σ H fun vs H1 => tAs' T K e2 σ H1 fun ws H2 => Q' vs ws H2
  | [], bs, es, h, hK => ⟨.nil, es, .nil, h, fun σ H Q Q' i q => tAs'_mono es σ H _ _ (fun ws H2 l q => i [] ws H2 rfl (by rw [l, h.len, List.nil_append]) q) q⟩
  | a :: as, bs, _, h, hK => by
    cases h with
    | cons p n r =>
      rename_i m es
      obtain ⟨e1, e2, h1, h2, h3⟩ := args_split (as := as) (bs := bs) r hK
      refine ⟨.cons m e1, e2, .cons p n h1, h2, fun σ H Q Q' i q => ?_⟩
      exact tA_mono m σ H _ _ (fun v H1 q => h3 σ H1 _ _ (fun vs ws H2 l1 l2 q => i (v :: vs) ws H2 (by simp [l1]) l2 q) q) q
theorem kw_spec : ∀ {kws : List Keyword} {ks : List Str} {es : MEs} (pos : Pos), kwB kws ks = true → ArgsP X T es (kws.map (·.value)) → PK X kws (tAs' T X.K es) ∧ kws.length = ks.length ∧
    (backToKw pos (keywordEach kws X.env)).all (·.1.isSome) = true ∧ (backToKw pos (keywordEach kws X.env)).filterMap (·.1) = ks ∧ (backToKw pos (keywordEach kws X.env)).any (·.1.isNone) = false
  | [], [], _, pos, _, h => by
    cases h
    exact ⟨pk_nil, rfl, rfl, rfl, rfl⟩
  | [], _ :: _, _, _, h, _ => by cases h
  | ⟨some n, v, p⟩ :: r, k :: ks, _, pos, h, A => by
    simp only [kwB, Bool.and_eq_true, decide_eq_true_eq] at h
    obtain ⟨⟨rfl, _⟩, h⟩ := h
    cases A with
    | cons q _ A =>
      obtain ⟨a, b, c, d, e⟩ := kw_spec pos h A
      refine ⟨pk_cons q a, by simp [b], ?_, ?_, ?_⟩
      · show (true && (backToKw pos (keywordEach r X.env)).all (·.1.isSome)) = true
        rw [c]; rfl
      · show n :: (backToKw pos (keywordEach r X.env)).filterMap (·.1) = n :: ks
        rw [d]
      · show (false || (backToKw pos (keywordEach r X.env)).any (·.1.isNone)) = false
        rw [e]; rfl
  | ⟨none, _, _⟩ :: _, _, _, _, h, _ => by simp [kwB] at h
  | ⟨some _, _, _⟩ :: _, [], _, _, h, _ => by simp [kwB] at h
/-- the reading of a call, by what comes back -/
def tFn (T : CT) (K : PySem.W.Frag) (F : FnT) (es : MEs) : TE := fun σ H Q => ∃ ρ as ρ1 d ρ', Rel K H σ ρ ∧ evs T es ρ = some (as, ρ1) ∧ callL F as ρ1 = some (d, ρ') ∧
  ∀ v H', Keep σ ρ H ρ' H' → Sk ρ ρ' → Rel K H' σ ρ' → RetC K H H' σ ρ' F.ro v d → Q v H'
theorem call_pe (G : Gd X T bl) {f : Nat} {x : Str} {F : FnT} {as : List Expr} {kws : List Keyword} {es : MEs} {p pos : Pos} (hf : T.fns[f]? = some (x, F)) (hx : gloB X.env.scope x = true) (hn : as.length = F.np) (hk : kwB kws F.ks = true)
    (A : ArgsP X T es (as ++ kws.map (·.value))) : PE X (.Call (.Name x p) as kws pos) (tFn T X.K F es) := by
  obtain ⟨g, hm, kp, run⟩ := fn_run (G.fn f x F hf) G.quiet
  have run : RunL X F g := run_l run
  simp only [gloB, Bool.and_eq_true, decide_eq_true_eq, Bool.not_eq_true'] at hx
  obtain ⟨e1, e2, A1, A2, sp⟩ := args_split A rfl
  obtain ⟨K1, K2, K3, K4, K5⟩ := kw_spec pos hk A2
  refine ⟨fun pins s σ H Q I q => ?_⟩
  obtain ⟨ρ, args, ρ1, d, ρ', R, ee, ec, q⟩ := q
  refine wpAny_Call_Name_kw (ld_glob I hx.1 hm ?_ hx.2)
  -- once all arguments stand
  have fin : ∀ {vs zs : List V} {us ws : List Value} {H2 : Hp} {s2 : Shared}, L2.Inv X pins σ H2 s2 → Vals vs us → Vals zs ws → vs.length = as.length → zs.length = (kws.map (·.value)).length →
      (Keep σ ρ H ρ1 H2 ∧ Sk ρ ρ1 ∧ Rel X.K H2 σ ρ1 ∧ ArgRel X.K H2 σ (vs ++ zs) args) → wpAny (model X.prog X.w) X.A (call (.ref g) us (F.ks.zip ws)) (EP X pins σ Q) X.xe s2 := fun {vs zs us ws H2 s2} I2 rv rz l1 l2 h => by
    obtain ⟨k2, s2', R2, ar⟩ := h
    refine run I2 rv rz (l1.trans hn) (by rw [l2, List.length_map]; exact K2) R2 ar ec fun v H' k3 s3 R3 ro => ?_
    refine q v H' (k2.trans s2' k3) (s2'.trans s3) R3 ?_
    unfold RetC at ro ⊢
    split
    · rename_i hr
      rw [if_pos hr] at ro
      obtain ⟨p, e, o, f1, f2⟩ := ro
      exact ⟨p, e, o, fun b fb => k2.alive b (f1 b fb), f2⟩
    · rename_i hr
      rw [if_neg hr] at ro
      exact ro
  have rd := sp σ H _ (fun vs zs H2 => vs.length = as.length ∧ zs.length = (kws.map (·.value)).length ∧ (Keep σ ρ H ρ1 H2 ∧ Sk ρ ρ1 ∧ Rel X.K H2 σ ρ1 ∧ ArgRel X.K H2 σ (vs ++ zs) args))
    (fun vs ws H2 a b c => ⟨a, b, c⟩) (tAs_imp es σ H (fun vs H2 => Keep σ ρ H ρ1 H2 ∧ Sk ρ ρ1 ∧ Rel X.K H2 σ ρ1 ∧ ArgRel X.K H2 σ vs args) ⟨ρ, args, ρ1, R, ee, fun vs H2 a b c d => ⟨a, b, c, d⟩⟩)
  cases as with
  | nil =>
    cases A1
    cases kws with
    | nil =>
      have hks : F.ks = [] := by simpa using K2.symm
      cases A2
      have := fin (us := []) (ws := []) I .nil .nil rfl rfl rd.2.2
      rw [hks] at this
      exact PySem.W.callWith_K0 I.kIn kp this
    | cons kw kws =>
      refine PySem.W.callWith_KW0 (h₀ := X.base) I.ok.mod.kin kp K3 (thn (K1.run pos pins s σ H _ I rd) fun ws s2 ⟨zs, H2, I2, rz, l1, l2, q2⟩ => ⟨I2.kIn, ?_⟩) (by show (false || _) = false; rw [K5]; rfl)
      rw [K4]
      exact fin (us := []) I2 .nil rz rfl l2 q2
  | cons a as =>
    have hst : starEach (a :: as) X.env = (false, eval a X.env) :: starEach as X.env := by
      cases A1 with
      | cons _ n _ => exact star_off n
    have hpl : (backTo pos (starEach as X.env)).any (·.1) = false := by
      cases A1 with
      | cons _ n r => exact r.plain _ _
    cases kws with
    | nil =>
      have hks : F.ks = [] := by simpa using K2.symm
      cases A2
      refine PySem.W.callWith_K (h₀ := X.base) I.ok.mod.kin kp (thn (A1.pa.run pos pins s σ H _ I rd) fun us s1 ⟨vs, H1, I1, r, l1, l2, q2⟩ => ⟨I1.kIn, ?_⟩) hst hpl
      have := fin (ws := []) I1 r .nil l1 rfl q2
      rw [hks] at this
      exact this
    | cons kw kws =>
      refine PySem.W.callWith_KW (h₀ := X.base) I.ok.mod.kin kp K3 (thn (A1.pa.run pos pins s σ H _ I rd) fun us s1 ⟨vs, H1, I1, r, q1⟩ => ?_) (by rw [K5, A1.plain pos X.env]; rfl) hst
      refine thn (K1.run pos pins s1 σ H1 _ I1 q1) fun ws s2 ⟨zs, H2, I2, rz, l1, l2, q2⟩ => ⟨I2.kIn, ?_⟩
      rw [K4]
      exact fin I2 r rz l1 l2 q2
/-- what a call hands back stands still from now on, where it was a new thing -/
theorem retc_frz {pins : List (Addr × Obj)} {σ : St} {ρ ρ' : Ev} {H : Hp} {ro : Bool} {d : D} {Q : VK} {u : Value} {s : Shared}
    (h : EP X pins σ (fun v H' => Keep σ ρ H ρ' H' ∧ Sk ρ ρ' ∧ Rel X.K H' σ ρ' ∧ RetC X.K H H' σ ρ' ro v d) u s) (q : ∀ v H', Keep σ ρ H ρ' H' → Sk ρ ρ' → Rel X.K H' σ ρ' → Rz X.K H' v (if ro = true then frzD d else d) → Q v H') : EP X pins σ Q u s := by
  obtain ⟨v, H', I', r, k, sk, R', c⟩ := h
  unfold RetC at c
  split at c
  · rename_i hr
    obtain ⟨p, rfl, o, hp, hn⟩ := c
    obtain ⟨HL, IL, h1, h2, z⟩ := o.lock I'
    have per := still_per h1 h2
    have nf : ∀ b, Owned H' σ ρ' b → ¬ Foot H' p d b := fun b w f => hn b f w
    obtain ⟨RL, oL⟩ := R'.off (fun b w => h1 b (nf b w)) per (fun t ht => still_tabs h1 h2 _ _ (R'.tb t ht))
    refine ⟨.ref p, HL, IL, r, q _ _ ⟨fun b o hb n t => ?_, fun i b w => k.own i b ((oL i b).mp w), fun b hb => k.alive b (still_alive h1 h2 b hb), fun P q mt t => still_tabs h1 h2 P q (k.tabs P q mt t)⟩ sk RL (by rw [if_pos hr]; exact z)⟩
    rw [h1 b fun f => by rw [hp b f] at hb; cases hb]
    exact k.keep b o hb n t
  · rename_i hr
    exact ⟨v, H', I', r, q v H' k sk R' (by rw [if_neg hr]; exact c)⟩
theorem fn_pe (G : Gd X T bl) {f : Nat} {x : Str} {F : FnT} {as : List Expr} {kws : List Keyword} {es : MEs} {p pos : Pos} (hf : T.fns[f]? = some (x, F)) (hx : gloB X.env.scope x = true) (hn : as.length = F.np) (hk : kwB kws F.ks = true)
    (A : ArgsP X T es (as ++ kws.map (·.value))) : PE X (.Call (.Name x p) as kws pos) (tEv T X.K (.fn f es)) := by
  refine ⟨fun pins s σ H Q I q => ?_⟩
  obtain ⟨ρ, d, ρ', R, ee, q⟩ := q
  unfold ev at ee
  obtain ⟨⟨args, ρ1⟩, h1, h2⟩ := Option.bind_eq_some_iff.mp ee
  rw [hf] at h2
  obtain ⟨⟨d2, ρ2⟩, h3, h4⟩ := Option.map_eq_some_iff.mp (show (callL F args ρ1).map _ = _ from h2)
  cases h4
  exact thn ((call_pe G hf hx hn hk A).run pins s σ H _ I ⟨ρ, args, ρ1, d2, _, R, h1, h3, fun v H' k s R' r => ⟨k, s, R', r⟩⟩) fun u s' h => retc_frz h q
theorem fn_peF (G : Gd X T bl) {f : Nat} {x : Str} {F : FnT} {as : List Expr} {kws : List Keyword} {es : MEs} {p pos : Pos} (hf : T.fns[f]? = some (x, F)) (hx : gloB X.env.scope x = true) (hn : as.length = F.np) (hk : kwB kws F.ks = true)
    (A : ArgsP X T es (as ++ kws.map (·.value))) (ro : F.ro = true) : PE X (.Call (.Name x p) as kws pos) (tEvF T X.K (.fnF f es)) := by
  refine PE.imp (call_pe G hf hx hn hk A) fun σ H Q q => ?_
  obtain ⟨ρ, d, ρ', R, ee, q⟩ := q
  unfold ev at ee
  obtain ⟨⟨args, ρ1⟩, h1, h2⟩ := Option.bind_eq_some_iff.mp ee
  rw [hf] at h2
  refine ⟨ρ, args, ρ1, d, ρ', R, h1, h2, fun v H' k s R' r => ?_⟩
  unfold RetC at r
  rw [ro] at r
  obtain ⟨q0, rfl, o, f1, f2⟩ := r
  exact q q0 H' k s R' f1 f2 o
/-! ### calls of methods -/
/-- what a method call asks of its object -/
theorem class_of {c m : Str} {d : D} (h : clsM m d = some c) : isOb d = true ∧ ∃ k ds, d = .dict ((k, .str c) :: ds) ∧ isMK k = true ∧ (ds.any fun p => decide (keyOf p.1 = some (.inr m))) = false := by
  unfold clsM at h
  split at h
  · split at h
    · rename_i h'
      cases h
      exact ⟨h'.1, _, _, rfl, h'.1, h'.2⟩
    · cases h
  · cases h
theorem no_attr {K : PySem.W.Frag} {H : Hp} {m : Str} {fs : List (Str × V)} : ∀ {ds : List (D × D)}, RzKv K H (fKey fs) ds → (ds.any fun p => decide (keyOf p.1 = some (.inr m))) = false → fs.lookup m = none := by
  induction fs with
  | nil => intro _ _ _; rfl
  | cons p r ih =>
    obtain ⟨f, v⟩ := p
    intro ds h n
    cases h with
    | cons z h =>
      simp only [List.any_cons, Bool.or_eq_false_iff, decide_eq_false_iff_not] at n
      rw [List.lookup_cons]
      have : (m == f) = false := by
        simp only [beq_eq_false_iff_ne, ne_eq]
        intro e
        exact n.1 (by rw [e]; rfl)
      rw [this]
      exact ih h n.2
theorem no_attrO {K : PySem.W.Frag} {H : Hp} {m : Str} {fs : List (Str × V)} : ∀ {ds : List (D × D)}, FldsR K H fs ds → (ds.any fun p => decide (keyOf p.1 = some (.inr m))) = false → fs.lookup m = none := by
  induction fs with
  | nil => intro _ _ _; rfl
  | cons p r ih =>
    obtain ⟨f, v⟩ := p
    intro ds h n
    cases h with
    | cons z h =>
      simp only [List.any_cons, Bool.or_eq_false_iff, decide_eq_false_iff_not] at n
      rw [List.lookup_cons]
      have : (m == f) = false := by
        simp only [beq_eq_false_iff_ne, ne_eq]
        intro e
        exact n.1 (by rw [e]; rfl)
      rw [this]
      exact ih h n.2
/-- a method of an instance that stands still -/
theorem getmeth_frz {pins : List (Addr × Obj)} {σ : St} {H : Hp} {s : Shared} {a C g : Addr} {fs : List (Str × V)} {m : Str} {A : Around} {E : Value → Shared → Prop} {pl : Sem Bool} {Q : Value × List Value → Shared → Prop}
    (o : ObAt X.K H a C fs) (I : Inv X pins σ H s) (pc : PlC X.K C) (k : Meth X.K C m g) (l : fs.lookup m = none) (h : Q (.ref g, [.ref a]) s) : wpAny (model X.prog X.w) A (getMethod (.ref a) m pl) Q E s := by
  have noExc : ∀ {T : ExcC X.K C}, False := fun {T} => by
    have h1 := pc.cl.pg
    have h2 := T.hg
    unfold PySem.W.plainGet at h1
    simp [h2] at h1
  cases o with
  | exc _ _ _ _ _ T => exact (noExc (T := T)).elim
  | exc0 _ _ _ _ T => exact (noExc (T := T)).elim
  | ins h1 T =>
    obtain ⟨mA, O, r⟩ := ins_frz I.hok h1
    have hn : mA m = none := RelO.none_of (by rw [← l]; exact r m)
    exact get_meth I.kIn O (pc.cl.get m) k.at_ k.fn hn h
/-- the tree of a method call -/
theorem eval_mcall {o : Expr} {m : Str} {apos pos : Pos} {env : Env} {as : List Expr} {kws : List Keyword} (hb : noSup o = true) (hf : methodCallForm (as.length + kws.length) (backTo pos (starEach as env)) (backToKw pos (keywordEach kws env)) = true) (hl : (apos.endLine == pos.line) = true) :
    eval (.Call (.Attribute o m apos) as kws pos) env = (do
      let ov ← eval o env
      standAt apos.atName
      let (f, first) ← holding [ov] (getMethod ov m (plainOf o env))
      callWith pos f first (backTo pos (starEach as env)) (backToKw pos (keywordEach kws env))) := by
  rw [arm_eval_Call]
  simp only [noSup_ok hb, mcall_line hf hl]
/-- what a method call asks, and what it hands back -/
def tMth (T : CT) (K : PySem.W.Frag) (m : Str) (al : List (Str × FnT)) (h : MA) (es : MEs) : TE := fun σ H Q => ∃ ρ a ρ0 c F as ρ1 d ρ', Rel K H σ ρ ∧ evA T h ρ = some (a, ρ0) ∧ headM m ρ0 a = some c ∧ al.lookup c = some F ∧ evs T es ρ0 = some (as, ρ1) ∧ callL F (a :: as) ρ1 = some (d, ρ') ∧
  ∀ v H', Keep σ ρ H ρ' H' → Sk ρ ρ' → Rel K H' σ ρ' → RetC K H H' σ ρ' F.ro v d → Q v H'
theorem few_form : ∀ {as : List Expr} {es : MEs} {kws : List Keyword} {ks : List Str} {pos : Pos}, ArgsP X T es as → (backToKw pos (keywordEach kws X.env)).all (·.1.isSome) = true → as.length + kws.length < 20 →
    methodCallForm (as.length + kws.length) (backTo pos (starEach as X.env)) (backToKw pos (keywordEach kws X.env)) = true := fun {as es kws ks pos} A h n => by
  unfold methodCallForm
  have h1 : (backTo pos (starEach as X.env)).all (!·.1) = true := by
    have := A.plain pos X.env
    rw [List.all_eq_true]
    intro x hx
    rw [List.any_eq_false] at this
    have := this x hx
    simpa using this
  have h2 : as.length + kws.length + (if (backToKw pos (keywordEach kws X.env)).isEmpty then 0 else 1) < 30 := by split <;> omega
  rw [h1, h]
  simpa using h2
theorem mcall_pe (G : Gd X T bl) {f : Nat} {m : Str} {al : List (Str × FnT)} {y : Expr} {apos pos : Pos} {as : List Expr} {kws : List Keyword} {h : MA} {es : MEs} (hf : T.mts[f]? = some (m, al)) (hy : noSup y = true) (hl : (apos.endLine == pos.line) = true) (hn : as.length + kws.length < 20)
    (ha : al.all (fun p => decide (as.length + 1 = p.2.np) && kwB kws p.2.ks) = true) (Y : PE X y (tA T X.K h)) (A : ArgsP X T es (as ++ kws.map (·.value))) : PE X (.Call (.Attribute y m apos) as kws pos) (tMth T X.K m al h es) := by
  obtain ⟨e1, e2, A1, A2, sp⟩ := args_split A rfl
  refine ⟨fun pins s σ H Q I q => ?_⟩
  obtain ⟨ρ, a, ρ0, c, F, args, ρ1, d, ρ', R, eh, hc, hF, ee, ec, q⟩ := q
  have hF' := List.all_eq_true.mp ha _ (lookup_mem hF)
  simp only [Bool.and_eq_true, decide_eq_true_eq] at hF'
  obtain ⟨hnp, hk⟩ := hF'
  obtain ⟨g, hm, run⟩ := mth_run (G.mth f m al hf c F hF) G.quiet
  have run : RunL X F g := run_l run
  obtain ⟨K1, K2, K3, K4, K5⟩ := kw_spec pos hk A2
  have few := few_form (ks := F.ks) A1 K3 hn
  refine PySem.W.methodCall_KW (pl := plainOf y X.env) ?_ (eval_mcall hy few hl)
  -- the object, and what is known of it
  have head : wpAny (model X.prog X.w) X.A (eval y X.env) (fun ov s1 => ∃ p H1, ov = Value.ref p ∧ Inv X pins σ H1 s1 ∧ Keep σ ρ H ρ0 H1 ∧ Sk ρ ρ0 ∧ Rel X.K H1 σ ρ0 ∧ ArgRel X.K H1 σ [.ref p] [a] ∧ PySem.W.keepIn X.K (.ref g) = true ∧
      ∀ {pl : Sem Bool} {Q' : Value × List Value → Shared → Prop}, Q' (.ref g, [.ref p]) s1 → wpAny (model X.prog X.w) X.A (getMethod (.ref p) m pl) Q' X.xe s1) X.xe s := by
    have frz : ∀ {v : V} {u : Value} {d0 : D} {H1 : Hp} {s1 : Shared}, Inv X pins σ H1 s1 → RelV v u → Rz X.K H1 v d0 → clsM m d0 = some c → ∃ p, u = Value.ref p ∧ v = .ref p ∧ PySem.W.keepIn X.K (.ref g) = true ∧ ∀ {pl : Sem Bool} {Q' : Value × List Value → Shared → Prop}, Q' (.ref g, [.ref p]) s1 → wpAny (model X.prog X.w) X.A (getMethod (.ref p) m pl) Q' X.xe s1 := fun {v u d0 H1 s1} I1 r z hc => by
      obtain ⟨io, k, ds, rfl, hk, na⟩ := class_of hc
      obtain ⟨p, C, nm, fs, ds', rfl, ed, o, cn, rk⟩ := z.ob io
      injection ed with ed
      injection ed with ed1 ed2
      injection ed1 with _ ed1
      injection ed1 with ed1
      subst ed1 ed2
      obtain rfl : u = Value.ref p := r
      obtain ⟨pc, me⟩ := hm C cn
      exact ⟨p, rfl, rfl, me.kp, fun hq => getmeth_frz o I1 pc me (no_attr rk na) hq⟩
    have own : ∀ {i : Nat} {x : D}, ρ[i]? = some (.ow x) → clsM m x = some c → ∀ {u : Value} {s1 : Shared} {v : V}, σ[i]? = some (some v) → RelV v u → Inv X pins σ H s1 → ∃ p, u = Value.ref p ∧ v = .ref p ∧ PySem.W.keepIn X.K (.ref g) = true ∧ ∀ {pl : Sem Bool} {Q' : Value × List Value → Shared → Prop}, Q' (.ref g, [.ref p]) s1 → wpAny (model X.prog X.w) X.A (getMethod (.ref p) m pl) Q' X.xe s1 := fun {i x} hx hc {u s1 v} hv r I1 => by
      obtain ⟨io, k, ds, rfl, hk, na⟩ := class_of hc
      obtain ⟨p, hp, o⟩ := R.ow i _ hx
      rw [hv] at hp; cases hp
      obtain rfl : u = Value.ref p := r
      rcases o with ⟨ks, e1, rk⟩ | ⟨nm, ds', C, dx, fs, ed, o⟩
      · cases rk with
        | cons _ _ => rw [keyD_mk] at hk; cases hk
      · injection ed with ed1 ed2
        injection ed1 with _ ed1
        injection ed1 with ed1
        subst ed1 ed2
        obtain ⟨pc, me⟩ := hm C o.cn
        exact ⟨p, rfl, rfl, me.kp, fun hq => getmeth_ok I1 o.at_ pc.cl me (no_attrO o.fr na) hq⟩
    cases h with
    | e m0 =>
      unfold evA at eh
      obtain ⟨⟨d0, ρ0'⟩, e5, e6⟩ := Option.map_eq_some_iff.mp eh
      cases e6
      refine thn (Y.run pins s σ H (fun v H1 => Keep σ ρ H ρ0 H1 ∧ Sk ρ ρ0 ∧ Rel X.K H1 σ ρ0 ∧ Rz X.K H1 v d0) I ⟨ρ, d0, ρ0, R, e5, fun v H1 a b c d => ⟨a, b, c, d⟩⟩) fun u s1 ⟨v, H1, I1, r, k1, sk1, R1, z⟩ => ?_
      obtain ⟨p, rfl, rfl, hkp, gm⟩ := frz I1 r z hc
      exact ⟨p, H1, rfl, I1, k1, sk1, R1, .v z .nil, hkp, gm⟩
    | o i =>
      unfold evA at eh
      split at eh
      · rename_i x hx
        cases eh
        have hc' : clsM m x = some c := by
          unfold headM at hc
          simp only [hx] at hc
          exact hc
        obtain ⟨p0, hp0, _⟩ := R.ow i x hx
        refine thn (Y.run pins s σ H (fun v H1 => v = .ref p0 ∧ H1 = H) I ⟨_, hp0, rfl, rfl⟩) fun u s1 ⟨v, H1, I1, r, ev, eH⟩ => ?_
        subst ev eH
        obtain ⟨p, rfl, e, hkp, gm⟩ := own hx hc' hp0 r I1
        cases e
        exact ⟨p0, H1, rfl, I1, Keep.refl, Sk.refl _, R, .o hp0 .nil, hkp, gm⟩
      · cases eh
    | l i =>
      unfold evA at eh
      split at eh
      · rename_i x hx
        cases eh
        have hc' : clsM m x = some c := by
          unfold headM at hc
          simp only [hx] at hc
          exact hc
        obtain ⟨p0, hp0, _⟩ := R.ow i x hx
        refine thn (Y.run pins s σ H (fun v H1 => v = .ref p0 ∧ H1 = H) I ⟨_, hp0, rfl, rfl⟩) fun u s1 ⟨v, H1, I1, r, ev, eH⟩ => ?_
        subst ev eH
        obtain ⟨p, rfl, e, hkp, gm⟩ := own hx hc' hp0 r I1
        cases e
        exact ⟨p0, H1, rfl, I1, Keep.refl, Sk.refl _, R, .l hp0 .nil, hkp, gm⟩
      · cases eh
    | f i n =>
      unfold evA at eh
      cases eh
  refine thn head fun ov s1 ⟨p, H1, eo, I1, k1, sk1, R1, ar1, hkp, gm⟩ => ?_
  subst eo
  refine gm ?_
  -- once all arguments stand
  have fin : ∀ {vs zs : List V} {us ws : List Value} {H2 : Hp} {s2 : Shared}, L2.Inv X pins σ H2 s2 → Vals vs us → Vals zs ws → vs.length = as.length → zs.length = (kws.map (·.value)).length →
      (Keep σ ρ0 H1 ρ1 H2 ∧ Sk ρ0 ρ1 ∧ Rel X.K H2 σ ρ1 ∧ ArgRel X.K H2 σ (vs ++ zs) args) → wpAny (model X.prog X.w) X.A (call (.ref g) (.ref p :: us) (F.ks.zip ws)) (EP X pins σ Q) X.xe s2 := fun {vs zs us ws H2 s2} I2 rv rz l1 l2 h => by
    obtain ⟨k2, s2', R2, ar⟩ := h
    have ar2 : ArgRel X.K H2 σ ((.ref p :: vs) ++ zs) (a :: args) := by
      have per := k2.per R1
      cases ar1 with
      | v z _ => exact .v (z.per per) ar
      | o z _ => exact .o z ar
      | l z _ => exact .l z ar
    refine run (us := .ref p :: us) (vs := .ref p :: vs) I2 (.cons rfl rv) rz (by rw [List.length_cons, l1]; exact hnp) (by rw [l2, List.length_map]; exact K2) R2 ar2 ec fun v H' k3 s3 R3 ro => ?_
    refine q v H' (k1.trans sk1 (k2.trans s2' k3)) (sk1.trans (s2'.trans s3)) R3 ?_
    unfold RetC at ro ⊢
    split
    · rename_i hr
      rw [if_pos hr] at ro
      obtain ⟨p, e, o, f1, f2⟩ := ro
      exact ⟨p, e, o, fun b fb => k1.alive b (k2.alive b (f1 b fb)), f2⟩
    · rename_i hr
      rw [if_neg hr] at ro
      exact ro
  have rd := sp σ H1 _ (fun vs zs H2 => vs.length = as.length ∧ zs.length = (kws.map (·.value)).length ∧ (Keep σ ρ0 H1 ρ1 H2 ∧ Sk ρ0 ρ1 ∧ Rel X.K H2 σ ρ1 ∧ ArgRel X.K H2 σ (vs ++ zs) args))
    (fun vs ws H2 a b c => ⟨a, b, c⟩) (tAs_imp es σ H1 (fun vs H2 => Keep σ ρ0 H1 ρ1 H2 ∧ Sk ρ0 ρ1 ∧ Rel X.K H2 σ ρ1 ∧ ArgRel X.K H2 σ vs args) ⟨ρ0, args, ρ1, R1, ee, fun vs H2 a b c d => ⟨a, b, c, d⟩⟩)
  cases as with
  | nil =>
    cases A1
    cases kws with
    | nil =>
      have hks : F.ks = [] := by simpa using K2.symm
      cases A2
      have := fin (us := []) (ws := []) I1 .nil .nil rfl rfl rd.2.2
      rw [hks] at this
      exact PySem.W.callWith_K0 (first := [.ref p]) I1.kIn hkp this
    | cons kw kws =>
      refine PySem.W.callWith_KW0 (first := [.ref p]) (h₀ := X.base) I1.ok.mod.kin hkp K3 (thn (K1.run pos pins s1 σ H1 _ I1 rd) fun ws s2 ⟨zs, H2, I2, rz, l1, l2, q2⟩ => ⟨I2.kIn, ?_⟩) (by show (false || _) = false; rw [K5]; rfl)
      rw [K4]
      exact fin (us := []) I2 .nil rz rfl l2 q2
  | cons b as =>
    have hst : starEach (b :: as) X.env = (false, eval b X.env) :: starEach as X.env := by
      cases A1 with
      | cons _ n _ => exact star_off n
    have hpl : (backTo pos (starEach as X.env)).any (·.1) = false := by
      cases A1 with
      | cons _ n r => exact r.plain _ _
    cases kws with
    | nil =>
      have hks : F.ks = [] := by simpa using K2.symm
      cases A2
      refine PySem.W.callWith_K (first := [.ref p]) (h₀ := X.base) I1.ok.mod.kin hkp (thn (A1.pa.run pos pins s1 σ H1 _ I1 rd) fun us s2 ⟨vs, H2, I2, r, l1, l2, q2⟩ => ⟨I2.kIn, ?_⟩) hst hpl
      have := fin (ws := []) I2 r .nil l1 rfl q2
      rw [hks] at this
      exact this
    | cons kw kws =>
      refine PySem.W.callWith_KW (first := [.ref p]) (h₀ := X.base) I1.ok.mod.kin hkp K3 (thn (A1.pa.run pos pins s1 σ H1 _ I1 rd) fun us s2 ⟨vs, H2, I2, r, q1⟩ => ?_) (by rw [K5, A1.plain pos X.env]; rfl) hst
      refine thn (K1.run pos pins s2 σ H2 _ I2 q1) fun ws s3 ⟨zs, H3, I3, rz, l1, l2, q2⟩ => ⟨I3.kIn, ?_⟩
      rw [K4]
      exact fin I3 r rz l1 l2 q2
theorem mth_pe (G : Gd X T bl) {f : Nat} {m : Str} {al : List (Str × FnT)} {y : Expr} {apos pos : Pos} {as : List Expr} {kws : List Keyword} {h : MA} {es : MEs} (hf : T.mts[f]? = some (m, al)) (hy : noSup y = true) (hl : (apos.endLine == pos.line) = true) (hn : as.length + kws.length < 20)
    (ha : al.all (fun p => decide (as.length + 1 = p.2.np) && kwB kws p.2.ks) = true) (Y : PE X y (tA T X.K h)) (A : ArgsP X T es (as ++ kws.map (·.value))) : PE X (.Call (.Attribute y m apos) as kws pos) (tEv T X.K (.mth f h es)) := by
  refine ⟨fun pins s σ H Q I q => ?_⟩
  obtain ⟨ρ, d, ρ', R, ee, q⟩ := q
  unfold ev at ee
  obtain ⟨⟨a, ρ0⟩, h1, h2⟩ := Option.bind_eq_some_iff.mp ee
  rw [hf] at h2
  obtain ⟨c, h3, h4⟩ := Option.bind_eq_some_iff.mp (show (headM m ρ0 a).bind _ = _ from h2)
  obtain ⟨F, h5, h6⟩ := Option.bind_eq_some_iff.mp h4
  obtain ⟨⟨args, ρ1⟩, h7, h8⟩ := Option.bind_eq_some_iff.mp h6
  obtain ⟨⟨d2, ρ2⟩, h9, h10⟩ := Option.map_eq_some_iff.mp h8
  cases h10
  exact thn ((mcall_pe G hf hy hl hn ha Y A).run pins s σ H _ I ⟨ρ, a, ρ0, c, F, args, ρ1, d2, _, R, h1, h3, h5, h7, h9, fun v H' k s R' r => ⟨k, s, R', r⟩⟩) fun u s' h => retc_frz h q
theorem mth_peF (G : Gd X T bl) {f : Nat} {m : Str} {al : List (Str × FnT)} {y : Expr} {apos pos : Pos} {as : List Expr} {kws : List Keyword} {h : MA} {es : MEs} (hf : T.mts[f]? = some (m, al)) (hy : noSup y = true) (hl : (apos.endLine == pos.line) = true) (hn : as.length + kws.length < 20)
    (ha : al.all (fun p => decide (as.length + 1 = p.2.np) && kwB kws p.2.ks) = true) (hr : al.all (fun p => p.2.ro) = true) (Y : PE X y (tA T X.K h)) (A : ArgsP X T es (as ++ kws.map (·.value))) : PE X (.Call (.Attribute y m apos) as kws pos) (tEvF T X.K (.mthF f h es)) := by
  refine PE.imp (mcall_pe G hf hy hl hn ha Y A) fun σ H Q q => ?_
  obtain ⟨ρ, d, ρ', R, ee, q⟩ := q
  unfold ev at ee
  obtain ⟨⟨a, ρ0⟩, h1, h2⟩ := Option.bind_eq_some_iff.mp ee
  rw [hf] at h2
  obtain ⟨c, h3, h4⟩ := Option.bind_eq_some_iff.mp (show (headM m ρ0 a).bind _ = _ from h2)
  obtain ⟨F, h5, h6⟩ := Option.bind_eq_some_iff.mp h4
  obtain ⟨⟨args, ρ1⟩, h7, h8⟩ := Option.bind_eq_some_iff.mp h6
  refine ⟨ρ, a, ρ0, c, F, args, ρ1, d, ρ', R, h1, h3, h5, h7, h8, fun v H' k s R' r => ?_⟩
  unfold RetC at r
  rw [List.all_eq_true.mp hr _ (lookup_mem h5)] at r
  obtain ⟨q0, rfl, o, f1, f2⟩ := r
  exact q q0 H' k s R' f1 f2 o
/-- a field of one's own object -/
theorem valD_own {K : PySem.W.Frag} {H : Hp} {f : Str} {z : D} : ∀ {fs : List (Str × V)} {ds : List (D × D)}, FldsR K H fs ds → valD (.inr f) ds = some z → ∃ v, fs.lookup f = some v ∧ FldR K H v z
  | _, _, .nil, h => by cases h
  | _, _, .cons (f := g) (v := v) z' r, h => by
    unfold valD at h
    rw [List.lookup_cons]
    by_cases e : g = f
    · subst e
      rw [if_pos (by rfl)] at h
      cases h
      exact ⟨v, by simp, z'⟩
    · have n1 : keyOf (.str g) ≠ some (.inr f) := fun q => e (Sum.inr.inj (Option.some.inj q))
      rw [if_neg n1, if_neg (by intro q; cases q)] at h
      obtain ⟨w, h1, h2⟩ := valD_own r h
      refine ⟨w, ?_, h2⟩
      have : (f == g) = false := by simpa using fun q : f = g => e q.symm
      rw [this]; exact h1
theorem fldO_pe (G : Gd X T bl) {i : Nat} {x f : Str} {px pos : Pos} (hv : varB T.N X.env.scope i x = true) : PE X (.Attribute (.Name x px) f pos) (tEv T X.K (.fldO i f)) := by
  refine ⟨fun pins s σ H Q I q => ?_⟩
  obtain ⟨ρ, d, ρ', R, ee, q⟩ := q
  unfold ev at ee
  split at ee
  · rename_i d0 h0
    obtain ⟨z, e1, e2⟩ := Option.bind_eq_some_iff.mp ee
    split at e2
    · cases e2
    · rename_i no
      cases e2
      obtain ⟨io, k, nm, ds, rfl, ht, ev'⟩ := fld_ob e1
      obtain ⟨p, hp, o⟩ := R.ow i _ h0
      rcases o with ⟨ks, _, rk⟩ | ⟨nm', ds', C, dx, fs, ed, o⟩
      · cases rk with
        | cons _ _ => rw [show isOb (.dict ((keyD _, _) :: _)) = isMK (keyD _) from rfl, keyD_mk] at io; cases io
      · injection ed with ed1 ed2
        injection ed1 with _ ed1
        injection ed1 with ed1
        subst ed1 ed2
        obtain ⟨w, ew, zw⟩ := valD_own o.fr ev'
        refine attr_of (noSup_ok (y := .Name x px) rfl) (thn ((pe_name G hv).run pins s σ H (fun v H1 => v = .ref p ∧ H1 = H) I ⟨_, hp, rfl, rfl⟩) fun u s1 ⟨v, H1, I1, r, ev, eH⟩ => ?_)
        subst ev eH
        obtain rfl : u = Value.ref p := r
        refine getattr_ok I1 o.at_ o.pl.cl (G.fld _ ht C o.cn) ew fun u' s2 I2 ru => ⟨w, H1, I2, ru, q w H1 Keep.refl (Sk.refl _) R ?_⟩
        cases zw with
        | rz z => exact z
        | ow _ => exact (no (isMO_mo)).elim
  · cases ee
end
end Mp
namespace Mp
open PySem PySem.Spec L2 LamX
open PyProof.Rows hiding St
variable [LamT]

/-! ### lambdas of one parameter -/
/-- its names: the parameter p, captured ones, globals -/
structure LamP (sc scope : Scope) (p : Str) : Prop where
  kind : scope.kind = .function
  co : scope.isCoroutine = false
  gen : scope.isGenerator = false
  par : scope.names.lookup p = some .local
  own : ∀ y ∈ scope.names, y.2 ≠ .cell ∧ (y.2 = .local → y.1 = p)
  free : ∀ y ∈ scope.names, y.2 = .free → sc.names.lookup y.1 = some .cell ∨ sc.names.lookup y.1 = some .free
theorem lamP_by {sc scope : Scope} {p : Str} (h : lamPB sc scope p = true) : LamP sc scope p := by
  unfold lamPB at h
  simp only [Bool.and_eq_true, Bool.or_eq_true, Bool.not_eq_true', decide_eq_true_eq, decide_eq_false_iff_not, List.all_eq_true] at h
  obtain ⟨⟨⟨⟨h1, h2⟩, h3⟩, h4⟩, h5⟩ := h
  refine ⟨h1, h2, h3, h4, fun y hy => ⟨(h5 y hy).1.1, fun e => ?_⟩, fun y hy e => ?_⟩
  · rcases (h5 y hy).1.2 with z | z
    · exact (z e).elim
    · exact z
  · rcases (h5 y hy).2 with z | z
    · exact (z e).elim
    · exact z
theorem LamP.has {X : Cx} {scope : Scope} {p : Str} (L : LamP X.env.scope scope p) (ok : X.Ok) {y : Str × NameKind} (hy : y ∈ scope.names) (e : y.2 = .free) : ∃ c, X.env.cells.lookup y.1 = some c := by
  rcases L.free y hy e with k | k
  · exact ok.has _ (.inl k)
  · exact ok.has _ (.inr k)
section
variable {X : Cx} {pins : List (Addr × Obj)} {σ : L2.St} {H HZ : Hp} {s s1 : Shared}
abbrev clo (X : Cx) (scope : Scope) : List (Str × Addr) := cloFrom X.env.cells scope.names []
theorem clo_at {scope : Scope} {p : Str} (L : LamP X.env.scope scope p) (ok : X.Ok) {y : Str} {c : Addr} (e : (clo X scope).lookup y = some c) : X.env.cells.lookup y = some c := by
  have m := cloFrom_mem (PySem.mem_of_lookup e)
  rcases m with m | ⟨h1, h2⟩
  · cases m
  · obtain ⟨c1, hc⟩ := L.has ok h1 rfl
    have hc : X.env.cells.lookup y = some c1 := hc
    rw [hc]
    have : c = c1 := by rw [h2, hc] <;> rfl
    rw [this]
/-- the lambda's body is entered -/
theorem lam_enter {A : Around} {outer : List Env} {E : XK} {scope : Scope} {f c' : Addr} {h₁ : Heap} {tk i : Nat} {p : Str} {v : V} {u : Value} (I : Inv X pins σ H s) (L : LamP X.env.scope scope p) (e0 : Env0 X.prog X.w X.K X.mg X.base A outer s1 HZ) (hd : A.handled = none)
    (cel : ∀ y c o, X.env.cells.lookup y = some c → s.heap.get? c = some o → s1.heap.get? c = some o ∧ HZ c = none) (hN : X.N[i]? = some p) (nd : X.N.Nodup) (rv : RelV v u) (hns : h₁.Ns s1.heap.objs.size fun y => [(p, u)].reverse.lookup y) (kp : ∀ b o, s1.heap.get? b = some o → h₁.get? b = some o) :
    Inv (lamCx X A outer s1 HZ E scope f c') [] (σ.set i (some v)) HZ { s1 with heap := h₁, toks := tk } := by
  have cells : ∀ {y c}, (clo X scope).lookup y = some c → X.env.cells.lookup y = some c := fun e => clo_at L I.ok e
  have some_ : ∀ {y}, scope.names.lookup y = some .free → ∃ c, (clo X scope).lookup y = some c := fun {y} k => by
    have m : (y, NameKind.free) ∈ scope.names := PySem.mem_of_lookup k
    exact mem_lookup (cloFrom_has (acc := []) (cells := X.env.cells) m)
  have cell1 : ∀ {y : Str} {c : Addr} {x : Option Value}, X.env.cells.lookup y = some c → s.heap.IsCell c x → h₁.IsCell c x := fun {y c x} k ⟨o, ho, q⟩ => ⟨o, kp _ _ (cel y c o k ho).1, q⟩
  have none_ : ∀ b : Addr, b ∉ ([] : List Addr) := fun b z => nomatch z
  have ok : (lamCx X A outer s1 HZ E scope f c').Ok := by
    have ha : ∀ y, (lamCx X A outer s1 HZ E scope f c').env.kindOf y = some .cell ∨ (lamCx X A outer s1 HZ E scope f c').env.kindOf y = some .free → ∃ c, (clo X scope).lookup y = some c := fun y hy => by
      rcases (show scope.names.lookup y = some .cell ∨ scope.names.lookup y = some .free from hy) with k | k
      · exact ((L.own _ (PySem.mem_of_lookup k)).1 rfl).elim
      · exact some_ k
    have inj : ∀ x y c, (clo X scope).lookup x = some c → (clo X scope).lookup y = some c → x = y := fun y z c k1 k2 => I.ok.inj y z c (cells k1) (cells k2)
    exact ⟨e0.mod, L.kind, rfl, rfl, Nat.le_refl _, inj, ha, (fun _ _ z _ => Bool.noConfusion z), (fun _ => hd), Around.frames_deeper e0.frames, .inr ⟨rfl, rfl⟩, (fun b z => (none_ b z).elim), e0.bs, e0.bsz, (fun b _ _ => none_ b), (fun b z => (none_ b z).elim), e0.funs, e0.frf⟩
  refine ⟨ok, rfl, e0.bare, Un.kept kp, ⟨_, hns, fun j y x e1 e2 e3 => ?_⟩, fun y c e => ?_, e0.hok.fresh (Nat.le_refl _), fun y c e => ?_, (fun q hq => (List.not_mem_nil hq).elim), e0.hok.kept kp, (by rw [List.length_set]; exact I.len)⟩
  · have e1 : X.N[j]? = some y := e1
    rcases (show Vis scope y from e3) with k | k | k
    · obtain rfl : y = p := (L.own _ (PySem.mem_of_lookup k)).2 rfl
      have hj : i = j := (List.getElem?_inj (List.getElem?_eq_some_iff.mp hN).1 nd).mp (hN.trans e1.symm)
      subst hj
      have hi : i < σ.length := by rw [I.len]; exact (List.getElem?_eq_some_iff.mp hN).1
      rw [List.getElem?_set_self hi] at e2
      cases e2
      exact ⟨u, rv, .inl ⟨L.par, by simp⟩⟩
    · exact ((L.own _ (PySem.mem_of_lookup k)).1 rfl).elim
    · have ny : y ≠ p := fun e => by subst e; rw [L.par] at k; cases k
      have hj : i ≠ j := fun e => by subst e; rw [hN] at e1; exact ny (Option.some.inj e1).symm
      rw [List.getElem?_set_ne hj] at e2
      have fr := L.free _ (PySem.mem_of_lookup k) rfl
      obtain ⟨m, _, hl⟩ := I.loc
      obtain ⟨w', r, q⟩ := hl j y x e1 e2 (fr.elim (fun z => .inr (.inl z)) fun z => .inr (.inr z))
      obtain ⟨c2, h2⟩ := some_ k
      refine ⟨w', r, .inr ⟨.inr k, c2, h2, ?_⟩⟩
      have c1 := cells h2
      rcases q with ⟨z, _⟩ | ⟨_, c3, e', z⟩
      · have z : X.env.scope.names.lookup y = some .local := z
        rcases fr with z2 | z2
        · rw [show X.env.scope.names.lookup y = _ from z2] at z; cases z
        · rw [show X.env.scope.names.lookup y = _ from z2] at z; cases z
      · rw [c1] at e'
        cases e'
        exact cell1 c1 z
  · obtain ⟨x, z⟩ := I.cell y c (cells e)
    exact ⟨x, cell1 (cells e) z⟩
  · obtain ⟨x, o, ho, _⟩ := I.cell y c (cells e)
    exact (cel y c o (cells e) ho).2
theorem par1_bind {params : Arguments} {p q : Str} {body : Expr} {scope : Scope} {cl : List (Str × Addr)} {pm cv ctv u : Value} (h : par1 params p = true) : bindArgs (PySem.W.kla_fn "<lambda>" q params body scope cl pm cv ctv) ⟨[u], []⟩ = pure [(p, u)] := by
  unfold par1 at h
  split at h
  · rename_i a
    rw [← of_decide_eq_true h]
    have e : ([(a.arg, u)] : List (Str × Value)).lookup a.arg = some u := by simp
    unfold bindArgs
    simp [seqItems?]
    rfl
  · cases h
theorem par1_def {params : Arguments} {p : Str} {env : Env} (h : par1 params p = true) : defaultsOf params env = ([], []) := by
  unfold par1 at h
  split at h
  · rfl
  · cases h
/-- the lambda called -/
theorem lam_run {A : Around} {outer : List Env} {E : XK} {Q : VK} {scope : Scope} {params : Arguments} {body : Expr} {pm ctv : Value} {f c' : Addr} {i : Nat} {p : Str} {v : V} {u : Value} {tb : TE} (I : Inv X pins σ H s) (L : LamP X.env.scope scope p) (hp : par1 params p = true)
    (hf : s1.heap.get? f = some (PySem.W.kla_obj "<lambda>" (X.env.qual ++ "<lambda>") params body scope (clo X scope) pm c' ctv)) (e0 : Env0 X.prog X.w X.K X.mg X.base A outer s1 HZ) (hr : Room 1 A) (cel : ∀ y c o, X.env.cells.lookup y = some c → s.heap.get? c = some o → s1.heap.get? c = some o ∧ HZ c = none) (hc : HZ c' = some (CodeO c' (X.env.qual ++ "<lambda>")))
    (hN : X.N[i]? = some p) (nd : X.N.Nodup) (rv : RelV v u) (B : PE (lamCx X A outer s1 HZ E scope f c') body tb) (h : tb (σ.set i (some v)) HZ Q) : codeAny (model X.prog X.w) A (.call (.ref f) ⟨[u], []⟩) (CR (L2.CX X.prog X.w) outer X.prog X.w HZ s1 Q E) s1 := by
  obtain ⟨⟨oc, vs, t, hoc, hdc, hvc⟩, _, _⟩ := e0.hok c' _ hc
  have lim : s1.heap.NoLimit := e0.mod.nolimit.keeps fun b o e => (e0.bs b o e).1
  refine PySem.W.kla_callFunE hr.depth hf rfl L.co L.gen rfl ⟨c', oc, vs, t, rfl, hoc, hdc, hvc⟩ ?_
  rw [par1_bind hp]
  refine wpAny_pure (wpAny_newFunctionEnv (fun y hy => (L.own y hy).1) (fun y hy => by rw [List.mem_singleton.mp hy]; exact L.par) (fun h₁ hns hsb => ⟨lim.fresh _ hsb, ?_⟩) L.kind)
  have kp : ∀ b o, s1.heap.get? b = some o → h₁.get? b = some o := fun b o e => hsb.extBut b o (fun z => absurd (Heap.lt_size e) (by rw [z]; exact Nat.lt_irrefl _)) (Heap.get?_push_of_some _ e)
  have J := lam_enter (E := E) (f := f) (c' := c') (tk := s1.toks + [(p, u)].length) I L e0 hr.hd cel hN nd rv hns kp
  refine PySem.W.kla_codeExpr (wpAny_mono (B.run [] _ _ HZ Q J h) (fun w s' hq => ?_) fun _ _ hq => hq)
  obtain ⟨x, H', J', r, q⟩ := hq
  exact ⟨x, H', J'.os, J'.bare, J'.base, J'.hok, r, q⟩
/-- a lambda is made: its code object is new, or stands in the table -/
theorem lam_new {P c : Addr} {q : Str} {params : Arguments} {body : Expr} {scope : Scope} {pos : Pos} {p : Str} {E : Value → Shared → Prop} {Q : Value → Shared → Prop} (I : Inv X pins σ H s) (TB : TabB X.base X.mg c P) (hcode : X.env.code = .ref c) (hq : q = X.env.qual ++ "<lambda>") (t : TabS H P q) (hp : par1 params p = true) (L : LamP X.env.scope scope p)
    (h : ∀ (f c' : Addr) (pm ctv : Value) (H1 : Hp) (s' : Shared), Inv X pins σ H1 s' → ExtN H H1 → (∀ b, H1 b = none → H b = none) → TabS H1 P q → (∀ P' q', P' ≠ P → TabS H P' q' → TabS H1 P' q') →
      s'.heap.get? f = some (PySem.W.kla_obj "<lambda>" q params body scope (clo X scope) pm c' ctv) → H1 f = none → f ∉ frs X.stack → H1 c' = some (CodeO c' q) → Q (.ref f) s') :
    wpAny (model X.prog X.w) X.A (eval (.Lambda params body scope pos) X.env) Q E s := by
  subst hq
  obtain ⟨ps, tP, tr, tc⟩ := t
  have bP : s.heap.BuiltinsAt X.mg P := TB.bm.keeps I.bk
  have oP : s.heap.get? P = some { cls := .none, data := .fields ps } := I.hok P _ tP
  have free1 : ∀ y ∈ scope.names, y.2 = .free → ∃ c, X.env.cells.lookup y.1 = some c := fun y hy e => L.has I.ok hy e
  have far : ∀ f, s.heap.objs.size ≤ f → f ∉ frs X.stack := fun f hf z => by
    rcases List.mem_cons.mp (I.stkSub _ z) with e | e
    · have lt := I.lt
      rw [← e] at lt
      exact Nat.lt_irrefl _ (Nat.lt_of_lt_of_le lt hf)
    · exact I.nofs hf e
  refine PySem.W.kla_eval (par1_def hp) ?_
  cases hc : codeAmong pos ps.toList with
  | some cv =>
    obtain ⟨c', rfl, hco⟩ := tc pos cv hc
    refine PySem.W.kla_makeFunctionHit (mg := X.mg) (c := c) (P := P) (ps := ps) (closure_ok free1) I.ok.glob (I.mod.glob.keeps I.bk) hcode (TB.code.keeps I.bk) oP tr hc bP fun ctv h' tk hx hz => ?_
    have J : Inv X pins σ H { s with heap := h'.push (PySem.W.kla_obj "<lambda>" (X.env.qual ++ "<lambda>") params body scope (clo X scope) ((X.mg "__name__").getD .none) c' ctv), toks := tk } := I.kept fun b o e => Heap.get?_push_of_some _ (hx b o e)
    exact h _ c' _ ctv H _ J (ExtN.refl H) (fun _ e => e) ⟨ps, tP, tr, tc⟩ (fun _ _ _ t => t) (Heap.get?_push_size _ rfl) (I.hok.fresh hz) (far _ hz) hco
  | none =>
    refine PySem.W.kla_makeFunction (mg := X.mg) (c := c) (P := P) (ps := ps) (closure_ok free1) I.ok.glob (I.mod.glob.keeps I.bk) hcode (TB.code.keeps I.bk) oP tr hc TB.gP bP fun c' ctv h' tk hx hge hlt hrec htb => ?_
    obtain ⟨_, oc, vs, tk', er, hoc, hd, hv⟩ := hrec
    cases er
    have hz : s.heap.objs.size ≤ h'.objs.size := Nat.le_trans hge (Nat.le_of_lt hlt)
    have cN : H c' = none := I.hok.fresh hge
    have J := inv_table (t' := tk) (more := #[rawInt pos.line, rawInt pos.col, .ref c']) (h' := h'.push (PySem.W.kla_obj "<lambda>" (X.env.qual ++ "<lambda>") params body scope (clo X scope) ((X.mg "__name__").getD .none) c' ctv)) I tP
      (fun b o hb e => Heap.get?_push_of_some _ (hx b o hb e)) (Heap.get?_push_of_some _ htb) hge ⟨oc, vs, tk', Heap.get?_push_of_some _ hoc, hd, hv⟩
    generalize hH : upd (upd H P (.tbl (ps ++ #[rawInt pos.line, rawInt pos.col, .ref c']))) c' (CodeO c' (X.env.qual ++ "<lambda>")) = H1 at J
    have atP : H1 P = some (.tbl (ps ++ #[rawInt pos.line, rawInt pos.col, .ref c'])) := by rw [← hH, upd_ne (ne_of_none tP cN), upd_same]
    have atC : H1 c' = some (CodeO c' (X.env.qual ++ "<lambda>")) := by rw [← hH, upd_same]
    have at_ : ∀ b, b ≠ P → b ≠ c' → H1 b = H b := fun b h1 h2 => by rw [← hH, upd_ne h2, upd_ne h1]
    have ext : ExtN H H1 := fun b o e n => (at_ b (fun z => n ps (by rw [z, tP] at e; exact (Option.some.inj e).symm)) (ne_of_none e cN)).trans e
    have cod : ∀ {d : Addr} {r : Str}, H d = some (CodeO d r) → H1 d = some (CodeO d r) := fun e => ext _ _ e codeO_ne
    refine h _ c' _ ctv H1 _ J ext (fun b e => ?_) ⟨_, atP, ?_, fun p' cv hcv => ?_⟩ (fun P' q' n ⟨ps', t1, t2, t3⟩ => ⟨ps', (at_ _ n (ne_of_none t1 cN)).trans t1, t2, fun p' cv hcv => ?_⟩) (Heap.get?_push_size _ rfl) ?_ (far _ hz) atC
    · by_cases h1 : b = P
      · rw [h1, atP] at e; cases e
      · by_cases h2 : b = c'
        · rw [h2, atC] at e; cases e
        · rw [at_ b h1 h2] at e; exact e
    · rw [show (ps ++ #[rawInt pos.line, rawInt pos.col, .ref c']).toList = ps.toList ++ [rawInt pos.line, rawInt pos.col, .ref c'] by simp]
      exact PySem.TriplesOk_snoc _ _ _ _ tr
    · rw [show (ps ++ #[rawInt pos.line, rawInt pos.col, .ref c']).toList = ps.toList ++ [rawInt pos.line, rawInt pos.col, .ref c'] by simp] at hcv
      rcases among_app _ tr hcv with z | z
      · obtain ⟨d, e1, e2⟩ := tc p' cv z
        exact ⟨d, e1, cod e2⟩
      · exact ⟨c', z, atC⟩
    · obtain ⟨d, e1, e2⟩ := t3 p' cv hcv
      exact ⟨d, e1, cod e2⟩
    · rw [at_ _ (Nat.ne_of_gt (Nat.lt_of_lt_of_le (Heap.lt_size oP) hz)) (Nat.ne_of_gt hlt)]
      exact I.hok.fresh hz
end
end Mp
namespace Mp
open PySem PySem.Spec L2 LamX PySem.W
open PyProof.Rows hiding St
variable [LamT]

/-! ### sorted by a key, over data -/
theorem KeepA.refl (H : Hp) : KeepA H H := ⟨fun _ _ h _ => h, fun _ h => h, fun _ _ _ h => h⟩
theorem KeepA.trans {H H1 H2 : Hp} (a : KeepA H H1) (b : KeepA H1 H2) : KeepA H H2 := ⟨fun c o h t => b.stay c o (a.stay c o h t) t, fun c h => a.alive c (b.alive c h), fun P q mt t => b.tabs P q mt (a.tabs P q mt t)⟩
theorem KeepA.per {H H' : Hp} (k : KeepA H H') : Per H H' := ⟨fun b xs h => k.stay b _ h fun _ e => (by cases e), fun b o u h => k.stay b _ h fun _ e => (by cases e), fun b P h => k.stay b _ h fun _ e => (by cases e)⟩
theorem KeepA.rel {K : PySem.W.Frag} {H H' : Hp} {σ : St} {ρ : Ev} (k : KeepA H H') (R : Rel K H σ ρ) : Rel K H' σ ρ ∧ Keep σ ρ H ρ H' := by
  obtain ⟨R', o⟩ := R.off (fun b w => by
    obtain ⟨u, hu, cu⟩ := R.mut w
    exact (k.stay b u hu fun ps e => by subst e; cases cu).trans hu.symm) k.per (fun t ht => k.tabs _ _ ht (R.tb t ht))
  exact ⟨R', fun b o h _ t => k.stay b o h t, fun i b w => .inl ((o i b).mp w), k.alive, k.tabs⟩
theorem KeepA.relO {K : PySem.W.Frag} {H H' : Hp} {σ : St} {ρ : Ev} (k : KeepA H H') (R : Rel K H σ ρ) (i : Nat) (b : Addr) : OwnedAt H' σ ρ i b ↔ OwnedAt H σ ρ i b := by
  obtain ⟨_, o⟩ := R.off (fun b w => by
    obtain ⟨u, hu, cu⟩ := R.mut w
    exact (k.stay b u hu fun ps e => by subst e; cases cu).trans hu.symm) k.per (fun t ht => k.tabs _ _ ht (R.tb t ht))
  exact o i b
theorem KeepA.new {H H' : Hp} {p : Addr} {o : HO} (k : KeepA H H') (h : H' p = none) : KeepA H (upd H' p o) :=
  ⟨fun b u e t => by rw [upd_ne (ne_of_none (k.stay b u e t) h)]; exact k.stay b u e t, fun b e => by
    by_cases q : b = p
    · rw [q, upd_same] at e; cases e
    · rw [upd_ne q] at e; exact k.alive b e, fun P q mt t => (k.tabs P q mt t).ext fun b u e => by rw [upd_ne (ne_of_none e h)]; exact e⟩
theorem alikeB_of {ks : List D} (h : alikeB ks = true) : AllAlike ks := fun d hd d' hd' => by
  unfold alikeB at h
  exact List.all_eq_true.mp (List.all_eq_true.mp h d hd) d' hd'
theorem sortable_of {ks : List D} (h : (ks.all isTup1 || ks.all notTN) = true) : Sortable ks := by
  rcases Bool.or_eq_true _ _ |>.mp h with h | h
  · refine .inl fun d hd => ?_
    have := List.all_eq_true.mp h d hd
    unfold isTup1 at this
    split at this
    · exact ⟨_, _, rfl⟩
    · cases this
  · refine .inr fun d hd => ?_
    have := List.all_eq_true.mp h d hd
    unfold notTN at this
    split at this
    · cases this
    · cases this
    · rename_i h1 h2
      exact ⟨h2, fun xs e => h1 xs e⟩
theorem keysL_len {g : D → Option D} : ∀ {ds ks : List D}, keysL g ds = some ks → ks.length = ds.length
  | [], _, h => by cases h; rfl
  | d :: r, _, h => by
    unfold keysL at h
    obtain ⟨k, _, h2⟩ := Option.bind_eq_some_iff.mp h
    obtain ⟨ks, h3, h4⟩ := Option.map_eq_some_iff.mp h2
    cases h4
    simp [keysL_len h3]
theorem keysL_at {g : D → Option D} : ∀ {ds ks : List D} {i : Nat} {d : D}, keysL g ds = some ks → ds[i]? = some d → ∃ k, ks[i]? = some k ∧ g d = some k
  | [], _, _, _, _, h => by simp at h
  | d :: r, _, i, e, h, hi => by
    unfold keysL at h
    obtain ⟨k, h1, h2⟩ := Option.bind_eq_some_iff.mp h
    obtain ⟨ks, h3, h4⟩ := Option.map_eq_some_iff.mp h2
    cases h4
    cases i with
    | zero => simp at hi; subst hi; exact ⟨k, rfl, h1⟩
    | succ i => simpa using keysL_at (i := i) h3 (by simpa using hi)
theorem RzAll.take_succ {K : PySem.W.Frag} {H : Hp} {ws : List V} {ks : List D} {j : Nat} {w : V} {k : D} (r : RzAll K H ws (ks.take j)) (hk : ks[j]? = some k) (z : Rz K H w k) : RzAll K H (ws ++ [w]) (ks.take (j + 1)) := by
  rw [List.take_add_one, hk]
  exact r.append (.cons z .nil)
theorem vals_get' : ∀ {vs : List V} {us : List Value} {i : Nat} {u : Value}, Vals vs us → us[i]? = some u → ∃ v, vs[i]? = some v ∧ RelV v u
  | _, _, _, _, .nil, e => by simp at e
  | _, _, 0, _, .cons a _, e => by simp at e; subst e; exact ⟨_, rfl, a⟩
  | _, _, i + 1, _, .cons _ t, e => by
    obtain ⟨v, h1, h2⟩ := vals_get' (i := i) t (by simpa using e)
    exact ⟨v, by simpa using h1, h2⟩
theorem vals_snoc : ∀ {vs : List V} {us : List Value} {v : V} {u : Value}, Vals vs us → RelV v u → Vals (vs ++ [v]) (us ++ [u])
  | _, _, _, _, .nil, r => .cons r .nil
  | _, _, _, _, .cons a t, r => .cons a (vals_snoc t r)
/-- an object dropped from a heap -/
def dropH (h : Heap) (a : Addr) : Heap := h.update a fun o => { o with data := .freed }
theorem dropH_self {h : Heap} {a : Addr} {o : Obj} (e : h.get? a = some o) : (dropH h a).get? a = none := by
  have h1 := ((Heap.get?_eq_some h a _).mp e).1
  unfold Heap.get? dropH
  rw [Heap.objs_update_self, h1]
  rfl
theorem dropH_ne {h : Heap} {a b : Addr} (n : b ≠ a) : (dropH h a).get? b = h.get? b := Heap.get?_update_ne _ _ _ _ n
section
variable {X : Cx} {pins : List (Addr × Obj)} {σ : St} {H : Hp} {s : Shared}
theorem each_reads {ks : List D} (I : Inv X pins σ H s) (c : ∀ k ∈ ks, clean k = true) : ∀ {ws : List V} {us : List Value}, RzAll X.K H ws ks → Vals ws us → EachIs (fun v d => ∃ as, Reads s.heap v d as) us ks := by
  intro ws
  induction ks generalizing ws with
  | nil => intro us r v; cases r; cases v; exact .nil
  | cons k ks ih =>
    intro us r v
    cases r with
    | cons z r =>
      cases v with
      | cons a t => exact .cons (Rz.reads I _ _ _ (c _ List.mem_cons_self) z a) (ih (fun k hk => c k (List.mem_cons_of_mem _ hk)) r t)
theorem each_pairs {K : PySem.W.Frag} {H : Hp} : ∀ {vs : List V} {us : List Value} {ds ks : List D}, RzAll K H vs ds → Vals vs us → ks.length = ds.length → EachIs (fun u (p : D × D) => ∃ v, RelV v u ∧ Rz K H v p.1) us (ds.zip ks)
  | _, _, _, [], .nil, .nil, _ => .nil
  | _, _, _, _ :: _, .nil, _, h => by cases h
  | _, _, _, [], .cons _ _, _, h => by cases h
  | _, _, _, k :: ks, .cons z r, .cons a t, h => .cons ⟨_, a, z⟩ (each_pairs r t (by simpa using h))
theorem each_back {K : PySem.W.Frag} {H : Hp} {us : List Value} {ps : List (D × D)} (e : EachIs (fun u (p : D × D) => ∃ v, RelV v u ∧ Rz K H v p.1) us ps) : ∃ vs, Vals vs us ∧ RzAll K H vs (ps.map (·.1)) := by
  induction e with
  | nil => exact ⟨[], .nil, .nil⟩
  | cons h _ ih =>
    obtain ⟨vs, a, b⟩ := ih
    obtain ⟨v, r, z⟩ := h
    exact ⟨v :: vs, .cons r a, .cons z b⟩
theorem map_snd_zip {α β : Type} : ∀ (xs : List α) (ys : List β), ys.length = xs.length → (xs.zip ys).map (·.2) = ys
  | [], [], _ => rfl
  | [], _ :: _, h => by cases h
  | _ :: _, [], h => by cases h
  | _ :: xs, _ :: ys, h => by simp [map_snd_zip xs ys (by simpa using h)]
/-- one object of ours turned, another one tracked from now on -/
theorem track2 {h' : Heap} {t' : Nat} {a b : Addr} {o : HO} (I : Inv X pins σ H s) (k : ∀ c ob, c ≠ b → c ≠ a → s.heap.get? c = some ob → h'.get? c = some ob) (fa : FpOk X pins H a) (fb : FpOk X pins H b) (new : ObjOk X.prog X.w (upd H a o) h' a o) : Inv X pins σ (upd H a o) { s with heap := h', toks := t' } := by
  have na : ∀ c u, H c = some u → c ≠ a := fun c u e z => by rw [z, fa.1] at e; cases e
  have nb : ∀ c u, H c = some u → c ≠ b := fun c u e z => by rw [z, fb.1] at e; cases e
  have up : ∀ c u, H c = some u → upd H a o c = some u := fun c u e => by rw [upd_ne (na c u e)]; exact e
  have mem : ∀ {c : Addr}, c ∉ [a, b] → c ≠ b ∧ c ≠ a := fun {c} h => ⟨fun z => h (by rw [z]; simp), fun z => h (by rw [z]; simp)⟩
  have one : ∀ c ∈ [a, b], FpOk X pins H c := fun c hc => by
    rcases List.mem_cons.mp hc with rfl | hc
    · exact fa
    · rw [List.mem_singleton.mp hc]; exact fb
  refine I.step (g' := s.gens) (d' := s.drawn) (ch := [a, b]) (fun c hc => ⟨(one c hc).2.2.2.1, (one c hc).2.1, (one c hc).2.2.2.2.1, (one c hc).2.2.2.2.2⟩) (fun c ob _ _ hc e _ => k c ob (mem hc).1 (mem hc).2 e)
    (fun c ob _ _ hc e _ => ⟨ob.slots, k c ob (mem hc).1 (mem hc).2 e⟩) (fun c ob hc _ n => by rw [upd_ne (mem hc).2]; exact n) (fun c ob hc e => ⟨ob, k c ob (mem hc).1 (mem hc).2 e⟩) (fun c _ e => up c _ e) (fun c _ _ e => up c _ e) (fun c ps e => ⟨#[], by rw [up c _ e]; simp⟩) (fun m hm => ?_) (fun c u e => ?_) I.bare
  · obtain ⟨ob, es, ep, ho, r⟩ := hm
    exact ⟨ob, es, ep, k _ ob (fun z => fb.2.1 z.symm) (fun z => fa.2.1 z.symm) ho, r⟩
  · by_cases hc : c = a
    · subst hc
      rw [upd_same] at e; cases e
      exact new
    · rw [upd_ne hc] at e
      refine (I.hok c u e).stay (fun x v hx q => ?_) (fun x q => up x _ q) fun x _ q => up x _ q
      rcases hx with z | z
      · rw [z] at q ⊢; exact k c v (nb c u e) (na c u e) q
      · exact k x v (nb x _ z) (na x _ z) q
/-- sorted(l, key=f) -/
theorem sorted_core {l f : Addr} {us : List Value} {vs : List V} {ds ks : List D} {g : D → Option D} {Q : VK} (I : Inv X pins σ H s) (hl : s.heap.IsList l us.toArray) (rv : Vals vs us) (rz : RzAll X.K H vs ds) (hk : keysL g ds = some ks) (ok : sortOk ks = true) (hu : X.A.units + 64 < cLine)
    (turn : ∀ (pn : List (Addr × Obj)) (v : V) (u : Value) (d z : D) (H1 : Hp) (s1 : Shared), Inv X (pins ++ pn) σ H1 s1 → KeepA H H1 → RelV v u → Rz X.K H1 v d → g d = some z →
      wpAny (model X.prog X.w) X.A.in1.in1 (call (.ref f) [u]) (fun u' s' => ∃ w H2, Inv X (pins ++ pn) σ H2 s' ∧ RelV w u' ∧ KeepA H1 H2 ∧ Rz X.K H2 w z) (fun _ _ => False) s1)
    (q : ∀ p H' vs', KeepA H H' → H p = none → H' p = some (.lst vs') → RzAll X.K H' vs' (sortBy ds ks) → Q (.ref p) H') :
    wpAny (model X.prog X.w) X.A (call (.builtin "sorted") [.ref l] [(Str.ofString "key", .ref f)]) (EP X pins σ Q) X.xe s := by
  simp only [sortOk, Bool.and_eq_true, decide_eq_true_eq, List.all_eq_true] at ok
  obtain ⟨⟨⟨o1, o2⟩, o3⟩, o4⟩ := ok
  have hal := alikeB_of o1
  have hsk := sortable_of o2
  have hkl := keysL_len hk
  have hlu : us.length = ds.length := rv.length.symm.trans (RzAll.length rz)
  have hZ : us.length ≤ sizeLine := by rw [hlu, ← hkl, sizeLine_eq]; omega
  have hka : s.heap.objs.size + 1 + 1 + 1 ≠ s.heap.objs.size + 1 := by omega
  refine sorted_of_sort hl hZ (ksk_s1 _ _) (fun _ => ksk_l1 _ _) fun E' => ?_
  rw [ksk_t1]
  -- the sort's own objects
  generalize ha : s.heap.objs.size + 1 = a
  have atA : (copyHeap s.heap us).get? a = some (seqObj "list" us.toArray 0) := by rw [← ha]; exact copyHeap_at s.heap us
  have szC : (copyHeap s.heap us).objs.size = s.heap.objs.size + 1 + 1 := by
    unfold copyHeap
    rw [size_push', Heap.size_update, size_push']
  obtain ⟨e1, ho1⟩ : ∃ e1, ((copyHeap s.heap us).update a (Obj.mapSeq fun _ => (#[] : Array Value))).get? a = some (seqObj "list" #[] e1) := ⟨_, get?_update_seq atA fun _ => #[]⟩
  unfold ksk_tree
  refine wpAny_bind (listItems_at atA rfl (wpAny_bind (listUpdate_at atA rfl (wpAny_bind (seqEpoch_at ho1 rfl (wpAny_bind (wpAny_newTuple ?_ (by show us.length ≤ _; exact hZ))))) (by rw [List.size_toArray]; exact hZ) (Nat.zero_le _))))
  refine wpAny_bind (wpAny_newList (wpAny_holding ?_) (Nat.zero_le _))
  -- all that was there is there still
  have old : ∀ b o, s.heap.get? b = some o → (sortingHeap (copyHeap s.heap us) a us).get? b = some o := fun b o e =>
    sortingHeap_old (by rw [← ha]; exact Nat.ne_of_lt (Nat.lt_succ_of_lt (Heap.lt_size e))) (copyHeap_old e)
  generalize hkS : (((copyHeap s.heap us).update a (Obj.mapSeq fun _ => (#[] : Array Value))).push (seqObj "tuple" us.toArray 0)).objs.size = kS
  have ekS : kS = s.heap.objs.size + 1 + 1 + 1 := by rw [← hkS, size_push', Heap.size_update, szC]
  have nkS : (sortingHeap (copyHeap s.heap us) a us).get? kS = some (seqObj "list" #[] 0) := by rw [← hkS]; exact Heap.get?_push_size _ rfl
  have nA : (sortingHeap (copyHeap s.heap us) a us).get? a = some (seqObj "list" #[] e1) := Heap.get?_push_of_some _ (Heap.get?_push_of_some _ ho1)
  have kSa : kS ≠ a := by rw [ekS, ← ha]; exact hka
  have fpA : ∀ {H' : Hp}, H' a = none → FpOk X pins H' a := fun h => I.fpOk (by rw [← ha]; exact Nat.le_succ _) h
  have fpS : ∀ {H' : Hp}, H' kS = none → FpOk X pins H' kS := fun h => I.fpOk (by rw [ekS]; omega) h
  have hA0 : H a = none := I.hok.fresh (by rw [← ha]; exact Nat.le_succ _)
  have hS0 : H kS = none := I.hok.fresh (by rw [ekS]; omega)
  unfold ksk_rest
  refine wpAny_bind (wpAny_rule ?_)
  rw [List.forIn_toArray]
  refine wpAny_bind (ksk_fold (fun j s' => ∃ H1 kA e ws, Inv X pins σ H1 s' ∧ KeepA H H1 ∧ H1 kS = none ∧ H1 a = none ∧ s'.heap.get? kS = some (seqObj "list" kA e) ∧ s'.heap.get? a = some (seqObj "list" #[] e1) ∧ kA.size = j ∧ Vals ws kA.toList ∧ RzAll X.K H1 ws (ks.take j)) us 0 _
    ⟨H, #[], 0, [], I.kept (t' := s.toks) old, KeepA.refl H, hS0, hA0, nkS, nA, rfl, .nil, .nil⟩ ?step ?done)
  case step =>
    rintro j u s' hj ⟨H1, kA, e, ws, I1, k1, n1, n2, t1, t2, hs, rw', zw⟩
    rw [Nat.zero_add] at hs zw ⊢
    obtain ⟨v, hv, ru⟩ := vals_get' rv hj
    obtain ⟨d, hd, zd⟩ := rz.get' hv
    obtain ⟨k, hkj, gk⟩ := keysL_at hk hd
    have fps : ∀ b ∈ [kS, a], FpOk X pins H1 b := fun b hb => by
      rcases List.mem_cons.mp hb with rfl | hb
      · exact fpS n1
      · rw [List.mem_singleton.mp hb]; exact fpA n2
    have I2 := I1.pinned (fp := [kS, a]) fps fun b hb => by
      rcases List.mem_cons.mp hb with rfl | hb
      · exact ⟨_, t1, fun v e => by cases e⟩
      · rw [List.mem_singleton.mp hb]; exact ⟨_, t2, fun v e => by cases e⟩
    refine wpAny_bind (wpAny_attempt (wpAny_mono (turn _ v u d k H1 s' I2 k1 ru (zd.per k1.per) gk) (fun u' s2 hq => ?_) fun _ _ hF => hF.elim))
    obtain ⟨w, H2, I3, rw2, k2, zk⟩ := hq
    have p1 := I3.pin (kS, seqObj "list" kA e) (List.mem_append_right _ (List.mem_append_right _ (mem_pinsAt List.mem_cons_self t1)))
    have p2 := I3.pin (a, seqObj "list" #[] e1) (List.mem_append_right _ (List.mem_append_right _ (mem_pinsAt (List.mem_cons_of_mem _ List.mem_cons_self) t2)))
    have I4 := I3.unpinned
    obtain ⟨c2, hc2⟩ : ∃ c2, (s2.heap.update kS (Obj.mapSeq (·.push u'))).get? kS = some (seqObj "list" (kA.push u') c2) := ⟨_, get?_update_seq p1.1 (·.push u')⟩
    have hzA : kA.size ≤ sizeLine := by
      have := (List.getElem?_eq_some_iff.mp hj).1
      omega
    dsimp only
    refine wpAny_bind (listUpdate_at p1.1 rfl ?_ hzA (Nat.le_trans (Nat.le_of_eq (Array.size_push ..)) (Nat.succ_le_succ hzA)))
    have I5 := I4.turnedL (t' := s2.toks) (ch := [kS]) (h' := s2.heap.update kS (Obj.mapSeq (·.push u'))) (fun b o hb q => by
      rw [Heap.get?_update_ne _ _ _ _ (fun z => hb (by rw [z]; exact List.mem_singleton.mpr rfl))]; exact q) fun b hb => by
      rw [List.mem_singleton.mp hb]; exact fpS p1.2.1
    refine wpAny_pure ⟨rfl, H2, kA.push u', c2, ws ++ [w], I5, k1.trans k2, p1.2.1, p2.2.1, hc2, ?_, by rw [Array.size_push, hs], ?_, ?_⟩
    · rw [Heap.get?_update_ne _ _ _ _ kSa.symm]; exact p2.1
    · rw [show (kA.push u').toList = kA.toList ++ [u'] by simp]
      exact vals_snoc rw' rw2
    · exact RzAll.take_succ (zw.per k2.per) hkj zk
  case done =>
    rintro s' ⟨H1, kA, e, ws, I1, k1, n1, n2, t1, t2, hs, rw', zw⟩
    rw [Nat.zero_add] at hs zw
    rw [List.take_of_length_le (by omega)] at zw
    have er := each_reads I1 (fun k hk => (o3 k hk).1) zw rw'
    have hsz : kA.size = us.length := hs
    refine wpAny_bind (listItems_at t1 rfl ?_)
    have S := SortsAt.data (prog := X.prog) (w := X.w) (A := X.A.in1.in1) (s := s') er hal hsk fun d hd => by
      have := (o3 d hd).2
      show X.A.units + 1 + 1 + d.depth < cLine
      omega
    refine keyH_end (κ := dataKind s'.heap ks) (h₁ := dropH s'.heap kS) (fun b o hb q => ?_) (dropH_self t1) t1 t2 kSa S hsz hZ fun h' tk c k3 hD => ⟨rfl, ?_⟩
    · by_cases z : b = kS
      · subst z; rw [dropH_self t1] at q; cases q
      · rw [dropH_ne z] at q; exact q
    · have ko : KeyedOut false ks us (sortVals (dataKind s'.heap ks) false kA.toList us) := ⟨s'.heap, kA.toList, hal, rfl, er⟩
      have ez := map_snd_zip ds ks hkl
      rw [← ez] at ko
      have eo := keyedOut_each (β := D × D) (fun p => p.2) (h := ko) (each_pairs (rz.per k1.per) rv hkl)
      rw [ez] at eo
      obtain ⟨vs', rv', rz'⟩ := each_back eo
      have hlen : vs'.length ≤ sizeLine := by
        have := RzAll.length rz'
        rw [List.length_map, List.length_mergeSort, List.length_zip] at this
        rw [this, sizeLine_eq]
        omega
      have kp : ∀ b o, b ≠ kS → b ≠ a → s'.heap.get? b = some o → h'.get? b = some o := fun b o h1 h2 q => k3 b o h2 (by rw [dropH_ne h1]; exact q)
      have ok1 : ObjOk X.prog X.w (upd H1 a (.lst vs')) h' a (.lst vs') := ⟨hlen, _, c, rv', hD⟩
      have I7 : Inv X pins σ (upd H1 a (.lst vs')) { s' with heap := h', toks := tk } := track2 I1 kp (fpA n2) (fpS n1) ok1
      exact ⟨.ref a, _, I7, rfl, q a _ vs' (k1.new n2) hA0 upd_same (rz'.per (Per.of_same (same_new n2)))⟩
end
section
variable {X : Cx} {T : CT} {bl : List Str}
theorem noLam_sub {b : Str} (h : b ∈ noLam bl) : b ∈ bl ∧ (b ≠ "<lam>" ∧ b ≠ "<deep>") ∧ b ≠ "<here>" := by
  unfold noLam at h
  rw [List.mem_filter] at h
  simp only [Bool.and_eq_true, Bool.not_eq_true', decide_eq_false_iff_not] at h
  exact h
/-- the world around a lambda's body -/
theorem gd_lam (G : Gd X T bl) (dp : ("<deep>" : Str) ∈ bl) {A : Around} {outer : List Env} {s : Shared} {H : Hp} {E : XK} {scope : Scope} {f c' : Addr} (hA : ∀ k, Room (k + 8) X.A → Room (k + 1) A) (qA : A.guards = some []) : Gd (lamCx X A outer s H E scope f c') T (noLam bl) := by
  obtain ⟨r8, fns, mts⟩ := G.deep dp
  refine ⟨G.hN, G.nd, rfl, ((hA 0 r8).deeper _).units, qA, fun x hx => G.blt x (noLam_sub hx).1, G.con, fun i x F hi => ?_, G.fld, G.isc, fun i m al hi cls F hc => ?_, fun h => ((noLam_sub h).2.1.1 rfl).elim, fun h => ((noLam_sub h).2.1.2 rfl).elim, fun h => ((noLam_sub h).2.1.2 rfl).elim, fun _ _ _ _ h => ((noLam_sub h).2.1.2 rfl).elim, fun g hg => (by rw [G.nfv dp] at hg; exact nomatch hg), fun h => ((noLam_sub h).2.1.2 rfl).elim, fun h => ((noLam_sub h).2.2 rfl).elim⟩
  · rcases (fns i x F hi).ex with ⟨a, fd, ps, k, h1, h2, h3, h4, h5⟩ | ⟨k, h1, h2⟩
    · exact ⟨.inl ⟨a, fd, ps, k, h1, h2, h3, (hA k h4).deeper _, h5⟩⟩
    · exact ⟨.inr ⟨k, h1, (hA k h2).deeper _⟩⟩
  · obtain ⟨a, fd, ps, k, h1, h2, h3, h4⟩ := (mts i m al hi cls F hc).ex
    exact ⟨a, fd, ps, k, h1, h2, (hA k h3).deeper _, h4⟩
theorem room_in2 {k : Nat} {A : Around} (r : Room (k + 8) A) : Room (k + 1) A.in1.in1 := ((r.mono (by omega : k + 3 ≤ k + 8)).in1).in1
/-- what is called of a closure, in an environment without things of one's own -/
def cloG (T : CT) (ρ : Ev) (i : Nat) (m : ME) (x : D) : Option D := (ev T m ((hide ρ).set i (.da x))).map (·.1)
theorem KeepA.of {K : PySem.W.Frag} {H H' : Hp} {σ : St} {ρ ρ' : Ev} (k : Keep σ ρ H ρ' H') (n : ∀ b, ¬ Owned H σ ρ b) : KeepA H H' := ⟨fun b o h t => k.keep b o h (n b) t, k.alive, k.tabs⟩
/-- a closure called, from wherever its cells and its object are as they were -/
theorem clo_call {pins : List (Addr × Obj)} {σ : St} {H HZ : Hp} {s s1 : Shared} {ρ : Ev} {A : Around} {outer : List Env} {scope : Scope} {params : Arguments} {body : Expr} {pm ctv : Value} {f c' : Addr} {i : Nat} {p : Str} {m : ME} {v : V} {u : Value} {d z : D} {Q : VK}
    (I : Inv X pins σ H s) (R : Rel X.K H σ ρ) (G : Gd X T bl) (dp : ("<deep>" : Str) ∈ bl) (L : LamP X.env.scope scope p) (hp : par1 params p = true) (hN : T.N[i]? = some p) (hl : i < ρ.length)
    (B : ∀ {E : XK}, Gd (lamCx X A outer s1 HZ E scope f c') T (noLam bl) → PE (lamCx X A outer s1 HZ E scope f c') body (tEv T X.K m)) (hA : ∀ k, Room (k + 8) X.A → Room (k + 1) A) (qA : A.guards = some [])
    (hf : s1.heap.get? f = some (PySem.W.kla_obj "<lambda>" (X.env.qual ++ "<lambda>") params body scope (clo X scope) pm c' ctv)) (e0 : Env0 X.prog X.w X.K X.mg X.base A outer s1 HZ) (cel : ∀ y c o, X.env.cells.lookup y = some c → s.heap.get? c = some o → s1.heap.get? c = some o ∧ HZ c = none) (hc : HZ c' = some (CodeO c' (X.env.qual ++ "<lambda>")))
    (per : Per H HZ) (tb : TabsK X.K HZ) (rv : RelV v u) (zd : Rz X.K HZ v d) (hg : cloG T ρ i m d = some z) (q : ∀ w H', KeepA HZ H' → Rz X.K H' w z → Q w H') :
    codeAny (model X.prog X.w) A (.call (.ref f) ⟨[u], []⟩) (CR (L2.CX X.prog X.w) outer X.prog X.w HZ s1 Q (fun _ _ _ => False)) s1 := by
  unfold cloG at hg
  obtain ⟨⟨z', ρz⟩, e1, e2⟩ := Option.map_eq_some_iff.mp hg
  cases e2
  have R0 : Rel X.K HZ σ (hide ρ) := by
    refine ⟨fun j x h => ?_, fun j x h => (hide_no h).elim, fun _ _ _ _ _ _ _ _ h => (hide_no h).elim, by unfold Mp.hide; rw [List.length_map]; exact R.len, tb, fun j h => ⟨(R.fv j (hide_fv h)).1, (R.fv j (hide_fv h)).2.trans per⟩⟩
    obtain ⟨w, a, b⟩ := R.da j x (hide_da h)
    exact ⟨w, a, b.per per⟩
  have hsd : setDa (hide ρ) i d = some ((hide ρ).set i (.da d)) := by
    unfold setDa
    have : i < (hide ρ).length := by unfold Mp.hide; rw [List.length_map]; exact hl
    cases e : (hide ρ)[i]? with
    | none => rw [List.getElem?_eq_none_iff] at e; omega
    | some x =>
      cases x with
      | ow d => exact (hide_no e).elim
      | un => rfl
      | fv => rfl
      | da d => rfl
  obtain ⟨R1, o1⟩ := R0.set_da hsd zd
  refine lam_run I L hp hf e0 (hA 0 (G.deep dp).1) cel hc (by rw [G.hN]; exact hN) (by rw [G.hN]; exact G.nd) rv (B (gd_lam G dp hA qA)) ?_
  refine ⟨_, z', ρz, R1, e1, fun w H' k s' R' zz => q w H' (KeepA.of (K := X.K) k fun b => fun ⟨j, x, r, h1, h2, h3⟩ => ?_) zz⟩
  by_cases hj : i = j
  · subst hj
    rw [List.getElem?_set_self (by unfold Mp.hide; rw [List.length_map]; exact hl)] at h1; cases h1
  · rw [List.getElem?_set_ne hj] at h1
    exact hide_no h1
/-- a lambda made: what is known of it -/
theorem lam_made (G : Gd X T bl) (lm : ("<lam>" : Str) ∈ bl) {pins : List (Addr × Obj)} {σ : St} {H : Hp} {s : Shared} {ρ : Ev} {params : Arguments} {body : Expr} {scope : Scope} {pos : Pos} {p : Str} {E Q : Value → Shared → Prop} (I : Inv X pins σ H s) (R : Rel X.K H σ ρ) (L : LamP X.env.scope scope p) (hp : par1 params p = true)
    (h : ∀ (f c' : Addr) (pm ctv : Value) (H1 : Hp) (s' : Shared), Inv X pins σ H1 s' → KeepA H H1 → s'.heap.get? f = some (PySem.W.kla_obj "<lambda>" (X.env.qual ++ "<lambda>") params body scope (clo X scope) pm c' ctv) → H1 f = none → f ∉ frs X.stack → H1 c' = some (CodeO c' (X.env.qual ++ "<lambda>")) → Q (.ref f) s') :
    wpAny (model X.prog X.w) X.A (eval (.Lambda params body scope pos) X.env) Q E s := by
  obtain ⟨c, P, hcode, hm, hu, TB⟩ := (G.lam lm).ex
  refine lam_new I TB hcode rfl (R.tb _ hm) hp L fun f c' pm ctv H1 s' I1 eN al t1 to hf hfn hfr hco => ?_
  refine h f c' pm ctv H1 s' I1 ⟨eN, al, fun P' q' mt t => ?_⟩ hf hfn hfr hco
  by_cases e : P' = P
  · subst e
    rw [show q' = _ from hu _ mt rfl]
    exact t1
  · exact to P' q' e t
/-- a function object that is known from now on -/
theorem Inv.pinF {pins : List (Addr × Obj)} {σ : St} {H : Hp} {s : Shared} {f : Addr} {o : Obj} {fd : FuncData} (I : Inv X pins σ H s) (hf : s.heap.get? f = some o) (hd : o.data = .func fd) (hn : H f = none) (hs : f ∉ frs X.stack) : Inv X (pins ++ [(f, o)]) σ H s := by
  refine I.pins_of fun p hp => ?_
  rcases List.mem_append.mp hp with hp | hp
  · exact I.pin p (List.mem_append_right _ hp)
  · rw [List.mem_singleton.mp hp]
    refine ⟨hf, hn, fun e => ?_, fun z => hs ?_, fun v e => by rw [hd] at e; cases e⟩
    · obtain ⟨m, ⟨ob, es, ep, ho, hdd, _⟩, _⟩ := I.loc
      have e : f = X.env.locals := e
      rw [e, ho] at hf; cases hf
      rw [hdd] at hd; cases hd
    · have z : f ∈ frs X.outer := z
      rcases I.ok.stk with e | ⟨e, _⟩
      · rw [e]; exact z
      · rw [e]
        unfold frs at z ⊢
        rw [List.filterMap_cons]
        split
        · exact z
        · exact List.mem_cons_of_mem _ z
theorem pl_list {h : Heap} {a : Addr} {its : Array Value} (p : PlainL h a its) : h.IsList a its := by
  obtain ⟨o, n, ho, hc, _, hd⟩ := p
  exact ⟨o, ho, hc, n, hd⟩
/-- sorted(y, key=..) with the key's function at hand -/
theorem sorted_own {pins : List (Addr × Obj)} {σ : St} {H H1 H2 : Hp} {s : Shared} {f : Addr} {u : Value} {v : V} {ds ks : List D} {d : D} {g : D → Option D} {ρ ρ1 : Ev} {Q : VK} (I : Inv X pins σ H2 s) (hu : X.A.units + 64 < cLine) (k0 : Keep σ ρ H ρ1 H1) (s0 : Sk ρ ρ1) (R1 : Rel X.K H1 σ ρ1) (k1 : KeepA H1 H2) (ry : Ry X.K H1 v (.list ds)) (rv : RelV v u) (hk : keysL g ds = some ks) (hs : sortD ks ds = some d)
    (turn : ∀ (pn : List (Addr × Obj)) (v : V) (u : Value) (x z : D) (H3 : Hp) (s3 : Shared), Inv X (pins ++ pn) σ H3 s3 → KeepA H2 H3 → RelV v u → Rz X.K H3 v x → g x = some z →
      wpAny (model X.prog X.w) X.A.in1.in1 (call (.ref f) [u]) (fun u' s' => ∃ w H4, Inv X (pins ++ pn) σ H4 s' ∧ RelV w u' ∧ KeepA H3 H4 ∧ Rz X.K H4 w z) (fun _ _ => False) s3)
    (q : ∀ p H', Keep σ ρ H ρ1 H' → Sk ρ ρ1 → Rel X.K H' σ ρ1 → (∀ b, Foot H' p d b → H b = none) → (∀ b, Foot H' p d b → ¬ Owned H' σ ρ1 b) → Own X.K H' p d → Q (.ref p) H') :
    wpAny (model X.prog X.w) X.A (call (.builtin "sorted") [u] [(Str.ofString "key", .ref f)]) (EP X pins σ Q) X.xe s := by
  unfold sortD at hs
  split at hs
  · rename_i ok
    cases hs
    obtain ⟨a, vs, rfl, hl, rz⟩ := ry.lst
    obtain rfl : u = Value.ref a := rv
    have hl2 : SqL X.K H2 a vs := by
      rcases hl with (h | ⟨o, h⟩) | h
      · exact .inl (.inl (k1.stay a _ h fun ps e => by cases e))
      · exact .inl (.inr ⟨o, k1.stay a _ h fun ps e => by cases e⟩)
      · exact .inr h
    obtain ⟨us, rus, pl, _⟩ := I.list hl2
    refine sorted_core I (pl_list pl) rus (rz.per k1.per) hk ok hu turn fun p H' vs' k2 hn hp rz' => ?_
    obtain ⟨R2, k3⟩ := (k1.trans k2).rel R1
    have o : OwnS X.K H' p (.list (sortBy ds ks)) := ⟨vs', hp, rz'⟩
    have hnH : H p = none := k0.alive p (k1.alive p hn)
    refine q p H' (k0.trans s0 k3) s0 R2 (fun b f => by rw [Foot.alone o f]; exact hnH) (fun b f w => ?_) o.own
    rw [Foot.alone o f] at w
    have w1 : Owned H1 σ ρ1 p := by
      obtain ⟨i, w⟩ := w
      exact ⟨i, ((k1.trans k2).relO R1 i p).mp w⟩
    obtain ⟨u, hu', _⟩ := R1.mut w1
    rw [k1.alive p hn] at hu'; cases hu'
  · cases hs
end
end Mp
namespace Mp
open PySem PySem.Spec L2 LamX PySem.W
open PyProof.Rows hiding St
variable [LamT]
section
variable {X : Cx} {T : CT} {bl : List Str}
theorem argRel_one {K : PySem.W.Frag} {H : Hp} {σ : St} {vs : List V} {x : Arg} (h : ArgRel K H σ vs [x]) : ∃ v, vs = [v] := by
  cases h with
  | v _ r => cases r; exact ⟨_, rfl⟩
  | o _ r => cases r; exact ⟨_, rfl⟩
  | l _ r => cases r; exact ⟨_, rfl⟩
/-- sorted(y, key=z): the argument first, then the key's function -/
theorem sorted_kw (G : Gd X T bl) {y kv : Expr} {p pos kp : Pos} {a : MA} {R : VK} {pins : List (Addr × Obj)} {σ : St} {H : Hp} {s : Shared} {ρ ρ1 : Ev} {x : Arg} {d : D} (hx : glB X.env.scope bl "sorted" "sorted" = true) (hn : notStar y = true) (Y : PE X y (tA T X.K a)) (I : Inv X pins σ H s) (R0 : Rel X.K H σ ρ) (e1 : evA T a ρ = some (x, ρ1)) (e2 : resolveP1 ρ1 x = some d)
    (q : ∀ u v H1 s1, Inv X pins σ H1 s1 → RelV v u → Ry X.K H1 v d → Keep σ ρ H ρ1 H1 → Sk ρ ρ1 → Rel X.K H1 σ ρ1 →
      wpAny (model X.prog X.w) X.A (eval kv X.env) (fun f s2 => wpAny (model X.prog X.w) X.A (call (.builtin "sorted") [u] [(Str.ofString "key", f)]) (EP X pins σ R) X.xe s2) X.xe s1) :
    wpAny (model X.prog X.w) X.A (eval (.Call (.Name "sorted" p) [y] [⟨some "key", kv, kp⟩] pos) X.env) (EP X pins σ R) X.xe s := by
  simp only [glB, Bool.and_eq_true, decide_eq_true_eq, Bool.not_eq_true'] at hx
  refine wpAny_Call_Name_kw (ld_blt (u := .builtin "sorted") I hx.1.1.1.2 (G.blt _ hx.1.1.2) (by decide +kernel) ?_)
  have A1 : ArgsP X T (.cons a .nil) [y] := .cons Y hn .nil
  refine PyProof.Rows.callWith_kw ?_ (by rw [star_off hn]; rfl) (A1.plain pos X.env) rfl rfl
  have ee : evs T (.cons a .nil) ρ = some ([x], ρ1) := by
    unfold evs
    rw [e1]
    rfl
  refine thn (A1.pa.run pos pins s σ H (fun vs H2 => Keep σ ρ H ρ1 H2 ∧ Sk ρ ρ1 ∧ Rel X.K H2 σ ρ1 ∧ ArgRel X.K H2 σ vs [x]) I (tAs_imp _ σ H _ ⟨ρ, [x], ρ1, R0, ee, fun vs H2 a b c d => ⟨a, b, c, d⟩⟩)) fun us s1 ⟨vs, H1, I1, rv, k1, sk1, R1, ar⟩ => ?_
  obtain ⟨v, rfl⟩ := argRel_one ar
  obtain ⟨u, rfl, ru⟩ : ∃ u, us = [u] ∧ RelV v u := by
    cases rv with
    | cons ru rn => cases rn; exact ⟨_, rfl, ru⟩
  have ry : Ry X.K H1 v d := by
    have er : resolveP ρ1 [x] = some [d] := by
      show ((resolveP1 ρ1 x).bind fun d => (some []).map (d :: ·)) = _
      rw [e2]
      rfl
    have := argRel_res R1 ar er
    cases this with
    | cons z _ => exact z
  have hh := q u v H1 s1 I1 ru ry k1 sk1 R1
  show wpAny _ _ (evalAll [do let v ← eval kv X.env; standAt pos; pure v]) (fun kvs s2 => wpAny _ _ (call (.builtin "sorted") [u] ([(Str.ofString "key")].zip kvs)) _ _ s2) _ s1
  exact wpAny_evalAll_cons (wpAny_bind (thn hh fun f s2 h => wpAny_bind (wpAny_standAt (wpAny_pure (wpAny_evalAll_nil h)))))
theorem sortK_peF (G : Gd X T bl) {y body : Expr} {params : Arguments} {scope : Scope} {p lp pos kp : Pos} {a : MA} {m : ME} {i : Nat} {x : Str} (hx : glB X.env.scope bl "sorted" "sorted" = true) (hn : notStar y = true) (lm : ("<lam>" : Str) ∈ bl) (dp : ("<deep>" : Str) ∈ bl) (hN : T.N[i]? = some x) (hp : par1 params x = true) (hl : lamPB X.env.scope scope x = true)
    (Y : PE X y (tA T X.K a)) (B : ∀ {X' : Cx}, Gd X' T (noLam bl) → X'.env.scope = scope → X'.K = X.K → PE X' body (tEv T X.K m)) : PE X (.Call (.Name "sorted" p) [y] [⟨some "key", .Lambda params body scope lp, kp⟩] pos) (tEvF T X.K (.sortK a i m)) := by
  refine ⟨fun pins s σ H Q I q => ?_⟩
  obtain ⟨ρ, d, ρ', R, ee, q⟩ := q
  unfold ev at ee
  obtain ⟨⟨x0, ρ1⟩, e1, e2⟩ := Option.bind_eq_some_iff.mp ee
  obtain ⟨d0, e3, e4⟩ := Option.bind_eq_some_iff.mp e2
  cases d0 <;> simp only [reduceCtorEq] at e4
  rename_i ds
  split at e4
  · rename_i hi
    obtain ⟨ks, e5, e6⟩ := Option.bind_eq_some_iff.mp e4
    obtain ⟨z, e7, e8⟩ := Option.map_eq_some_iff.mp e6
    cases e8
    have L := lamP_by hl
    refine sorted_kw G hx hn Y I R e1 e3 fun u v H1 s1 I1 ru ry k1 sk1 R1 => ?_
    refine lam_made G lm I1 R1 L hp fun f c' pm ctv H2 s2 I2 ka hf hfn hfr hc => ?_
    have I3 := Inv.pinF I2 hf rfl hfn hfr
    refine thn (sorted_own (Q := Q) I3 G.units k1 sk1 R1 ka ry ru e5 e7 (fun pn w uw xd zd H3 s3 I4 k3 rw zw hg => ?_) q) fun u' s' h => ?_
    · have pf := I4.pin (f, _) (List.mem_append_right _ (List.mem_append_left _ (List.mem_append_right _ (List.mem_singleton.mpr rfl))))
      obtain ⟨R3, _⟩ := (ka.trans k3).rel R1
      have k0 := ka.trans k3
      obtain ⟨r8, _⟩ := G.deep dp
      have hc3 : H3 c' = some (CodeO c' (X.env.qual ++ "<lambda>")) := k3.stay c' _ hc fun ps e => codeO_ne ps e
      refine wpAny_call (codeAny_mono (clo_call (Q := fun w' H' => KeepA H3 H' ∧ Rz X.K H' w' zd) I4 R3 G dp L hp hN hi (fun {E} g => B g rfl rfl) (fun k r => room_in2 r) G.quiet pf.1 I4.env0.in1.in1 (fun y c o hy ho => ⟨ho, I4.freeC y c hy⟩) hc3 (Per.of_same fun _ _ h => h) R3.tb rw zw hg fun w' H' a b => ⟨a, b⟩) fun r s' hq => ?_)
      cases r with
      | error e =>
        obtain ⟨_, _, _, _, _, _, _, _, _, _, _, _, h⟩ := hq
        exact h.elim
      | ok fl =>
        cases fl with
        | ret u =>
          obtain ⟨w', H', I5, rr, k5, z5⟩ := I4.after hq
          exact ⟨w', H', I5, rr, k5, z5⟩
        | next => exact False.elim hq
        | brk => exact False.elim hq
        | cont => exact False.elim hq
    · obtain ⟨w, H', I', r, qq⟩ := h
      exact ⟨w, H', I'.unpinned, r, qq⟩
  · cases e4
/-- a def called from within: data in, data out -/
theorem def_turn {F : FnT} {f : Addr} {fd : FuncData} {ps : List Str} {k : Nat} (ok : OkG X.prog X.w X.K X.mg X.base k f fd ps (spFn X.K F)) (room : Room (k + 8) X.A) (bf : BindsF X.K fd ps F) (hq : X.A.guards = some []) (hnp : F.np = 1) (hks : F.ks = []) (hdf : F.dfl = []) (hpm : F.pm = [0]) (hmk : F.mask = [false]) (hro : F.ro = false)
    {pins : List (Addr × Obj)} {σ : St} {H : Hp} {s : Shared} {v : V} {u : Value} {d z : D} (I : Inv X pins σ H s) (tb : TabsK X.K H) (rv : RelV v u) (zv : Rz X.K H v d) (hg : (callFn F [.v d] []).map (·.1) = some z) :
    wpAny (model X.prog X.w) X.A.in1.in1 (call (.ref f) [u]) (fun u' s' => ∃ w H2, Inv X pins σ H2 s' ∧ RelV w u' ∧ KeepA H H2 ∧ Rz X.K H2 w z) (fun _ _ => False) s := by
  obtain ⟨dvs, dus, hd, rd, hb⟩ := bf
  obtain ⟨⟨z', ρz⟩, e, e2⟩ := Option.map_eq_some_iff.mp hg
  cases e2
  unfold callFn at e
  obtain ⟨bs, e1, e2⟩ := Option.bind_eq_some_iff.mp e
  rw [hdf, hpm] at e1
  have eb : bs = [.v d] := by
    have : pick ([Arg.v d] ++ ([] : List D).map Arg.v) [0] = some [.v d] := rfl
    rw [this] at e1
    exact (Option.some.inj e1).symm
  subst eb
  split at e2
  · rename_i hf
    obtain ⟨ds, e3, e4⟩ := Option.bind_eq_some_iff.mp e2
    obtain ⟨⟨d', outs⟩, e5, e6⟩ := Option.bind_eq_some_iff.mp e4
    obtain ⟨ρ1, e7, e8⟩ := Option.map_eq_some_iff.mp e6
    cases e8
    have ed : ds = [d] := by
      have : resolve ([] : Ev) [Arg.v d] = some [d] := rfl
      rw [this] at e3
      exact (Option.some.inj e3).symm
    subst ed
    have sp : spFn X.K F [v] H (fun w' H' => KeepA H H' ∧ Rz X.K H' w' z') (fun _ _ _ => False) := by
      refine ⟨[d], z', outs, ?_, ?_, tb, e5, fun w H' k _ _ ro => ?_⟩
      · rw [hmk]; exact .v zv .nil
      · rw [hmk, lent_f]; exact Apart.nil
      · unfold RetOk at ro
        rw [hro] at ro
        refine ⟨⟨fun b o h t => ?_, k.alive, k.tabs⟩, ro⟩
        refine k.keep b o h (fun ⟨x, hx, _⟩ => ?_) t
        rw [hmk, lent_f] at hx
        cases hx
    have hl : ([u] : List Value).length = ps.length := ok.many sp
    have hdus : dus = [] := by
      have l1 := (hd H).length
      rw [hdf] at l1
      have l2 := rd.length
      rw [l1] at l2
      exact List.length_eq_zero_iff.mp l2.symm
    subst hdus
    have hbi := hb s [u] [] [u] I.kIn hnp.symm (by rw [hks]; rfl) (by rw [hpm]; rfl) hl
    rw [hks] at hbi
    have room' : Room k X.A.in1.in1 := ((room.mono (by omega : k + 2 ≤ k + 8)).in1).in1
    refine wpAny_call (codeAny_mono (ok.go hq room' I.env0.in1.in1 hbi (.cons rv .nil) sp) fun r s' hq => ?_)
    cases r with
    | error e => exact hq.elim
    | ok fl =>
      cases fl with
      | ret u =>
        obtain ⟨w', H', I5, rr, k5, z5⟩ := I.after hq
        exact ⟨w', H', I5, rr, k5, z5⟩
      | next => exact False.elim hq
      | brk => exact False.elim hq
      | cont => exact False.elim hq
  · cases e2
theorem sortF_peF (G : Gd X T bl) {y : Expr} {p zp pos kp : Pos} {a : MA} {f : Nat} {z : Str} {F : FnT} (hx : glB X.env.scope bl "sorted" "sorted" = true) (hn : notStar y = true) (dp : ("<deep>" : Str) ∈ bl) (hz : gloB X.env.scope z = true) (hpl : f ∈ T.pls) (hf : T.fns[f]? = some (z, F)) (hnp : F.np = 1) (hks : F.ks = []) (hdf : F.dfl.length = 0) (hpm : F.pm = [0]) (hmk : F.mask = [false]) (hro : F.ro = false)
    (Y : PE X y (tA T X.K a)) : PE X (.Call (.Name "sorted" p) [y] [⟨some "key", .Name z zp, kp⟩] pos) (tEvF T X.K (.sortF a f)) := by
  refine ⟨fun pins s σ H Q I q => ?_⟩
  obtain ⟨ρ, d, ρ', R, ee, q⟩ := q
  unfold ev at ee
  obtain ⟨⟨x0, ρ1⟩, e1, e2⟩ := Option.bind_eq_some_iff.mp ee
  obtain ⟨d0, e3, e4⟩ := Option.bind_eq_some_iff.mp e2
  cases d0 <;> simp only [reduceCtorEq] at e4
  rename_i ds
  obtain ⟨F', e9, e4⟩ := Option.bind_eq_some_iff.mp e4
  rw [hf] at e9
  cases e9
  obtain ⟨ks, e5, e6⟩ := Option.bind_eq_some_iff.mp e4
  obtain ⟨z', e7, e8⟩ := Option.map_eq_some_iff.mp e6
  cases e8
  simp only [gloB, Bool.and_eq_true, decide_eq_true_eq, Bool.not_eq_true'] at hz
  obtain ⟨g, fd, ps, k, hm, kpp, ok, room, bf⟩ := (G.pld dp f hpl z F hf).ex
  refine sorted_kw G hx hn Y I R e1 e3 fun u v H1 s1 I1 ru ry k1 sk1 R1 => ?_
  refine ld_glob I1 hz.1 hm ?_ hz.2
  refine sorted_own (Q := Q) I1 G.units k1 sk1 R1 (KeepA.refl H1) ry ru e5 e7 (fun pn w uw xd zd H3 s3 I4 k3 rw zw hg => ?_) q
  obtain ⟨R3, _⟩ := k3.rel R1
  exact def_turn ok room bf G.quiet hnp hks (List.length_eq_zero_iff.mp hdf) hpm hmk hro I4 R3.tb rw zw hg
end
end Mp
namespace Mp
open PySem PySem.Spec L2 LamX PySem.W
open PyProof.Rows hiding St
variable [LamT]
section
variable {X : Cx} {T : CT} {bl : List Str}
/-- a function in a slot is called -/
theorem app_pe (G : Gd X T bl) {i : Nat} {x : Str} {y : Expr} {p pos : Pos} {m : ME} (hv : varB T.N X.env.scope i x = true) (hn : notStar y = true) (Y : PE X y (tEv T X.K m)) : PE X (.Call (.Name x p) [y] [] pos) (tEv T X.K (.app i m)) := by
  refine ⟨fun pins s σ H Q I q => ?_⟩
  obtain ⟨ρ, z, ρ', R, ee, q⟩ := q
  unfold ev at ee
  split at ee
  · rename_i h0
    obtain ⟨⟨d, ρ1⟩, e1, e2⟩ := Option.bind_eq_some_iff.mp ee
    obtain ⟨g, hT, e2⟩ := Option.bind_eq_some_iff.mp e2
    obtain ⟨z', hg, e3⟩ := Option.map_eq_some_iff.mp e2
    cases e3
    obtain ⟨RA, FV, ra⟩ := G.fv g hT
    have A1 : ArgsP X T (.cons (.e m) .nil) [y] := .cons Y hn .nil
    refine wpAny_Call_Name_kw ?_
    -- the arguments, and the call behind them
    have fin : ∀ (s1 : Shared), L2.Inv X pins σ H s1 → (∃ v, σ[i]? = some (some v)) → wpAny (model X.prog X.w) X.A (spliced (backTo pos (starEach [y] X.env))) (fun us s2 => (X.K.In s2.heap ∧ (FnAt LamT.fa X.base → FnAt LamT.fa s2.heap)) ∧ wpAny (model X.prog X.w) X.A (call (.ref LamT.fa) us) (EP X pins σ Q) X.xe s2) X.xe s1 := fun s1 I1 _ => by
      refine thn (A1.pa.run pos pins s1 σ H (fun vs H2 => ∃ v, vs = [v] ∧ Keep σ ρ H ρ' H2 ∧ Sk ρ ρ' ∧ Rel X.K H2 σ ρ' ∧ Rz X.K H2 v d) I1 ⟨ρ, d, ρ', R, e1, fun v H2 a b c e => ⟨v, rfl, a, b, c, e⟩⟩) fun us s2 ⟨vs, H2, I2, rv, v, ev, k2, sk2, R2, zv⟩ => ?_
      subst ev
      obtain ⟨u, rfl, ru⟩ : ∃ u, us = [u] ∧ RelV v u := by
        cases rv with
        | cons ru rn => cases rn; exact ⟨_, rfl, ru⟩
      refine ⟨⟨I2.kIn, fun ⟨oc, od, fd, sl, hb⟩ => ⟨oc, od, fd, sl, (I2.bs _ _ hb).1⟩⟩, ?_⟩
      obtain ⟨_, pr⟩ := R2.fv i (sk2.symm.fv h0)
      refine wpAny_call (codeAny_mono (FV.run G.quiet ra I2.env0 pr R2.tb ru zv hg) fun r s' hq => ?_)
      cases r with
      | error e => exact hq.elim
      | ok fl =>
        cases fl with
        | ret u =>
          obtain ⟨w', H', I5, rr, k5, z5⟩ := I2.after hq
          obtain ⟨R5, kk⟩ := k5.rel R2
          exact ⟨w', H', I5, rr, q w' H' (k2.trans sk2 kk) sk2 R5 z5⟩
        | next => exact False.elim hq
        | brk => exact False.elim hq
        | cont => exact False.elim hq
    obtain ⟨hσ, _⟩ := R.fv i h0
    refine thn ((pe_name G hv).run pins s σ H (fun v H1 => v = .ref LamT.fa ∧ H1 = H) I ⟨_, hσ, rfl, rfl⟩) fun u s1 ⟨v, H1, I1, r, ev, eH⟩ => ?_
    subst ev eH
    obtain rfl : u = Value.ref LamT.fa := r
    rcases FV.kp with hf | hk
    · have f1 : FnAt LamT.fa s1.heap := by
        obtain ⟨oc, od, fd, sl, hb⟩ := hf
        exact ⟨oc, od, fd, sl, (I1.bs _ _ hb).1⟩
      exact callWith_F f1 (wpAny_mono (fin s1 I1 ⟨_, hσ⟩) (fun us s2 h => ⟨h.1.2 hf, by simpa using h.2⟩) fun _ _ h => h) (star_off hn) rfl
    · exact PySem.W.callWith_K (h₀ := X.base) I1.ok.mod.kin hk (wpAny_mono (fin s1 I1 ⟨_, hσ⟩) (fun us s2 h => ⟨h.1.1, by simpa using h.2⟩) fun _ _ h => h) (star_off hn) rfl
  · cases ee
end
/-! ### all that stands there, as a base -/
section
variable {X : Cx} {pins : List (Addr × Obj)} {σ : St} {H : Hp} {s : Shared}
/-- what is hidden: what is tracked, and the frames -/
noncomputable def hidF (X : Cx) (H : Hp) : Hp := fun b => if b ∈ frs X.stack then some (.tup []) else H b
noncomputable def baseS (X : Cx) (H : Hp) (s : Shared) : Heap := hidT s.heap (hidF X H)
theorem baseS_get {b : Addr} {o : Obj} (e : s.heap.get? b = some o) (n : H b = none) (nf : b ∉ frs X.stack) : (baseS X H s).get? b = some o :=
  hidT_get e (by unfold hidF; rw [if_neg nf]; exact n)
theorem of_baseS {b : Addr} {o : Obj} (e : (baseS X H s).get? b = some o) : s.heap.get? b = some o ∧ H b = none ∧ b ∉ frs X.stack := by
  obtain ⟨h1, h2⟩ := of_hidT e
  unfold hidF at h2
  split at h2
  · cases h2
  · rename_i n
    exact ⟨h1, h2, n⟩
theorem frs_base {h base : Heap} {l : List Env} (hl : h.FunFrames base l) {b : Addr} (hb : b ∈ frs l) : base.get? b = none := (hl.mem hb).1
theorem base_sub (I : L2.Inv X pins σ H s) : ∀ b o, X.base.get? b = some o → (baseS X H s).get? b = some o := fun b o e => by
  obtain ⟨h1, h2⟩ := I.bs b o e
  refine baseS_get h1 h2 fun z => ?_
  rw [frs_base I.stack z] at e
  cases e
theorem frames_to {h b1 b2 : Heap} : ∀ {l : List Env}, h.FunFrames b1 l → (∀ L ∈ frs l, b2.get? L = none) → h.FunFrames b2 l
  | [], _, _ => trivial
  | env :: r, ⟨hk, ⟨L, o, hf, hb, ho, hd⟩, hr⟩, n => by
    refine ⟨hk, ⟨L, o, hf, n L ?_, ho, hd⟩, frames_to hr fun L' hL => n L' ?_⟩
    · unfold frs
      rw [List.filterMap_cons, hf]
      exact List.mem_cons_self
    · unfold frs
      rw [List.filterMap_cons, hf]
      exact List.mem_cons_of_mem _ hL
theorem env0S (I : L2.Inv X pins σ H s) : Env0 X.prog X.w X.K X.mg (baseS X H s) X.A X.stack s H := by
  have e := I.env0
  have sub := base_sub I
  obtain ⟨mb, h1, h2⟩ := e.mod.blt
  exact ⟨e.frames, ⟨e.mod.kin.keeps sub, e.mod.glob.keeps sub, ⟨mb, h1.keeps sub, h2⟩, e.mod.nolimit.keeps sub⟩, fun b o q => let ⟨x, y, _⟩ := of_baseS q; ⟨x, y⟩, by unfold baseS; rw [hidT_size]; exact Nat.le_refl _,
    frames_to e.funs fun L hL => (by
      cases q : (baseS X H s).get? L with
      | none => rfl
      | some o => exact ((of_baseS q).2.2 hL).elim), e.frf, e.hok, e.bare⟩
theorem env0_down (I : L2.Inv X pins σ H s) {A : Around} {outer : List Env} {s1 : Shared} {H1 : Hp} (e : Env0 X.prog X.w X.K X.mg (baseS X H s) A outer s1 H1) : Env0 X.prog X.w X.K X.mg X.base A outer s1 H1 := by
  have sub := base_sub I
  have sz : X.base.objs.size ≤ (baseS X H s).objs.size := by
    unfold baseS
    rw [hidT_size]
    exact Nat.le_trans I.ok.bsz I.sz
  exact ⟨e.frames, I.ok.mod, fun b o q => e.bs b o (sub b o q), Nat.le_trans sz e.bsz, frames_to e.funs fun L hL => (by
    cases q : X.base.get? L with
    | none => rfl
    | some o =>
      have := sub L o q
      rw [frs_base e.funs hL] at this
      cases this), e.frf, e.hok, e.bare⟩
end
section
variable {X : Cx} {T : CT} {bl : List Str}
/-- wherever there is room enough for what is called below -/
def RoomOf (X : Cx) (A : Around) : Prop := A.guards = some [] ∧ ∀ k, Room (k + 8) X.A → Room (k + 1) A
/-- a lambda as a function that is handed on -/
theorem lam_fv (G : Gd X T bl) (dp : ("<deep>" : Str) ∈ bl) {pins : List (Addr × Obj)} {σ : St} {H : Hp} {s : Shared} {ρ : Ev} {scope : Scope} {params : Arguments} {body : Expr} {pm ctv : Value} {f c' : Addr} {i : Nat} {p : Str} {m : ME}
    (I : L2.Inv X pins σ H s) (R : Rel X.K H σ ρ) (L : LamP X.env.scope scope p) (hp : par1 params p = true) (hN : T.N[i]? = some p) (hl : i < ρ.length) (B : ∀ {X' : Cx}, Gd X' T (noLam bl) → X'.env.scope = scope → X'.K = X.K → PE X' body (tEv T X.K m))
    (hf : s.heap.get? f = some (PySem.W.kla_obj "<lambda>" (X.env.qual ++ "<lambda>") params body scope (clo X scope) pm c' ctv)) (hfn : H f = none) (hfr : f ∉ frs X.stack) (hc : H c' = some (CodeO c' (X.env.qual ++ "<lambda>"))) (hfnn : ∀ x, X.fn x = true) :
    FvOk X.prog X.w X.K X.mg (baseS X H s) f (cloG T ρ i m) H (RoomOf X) := by
  refine ⟨.inl ⟨_, _, _, _, baseS_get hf hfn hfr⟩, fun {A outer s1 H1 v u d z} gq hA e0 per tb rv zv hg => ?_⟩
  have f1 := (e0.bs _ _ (baseS_get hf hfn hfr)).1
  refine codeAny_mono (clo_call (Q := fun w' H' => KeepA H1 H' ∧ Rz X.K H' w' z) I R G dp L hp hN hl (fun {E} g => B g rfl rfl) (fun k r => hA.2 k r) gq f1 (env0_down I e0) (fun y c o hy ho => e0.bs c o (baseS_get ho (I.freeC y c hy) fun z => ?_)) (per.2.2 _ _ hc) per tb rv zv hg fun w' H' a b => ⟨a, b⟩) fun r s' hq => ?_
  · rcases List.mem_cons.mp (I.stkSub _ z) with e | e
    · exact I.cne y c hy e
    · obtain ⟨_, o', ho', _⟩ := I.ok.funs.mem e
      exact Nat.lt_irrefl _ (Nat.lt_of_lt_of_le (Heap.lt_size ho') (I.ok.cab y c (hfnn y) hy))
  · cases r with
    | error e =>
      obtain ⟨_, _, _, _, _, _, _, _, _, _, _, _, h⟩ := hq
      exact h.elim
    | ok fl => cases fl <;> exact hq
/-- a def that is handed on -/
theorem def_fv {F : FnT} {f : Addr} {fd : FuncData} {ps : List Str} {k : Nat} (ok : OkG X.prog X.w X.K X.mg X.base k f fd ps (spFn X.K F)) (kp : PySem.W.keepIn X.K (.ref f) = true) (room : Room (k + 8) X.A) (bf : BindsF X.K fd ps F) (hnp : F.np = 1) (hks : F.ks = []) (hdf : F.dfl = []) (hpm : F.pm = [0]) (hmk : F.mask = [false]) (hro : F.ro = false)
    {pins : List (Addr × Obj)} {σ : St} {H : Hp} {s : Shared} (I : L2.Inv X pins σ H s) : FvOk X.prog X.w X.K X.mg (baseS X H s) f (fun z => (callFn F [.v z] []).map (·.1)) H (RoomOf X) := by
  refine ⟨.inr kp, fun {A outer s1 H1 v u d z} gq hA e0 per tb rv zv hg => ?_⟩
  obtain ⟨dvs, dus, hd, rd, hb⟩ := bf
  obtain ⟨⟨z', ρz⟩, e, e2⟩ := Option.map_eq_some_iff.mp hg
  cases e2
  unfold callFn at e
  obtain ⟨bs, e1, e2⟩ := Option.bind_eq_some_iff.mp e
  rw [hdf, hpm] at e1
  have eb : bs = [.v d] := by
    have : pick ([Arg.v d] ++ ([] : List D).map Arg.v) [0] = some [.v d] := rfl
    rw [this] at e1
    exact (Option.some.inj e1).symm
  subst eb
  split at e2
  · rename_i hf
    obtain ⟨ds, e3, e4⟩ := Option.bind_eq_some_iff.mp e2
    obtain ⟨⟨d', outs⟩, e5, e6⟩ := Option.bind_eq_some_iff.mp e4
    obtain ⟨ρ1, e7, e8⟩ := Option.map_eq_some_iff.mp e6
    cases e8
    have ed : ds = [d] := by
      have : resolve ([] : Ev) [Arg.v d] = some [d] := rfl
      rw [this] at e3
      exact (Option.some.inj e3).symm
    subst ed
    have sp : spFn X.K F [v] H1 (fun w' H' => KeepA H1 H' ∧ Rz X.K H' w' z') (fun _ _ _ => False) := by
      refine ⟨[d], z', outs, ?_, ?_, tb, e5, fun w H' k _ _ ro => ?_⟩
      · rw [hmk]; exact .v zv .nil
      · rw [hmk, lent_f]; exact Apart.nil
      · unfold RetOk at ro
        rw [hro] at ro
        refine ⟨⟨fun b o h t => ?_, k.alive, k.tabs⟩, ro⟩
        refine k.keep b o h (fun ⟨x, hx, _⟩ => ?_) t
        rw [hmk, lent_f] at hx
        cases hx
    have hl : ([u] : List Value).length = ps.length := ok.many sp
    have hdus : dus = [] := by
      have l1 := (hd H).length
      rw [hdf] at l1
      have l2 := rd.length
      rw [l1] at l2
      exact List.length_eq_zero_iff.mp l2.symm
    subst hdus
    have e1 := env0_down I e0
    have hbi := hb s1 [u] [] [u] (I.ok.mod.kin.keeps fun b o q => (e1.bs b o q).1) hnp.symm (by rw [hks]; rfl) (by rw [hpm]; rfl) hl
    rw [hks] at hbi
    exact ok.go gq ((hA.2 k room).mono (Nat.le_succ k)) e1 hbi (.cons rv .nil) sp
  · cases e2
/-- the call of a def that is handed data and a function -/
theorem ho_end {den : (D → Option D) → D → Option D} {a : Addr} {g : D → Option D} {pins : List (Addr × Obj)} {σ : St} {H : Hp} {s : Shared} {v : V} {u : Value} {d z : D} {Q : VK} {f : Addr} {k : Nat} (quiet : X.A.guards = some []) (room : Room (k + 8) X.A) (ok : HoOk X.prog X.w X.K X.mg (baseS X H s) k f den)
    (I : L2.Inv X pins σ H s) (tb : TabsK X.K H) (FV : FvOk X.prog X.w X.K X.mg (baseS X H s) a g H (RoomOf X)) (rv : RelV v u) (zv : Rz X.K H v d) (e : den g d = some z) (q : ∀ w' H', KeepA H H' → Rz X.K H' w' z → Q w' H') :
    wpAny (model X.prog X.w) X.A (call (.ref f) [u, .ref a]) (EP X pins σ Q) X.xe s := by
  refine wpAny_call (codeAny_mono (ok.go (RA := RoomOf X) quiet (room.mono (Nat.le_add_right ..)) (fun e => ⟨quiet, fun k r => ?_⟩) (env0S I) FV (Per.refl H) tb rv zv e q) fun r s' hq => ?_)
  · exact (r.mono (by omega : k + 2 ≤ k + 8)).deeper e
  · cases r with
    | error e => exact hq.elim
    | ok fl =>
      cases fl with
      | ret u => exact I.after hq
      | next => exact False.elim hq
      | brk => exact False.elim hq
      | cont => exact False.elim hq
/-- f(y, lambda p: m) -/
theorem hoL_pe (G : Gd X T bl) {x : Str} {y body : Expr} {params : Arguments} {scope : Scope} {p lp pos : Pos} {a m : ME} {h i : Nat} {w : Str} {den : (D → Option D) → D → Option D} (hh : T.ho[h]? = some (x, den)) (hx : gloB X.env.scope x = true) (hn : notStar y = true) (lm : ("<lam>" : Str) ∈ bl) (dp : ("<deep>" : Str) ∈ bl) (hr : ("<here>" : Str) ∈ bl)
    (hN : T.N[i]? = some w) (hp : par1 params w = true) (hl : lamPB X.env.scope scope w = true) (Y : PE X y (tEv T X.K a)) (B : ∀ {X' : Cx}, Gd X' T (noLam bl) → X'.env.scope = scope → X'.K = X.K → PE X' body (tEv T X.K m)) : PE X (.Call (.Name x p) [y, .Lambda params body scope lp] [] pos) (tEv T X.K (.hoL h a i m)) := by
  refine ⟨fun pins s σ H Q I q => ?_⟩
  obtain ⟨ρ, z, ρ', R, ee, q⟩ := q
  unfold ev at ee
  obtain ⟨⟨d, ρ1⟩, e1, e2⟩ := Option.bind_eq_some_iff.mp ee
  obtain ⟨W, e3, e4⟩ := Option.bind_eq_some_iff.mp e2
  rw [hh] at e3
  cases e3
  split at e4
  · rename_i hi
    obtain ⟨z', e5, e6⟩ := Option.map_eq_some_iff.mp e4
    cases e6
    obtain ⟨fa, k, hm, kp, room, ok⟩ := (G.ho h x den hh dp).ex
    simp only [gloB, Bool.and_eq_true, decide_eq_true_eq, Bool.not_eq_true'] at hx
    have L := lamP_by hl
    refine wpAny_Call_Name_kw (ld_glob I hx.1 hm ?_ hx.2)
    refine PySem.W.callWith_K (h₀ := X.base) I.ok.mod.kin kp ?_ (star_off hn) rfl
    rw [star_off hn]
    refine Calls.spliced_cons (thn (Y.run pins s σ H (fun v H1 => Keep σ ρ H ρ' H1 ∧ Sk ρ ρ' ∧ Rel X.K H1 σ ρ' ∧ Rz X.K H1 v d) I ⟨ρ, d, ρ', R, e1, fun v H1 a b c e => ⟨a, b, c, e⟩⟩) fun u s1 ⟨v, H1, I1, ru, k1, sk1, R1, zv⟩ => ?_)
    refine Calls.spliced_cons (lam_made G lm I1 R1 L hp fun f c' pm ctv H2 s2 I2 ka hf hfn hfr hc => ?_)
    refine Calls.spliced_nil ⟨I2.kIn, ?_⟩
    obtain ⟨R2, k2⟩ := ka.rel R1
    have FV := lam_fv (m := m) G dp I2 R2 L hp hN hi B hf hfn hfr hc (G.here hr)
    refine ho_end G.quiet room (ok _ (base_sub I2)) I2 R2.tb FV ru (zv.per ka.per) e5 fun w' H' kb zz => ?_
    obtain ⟨R3, k3⟩ := kb.rel R2
    exact q w' H' ((k1.trans sk1 k2).trans sk1 k3) sk1 R3 zz
  · cases e4
/-- f(y, g) -/
theorem hoF_pe (G : Gd X T bl) {x z : Str} {y : Expr} {p zp pos : Pos} {a : ME} {h f : Nat} {F : FnT} {den : (D → Option D) → D → Option D} (hh : T.ho[h]? = some (x, den)) (hx : gloB X.env.scope x = true) (hn : notStar y = true) (dp : ("<deep>" : Str) ∈ bl) (hz : gloB X.env.scope z = true) (hpl : f ∈ T.pls) (hf : T.fns[f]? = some (z, F)) (hnp : F.np = 1) (hks : F.ks = []) (hdf : F.dfl.length = 0) (hpm : F.pm = [0]) (hmk : F.mask = [false]) (hro : F.ro = false)
    (Y : PE X y (tEv T X.K a)) : PE X (.Call (.Name x p) [y, .Name z zp] [] pos) (tEv T X.K (.hoF h a f)) := by
  refine ⟨fun pins s σ H Q I q => ?_⟩
  obtain ⟨ρ, z0, ρ', R, ee, q⟩ := q
  unfold ev at ee
  obtain ⟨⟨d, ρ1⟩, e1, e2⟩ := Option.bind_eq_some_iff.mp ee
  obtain ⟨W, e3, e4⟩ := Option.bind_eq_some_iff.mp e2
  rw [hh] at e3
  cases e3
  obtain ⟨F', e9, e4⟩ := Option.bind_eq_some_iff.mp e4
  rw [hf] at e9
  cases e9
  obtain ⟨z', e5, e6⟩ := Option.map_eq_some_iff.mp e4
  cases e6
  obtain ⟨fa, k, hm, kp, room, ok⟩ := (G.ho h x den hh dp).ex
  obtain ⟨g, fd, ps, k', hm', kp', okg, room', bf⟩ := (G.pld dp f hpl z F hf).ex
  simp only [gloB, Bool.and_eq_true, decide_eq_true_eq, Bool.not_eq_true'] at hx hz
  refine wpAny_Call_Name_kw (ld_glob I hx.1 hm ?_ hx.2)
  refine PySem.W.callWith_K (h₀ := X.base) I.ok.mod.kin kp ?_ (star_off hn) rfl
  rw [star_off hn]
  refine Calls.spliced_cons (thn (Y.run pins s σ H (fun v H1 => Keep σ ρ H ρ' H1 ∧ Sk ρ ρ' ∧ Rel X.K H1 σ ρ' ∧ Rz X.K H1 v d) I ⟨ρ, d, ρ', R, e1, fun v H1 a b c e => ⟨a, b, c, e⟩⟩) fun u s1 ⟨v, H1, I1, ru, k1, sk1, R1, zv⟩ => ?_)
  refine Calls.spliced_cons (ld_glob I1 hz.1 hm' ?_ hz.2)
  refine Calls.spliced_nil ⟨I1.kIn, ?_⟩
  have FV := def_fv okg kp' room' bf hnp hks (List.length_eq_zero_iff.mp hdf) hpm hmk hro I1
  refine ho_end G.quiet room (ok _ (base_sub I1)) I1 R1.tb FV ru zv e5 fun w' H' kb zz => ?_
  obtain ⟨R3, k3⟩ := kb.rel R1
  exact q w' H' (k1.trans sk1 k3) sk1 R3 zz
end
end Mp
namespace Mp
open PySem PySem.Spec L2 LamX
open PyProof.Rows hiding St
variable [LamT]
section
variable {X : Cx} {T : CT} {bl : List Str}
/-! ### a list of one's own, shortened -/
/-- a list or a dict of one's own has changed -/
theorem own_step {K : PySem.W.Frag} {H : Hp} {σ : St} {ρ : Ev} {i : Nat} {c e : D} {p : Addr} {o : HO} (R : Rel K H σ ρ) (h : ρ[i]? = some (.ow c)) (hp : σ[i]? = some (some (.ref p))) (oc : OwnS K H p c) (oe : OwnS K (upd H p o) p e) (hc : canFz o = true) :
    Rel K (upd H p o) σ (ρ.set i (.ow e)) ∧ Keep σ ρ H (ρ.set i (.ow e)) (upd H p o) := by
  have R2 := R.own_set h hp oe.own (fun b f => .inl (by rw [Foot.alone oe f]; exact Foot.self ..)) fun b u hb n => by rw [upd_ne (fun e => n (by rw [e]; exact Foot.self ..))]; exact hb
  have hl := (List.getElem?_eq_some_iff.mp h).1
  refine ⟨R2, ⟨fun b u hb n t => ?_, fun j b w => ?_, fun b hb => ?_, fun P q _ => tabs_of (fun b u hb cu => ?_) P q⟩⟩
  · rw [upd_ne (fun e => n ⟨i, c, p, h, hp, by rw [e]; exact Foot.self ..⟩)]; exact hb
  · obtain ⟨d, q, h1, h2, f⟩ := w
    by_cases hj : i = j
    · subst hj
      rw [List.getElem?_set_self hl] at h1; cases h1
      rw [hp] at h2; cases h2
      rw [Foot.alone oe f]
      exact .inl ⟨c, p, h, hp, Foot.self ..⟩
    · rw [List.getElem?_set_ne hj] at h1
      refine .inl ⟨d, q, h1, h2, (Foot.iff (upd_ne fun e => ?_)).mp f⟩
      subst e
      exact R.ne i j c d q q q hj h h1 hp h2 (Foot.self ..) (Foot.self ..)
  · by_cases e : b = p
    · subst e; rw [upd_same] at hb; cases hb
    · rwa [upd_ne e] at hb
  · obtain ⟨w, hw, cw⟩ := oc.obj
    rw [upd_ne (fun e => by subst e; rw [hw] at hb; cases hb; rw [cw] at cu; cases cu)]
    exact hb
theorem pop_pe (G : Gd X T bl) {i : Nat} {x : Str} {y : Expr} {m : ME} {p apos cpos : Pos} (hv : varB T.N X.env.scope i x = true) (n : notStar y = true) (hl : (apos.endLine == cpos.line) = true) (h : PE X y (tEv T X.K m)) :
    PE X (.Call (.Attribute (.Name x p) "pop" apos) [y] [] cpos) (tEv T X.K (.pop i m)) := by
  have hst := star_off (es := []) (env := X.env) n
  refine PE.imp (pe_bm PySem.F.plainAttrs_list PySem.F.slot_list_pop (by rfl) mt_popAt (pe_name G hv) (pa_cons h pa_nil hst) rfl ?_ hl hst (by rfl)) fun σ H Q q => ?_
  · rw [hst]; rfl
  · obtain ⟨ρ, d, ρ', R, ee, q⟩ := q
    unfold ev at ee
    split at ee
    · rename_i ds0 hi0
      obtain ⟨⟨dk, ρ1⟩, h1, h2⟩ := Option.bind_eq_some_iff.mp ee
      simp only at h2
      split at h2
      · rename_i k ds hk
        split at h2
        · rename_i hb
          obtain ⟨j, h3, h4⟩ := Option.bind_eq_some_iff.mp h2
          obtain ⟨y, h5, h6⟩ := Option.map_eq_some_iff.mp h4
          cases h6
          obtain ⟨p0, hp0, vs0, e0, _⟩ := R.ow i _ hi0
          refine ⟨_, hp0, .inl ⟨rfl, _, SqL.of e0⟩, ρ, _, ρ1, R, h1, fun v H1 k1 s1 R1 z1 => ?_⟩
          cases z1
          obtain ⟨p1, hp1, vs, e1, za⟩ := R1.ow i _ hk
          rw [hp0] at hp1
          cases hp1
          obtain ⟨w, hw, zw⟩ := za.get h5
          refine ⟨p0, vs, k, j, w, rfl, rfl, e1, hb.1, hb.2, by rw [za.length]; exact h3, hw, ?_⟩
          have per : Per H1 (upd H1 p0 (.lst (vs.eraseIdx j))) := by
            refine ⟨fun b xs hb => ?_, fun b o u hb => ?_, fun b xs hb => ?_⟩
            · rw [upd_ne (fun e => by subst e; rw [e1] at hb; cases hb)]; exact hb
            · rw [upd_ne (fun e => by subst e; rw [e1] at hb; cases hb)]; exact hb
            · rw [upd_ne (fun e => by subst e; rw [e1] at hb; cases hb)]; exact hb
          obtain ⟨R2, k2⟩ := own_step (e := .list (ds.eraseIdx j)) (o := .lst (vs.eraseIdx j)) R1 hk hp0 ⟨vs, e1, za⟩ ⟨_, upd_same, (za.eraseIdx j).per per⟩ rfl
          exact q w _ (k1.trans s1 k2) (s1.trans (sk_set hk)) R2 (zw.per per)
        · cases h2
      · cases h2
    · cases ee

theorem tst_bl {K : PySem.W.Frag} {H : Hp} {v : V} {b : Bool} (z : Rz K H v (.bool b)) : v = .bl b := by cases z; rfl
theorem cmp_or (hu : X.A.units + 64 < cLine) {p : Prim} {op : CmpOp} (h : cmpOf p = some op) : ∃ g, OpR X (compareOp op) (r2D X.K g) ∧ ∀ a b, primD p [a, b] = g a b := by
  cases p <;> simp only [cmpOf, Option.some.injEq, reduceCtorEq] at h <;> subst h
  · exact ⟨_, od_lt hu, fun _ _ => rfl⟩
  · exact ⟨_, od_le, fun _ _ => rfl⟩
  · exact ⟨_, od_gt, fun _ _ => rfl⟩
  · exact ⟨_, od_ge, fun _ _ => rfl⟩
theorem chain_imp {K : PySem.W.Frag} {p p' : Prim} {a b c : ME} {g1 g2 : D → D → Option D} (h1 : ∀ x y, primD p [x, y] = g1 x y) (h2 : ∀ x y, primD p' [x, y] = g2 x y) (σ : St) (H : Hp) (Q : VK) (q : tEv T K (.chain p p' a b c) σ H Q) :
    tChain (r2D K g1) (r2D K g2) (tEv T K a) (tEv T K b) (tEv T K c) σ H Q := by
  obtain ⟨ρ, d, ρ', R, ee, q⟩ := q
  unfold ev at ee
  obtain ⟨⟨da, ρ1⟩, e1, e2⟩ := Option.bind_eq_some_iff.mp ee
  obtain ⟨⟨db, ρ2⟩, e3, e4⟩ := Option.bind_eq_some_iff.mp e2
  obtain ⟨z, e5, e6⟩ := Option.bind_eq_some_iff.mp e4
  rw [h1] at e5
  refine ⟨ρ, da, ρ1, R, e1, fun v H1 k1 s1 R1 z1 => ⟨ρ1, db, ρ2, R1, e3, fun w H2 k2 s2 R2 z2 => ⟨da, db, z, .inl (z1.per (k2.per R1)), .inl z2, e5, fun u H3 sm z3 => ?_⟩⟩⟩
  cases z with
  | bool k =>
    refine ⟨k, tst_bl z3, ?_⟩
    have k3 := (k1.trans s1 k2).trans (s1.trans s2) (Keep.same R2 sm)
    cases k with
    | true =>
      obtain ⟨⟨dc, ρ3⟩, f1, f2⟩ := Option.bind_eq_some_iff.mp e6
      obtain ⟨dd, f3, f4⟩ := Option.map_eq_some_iff.mp f2
      cases f4
      rw [h2] at f3
      rw [if_pos rfl]
      refine ⟨ρ2, dc, _, R2.same sm, f1, fun t H4 k4 s4 R4 z4 => ⟨db, dc, d, .inl ((z2.per (Per.of_same sm)).per (k4.per (R2.same sm))), .inl z4, f3, fun u' H5 sm5 z5 => ?_⟩⟩
      exact q u' H5 ((k3.trans (s1.trans s2) k4).trans ((s1.trans s2).trans s4) (Keep.same R4 sm5)) ((s1.trans s2).trans s4) (R4.same sm5) z5
    | false =>
      cases e6
      rw [if_neg Bool.false_ne_true]
      exact q _ H3 k3 (s1.trans s2) (R2.same sm) (.bl _)
  | _ => cases e6

/-! ### every expression of the text -/

theorem gd_blk (G : Gd X T bl) (s : Shared) (H : Hp) (scope : Scope) (C : Addr) (cl : List (Str × Addr)) (fp : List Addr) : Gd (X.blk s H scope (compEnvC scope cl C X.env) fp) T (noHere bl) :=
  ⟨G.hN, G.nd, G.calm, G.units, G.quiet, fun x hx => G.blt x (noHere_sub hx).1, G.con, fun f x F h => ⟨(G.fn f x F h).ex⟩, G.fld, G.isc, fun f m al h c F hc => ⟨(G.mth f m al h c F hc).ex⟩, fun h => ⟨(G.lam (noHere_sub h).1).ex⟩, fun h => ⟨(G.deep (noHere_sub h).1).1, fun f x F hf => ⟨((G.deep (noHere_sub h).1).2.1 f x F hf).ex⟩, fun f m al hm c F hc => ⟨((G.deep (noHere_sub h).1).2.2 f m al hm c F hc).ex⟩⟩, fun h f hp x F hf => ⟨(G.pld (noHere_sub h).1 f hp x F hf).ex⟩,
    fun h x den hh hd => ⟨(G.ho h x den hh (noHere_sub hd).1).ex⟩, fun g hg => let ⟨RA, a, b⟩ := G.fv g hg; ⟨RA, a, b⟩, fun h => G.nfv (noHere_sub h).1, fun h => ((noHere_sub h).2 rfl).elim⟩
theorem scope_blk (s : Shared) (H : Hp) (scope : Scope) (C : Addr) (cl : List (Str × Addr)) (fp : List Addr) : (X.blk s H scope (compEnvC scope cl C X.env) fp).env.scope = relS scope X.env.scope := rfl
end
theorem isTrue_if {prog : Program} {w : World} {A : Around} {E : Value → Shared → Prop} {s : Shared} {c a b : Expr} {pos : Pos} {env : Env} {wh : Sem Value} {Q : Bool → Shared → Prop}
    (h : wpAny (model prog w) A (isTrue c env (eval c env)) (fun d s1 => wpAny (model prog w) A (if d = true then isTrue a env (eval a env) else isTrue b env (eval b env)) Q E s1) E s) : wpAny (model prog w) A (isTrue (.IfExp c a b pos) env wh) Q E s :=
  wpAny_bind h
mutual
theorem good {T : CT} : ∀ (m : ME) {bl : List Str} {X : Cx} (G : Gd X T bl) {e : Expr}, cm T bl X.env.scope m e = true → Good X T m e
  | .var i, bl, X, G, e, h => by
    cases e <;> simp only [cm, Bool.false_eq_true] at h
    refine Good.of (PE.imp (pe_name G h) fun σ H Q q => ?_) (fun _ _ _ q => nomatch q) fun _ => rfl
    obtain ⟨ρ, d, ρ', R, ee, q⟩ := q
    unfold ev at ee
    split at ee
    · rename_i d' hd
      cases ee
      obtain ⟨v, hv, z⟩ := R.da i _ hd
      exact ⟨v, hv, q v H Keep.refl (Sk.refl _) R z⟩
    · cases ee
  | .cst d, bl, X, G, e, h => by
    cases e <;> simp only [cm, Bool.false_eq_true] at h
    rename_i c k pos
    have go : ∀ {v : V}, PE X (.Constant c k pos) (tC v) → (∀ H, Rz X.K H v d) → Good X T (.cst d) (.Constant c k pos) := fun {v} hp hz => by
      refine Good.of (PE.imp hp fun σ H Q q => ?_) (fun _ _ _ q => nomatch q) fun _ => rfl
      obtain ⟨ρ, d, ρ', R, ee, q⟩ := q
      unfold ev at ee
      cases ee
      exact q v H Keep.refl (Sk.refl _) R (hz H)
    cases c <;> cases d <;> simp only [cstB, Bool.false_eq_true, beq_iff_eq, decide_eq_true_eq] at h
    · exact go pe_non fun H => .non
    · subst h; exact go pe_bl fun H => .bl _
    · subst h; exact go pe_int fun H => .int _
    · subst h; exact go pe_str fun H => .str _
  | .glb g, bl, X, G, e, h => by
    cases e <;> simp only [cm, Bool.false_eq_true] at h
    split at h
    · rename_i p hp
      simp only [gloB, Bool.and_eq_true, decide_eq_true_eq, Bool.not_eq_true'] at h
      obtain ⟨rfl, h1, h2⟩ := h
      obtain ⟨u, v, hm, r, hz⟩ := G.con g p.1 p.2 hp
      refine Good.of (PE.imp (pe_glob h1 hm r h2) fun σ H Q q => ?_) (fun _ _ _ q => nomatch q) fun _ => rfl
      obtain ⟨ρ, d, ρ', R, ee, q⟩ := q
      unfold ev at ee
      rw [hp] at ee
      cases ee
      exact q v H Keep.refl (Sk.refl _) R (hz H)
    · cases h
  | .tup es, bl, X, G, e, h => by
    cases e <;> simp only [cm, Bool.false_eq_true, Bool.and_eq_true, decide_eq_true_eq] at h
    exact Good.of (good_tup (goods es G h.1) h.2) (fun _ _ _ q => nomatch q) fun _ => rfl
  | .lst es, bl, X, G, e, h => by
    cases e <;> simp only [cm, Bool.false_eq_true, Bool.and_eq_true, decide_eq_true_eq] at h
    exact Good.of (PE.frz (good_lstF (goods es G h.1) h.2)) (fun _ _ _ q => nomatch q) fun _ => rfl
  | .prim p es, bl, X, G, e, h => by
    simp only [cm] at h
    split at h
    · rename_i as hp
      simp only [Bool.and_eq_true, Bool.or_eq_true, Bool.not_eq_true'] at h
      cases hx : lateP p with
      | false =>
        refine Good.of_be (prim_be G hx hp (goods es G h.1)) fun op vs pos q => ?_
        subst q
        cases p <;> simp [cmP] at hp
      | true =>
        have hE : es.headE = true := by rcases h.2 with q | q; rw [hx] at q; cases q; exact q
        cases p <;> first | (cases hx; done) | skip
        unfold cmP at hp; simp only at hp; split at hp
        · split at hp <;> cases hp
          rename_i hs
          obtain ⟨rfl, ns, n, hl⟩ := hs
          exact Good.of (index_pe G ns (goods es G h.1) n hl hE) (fun _ _ _ q => nomatch q) fun _ => rfl
        · cases hp
    · cases h
  | .flat i j it m own, bl, X, G, e, h => by
    unfold cm at h
    split at h
    · rename_i y py a pa iter b pb iter1 scope pos
      simp only [Bool.and_eq_true] at h
      obtain ⟨⟨⟨⟨⟨⟨⟨⟨⟨⟨h1, h2⟩, hE⟩, h3⟩, h4⟩, h5⟩, h6⟩, h7⟩, h8⟩, h9⟩, h10⟩ := h
      exact Good.of (PE.frz (flat_frz G (by simpa using hE) (goodI it G h1 hE) h2 h3 h4 (List.contains_iff_mem.mp h5) h6 (List.contains_iff_mem.mp h7) h9 (fun s H C cl fp => (good m (gd_blk G s H scope C cl fp) h8).pe) (fun s H C cl fp => pe_name (gd_blk G s H scope C cl fp) h10))) (fun _ _ _ q => nomatch q) fun _ => rfl
    · cases h
  | .fld f a, bl, X, G, e, h => by
    unfold cm at h
    split at h
    · simp only [Bool.and_eq_true, decide_eq_true_eq] at h
      obtain ⟨⟨rfl, h1⟩, h2⟩ := h
      exact Good.of (fld_pe G h1 (good a G h2).pe) (fun _ _ _ q => nomatch q) fun _ => rfl
    · cases h
  | .isC x a, bl, X, G, e, h => by
    unfold cm at h
    split at h
    · simp only [Bool.and_eq_true, decide_eq_true_eq] at h
      obtain ⟨⟨⟨⟨h0, rfl⟩, h1⟩, h2⟩, h3⟩ := h
      exact Good.of (isC_pe G h0 h1 h2 (good a G h3).pe) (fun _ _ _ q => nomatch q) fun _ => rfl
    · cases h
  | .dct ks es, bl, X, G, e, h => by
    cases e <;> simp only [cm, Bool.false_eq_true, Bool.and_eq_true, decide_eq_true_eq] at h
    exact Good.of (PE.frz (dct_peF h.1.1.1.1 (goods es G h.1.1.1.2) h.1.1.2 h.1.2 h.2)) (fun _ _ _ q => nomatch q) fun _ => rfl
  | .fn f es, bl, X, G, e, h => by
    unfold cm at h
    split at h
    · split at h
      · rename_i y F hf
        simp only [Bool.and_eq_true, decide_eq_true_eq] at h
        obtain ⟨⟨⟨⟨rfl, h1⟩, h2⟩, h3⟩, h4⟩ := h
        exact Good.of (fn_pe G hf h1 h2 h3 (goods es G h4)) (fun _ _ _ q => nomatch q) fun _ => rfl
      · cases h
    · cases h
  | .fnF f es, bl, X, G, e, h => by simp [cm] at h
  | .mth f h0 es, bl, X, G, e, h => by
    unfold cm at h
    split at h
    · split at h
      · rename_i n al hf
        simp only [Bool.and_eq_true, decide_eq_true_eq] at h
        obtain ⟨⟨⟨⟨⟨⟨rfl, h1⟩, h2⟩, h3⟩, h4⟩, h5⟩, h6⟩ := h
        exact Good.of (mth_pe G hf h1 h2 h3 (by simpa using h4) (goodA h0 G h5) (goods es G h6)) (fun _ _ _ q => nomatch q) fun _ => rfl
      · cases h
    · cases h
  | .mthF f h0 es, bl, X, G, e, h => by simp [cm] at h
  | .sortK a i m, bl, X, G, e, h => by
    unfold cm at h
    split at h
    · rename_i x0 p y n params body scope lp kp pos
      simp only [Bool.and_eq_true, decide_eq_true_eq] at h
      obtain ⟨⟨⟨⟨⟨⟨⟨h1, rfl⟩, h3⟩, h4⟩, h5⟩, h6⟩, h7⟩, h8⟩ := h
      split at h5
      · rename_i z hz
        rw [Bool.and_eq_true] at h5
        obtain ⟨rfl, h1⟩ := glB_self h1
        exact Good.of (PE.frz (sortK_peF G h1 h3 (List.contains_iff_mem.mp h6) (List.contains_iff_mem.mp h7) hz h5.1 h5.2 (goodA a G h4) fun {X'} g es ek => ek ▸ (good m g (es ▸ h8)).pe)) (fun _ _ _ q => nomatch q) fun _ => rfl
      · cases h5
    · cases h
  | .sortF a f, bl, X, G, e, h => by
    unfold cm at h
    split at h
    · rename_i x0 p y n z zp kp pos
      simp only [Bool.and_eq_true, decide_eq_true_eq] at h
      obtain ⟨⟨⟨⟨⟨⟨⟨h1, rfl⟩, h3⟩, h4⟩, h5⟩, h6⟩, h7⟩, h8⟩ := h
      split at h8
      · rename_i z' F hz
        simp only [Bool.and_eq_true, decide_eq_true_eq, Bool.not_eq_true'] at h8
        obtain ⟨⟨⟨⟨⟨⟨rfl, q1⟩, q2⟩, q3⟩, q4⟩, q5⟩, q6⟩ := h8
        obtain ⟨rfl, h1⟩ := glB_self h1
        exact Good.of (PE.frz (sortF_peF G h1 h3 (List.contains_iff_mem.mp h6) h5 (List.contains_iff_mem.mp h7) hz q1 q2 q3 q4 q5 q6 (goodA a G h4))) (fun _ _ _ q => nomatch q) fun _ => rfl
      · cases h8
    · cases h
  | .app i a, bl, X, G, e, h => by
    unfold cm at h
    split at h
    · simp only [Bool.and_eq_true] at h
      exact Good.of (app_pe G h.1.1 h.1.2 (good a G h.2).pe) (fun _ _ _ q => nomatch q) fun _ => rfl
    · cases h
  | .die, bl, X, G, e, h => by
    have no : ∀ {σ : St} {H : Hp} {Q : VK}, ¬ tEv T X.K .die σ H Q := fun ⟨ρ, d, ρ', _, e, _⟩ => by
      unfold ev at e
      cases e
    have no2 : ∀ {σ : St} {H : Hp} {Q : Bool → Hp → Prop}, ¬ tTst T X.K .die σ H Q := fun ⟨ρ, d, ρ', _, e, _⟩ => by
      unfold ev at e
      cases e
    exact ⟨⟨fun _ _ _ _ _ _ q => (no q).elim⟩, ⟨fun _ _ _ _ _ _ q => (no2 q).elim⟩, fun _ _ _ _ => ⟨fun _ _ _ _ _ _ _ q => (no2 q).elim⟩⟩
  | .hoL k a i m, bl, X, G, e, h => by
    unfold cm at h
    split at h
    · rename_i x0 p y params body scope lp pos
      simp only [Bool.and_eq_true] at h
      obtain ⟨⟨⟨⟨⟨⟨⟨⟨h1, h2⟩, h3⟩, h4⟩, h5⟩, h6⟩, h7⟩, h8⟩, h9⟩ := h
      split at h1
      · rename_i W hW
        have h1 := of_decide_eq_true h1
        subst h1
        split at h5
        · rename_i z hz
          rw [Bool.and_eq_true] at h5
          exact Good.of (hoL_pe (den := W.2) G (by rw [hW]) h2 h3 (List.contains_iff_mem.mp h6) (List.contains_iff_mem.mp h7) (List.contains_iff_mem.mp h8) hz h5.1 h5.2 (good a G h4).pe fun {X'} g es ek => ek ▸ (good m g (es ▸ h9)).pe) (fun _ _ _ q => nomatch q) fun _ => rfl
        · cases h5
      · cases h1
    · cases h
  | .hoF k a f, bl, X, G, e, h => by
    unfold cm at h
    split at h
    · rename_i x0 p y z zp pos
      simp only [Bool.and_eq_true] at h
      obtain ⟨⟨⟨⟨⟨⟨⟨h1, h2⟩, h3⟩, h4⟩, h5⟩, h6⟩, h7⟩, h8⟩ := h
      split at h1
      · rename_i W hW
        have h1 := of_decide_eq_true h1
        subst h1
        split at h8
        · rename_i z' F hz
          simp only [Bool.and_eq_true, decide_eq_true_eq, Bool.not_eq_true'] at h8
          obtain ⟨⟨⟨⟨⟨⟨rfl, q1⟩, q2⟩, q3⟩, q4⟩, q5⟩, q6⟩ := h8
          exact Good.of (hoF_pe (den := W.2) G (by rw [hW]) h2 h3 (List.contains_iff_mem.mp h6) h5 (List.contains_iff_mem.mp h7) hz q1 q2 q3 q4 q5 q6 (good a G h4).pe) (fun _ _ _ q => nomatch q) fun _ => rfl
        · cases h8
      · cases h1
    · cases h
  | .fldO i f, bl, X, G, e, h => by
    unfold cm at h
    split at h
    · simp only [Bool.and_eq_true, decide_eq_true_eq] at h
      obtain ⟨rfl, h1⟩ := h
      exact Good.of (fldO_pe G h1) (fun _ _ _ q => nomatch q) fun _ => rfl
    · cases h
  | .band a b, bl, X, G, e, h => by
    unfold cm at h
    split at h
    · rename_i x y r pos
      rw [Bool.and_eq_true] at h
      obtain ⟨h1, h2⟩ := h
      have ga := good a G h1
      have hb : PE X (.BoolOp .And (y :: r) pos) (tEv T X.K b) ∧ PW X (.BoolOp .And (y :: r) pos) (tTst T X.K b) := by
        split at h2
        · have gb := good b G h2
          exact ⟨pe_one gb.pe, pw_and1 gb.pt⟩
        · have gb := good b G h2
          exact ⟨gb.pe, gb.pw _ _ _ rfl⟩
      have pw : PW X (.BoolOp .And (x :: y :: r) pos) (tTst T X.K (.band a b)) := PW.imp (pw_and ga.pt hb.2) fun σ H Q q => by
        obtain ⟨ρ, d, ρ', R, ee, q⟩ := q
        unfold ev at ee
        obtain ⟨⟨da, ρ1⟩, e1, e2⟩ := Option.bind_eq_some_iff.mp ee
        cases da with
        | bool c =>
          refine ⟨ρ, c, ρ1, R, e1, fun H1 k1 s1 R1 => ?_⟩
          cases c with
          | true => exact ⟨ρ1, d, ρ', R1, e2, fun H2 k2 s2 R2 => q H2 (k1.trans s1 k2) (s1.trans s2) R2⟩
          | false => cases e2; exact q H1 k1 s1 R1
        | _ => cases e2
      refine ⟨PE.imp (pe_and ga.pe hb.1) fun σ H Q q => ?_, pw.pt, fun op vs p q => by cases q; exact pw⟩
      obtain ⟨ρ, d, ρ', R, ee, q⟩ := q
      unfold ev at ee
      obtain ⟨⟨da, ρ1⟩, e1, e2⟩ := Option.bind_eq_some_iff.mp ee
      cases da with
      | bool c =>
        refine ⟨ρ, _, ρ1, R, e1, fun v H1 k1 s1 R1 z => ⟨c, tst_bl z, ?_⟩⟩
        cases c with
        | true => exact ⟨ρ1, d, ρ', R1, e2, fun v H2 k2 s2 R2 z => q v H2 (k1.trans s1 k2) (s1.trans s2) R2 z⟩
        | false => cases e2; exact q _ H1 k1 s1 R1 (.bl _)
      | _ => cases e2
    · cases h
  | .bor a b, bl, X, G, e, h => by
    unfold cm at h
    split at h
    · rename_i x y r pos
      rw [Bool.and_eq_true] at h
      obtain ⟨h1, h2⟩ := h
      have ga := good a G h1
      have hb : PE X (.BoolOp .Or (y :: r) pos) (tEv T X.K b) ∧ PW X (.BoolOp .Or (y :: r) pos) (tTst T X.K b) := by
        split at h2
        · have gb := good b G h2
          exact ⟨pe_one gb.pe, pw_or1 gb.pt⟩
        · have gb := good b G h2
          exact ⟨gb.pe, gb.pw _ _ _ rfl⟩
      have pw : PW X (.BoolOp .Or (x :: y :: r) pos) (tTst T X.K (.bor a b)) := PW.imp (pw_or ga.pt hb.2) fun σ H Q q => by
        obtain ⟨ρ, d, ρ', R, ee, q⟩ := q
        unfold ev at ee
        obtain ⟨⟨da, ρ1⟩, e1, e2⟩ := Option.bind_eq_some_iff.mp ee
        cases da with
        | bool c =>
          refine ⟨ρ, c, ρ1, R, e1, fun H1 k1 s1 R1 => ?_⟩
          cases c with
          | false => exact ⟨ρ1, d, ρ', R1, e2, fun H2 k2 s2 R2 => q H2 (k1.trans s1 k2) (s1.trans s2) R2⟩
          | true => cases e2; exact q H1 k1 s1 R1
        | _ => cases e2
      refine ⟨PE.imp (pe_or ga.pe hb.1) fun σ H Q q => ?_, pw.pt, fun op vs p q => by cases q; exact pw⟩
      obtain ⟨ρ, d, ρ', R, ee, q⟩ := q
      unfold ev at ee
      obtain ⟨⟨da, ρ1⟩, e1, e2⟩ := Option.bind_eq_some_iff.mp ee
      cases da with
      | bool c =>
        refine ⟨ρ, _, ρ1, R, e1, fun v H1 k1 s1 R1 z => ⟨c, tst_bl z, ?_⟩⟩
        cases c with
        | false => exact ⟨ρ1, d, ρ', R1, e2, fun v H2 k2 s2 R2 z => q v H2 (k1.trans s1 k2) (s1.trans s2) R2 z⟩
        | true => cases e2; exact q _ H1 k1 s1 R1 (.bl _)
      | _ => cases e2
    · cases h
  | .bnot a, bl, X, G, e, h => by
    unfold cm at h
    split at h
    · have ga := good a G h
      refine ⟨PE.imp (pe_not ga.pe) fun σ H Q q => ?_, PT.imp (pt_not ga.pt) fun σ H Q q => ?_, fun op vs p q => nomatch q⟩
      · obtain ⟨ρ, d, ρ', R, ee, q⟩ := q
        unfold ev at ee
        obtain ⟨⟨da, ρ1⟩, e1, e2⟩ := Option.bind_eq_some_iff.mp ee
        cases da with
        | bool c =>
          cases e2
          exact ⟨ρ, _, ρ', R, e1, fun v H1 k1 s1 R1 z => ⟨c, tst_bl z, q _ H1 k1 s1 R1 (.bl _)⟩⟩
        | _ => cases e2
      · obtain ⟨ρ, d, ρ', R, ee, q⟩ := q
        unfold ev at ee
        obtain ⟨⟨da, ρ1⟩, e1, e2⟩ := Option.bind_eq_some_iff.mp ee
        cases da with
        | bool c =>
          cases e2
          exact ⟨ρ, c, ρ', R, e1, fun H1 k1 s1 R1 => q H1 k1 s1 R1⟩
        | _ => cases e2
    · cases h
  | .ite c a b, bl, X, G, e, h => by
    unfold cm at h
    split at h
    · simp only [Bool.and_eq_true] at h
      have gc := good c G h.1.1
      have ga := good a G h.1.2
      have gb := good b G h.2
      refine ⟨PE.imp (pe_ifExp gc.pt ga.pe gb.pe) fun σ H Q q => ?_, ?_, fun op vs p q => nomatch q⟩
      · obtain ⟨ρ, d, ρ', R, ee, q⟩ := q
        unfold ev at ee
        obtain ⟨⟨da, ρ1⟩, e1, e2⟩ := Option.bind_eq_some_iff.mp ee
        cases da with
        | bool k =>
          refine ⟨ρ, k, ρ1, R, e1, fun H1 k1 s1 R1 => ?_⟩
          cases k with
          | true => exact ⟨ρ1, d, ρ', R1, e2, fun v H2 k2 s2 R2 z => q v H2 (k1.trans s1 k2) (s1.trans s2) R2 z⟩
          | false => exact ⟨ρ1, d, ρ', R1, e2, fun v H2 k2 s2 R2 z => q v H2 (k1.trans s1 k2) (s1.trans s2) R2 z⟩
        | _ => cases e2
      · refine ⟨fun pins s σ H Q I q => ?_⟩
        obtain ⟨ρ, d, ρ', R, ee, q⟩ := q
        unfold ev at ee
        obtain ⟨⟨da, ρ1⟩, e1, e2⟩ := Option.bind_eq_some_iff.mp ee
        cases da with
        | bool k =>
          refine isTrue_if (thn (gc.pt.run pins s σ H (fun b' H1 => b' = k ∧ Keep σ ρ H ρ1 H1 ∧ Sk ρ ρ1 ∧ Rel X.K H1 σ ρ1) I ⟨ρ, k, ρ1, R, e1, fun H1 k1 s1 R1 => ⟨rfl, k1, s1, R1⟩⟩) fun b' s' ⟨H1, I1, hb, k1, s1, R1⟩ => ?_)
          subst hb
          cases b' with
          | true => exact ga.pt.run pins s' σ H1 Q I1 ⟨ρ1, d, ρ', R1, e2, fun H2 k2 s2 R2 => q H2 (k1.trans s1 k2) (s1.trans s2) R2⟩
          | false => exact gb.pt.run pins s' σ H1 Q I1 ⟨ρ1, d, ρ', R1, e2, fun H2 k2 s2 R2 => q H2 (k1.trans s1 k2) (s1.trans s2) R2⟩
        | _ => cases e2
    · cases h
  | .chain p p' a b c, bl, X, G, e, h => by
    unfold cm at h
    split at h
    · rename_i x o1 o2 y z pos
      simp only [Bool.and_eq_true] at h
      obtain ⟨⟨⟨h1, h2⟩, h3⟩, h4⟩ := h
      split at h4
      · rename_i q1 q2 hq1 hq2
        rw [Bool.and_eq_true, beq_iff_eq, beq_iff_eq] at h4
        obtain ⟨rfl, rfl⟩ := h4
        have ga := good a G h1
        have gb := good b G h2
        have gc := good c G h3
        obtain ⟨g1, ho1, hg1⟩ := cmp_or (X := X) G.units hq1
        obtain ⟨g2, ho2, hg2⟩ := cmp_or (X := X) G.units hq2
        have hm : lastMarks [o1, o2] [y, z] = false := by
          have hz : notSet z = true := by
            cases z <;> simp only [notSet] <;> (cases c <;> simp [cm, notSet] at h3)
            all_goals (rename_i pp ee; cases pp <;> simp [cmP] at h3)
          cases z <;> first | rfl | cases hz
        refine ⟨PE.imp (pe_chain ho1 ho2 ga.pe gb.pe gc.pe hm) (chain_imp hg1 hg2), PT.imp (pt_chain ho1 ho2 ga.pe gb.pe gc.pe hm) fun σ H Q q => chain_imp hg1 hg2 σ H _ (tst_ev q), fun op vs p q => nomatch q⟩
      · cases h4
    · cases h
  | .comp elt tg it cs own, bl, X, G, e, h => by
    unfold cm at h
    split at h
    · rename_i x t iter ifs scope pos
      simp only [Bool.and_eq_true] at h
      obtain ⟨⟨⟨⟨⟨⟨h1, h2⟩, hE⟩, h3⟩, h4⟩, h5⟩, h6⟩ := h
      exact Good.of (PE.frz (comp_frz G (goodI it G h1 hE) h2 h3 h4 (fun s H C cl fp => goodC cs (gd_blk G s H scope C cl fp) h5) fun s H C cl fp => (good elt (gd_blk G s H scope C cl fp) h6).pe)) (fun _ _ _ q => nomatch q) fun _ => rfl
    · cases h
  | .pop i a, bl, X, G, e, h => by
    unfold cm at h
    split at h
    · simp only [Bool.and_eq_true, decide_eq_true_eq] at h
      obtain ⟨⟨⟨⟨h1, rfl⟩, h3⟩, h4⟩, h5⟩ := h
      exact Good.of (pop_pe G h1 h3 h5 (good a G h4).pe) (fun _ _ _ q => nomatch q) fun _ => rfl
    · cases h
theorem goodA {T : CT} : ∀ (a : MA) {bl : List Str} {X : Cx} (G : Gd X T bl) {e : Expr}, cmA T bl X.env.scope a e = true → PE X e (tA T X.K a)
  | .e m, bl, X, G, e, h => by
    unfold cmA at h
    exact (good m G h).pe
  | .o i, bl, X, G, e, h => by
    cases e <;> simp only [cmA, Bool.false_eq_true] at h
    exact pe_name G h
  | .l i, bl, X, G, e, h => by
    cases e <;> simp only [cmA, Bool.false_eq_true] at h
    exact pe_name G h
  | .f i n, bl, X, G, e, h => by simp [cmA] at h
theorem goods {T : CT} : ∀ (es : MEs) {bl : List Str} {X : Cx} (G : Gd X T bl) {as : List Expr}, cms T bl X.env.scope es as = true → ArgsP X T es as
  | .nil, bl, X, G, as, h => by
    cases as with
    | nil => exact .nil
    | cons _ _ => simp [cms] at h
  | .cons a r, bl, X, G, as, h => by
    cases as with
    | nil => simp [cms] at h
    | cons e es =>
      simp only [cms, Bool.and_eq_true] at h
      exact .cons (goodA a G h.1.1) h.1.2 (goods r G h.2)
theorem goodI {T : CT} : ∀ (it : MI) {bl : List Str} {X : Cx} (G : Gd X T bl) {tg e : Expr}, cmI T bl X.env.scope it e = true → enTg it tg = true → PI X tg e (tIv T X.K it)
  | .seq a, bl, X, G, tg, e, h, ht => by
    unfold cmI at h
    exact pi_seq (good a G h).pe
  | .rng1 a, bl, X, G, tg, e, h, ht => by
    unfold cmI at h
    split at h
    · simp only [Bool.and_eq_true] at h
      exact pi_rng1 G h.1.1 h.1.2 (good a G h.2).pe
    · cases h
  | .rng2 a b, bl, X, G, tg, e, h, ht => by
    unfold cmI at h
    split at h
    · simp only [Bool.and_eq_true] at h
      exact pi_rng2 G h.1.1.1.1 h.1.1.1.2 h.1.1.2 (good a G h.1.2).pe (good b G h.2).pe
    · cases h
  | .enum a, bl, X, G, tg, e, h, ht => by
    unfold cmI at h
    split at h
    · simp only [Bool.and_eq_true] at h
      cases tg <;> first | exact pi_enumM G h.1.1 h.1.2 (good a G h.2).pe | cases ht
    · cases h
theorem goodC {T : CT} : ∀ (c : MC) {bl : List Str} {X : Cx} (G : Gd X T bl) {es : List Expr}, cmC T bl X.env.scope c es = true → PTs X es (tC' T X.K c)
  | .all, bl, X, G, es, h => by
    cases es with
    | nil => exact pts_nil
    | cons _ _ => simp [cmC] at h
  | .one c, bl, X, G, es, h => by
    unfold cmC at h
    split at h
    · exact pts_one (good c G h).pt
    · cases h
end
end Mp
namespace Mp
open PySem PySem.Spec L2 LamX
open PyProof.Rows hiding St
variable [LamT]

/-! ### statements of the little language -/
mutual
inductive MS where
  | asg (i : Nat) (e : ME)
  | new (i : Nat) (e : ME)
  | unp (is : List Nat) (e : ME)
  | put (i : Nat) (k e : ME)
  | app (i : Nat) (e : ME)
  | appO (i j : Nat)
  | unpS (i j : Nat) (e : ME)
  | asgO (i j : Nat)
  | ife (c : ME) (a b : MSs)
  | for (tg : Tg) (it : MI) (body : MSs)
  | ret (e : ME)
  | retN
  | retO (i : Nat)
  | retF (e : ME)
  | ex (e : ME)
  | pass
  | die
  | brk
  | cnt
  | fset (i : Nat) (f : Str) (e : ME)
  | fnew (i : Nat) (f : Str) (e : ME)
  | fput (i : Nat) (f : Str) (k e : ME)
  | fapp (i : Nat) (f : Str) (e : ME)
inductive MSs where
  | nil
  | cons (s : MS) (r : MSs)
end
inductive Fl where
  | nx
  | rt (d : D)
  | ro (d : D)
  | bk
  | ct
def setOw (ρ : Ev) (i : Nat) (d : D) : Option Ev := if i < ρ.length then some (ρ.set i (.ow d)) else none
def forLoop (f : D → Ev → Option (Fl × Ev)) : List D → Ev → Option (Fl × Ev)
  | [], ρ => some (.nx, ρ)
  | x :: r, ρ => (f x ρ).bind fun (fl, ρ') => match fl with
    | .nx => forLoop f r ρ'
    | .ct => forLoop f r ρ'
    | .bk => some (.nx, ρ')
    | fl => some (fl, ρ')
mutual
def exS (T : CT) : MS → Ev → Option (Fl × Ev)
  | .asg i e, ρ => (ev T e ρ).bind fun (d, ρ') => (setDa ρ' i d).map fun ρ' => (.nx, ρ')
  | .new i e, ρ => (ev T e ρ).bind fun (d, ρ') => (setOw ρ' i d).map fun ρ' => (.nx, ρ')
  | .unp is e, ρ => (ev T e ρ).bind fun (d, ρ') => match d with
    | .tuple ds => (setDas ρ' is ds).map fun ρ' => (.nx, ρ')
    | _ => none
  | .put i k e, ρ => (ev T e ρ).bind fun (d, ρ1) => match ρ1[i]? with
    | some (.ow (.list _)) => (ev T k ρ1).bind fun (dk, ρ2) => match dk, ρ2[i]? with
      | .int j, some (.ow (.list ds)) => (ixN ds.length j).map fun j => (.nx, ρ2.set i (.ow (.list (ds.set j d))))
      | _, _ => none
    | some (.ow (.dict _)) => (ev T k ρ1).bind fun (dk, ρ2) => match keyOf dk, ρ2[i]? with
      | some j, some (.ow (.dict ds)) => if ds.length < sizeLine ∧ isOb (.dict ds) = false then some (.nx, ρ2.set i (.ow (.dict (putD j d ds)))) else none
      | _, _ => none
    | _ => none
  | .app i e, ρ => match ρ[i]? with
    | some (.ow (.list _)) => (ev T e ρ).bind fun (d, ρ1) => match ρ1[i]? with
      | some (.ow (.list ds)) => if ds.length < sizeLine then some (.nx, ρ1.set i (.ow (.list (ds ++ [d])))) else none
      | _ => none
    | _ => none
  | .unpS i j e, ρ => (ev T e ρ).bind fun (d, ρ') => match d with
    | .tuple (d0 :: ds) => (setDas ρ' [i, j] [d0, .list ds]).map fun ρ' => (.nx, ρ')
    | _ => none
  | .appO i j, ρ => if i = j then none else match ρ[i]?, ρ[j]? with
    | some (.ow (.list ds)), some (.ow d) => if ds.length < sizeLine then some (.nx, (ρ.set j (.da (frzD d))).set i (.ow (.list (ds ++ [frzD d])))) else none
    | _, _ => none
  | .asgO i j, ρ => match ρ[j]? with
    | some (.ow d) => (setDa (ρ.set j (.da (frzD d))) i (frzD d)).map fun ρ' => (.nx, ρ')
    | _ => none
  | .ife c a b, ρ => (ev T c ρ).bind fun (d, ρ') => match d with
    | .bool true => exSs T a ρ'
    | .bool false => exSs T b ρ'
    | _ => none
  | .for tg it body, ρ => (evi T it ρ).bind fun (ds, ρ') => forLoop (fun x ρ => (bindT tg x ρ).bind fun ρ1 => exSs T body ρ1) ds ρ'
  | .ret e, ρ => (ev T e ρ).map fun (d, ρ') => (.rt d, ρ')
  | .retN, ρ => some (.rt .none, ρ)
  | .retO i, ρ => match ρ[i]? with
    | some (.ow d) => some (.ro d, ρ)
    | _ => none
  | .retF e, ρ => (ev T e ρ).map fun (d, ρ') => (.ro d, ρ')
  | .ex e, ρ => (ev T e ρ).map fun (_, ρ') => (.nx, ρ')
  | .pass, ρ => some (.nx, ρ)
  | .die, _ => none
  | .brk, ρ => some (.bk, ρ)
  | .cnt, ρ => some (.ct, ρ)
  | .fset i f e, ρ => (ev T e ρ).bind fun (d, ρ1) => match ρ1[i]? with
    | some (.ow c) => (clsO c).bind fun nm => if (nm, f) ∈ T.flds then (putO f d c).map fun c' => (.nx, ρ1.set i (.ow c')) else none
    | _ => none
  | .fnew i f e, ρ => (ev T e ρ).bind fun (d, ρ1) => match ρ1[i]? with
    | some (.ow c) => (clsO c).bind fun nm => if (nm, f) ∈ T.flds ∧ isOb d = false then (putO f (own_ d) c).map fun c' => (.nx, ρ1.set i (.ow c')) else none
    | _ => none
  | .fput i f k e, ρ => (ev T e ρ).bind fun (d, ρ1) => (ev T k (hide ρ1)).bind fun (dk, _) => match ρ1[i]? with
    | some (.ow c) => (clsO c).bind fun nm => if (nm, f) ∈ T.flds then (rawF f c).bind fun z => if isOw z = true then (setIn dk d (unOwn z)).bind fun z' => (putO f (own_ z') c).map fun c' => (.nx, ρ1.set i (.ow c')) else none else none
    | _ => none
  | .fapp i f e, ρ => (ev T e (hide ρ)).bind fun (d, _) => match ρ[i]? with
    | some (.ow c) => (clsO c).bind fun nm => if (nm, f) ∈ T.flds then (rawF f c).bind fun z => if isOw z = true then (appIn d (unOwn z)).bind fun z' => (putO f (own_ z') c).map fun c' => (.nx, ρ.set i (.ow c')) else none else none
    | _ => none
def exSs (T : CT) : MSs → Ev → Option (Fl × Ev)
  | .nil, ρ => some (.nx, ρ)
  | .cons s r, ρ => (exS T s ρ).bind fun (fl, ρ') => match fl with
    | .nx => exSs T r ρ'
    | fl => some (fl, ρ')
end

/-! ### what a statement leaves -/
structure Fr (B : List Nat) (σ : St) (ρ : Ev) (H : Hp) (σ' : St) (ρ' : Ev) (H' : Hp) : Prop where
  keep : ∀ b o, H b = some o → ¬ Owned H σ ρ b → (∀ ps, o ≠ .tbl ps) → H' b = some o
  own : ∀ i b, OwnedAt H' σ' ρ' i b → OwnedAt H σ ρ i b ∨ H b = none
  alive : ∀ b, H' b = none → H b = none
  tabs : ∀ P q, (P, q) ∈ LamT.ts → TabS H P q → TabS H' P q
  bo : ∀ i ∈ B, σ'[i]? = σ[i]? ∧ ∀ d, ρ[i]? = some (.ow d) → ∃ d', ρ'[i]? = some (.ow d')
section
variable {K : PySem.W.Frag} {B : List Nat} {H H' H'' : Hp} {σ σ' σ'' : St} {ρ ρ' ρ'' : Ev}
theorem Fr.refl : Fr B σ ρ H σ ρ H := ⟨fun _ _ h _ _ => h, fun _ _ h => .inl h, fun _ h => h, fun _ _ _ h => h, fun _ _ => ⟨rfl, fun d h => ⟨d, h⟩⟩⟩
theorem Fr.owned (f : Fr B σ ρ H σ' ρ' H') {b : Addr} (w : Owned H' σ' ρ' b) : Owned H σ ρ b ∨ H b = none := by
  obtain ⟨i, w⟩ := w
  rcases f.own i b w with w | w
  · exact .inl ⟨i, w⟩
  · exact .inr w
theorem Fr.trans (a : Fr B σ ρ H σ' ρ' H') (b : Fr B σ' ρ' H' σ'' ρ'' H'') : Fr B σ ρ H σ'' ρ'' H'' where
  keep := fun c o h n t => b.keep c o (a.keep c o h n t) (fun w => (a.owned w).elim n fun e => by rw [h] at e; cases e) t
  own := fun i c w => by
    rcases b.own i c w with x | x
    · exact a.own i c x
    · exact .inr (a.alive c x)
  alive := fun c h => a.alive c (b.alive c h)
  tabs := fun P q mt t => b.tabs P q mt (a.tabs P q mt t)
  bo := fun i hi => ⟨(b.bo i hi).1.trans (a.bo i hi).1, fun d h => by
    obtain ⟨d1, h1⟩ := (a.bo i hi).2 d h
    exact (b.bo i hi).2 d1 h1⟩
theorem Fr.ev (k : Keep σ ρ H ρ' H') (s : Sk ρ ρ') (R : Rel K H' σ ρ') : Fr B σ ρ H σ ρ' H' :=
  ⟨k.keep, k.own, k.alive, k.tabs, fun i _ => ⟨rfl, fun d h => s.symm.ow h⟩⟩
theorem Fr.per (f : Fr B σ ρ H σ' ρ' H') (R : Rel K H σ ρ) : Per H H' := by
  refine ⟨fun b xs h => f.keep b _ h (fun z => ?_) (fun _ e => by cases e), fun b o u h => f.keep b _ h (fun z => ?_) (fun _ e => by cases e), fun b xs h => f.keep b _ h (fun z => ?_) (fun _ e => by cases e)⟩
  · obtain ⟨w, e, c⟩ := R.mut z
    rw [h] at e; cases e; cases c
  · obtain ⟨w, e, c⟩ := R.mut z
    rw [h] at e; cases e; cases c
  · obtain ⟨w, e, c⟩ := R.mut z
    rw [h] at e; cases e; cases c
/-- data put into slots -/
theorem Fr.da {i : Nat} {v : V} {d : D} (e : setDa ρ i d = some ρ') (o : ∀ H' j b, OwnedAt H' (σ.set i (some v)) ρ' j b → OwnedAt H' σ ρ j b) (hB : i ∉ B) : Fr B σ ρ H (σ.set i (some v)) ρ' H := by
  obtain ⟨rfl, _, _⟩ := setDa_spec e
  refine ⟨fun _ _ h _ _ => h, fun j b w => .inl (o H j b w), fun _ h => h, fun _ _ _ h => h, fun j hj => ?_⟩
  have n : i ≠ j := fun e => hB (by rw [e]; exact hj)
  exact ⟨List.getElem?_set_ne n, fun d' h => ⟨d', by rw [List.getElem?_set_ne n]; exact h⟩⟩
/-- a new thing of one's own -/
theorem Rel.set_ow {i : Nat} {d : D} {p : Addr} (R : Rel K H σ ρ) (e : setOw ρ i d = some ρ') (o : Own K H p d) (n : ∀ b, Foot H p d b → ¬ Owned H σ ρ b) : Rel K H (σ.set i (some (.ref p))) ρ' := by
  unfold setOw at e
  split at e
  · rename_i l
    cases e
    have l' : i < σ.length := by rw [← R.len]; exact l
    refine ⟨fun j f q => ?_, fun j f q => ?_, fun j k f g q r b hjk h1 h2 h3 h4 f1 f2 => ?_, by rw [List.length_set, List.length_set]; exact R.len, R.tb, fun j h => by
      by_cases hj : i = j
      · subst hj
        rw [List.getElem?_set_self l] at h; cases h
      · rw [List.getElem?_set_ne hj] at h
        rw [List.getElem?_set_ne hj]
        exact R.fv j h⟩
    · by_cases hj : i = j
      · subst hj
        rw [List.getElem?_set_self l] at q; cases q
      · rw [List.getElem?_set_ne hj] at q
        obtain ⟨v, a, z⟩ := R.da j f q
        exact ⟨v, by rw [List.getElem?_set_ne hj]; exact a, z⟩
    · by_cases hj : i = j
      · subst hj
        rw [List.getElem?_set_self l] at q; cases q
        exact ⟨p, List.getElem?_set_self l', o⟩
      · rw [List.getElem?_set_ne hj] at q
        obtain ⟨v, a, z⟩ := R.ow j f q
        exact ⟨v, by rw [List.getElem?_set_ne hj]; exact a, z⟩
    · by_cases hj : i = j
      · subst hj
        rw [List.getElem?_set_self l'] at h3; cases h3
        rw [List.getElem?_set_self l] at h1; cases h1
        rw [List.getElem?_set_ne hjk] at h2 h4
        exact n b f1 ⟨k, g, r, h2, h4, f2⟩
      · rw [List.getElem?_set_ne hj] at h1 h3
        by_cases hk : i = k
        · subst hk
          rw [List.getElem?_set_self l'] at h4; cases h4
          rw [List.getElem?_set_self l] at h2; cases h2
          exact n b f2 ⟨j, f, q, h1, h3, f1⟩
        · rw [List.getElem?_set_ne hk] at h2 h4
          exact R.ne j k f g q r b hjk h1 h2 h3 h4 f1 f2
  · cases e
theorem Fr.ow {i : Nat} {d : D} {p : Addr} {H0 : Hp} {σ0 : St} {ρ0 : Ev} (f : Fr B σ0 ρ0 H0 σ ρ H) (e : setOw ρ i d = some ρ') (h0 : ∀ b, Foot H p d b → H0 b = none) (hB : i ∉ B) : Fr B σ0 ρ0 H0 (σ.set i (some (.ref p))) ρ' H := by
  unfold setOw at e
  split at e
  · rename_i l
    cases e
    refine ⟨f.keep, fun j b w => ?_, f.alive, f.tabs, fun j hj => ?_⟩
    · obtain ⟨c, q, h1, h2, ft⟩ := w
      by_cases hj : i = j
      · subst hj
        rw [List.getElem?_set_self l] at h1; cases h1
        by_cases l' : i < σ.length
        · rw [List.getElem?_set_self l'] at h2; cases h2
          exact .inr (h0 b ft)
        · rw [List.getElem?_eq_none (by rw [List.length_set]; omega)] at h2; cases h2
      · rw [List.getElem?_set_ne hj] at h1 h2
        exact f.own j b ⟨c, q, h1, h2, ft⟩
    · have n : i ≠ j := fun e => hB (by rw [e]; exact hj)
      rw [List.getElem?_set_ne n]
      refine ⟨(f.bo j hj).1, fun d' h => ?_⟩
      rw [List.getElem?_set_ne n]
      exact (f.bo j hj).2 d' h
  · cases e
end
def Post (K : PySem.W.Frag) (B : List Nat) (D0 : Ends) (H : Hp) (fl : Fl) (σ' : St) (ρ' : Ev) (H' : Hp) : Prop := match fl with
  | .nx => D0.nx σ' H'
  | .rt d => ∀ v, Rz K H' v d → D0.rt v H'
  | .ro d => ∀ p, Own K H' p d → (((∀ b, Foot H' p d b → H b = none) ∧ (∀ b, Foot H' p d b → ¬ Owned H' σ' ρ' b)) ∨ ∃ (i : Nat), i ∉ B ∧ ρ'[i]? = some (Slot.ow d) ∧ σ'[i]? = some (some (V.ref p))) → D0.rt (.ref p) H'
  | .bk => D0.bk σ' H'
  | .ct => D0.ct σ' H'
def tS (T : CT) (K : PySem.W.Frag) (B : List Nat) (m : MS) : TS := fun D0 σ H => ∃ ρ fl ρ', Rel K H σ ρ ∧ exS T m ρ = some (fl, ρ') ∧ ∀ σ' H', Fr B σ ρ H σ' ρ' H' → Rel K H' σ' ρ' → Post K B D0 H fl σ' ρ' H'
def tSs (T : CT) (K : PySem.W.Frag) (B : List Nat) (m : MSs) : TS := fun D0 σ H => ∃ ρ fl ρ', Rel K H σ ρ ∧ exSs T m ρ = some (fl, ρ') ∧ ∀ σ' H', Fr B σ ρ H σ' ρ' H' → Rel K H' σ' ρ' → Post K B D0 H fl σ' ρ' H'
section
variable {X : Cx} {T : CT} {bl : List Str} {B : List Nat}
theorem PS.imp {st : Stmt} {t t' : TS} (h : PS X st t) (i : ∀ D σ H, t' D σ H → t D σ H) : PS X st t' := ⟨fun pins s σ H D I q => h.run pins s σ H D I (i D σ H q)⟩
theorem PSs.imp {st : List Stmt} {t t' : TS} (h : PSs X st t) (i : ∀ D σ H, t' D σ H → t D σ H) : PSs X st t' := ⟨fun pins s σ H D I q => h.run pins s σ H D I (i D σ H q)⟩
/-- statements in a row -/
theorem seq_ok {st : Stmt} {rest : List Stmt} {m : MS} {r : MSs} (h1 : PS X st (tS T X.K B m)) (h2 : PSs X rest (tSs T X.K B r)) : PSs X (st :: rest) (tSs T X.K B (.cons m r)) := by
  refine PSs.imp (pss_cons h1 h2) fun D0 σ H q => ?_
  obtain ⟨ρ, fl, ρ', R, e, q⟩ := q
  unfold exSs at e
  obtain ⟨⟨fl1, ρ1⟩, e1, e2⟩ := Option.bind_eq_some_iff.mp e
  refine ⟨ρ, fl1, ρ1, R, e1, fun σ1 H1 f1 R1 => ?_⟩
  cases fl1 with
  | nx =>
    refine ⟨ρ1, fl, ρ', R1, e2, fun σ2 H2 f2 R2 => ?_⟩
    have p := q σ2 H2 (f1.trans f2) R2
    cases fl with
    | ro d =>
      intro a o w
      refine p a o ?_
      rcases w with w | w
      · exact .inl ⟨fun b f => f1.alive b (w.1 b f), w.2⟩
      · exact .inr w
    | _ => exact p
  | rt d => cases e2; exact q σ1 H1 f1 R1
  | ro d => cases e2; exact q σ1 H1 f1 R1
  | bk => cases e2; exact q σ1 H1 f1 R1
  | ct => cases e2; exact q σ1 H1 f1 R1
theorem nil_ok : PSs X [] (tSs T X.K B .nil) := PSs.imp pss_nil fun D0 σ H q => by
  obtain ⟨ρ, fl, ρ', R, e, q⟩ := q
  unfold exSs at e
  cases e
  exact q σ H Fr.refl R
end
end Mp
namespace Mp
open PySem PySem.Spec L2 LamX
open PyProof.Rows hiding St
variable [LamT]

/-! ### the text against statements -/
def notComp : Expr → Bool
  | .ListComp .. => false
  | .SetComp .. => false
  | .DictComp .. => false
  | _ => true
def notTup : Expr → Bool
  | .Tuple .. => false
  | _ => true
def tgD (N : List Str) (sc : Scope) (i : Nat) (x : Str) : Bool := decide (N[i]? = some x) && (match sc.names.lookup x with | some .local => true | some .cell => true | _ => false)
def tgsD (N : List Str) (sc : Scope) : List Nat → List Expr → Bool
  | [], [] => true
  | i :: is, .Name x _ :: es => tgD N sc i x && tgsD N sc is es
  | _, _ => false
def cmTD (N : List Str) (sc : Scope) : Tg → Expr → Bool
  | .v i, .Name x _ => tgD N sc i x
  | .tp is, .Tuple es _ _ => tgsD N sc is es
  | _, _ => false
def tgOff (B : List Nat) : Tg → Bool
  | .v i => !B.contains i
  | .tp is => is.all fun i => !B.contains i
/-- what makes a new list of one's own -/
def freshB (T : CT) : ME → Bool
  | .lst _ => true
  | .comp .. => true
  | .prim .toList _ => true
  | .prim .toDict _ => true
  | .prim .sortSet _ => true
  | .dct .. => true
  | .sortK .. => true
  | .sortF .. => true
  | .fnF f _ => match T.fns[f]? with | some p => p.2.ro | none => false
  | .mthF f _ _ => match T.mts[f]? with | some p => p.2.all (fun q => q.2.ro) | none => false
  | _ => false
/-- the text of what makes a new thing of one's own -/
def cmF (T : CT) (bl : List Str) (sc : Scope) : ME → Expr → Bool
  | .fnF f es, e => match e with
    | .Call (.Name x _) as kws _ => (match T.fns[f]? with
      | some (y, F) => decide (x = y) && F.ro && gloB sc x && decide (as.length = F.np) && kwB kws F.ks && cms T bl sc es (as ++ kws.map (·.value))
      | none => false)
    | _ => false
  | .mthF f h es, e => match e with
    | .Call (.Attribute y m apos) as kws pos => (match T.mts[f]? with
      | some (n, al) => decide (m = n) && noSup y && (apos.endLine == pos.line) && decide (as.length + kws.length < 20) && al.all (fun p => decide (as.length + 1 = p.2.np) && kwB kws p.2.ks) && cmA T bl sc h y && cms T bl sc es (as ++ kws.map (·.value))
      | none => false)
    | _ => false
  | m, e => cm T bl sc m e
/-- how a comprehension is stored -/
def storeB (sc : Scope) (x : Str) (py : Pos) (v : Expr) : Bool := match v with
  | .ListComp _ _ scope pos => (decide (sc.names.lookup x = some .local) && (py.line == pos.line) && !(scope.names.any fun (n, k) => n == x && (k == .local || k == .cell))) || decide (sc.names.lookup x = some .cell)
  | v => notComp v
mutual
def cmS (T : CT) (bl : List Str) (sc : Scope) (B : List Nat) : MS → Stmt → Bool
  | .asg i e, s => match s with
    | .Assign [.Name x py] v _ => tgD T.N sc i x && !B.contains i && cm T bl sc e v && (notComp v || (freshB T e && plainM e && storeB sc x py v))
    | _ => false
  | .new i e, s => match s with
    | .Assign [.Name x py] v _ => tgD T.N sc i x && !B.contains i && cmF T bl sc e v && freshB T e && storeB sc x py v
    | _ => false
  | .unp is e, s => match s with
    | .Assign [.Tuple es _ _] v _ => tgsD T.N sc is es && (is.all fun i => !B.contains i) && cm T bl sc e v && notComp v && notTup v
    | _ => false
  | .put i k e, s => match s with
    | .Assign [.Subscript (.Name x _) y _] v _ => varB T.N sc i x && cm T bl sc k y && cm T bl sc e v && notSlice y && notComp v
    | _ => false
  | .app i e, s => match s with
    | .Expr (.Call (.Attribute (.Name x _) m apos) [y] [] cpos) _ => varB T.N sc i x && decide (m = "append") && notStar y && cm T bl sc e y && (apos.endLine == cpos.line)
    | _ => false
  | .unpS i j e, s => match s with
    | .Assign [.Tuple [.Name x _, .Starred (.Name y _) _] _ _] v _ => tgD T.N sc i x && tgD T.N sc j y && !B.contains i && !B.contains j && cm T bl sc e v && notComp v && notTup v
    | _ => false
  | .appO i j, s => match s with
    | .Expr (.Call (.Attribute (.Name x _) m apos) [.Name y _] [] cpos) _ => varB T.N sc i x && varB T.N sc j y && !B.contains j && decide (m = "append") && (apos.endLine == cpos.line)
    | _ => false
  | .asgO i j, s => match s with
    | .Assign [.Name x _] (.Name y _) _ => tgD T.N sc i x && !B.contains i && varB T.N sc j y && !B.contains j
    | _ => false
  | .ife c a b, s => match s with
    | .If t x y _ => cm T bl sc c t && cmSs T bl sc B a x && cmSs T bl sc B b y
    | _ => false
  | .for tg it body, s => match s with
    | .For t iter x [] _ => cmTD T.N sc tg t && tgOff B tg && cmI T bl sc it iter && notSet iter && enTg it t && cmSs T bl sc B body x
    | _ => false
  | .ret e, s => match s with
    | .Return (some v) _ => cm T bl sc e v
    | _ => false
  | .retN, s => match s with
    | .Return none _ => true
    | _ => false
  | .retO i, s => match s with
    | .Return (some (.Name x _)) _ => varB T.N sc i x && !B.contains i
    | _ => false
  | .retF e, s => match s with
    | .Return (some v) _ => cmF T bl sc e v && freshB T e
    | _ => false
  | .ex e, s => match s with
    | .Expr v _ => cm T bl sc e v && notComp v
    | _ => false
  | .die, _ => true
  | .pass, s => match s with
    | .Pass _ => true
    | _ => false
  | .brk, s => match s with
    | .Break _ => true
    | _ => false
  | .cnt, s => match s with
    | .Continue _ => true
    | _ => false
  | .fset i f e, s => match s with
    | .Assign [.Attribute (.Name x _) n _] v _ => varB T.N sc i x && decide (n = f) && cm T bl sc e v && notComp v
    | _ => false
  | .fnew i f e, s => match s with
    | .Assign [.Attribute (.Name x _) n _] v _ => varB T.N sc i x && decide (n = f) && cmF T bl sc e v && freshB T e && notComp v
    | _ => false
  | .fput i f k e, s => match s with
    | .Assign [.Subscript (.Attribute (.Name x _) n _) y _] v _ => varB T.N sc i x && decide (n = f) && cm T bl sc k y && cm T bl sc e v && notSlice y && notComp v
    | _ => false
  | .fapp i f e, s => match s with
    | .Expr (.Call (.Attribute (.Attribute (.Name x _) n _) m apos) [y] [] cpos) _ => varB T.N sc i x && decide (n = f) && decide (m = "append") && notStar y && cm T bl sc e y && (apos.endLine == cpos.line)
    | _ => false
def cmSs (T : CT) (bl : List Str) (sc : Scope) (B : List Nat) : MSs → List Stmt → Bool
  | .nil, ss => match ss with | [] => true | _ => false
  | .cons m r, ss => match ss with | s :: ss => cmS T bl sc B m s && cmSs T bl sc B r ss | [] => false
end
/-- the world around a def's body -/
structure Gs (X : Cx) (T : CT) (bl : List Str) : Prop where
  g : Gd X T bl
  fn : ∀ x, X.fn x = true
  pass : PassesOwn (model X.prog X.w) X.A X.env X.xe
  kind : X.env.scope.kind = .function

section
variable {X : Cx} {T : CT} {bl : List Str} {B : List Nat}
theorem swaps_off {v : Expr} {t : Option Expr} {l : Nat} {env : Env} (h : notComp v = true) : swapsWith v t l env = pure false := by
  cases v <;> first | rfl | cases h
/-- a new list, from any text that makes one -/
theorem fresh_pe0 (G : Gd X T bl) {e : ME} {v : Expr} (hf : freshB T e = true) (h : cm T bl X.env.scope e v = true) : PE X v (tEvF T X.K e) := by
  cases e with
  | lst es =>
    cases v <;> simp only [cm, Bool.false_eq_true, Bool.and_eq_true, decide_eq_true_eq] at h
    exact good_lstF (goods es G h.1) h.2
  | comp elt tg it cs own =>
    unfold cm at h
    split at h
    · rename_i x t iter ifs scope pos
      simp only [Bool.and_eq_true] at h
      obtain ⟨⟨⟨⟨⟨⟨h1, h2⟩, hE⟩, h3⟩, h4⟩, h5⟩, h6⟩ := h
      exact comp_frz G (goodI it G h1 hE) h2 h3 h4 (fun s H C cl fp => goodC cs (gd_blk G s H scope C cl fp) h5) fun s H C cl fp => (good elt (gd_blk G s H scope C cl fp) h6).pe
    · cases h
  | prim p es =>
    cases p <;> simp [freshB] at hf
    all_goals simp only [cm] at h
    all_goals (split at h <;> first | (cases h; done) | skip)
    · rename_i as hp
      simp only [Bool.and_eq_true] at h
      have A := goods es G h.1
      unfold cmP at hp; simp only at hp; split at hp
      · split at hp <;> cases hp
        rename_i hs
        obtain ⟨rfl, hs⟩ := glB_self hs
        simp only [glB, Bool.and_eq_true, decide_eq_true_eq, Bool.not_eq_true'] at hs
        obtain ⟨⟨⟨⟨_, h1⟩, h2⟩, h3⟩, h4⟩ := hs
        obtain ⟨m, rfl, a, n⟩ := A.one
        refine PE.imp (pe_callTy cd_list0 h1 (G.blt _ h2) (by decide +kernel) (pa_cons a pa_nil (star_off n)) (by simpa using h3) h4 (star_off n) (by rfl)) fun σ H Q q => ?_
        obtain ⟨ρ, d, ρ', R, ee, q⟩ := q
        unfold ev at ee
        obtain ⟨⟨as, ρ1⟩, e1, e2⟩ := Option.bind_eq_some_iff.mp ee
        obtain ⟨ds, e3, e4⟩ := Option.bind_eq_some_iff.mp e2
        obtain ⟨d', e5, e6⟩ := Option.map_eq_some_iff.mp e4
        cases e6
        refine tAs_imp (.cons m .nil) σ H _ ⟨ρ, as, ρ', R, e1, fun vs H1 k s R1 ar => ?_⟩
        have ry := argRel_res R1 ar e3
        cases ry with
        | nil => cases e5
        | cons ra r =>
          cases r with
          | cons _ _ => cases e5
          | nil =>
            have e5 : toListD _ = some d := e5
            obtain ⟨xs, rfl⟩ := toList_list e5
            refine ⟨_, _, xs, rfl, ra, e5, fun v H' f => ?_⟩
            obtain ⟨p, rfl, hp, sm, o, _⟩ := f
            exact q p H' (k.trans s (Keep.same R1 sm)) s (R1.same sm) (fun b f => by rw [Foot.alone o f]; exact k.alive _ hp) (fun b f => by rw [Foot.alone o f]; exact fresh_unowned R1 hp (same_owned R1 sm)) o.own
      · cases hp
    · rename_i as hp
      simp only [Bool.and_eq_true] at h
      have A := goods es G h.1
      unfold cmP at hp; simp only at hp; split at hp
      · split at hp <;> cases hp
        rename_i hs
        obtain ⟨rfl, hs⟩ := glB_self hs
        simp only [glB, Bool.and_eq_true, decide_eq_true_eq, Bool.not_eq_true'] at hs
        obtain ⟨⟨⟨⟨_, h1⟩, h2⟩, h3⟩, h4⟩ := hs
        obtain ⟨m, rfl, a, n⟩ := A.one
        refine PE.imp (pe_callTy (cd_dict0 G.calm) h1 (G.blt _ h2) (by decide +kernel) (pa_cons a pa_nil (star_off n)) (by simpa using h3) h4 (star_off n) (by rfl)) fun σ H Q q => ?_
        obtain ⟨ρ, d, ρ', R, ee, q⟩ := q
        unfold ev at ee
        obtain ⟨⟨as, ρ1⟩, e1, e2⟩ := Option.bind_eq_some_iff.mp ee
        obtain ⟨ds, e3, e4⟩ := Option.bind_eq_some_iff.mp e2
        obtain ⟨d', e5, e6⟩ := Option.map_eq_some_iff.mp e4
        cases e6
        refine tAs_imp (.cons m .nil) σ H _ ⟨ρ, as, ρ', R, e1, fun vs H1 k s R1 ar => ?_⟩
        have ry := argRel_res R1 ar e3
        cases ry with
        | nil => cases e5
        | cons ra r =>
          cases r with
          | cons _ _ => cases e5
          | nil =>
            have e5 : toDictD _ = some d := e5
            obtain ⟨xs, rfl⟩ := toDict_dict e5
            refine ⟨_, _, xs, rfl, ra, e5, fun v H' f => ?_⟩
            obtain ⟨p, rfl, hp, sm, o, _⟩ := f
            exact q p H' (k.trans s (Keep.same R1 sm)) s (R1.same sm) (fun b f => by rw [Foot.alone o f]; exact k.alive _ hp) (fun b f => by rw [Foot.alone o f]; exact fresh_unowned R1 hp (same_owned R1 sm)) o.own
      · cases hp
    · rename_i as hp
      simp only [Bool.and_eq_true] at h
      have A := goods es G h.1
      unfold cmP at hp; simp only at hp; split at hp
      · split at hp <;> cases hp
        rename_i hs
        obtain ⟨h1, h2⟩ := hs
        obtain ⟨m, rfl, a, n⟩ := A.one
        refine PE.imp (sortSet_pe G h1 h2 a n) fun σ H Q q => ?_
        obtain ⟨ρ, d, ρ', R, ee, q⟩ := q
        unfold ev at ee
        obtain ⟨⟨as, ρ1⟩, e1, e2⟩ := Option.bind_eq_some_iff.mp ee
        obtain ⟨ds, e3, e4⟩ := Option.bind_eq_some_iff.mp e2
        obtain ⟨d', e5, e6⟩ := Option.map_eq_some_iff.mp e4
        cases e6
        have base := tAs_imp (.cons m .nil) σ H (fun vs H1 => ∃ v, vs = [v] ∧ rSS X.K v H1 Q) ⟨ρ, as, ρ', R, e1, fun vs H1 k s R1 ar => ?_⟩
        · exact tA_mono m σ H _ _ (fun v H1 q => by obtain ⟨v', e, q⟩ := q; cases e; exact q) base
        · have ry := argRel_res R1 ar e3
          cases ry with
          | nil => cases e5
          | cons ra r =>
            cases r with
            | cons _ _ => cases e5
            | nil =>
              have e5 : sortSetD _ = some d := e5
              obtain ⟨xs, x1, x2⟩ := Option.bind_eq_some_iff.mp (show (strsIn _).bind _ = _ from e5)
              split at x2
              · cases x2
                refine ⟨_, rfl, _, _, ra, e5, fun v H' f => ?_⟩
                obtain ⟨p, rfl, hp, sm, o, _⟩ := f
                exact q p H' (k.trans s (Keep.same R1 sm)) s (R1.same sm) (fun b f => by rw [Foot.alone o f]; exact k.alive _ hp) (fun b f => by rw [Foot.alone o f]; exact fresh_unowned R1 hp (same_owned R1 sm)) o.own
              · cases x2
      · cases hp
  | sortK a i m =>
    unfold cm at h
    split at h
    · rename_i x0 p y n params body scope lp kp pos
      simp only [Bool.and_eq_true, decide_eq_true_eq] at h
      obtain ⟨⟨⟨⟨⟨⟨⟨h1, rfl⟩, h3⟩, h4⟩, h5⟩, h6⟩, h7⟩, h8⟩ := h
      split at h5
      · rename_i z hz
        rw [Bool.and_eq_true] at h5
        obtain ⟨rfl, h1⟩ := glB_self h1
        exact sortK_peF G h1 h3 (List.contains_iff_mem.mp h6) (List.contains_iff_mem.mp h7) hz h5.1 h5.2 (goodA a G h4) fun {X'} g es ek => ek ▸ (good m g (es ▸ h8)).pe
      · cases h5
    · cases h
  | sortF a f =>
    unfold cm at h
    split at h
    · rename_i x0 p y n z zp kp pos
      simp only [Bool.and_eq_true, decide_eq_true_eq] at h
      obtain ⟨⟨⟨⟨⟨⟨⟨h1, rfl⟩, h3⟩, h4⟩, h5⟩, h6⟩, h7⟩, h8⟩ := h
      split at h8
      · rename_i z' F hz
        simp only [Bool.and_eq_true, decide_eq_true_eq, Bool.not_eq_true'] at h8
        obtain ⟨⟨⟨⟨⟨⟨rfl, q1⟩, q2⟩, q3⟩, q4⟩, q5⟩, q6⟩ := h8
        obtain ⟨rfl, h1⟩ := glB_self h1
        exact sortF_peF G h1 h3 (List.contains_iff_mem.mp h6) h5 (List.contains_iff_mem.mp h7) hz q1 q2 q3 q4 q5 q6 (goodA a G h4)
      · cases h8
    · cases h
  | dct ks es =>
    cases v <;> simp only [cm, Bool.false_eq_true, Bool.and_eq_true, decide_eq_true_eq] at h
    exact dct_peF h.1.1.1.1 (goods es G h.1.1.1.2) h.1.1.2 h.1.2 h.2
  | fnF f es => simp [cm] at h
  | mthF f h0 es => simp [cm] at h
  | _ => cases hf
theorem cmF_of {sc : Scope} {e : ME} {v : Expr} (h : cm T bl sc e v = true) : cmF T bl sc e v = true := by
  cases e <;> first | exact h | simp [cm] at h
theorem fresh_pe (G : Gd X T bl) {e : ME} {v : Expr} (hf : freshB T e = true) (h : cmF T bl X.env.scope e v = true) : PE X v (tEvF T X.K e) := by
  cases e with
  | fnF f es =>
    unfold cmF at h
    simp only at h
    split at h
    · split at h
      · rename_i y F hfn
        simp only [Bool.and_eq_true, decide_eq_true_eq] at h
        obtain ⟨⟨⟨⟨⟨rfl, hr⟩, h1⟩, h2⟩, h3⟩, h4⟩ := h
        exact fn_peF G hfn h1 h2 h3 (goods es G h4) hr
      · cases h
    · cases h
  | mthF f h0 es =>
    unfold cmF at h
    simp only at h
    split at h
    · split at h
      · rename_i n al hfn
        simp only [Bool.and_eq_true, decide_eq_true_eq] at h
        obtain ⟨⟨⟨⟨⟨⟨rfl, h1⟩, h2⟩, h3⟩, h4⟩, h5⟩, h6⟩ := h
        unfold freshB at hf
        simp only [hfn] at hf
        exact mth_peF G hfn h1 h2 h3 (by simpa using h4) hf (goodA h0 G h5) (goods es G h6)
      · cases h
    · cases h
  | _ => exact fresh_pe0 G hf h
theorem tgD_spec {N : List Str} {sc : Scope} {i : Nat} {x : Str} (h : tgD N sc i x = true) : N[i]? = some x ∧ L2.Loc sc x := by
  simp only [tgD, Bool.and_eq_true, decide_eq_true_eq] at h
  refine ⟨h.1, ?_⟩
  have h2 := h.2
  unfold L2.Loc
  split at h2 <;> first | (rename_i q; rw [q]; simp) | cases h2
theorem pg_d (G : Gs X T bl) {i : Nat} {x : Str} {pos : Pos} (h : tgD T.N X.env.scope i x = true) : PG X (.Name x pos) (gName i) := by
  obtain ⟨h1, h2⟩ := tgD_spec h
  exact pg_name (by rw [G.g.hN]; exact G.g.nd) (by rw [G.g.hN]; exact h1) h2 (.inl (G.fn x))
theorem pgs_d (G : Gs X T bl) : ∀ {is : List Nat} {es : List Expr}, tgsD T.N X.env.scope is es = true → PGs X es (gNames is) ∧ (∀ env, (assignEach es env).findIdx? (·.1) = none) ∧ ∀ env, (assignEach es env).length = is.length
  | [], [], _ => ⟨pgs_nil, fun _ => rfl, fun _ => rfl⟩
  | [], e :: es, h => by cases e <;> cases h
  | i :: is, [], h => by cases h
  | i :: is, e :: es, h => by
    cases e <;> simp only [tgsD, Bool.and_eq_true, Bool.false_eq_true] at h
    obtain ⟨a, c, d⟩ := pgs_d G h.2
    exact ⟨pgs_cons (pg_d G h.1) a, fun env => by
      have := c env
      show ((false, _) :: assignEach es env).findIdx? (·.1) = none
      rw [List.findIdx?_cons]
      simp [this], fun env => by
      show ((false, _) :: assignEach es env).length = _
      simp [d env]⟩
theorem pg_td (G : Gs X T bl) {tg : Tg} {e : Expr} (h : cmTD T.N X.env.scope tg e = true) : PG X e (gTg X.K tg) := by
  cases tg with
  | v i =>
    cases e <;> simp only [cmTD, Bool.false_eq_true] at h
    exact pg_d G h
  | tp is =>
    cases e <;> simp only [cmTD, Bool.false_eq_true] at h
    obtain ⟨a, c, d⟩ := pgs_d G h
    exact pg_tup G.g.calm a (d _) (c _)
/-- a new list stored at a name -/
theorem store_pe (G : Gs X T bl) {e : ME} {v : Expr} {i : Nat} {x : Str} {py pos : Pos} (ht : tgD T.N X.env.scope i x = true) (hf : freshB T e = true) (h : cmF T bl X.env.scope e v = true) (hs : storeB X.env.scope x py v = true) :
    PS X (.Assign [.Name x py] v pos) (tAsg (tEvF T X.K e) (gName i)) := by
  obtain ⟨h1, h2⟩ := tgD_spec ht
  have hN : X.N.Nodup := by rw [G.g.hN]; exact G.g.nd
  have hi : X.N[i]? = some x := by rw [G.g.hN]; exact h1
  by_cases hc : notComp v = true
  · exact ps_set hN hi h2 (fresh_pe G.g hf h) (swaps_off hc) (.inl (G.fn x))
  · cases v <;> first | (exact absurd rfl hc) | skip
    · rename_i el gs scope vpos
      by_cases hcell : X.env.scope.names.lookup x = some .cell
      · refine ps_set hN hi h2 (fresh_pe G.g hf h) ?_ (.inl (G.fn x))
        have hk : X.env.kindOf x = some .cell := hcell
        unfold swapsWith
        simp [hk, show (NameKind.cell == NameKind.local) = false from rfl]
      · simp only [storeB, hcell, decide_false, Bool.or_false, Bool.and_eq_true, decide_eq_true_eq, Bool.not_eq_true'] at hs
        obtain ⟨⟨q1, q2⟩, q3⟩ := hs
        cases e <;> first | (cases hf; done) | simp only [cmF, cm, Bool.false_eq_true] at h
        · rename_i p es
          split at h
          · rename_i as hp
            cases p <;> simp [cmP] at hp
          · cases h
        · rename_i elt tg it cs own
          split at h
          · rename_i x' t iter ifs scope' pos' heq
            cases heq
            simp only [Bool.and_eq_true] at h
            obtain ⟨⟨⟨⟨⟨⟨h1, h2⟩, hE'⟩, h3⟩, h4⟩, h5⟩, h6⟩ := h
            have eo : (ownN T.N own).map (·.2) = own := by simp [ownN, Function.comp_def]
            have hE : ∀ (s : Shared) (H : Hp) (C : Addr) (cl : List (Str × Addr)) (fp : List Addr), PE (X.blk s H scope (compEnvC scope cl C X.env) fp) el (tEv T X.K elt) := fun s H C cl fp => (good elt (gd_blk G.g s H scope C cl fp) h6).pe
            have hC : ∀ (s : Shared) (H : Hp) (C : Addr) (cl : List (Str × Addr)) (fp : List Addr), PTs (X.blk s H scope (compEnvC scope cl C X.env) fp) ifs (tC' T X.K cs) := fun s H C cl fp => goodC cs (gd_blk G.g s H scope C cl fp) h5
            have base := ps_setLc (X := X) (i := i) (y := x) (py := py) (spos := pos) G.g.calm hN hi q1 (sw_true G.kind q1 q2 q3) (goodI it G.g h1 hE') (blkOk_by (by rw [G.g.hN]; exact h3)) (fun s H C cl fp => pg_tg G.g h4 s H C cl fp)
              hC hE (by intro z; cases iter <;> first | rfl | cases h2)
            rw [eo] at base
            exact PS.imp base fun D σ H q => comp_imp (tg_ok (sc := scope) h4) σ H _ q
          · cases h
    · simp [storeB, notComp] at hs
    · simp [storeB, notComp] at hs
end
end Mp
namespace Mp
open PySem PySem.Spec L2 LamX
open PyProof.Rows hiding St
variable [LamT]

/-! ### statements upon an object of one's own -/
section
variable {K : PySem.W.Frag} {H H' : Hp} {fs : List (Str × V)} {ds : List (D × D)} {f : Str} {y : V} {d : D}
theorem putD_cons {k : Key} {v : D} {p : D × D} {r : List (D × D)} (n : keyOf p.1 ≠ some k) : putD k v (p :: r) = p :: putD k v r := by
  unfold putD
  rw [List.any_cons, decide_eq_false n, Bool.false_or]
  split
  · rw [List.map_cons, if_neg n]
  · rfl
theorem keyOf_str (g : Str) : keyOf (.str g) = some (.inr g) := rfl
theorem no_key : ∀ {fs : List (Str × V)} {ds : List (D × D)}, FldsR K H fs ds → f ∉ fs.map (·.1) → ds.map (fun p => if keyOf p.1 = some (.inr f) then (p.1, d) else p) = ds
  | _, _, .nil, _ => rfl
  | _, _, .cons (f := g) z r, n => by
    have n1 : g ≠ f := fun e => n (by rw [e]; exact List.mem_cons_self)
    have n2 : f ∉ _ := fun h => n (List.mem_cons_of_mem _ h)
    rw [List.map_cons, no_key r n2, if_neg (by rw [keyOf_str]; intro e; exact n1 (Sum.inr.inj (Option.some.inj e)))]
/-- a field stored: names and data go together -/
theorem FldsR.put : ∀ {fs : List (Str × V)} {ds : List (D × D)}, FldsR K H fs ds → (fs.map (·.1)).Nodup → FldR K H y d → FldsR K H (putF f y fs) (putD (.inr f) d ds)
  | _, _, .nil, _, z => .cons z .nil
  | _, _, .cons (f := g) (v := v) (d := e) (fs := fs) (ds := ds) z' r, nd, z => by
    obtain ⟨n, nd⟩ := List.nodup_cons.mp nd
    show FldsR K H (if g = f then (g, y) :: fs else (g, v) :: putF f y fs) _
    by_cases h : g = f
    · subst h
      rw [if_pos rfl]
      have : putD (.inr g) d ((.str g, e) :: ds) = (.str g, d) :: ds := by
        unfold putD
        rw [List.any_cons, decide_eq_true (keyOf_str g), Bool.true_or, if_pos rfl, List.map_cons, if_pos (keyOf_str g), no_key r n]
      rw [this]
      exact .cons z r
    · rw [if_neg h, putD_cons (by rw [keyOf_str]; intro e; exact h (Sum.inr.inj (Option.some.inj e)))]
      exact .cons z' (r.put nd z)
theorem putF_nodup : ∀ {fs : List (Str × V)}, (fs.map (·.1)).Nodup → ((putF f y fs).map (·.1)).Nodup
  | [], _ => by simp [putF]
  | (g, v) :: r, nd => by
    obtain ⟨n, nd'⟩ := List.nodup_cons.mp nd
    show ((if g = f then (g, y) :: r else (g, v) :: putF f y r).map (·.1)).Nodup
    by_cases h : g = f
    · rw [if_pos h]; exact nd
    · rw [if_neg h]
      refine List.nodup_cons.mpr ⟨fun hm => ?_, putF_nodup nd'⟩
      have : ∀ {r : List (Str × V)}, g ∈ (putF f y r).map (·.1) → g ∈ r.map (·.1) := fun {r} hm => by
        induction r with
        | nil => simp [putF] at hm; exact (h hm).elim
        | cons p r ih =>
          obtain ⟨k, x⟩ := p
          rw [show putF f y ((k, x) :: r) = (if k = f then (k, y) :: r else (k, x) :: putF f y r) from rfl] at hm
          split at hm
          · exact hm
          · rcases List.mem_cons.mp hm with e | hm
            · rw [show g = k from e]; exact List.mem_cons_self
            · exact List.mem_cons_of_mem _ (ih hm)
      exact n (this hm)
theorem mem_putF : ∀ {fs : List (Str × V)} {g : Str} {v : V}, (g, v) ∈ putF f y fs → (g = f ∧ v = y) ∨ (g, v) ∈ fs
  | [], g, v, h => by
    rcases List.mem_cons.mp (show (g, v) ∈ [(f, y)] from h) with e | e
    · cases e; exact .inl ⟨rfl, rfl⟩
    · cases e
  | (k, x) :: r, g, v, h => by
    rw [show putF f y ((k, x) :: r) = (if k = f then (k, y) :: r else (k, x) :: putF f y r) from rfl] at h
    split at h
    · rename_i e
      rcases List.mem_cons.mp h with e' | h
      · cases e'; exact .inl ⟨e, rfl⟩
      · exact .inr (List.mem_cons_of_mem _ h)
    · rcases List.mem_cons.mp h with e' | h
      · cases e'; exact .inr List.mem_cons_self
      · rcases mem_putF h with h | h
        · exact .inl h
        · exact .inr (List.mem_cons_of_mem _ h)
theorem mem_putD {g : Str} {x : D} : ∀ {ds : List (D × D)}, ((.str g, x) : D × D) ∈ putD (.inr f) d ds → (g = f ∧ x = d) ∨ ((.str g, x) : D × D) ∈ ds := fun {ds} h => by
  unfold putD at h
  split at h
  · obtain ⟨p, hp, e⟩ := List.mem_map.mp h
    split at e
    · rename_i hk
      injection e with e1 e2
      rw [e1] at hk
      exact .inl ⟨Sum.inr.inj (Option.some.inj hk), e2.symm⟩
    · rw [e] at hp; exact .inr hp
  · rcases List.mem_append.mp h with h | h
    · exact .inr h
    · rcases List.mem_singleton.mp h with e
      injection e with e1 e2
      injection e1 with e1
      exact .inl ⟨e1, e2⟩
theorem at_putD {x : D} {ds : List (D × D)} (h : ((.str f, x) : D × D) ∈ putD (.inr f) d ds) : x = d := by
  unfold putD at h
  split at h
  · obtain ⟨p, hp, e⟩ := List.mem_map.mp h
    split at e
    · injection e with e1 e2
      exact e2.symm
    · rename_i hk
      rw [e] at hk
      exact (hk rfl).elim
  · rename_i hn
    rcases List.mem_append.mp h with h | h
    · exact (hn (List.any_eq_true.mpr ⟨_, h, decide_eq_true (keyOf_str f)⟩)).elim
    · injection List.mem_singleton.mp h
theorem at_putF {v : V} : ∀ {fs : List (Str × V)}, (fs.map (·.1)).Nodup → (f, v) ∈ putF f y fs → v = y
  | [], _, h => by injection List.mem_singleton.mp (show (f, v) ∈ [(f, y)] from h)
  | (k, x) :: r, nd, h => by
    obtain ⟨n, nd⟩ := List.nodup_cons.mp nd
    rw [show putF f y ((k, x) :: r) = (if k = f then (k, y) :: r else (k, x) :: putF f y r) from rfl] at h
    split at h
    · rename_i e
      rcases List.mem_cons.mp h with e' | h
      · injection e'
      · exact (n (List.mem_map.mpr ⟨_, h, e.symm⟩)).elim
    · rename_i e
      rcases List.mem_cons.mp h with e' | h
      · injection e' with e1; exact (e e1.symm).elim
      · exact at_putF nd h
/-- an object with a field stored -/
theorem OwnO.put {p C dx : Addr} {nm : Str} (o : OwnO K H p nm ds C dx fs) (z : FldR K (upd H p (.ins C dx (putF f y fs))) y d) (ne : ∀ q x, y = .ref q → d = own_ x → ∀ g w, (g, V.ref q) ∈ fs → ((.str g, own_ w) : D × D) ∈ ds → g = f) :
    OwnO K (upd H p (.ins C dx (putF f y fs))) p nm (putD (.inr f) d ds) C dx (putF f y fs) := by
  have per : Per H (upd H p (.ins C dx (putF f y fs))) := by
    refine ⟨fun b xs hb => ?_, fun b o' u hb => ?_, fun b xs hb => ?_⟩
    · rw [upd_ne (fun e => by subst e; rw [o.at_] at hb; cases hb)]; exact hb
    · rw [upd_ne (fun e => by subst e; rw [o.at_] at hb; cases hb)]; exact hb
    · rw [upd_ne (fun e => by subst e; rw [o.at_] at hb; cases hb)]; exact hb
  have st : FldsR K (upd H p (.ins C dx (putF f y fs))) fs ds := o.fr.map fun g v x h1 h2 z => z.keep (fun b w hv hd => by
    subst hv hd
    refine upd_ne fun e => ?_
    subst e
    have q := o.inner h1 h2
    cases w with
    | list _ => obtain ⟨_, e, _⟩ := q; rw [o.at_] at e; cases e
    | dict _ => obtain ⟨_, e, _⟩ := q; rw [o.at_] at e; cases e
    | _ => exact q.elim) per
  refine ⟨upd_same, o.cn, o.pl, st.put o.nd z, putF_nodup o.nd, fun g g' b x x' h1 h2 h3 h4 => ?_⟩
  by_cases e1 : g = f
  · subst e1
    by_cases e2 : g' = g
    · exact e2.symm
    · exact (ne b x (at_putF o.nd h1).symm (at_putD h3).symm g' x' ((mem_putF h2).resolve_left fun q => e2 q.1) ((mem_putD h4).resolve_left fun q => e2 q.1)).symm
  · by_cases e2 : g' = f
    · subst e2
      exact ne b x' (at_putF o.nd h2).symm (at_putD h4).symm g x ((mem_putF h1).resolve_left fun q => e1 q.1) ((mem_putD h3).resolve_left fun q => e1 q.1)
    · exact o.ap g g' b x x' ((mem_putF h1).resolve_left fun q => e1 q.1) ((mem_putF h2).resolve_left fun q => e2 q.1) ((mem_putD h3).resolve_left fun q => e1 q.1) ((mem_putD h4).resolve_left fun q => e2 q.1)
/-- what belongs to it behind the store -/
theorem foot_put {p C dx b : Addr} {nm : Str} (o : OwnO K H p nm ds C dx fs) (h : Foot (upd H p (.ins C dx (putF f y fs))) p (.dict ((MK, .str nm) :: putD (.inr f) d ds)) b) :
    Foot H p (.dict ((MK, .str nm) :: ds)) b ∨ ∃ x, y = .ref b ∧ d = own_ x := by
  rcases h with rfl | ⟨C', dx', fs', g, x, e, h1, h2⟩
  · exact .inl (Foot.self ..)
  · rw [upd_same] at e; cases e
    have h2 := mem_obj h2
    by_cases e1 : g = f
    · subst e1
      exact .inr ⟨x, (at_putF o.nd h1).symm, (at_putD h2).symm⟩
    · exact .inl (.inr ⟨C, dx, fs, g, x, o.at_, (mem_putF h1).resolve_left fun q => e1 q.1, List.mem_cons_of_mem _ ((mem_putD h2).resolve_left fun q => e1 q.1)⟩)
theorem clsO_of {c : D} {nm : Str} (h : clsO c = some nm) : ∃ ds, c = .dict ((MK, .str nm) :: ds) := by
  unfold clsO at h
  split at h
  · split at h
    · rename_i hk
      cases h
      exact ⟨_, by rw [isMK_eq hk]⟩
    · cases h
  · cases h
theorem Own.ob {p : Addr} {nm : Str} (o : Own K H p (.dict ((MK, .str nm) :: ds))) : ∃ C dx fs, OwnO K H p nm ds C dx fs := by
  rcases o with ⟨ks, _, r⟩ | ⟨nm', ds', C, dx, fs, e, o⟩
  · exact absurd (nob_keys r) (by rw [show isOb (.dict ((MK, .str nm) :: ds)) = isMK MK from rfl, isMK_mk]; decide)
  · injection e with e1 e2
    injection e1 with _ e1
    injection e1 with e1
    subst e1 e2
    exact ⟨C, dx, fs, o⟩
theorem putO_of {nm : Str} {c' : D} (h : putO f d (.dict ((MK, .str nm) :: ds)) = some c') : c' = .dict ((MK, .str nm) :: putD (.inr f) d ds) ∧ ds.length < 900 := by
  unfold putO at h
  simp only at h
  split at h
  · rename_i q
    cases h
    exact ⟨rfl, q.2⟩
  · cases h
theorem FldsR.len : ∀ {fs : List (Str × V)} {ds : List (D × D)}, FldsR K H fs ds → fs.length = ds.length
  | _, _, .nil => rfl
  | _, _, .cons _ r => congrArg Nat.succ r.len
end
section
variable {K : PySem.W.Frag} {H H1 : Hp} {σ : St} {ρ ρ1 : Ev} {B : List Nat} {i : Nat} {c e : D} {p q : Addr} {o : HO}
/-- one's own thing has changed at q, which is its own -/
theorem Fr.obj (f : Fr B σ ρ H σ ρ1 H1) (R1 : Rel K H1 σ ρ1) (h : ρ1[i]? = some (.ow c)) (hp : σ[i]? = some (some (.ref p))) (hq : Foot H1 p c q) (oe : Own K (upd H1 q o) p e) (ft : ∀ b, Foot (upd H1 q o) p e b → Foot H1 p c b ∨ (¬ Owned H1 σ ρ1 b ∧ H b = none)) :
    Rel K (upd H1 q o) σ (ρ1.set i (.ow e)) ∧ Fr B σ ρ H σ (ρ1.set i (.ow e)) (upd H1 q o) := by
  have hl := (List.getElem?_eq_some_iff.mp h).1
  have st : ∀ b u, H1 b = some u → ¬ Foot H1 p c b → upd H1 q o b = some u := fun b u hb n => by rw [upd_ne (fun e => n (by rw [e]; exact hq))]; exact hb
  have R2 := R1.own_set h hp oe (fun b fb => (ft b fb).imp id fun z => z.1) st
  obtain ⟨p', hp', oc⟩ := R1.ow i _ h
  rw [hp] at hp'; cases hp'
  have inO : OwnedAt H1 σ ρ1 i q := ⟨c, p, h, hp, hq⟩
  refine ⟨R2, ⟨fun b u hb n t => ?_, fun j b w => ?_, fun b hb => ?_, fun P Q mt t => ?_, fun j hj => ?_⟩⟩
  · rw [upd_ne fun e => ?_]
    · exact f.keep b u hb n t
    · subst e
      rcases f.own i b inO with w | w
      · exact n ⟨i, w⟩
      · rw [w] at hb; cases hb
  · obtain ⟨d, r, h1, h2, fb⟩ := w
    by_cases hj : i = j
    · subst hj
      rw [List.getElem?_set_self hl] at h1; cases h1
      rw [hp] at h2; cases h2
      rcases ft b fb with z | z
      · exact f.own i b ⟨c, p, h, hp, z⟩
      · exact .inr z.2
    · rw [List.getElem?_set_ne hj] at h1
      refine f.own j b ⟨d, r, h1, h2, (Foot.iff (upd_ne fun e => ?_)).mp fb⟩
      exact R1.ne i j c d p r q hj h h1 hp h2 hq (by rw [← e]; exact Foot.self ..)
  · by_cases e : b = q
    · subst e; rw [upd_same] at hb; cases hb
    · rw [upd_ne e] at hb; exact f.alive b hb
  · refine tabs_of (fun b u hb cu => ?_) P Q (f.tabs P Q mt t)
    rw [upd_ne fun e => ?_]
    · exact hb
    · subst e
      obtain ⟨u', hu', cu'⟩ := oc.feet hq
      rw [hb] at hu'; cases hu'; rw [cu] at cu'; cases cu'
  · refine ⟨(f.bo j hj).1, fun d hd => ?_⟩
    obtain ⟨d', hd'⟩ := (f.bo j hj).2 d hd
    by_cases hij : i = j
    · subst hij
      exact ⟨e, List.getElem?_set_self hl⟩
    · exact ⟨d', by rw [List.getElem?_set_ne hij]; exact hd'⟩
end
section
variable {X : Cx} {T : CT} {bl : List Str} {B : List Nat}
theorem fset_ok (G : Gs X T bl) {i : Nat} {f x : Str} {e : ME} {v : Expr} {px p1 pos : Pos} (hv : varB T.N X.env.scope i x = true) (h : cm T bl X.env.scope e v = true) (hc : notComp v = true) : PS X (.Assign [.Attribute (.Name x px) f p1] v pos) (tS T X.K B (.fset i f e)) := by
  refine PS.imp (ps_fld (pe_name G.g hv) (good e G.g h).pe (by cases v <;> first | rfl | cases hc)) fun D0 σ H q => ?_
  obtain ⟨ρ, fl, ρ', R, ee, q⟩ := q
  unfold exS at ee
  obtain ⟨⟨d, ρ1⟩, e1, e2⟩ := Option.bind_eq_some_iff.mp ee
  simp only at e2
  split at e2
  · rename_i c hc
    obtain ⟨nm, e3, e4⟩ := Option.bind_eq_some_iff.mp e2
    split at e4
    · rename_i ht
      obtain ⟨c', e5, e6⟩ := Option.map_eq_some_iff.mp e4
      cases e6
      obtain ⟨ds, rfl⟩ := clsO_of e3
      obtain ⟨rfl, hlen⟩ := putO_of e5
      refine ⟨ρ, d, ρ1, R, e1, fun w H1 k1 s1 R1 z => ?_⟩
      obtain ⟨p, hp, o⟩ := R1.ow i _ hc
      obtain ⟨C, dx, fs, o⟩ := o.ob
      refine ⟨.ref p, hp, p, C, dx, fs, rfl, o.at_, o.pl.cl, G.g.fld _ ht C o.cn, by rw [o.fr.len]; omega, ?_⟩
      have o2 := o.put (f := f) (y := w) (d := d) (.rz (z.per ⟨fun b xs hb => by rw [upd_ne (fun e => by subst e; rw [o.at_] at hb; cases hb)]; exact hb, fun b o' u hb => by rw [upd_ne (fun e => by subst e; rw [o.at_] at hb; cases hb)]; exact hb, fun b P hb => by rw [upd_ne (fun e => by subst e; rw [o.at_] at hb; cases hb)]; exact hb⟩))
        fun q x _ hd => by subst hd; exact (rz_own_no z).elim
      have oo : Own X.K (upd H1 p (.ins C dx (putF f w fs))) p (.dict ((MK, .str nm) :: putD (.inr f) d ds)) := .inr ⟨nm, _, C, dx, _, rfl, o2⟩
      obtain ⟨R2, f2⟩ := Fr.obj (B := B) (Fr.ev k1 s1 R1) R1 hc hp (Foot.self ..) oo fun b fb => by
        rcases foot_put o fb with z' | ⟨x, _, hd⟩
        · exact .inl z'
        · subst hd; exact (rz_own_no z).elim
      exact q _ _ f2 R2
    · cases e4
  · cases e2
theorem fnew_ok (G : Gs X T bl) {i : Nat} {f x : Str} {e : ME} {v : Expr} {px p1 pos : Pos} (hv : varB T.N X.env.scope i x = true) (h : PE X v (tEvF T X.K e)) (hc : notComp v = true) : PS X (.Assign [.Attribute (.Name x px) f p1] v pos) (tS T X.K B (.fnew i f e)) := by
  refine PS.imp (ps_fld (pe_name G.g hv) h (by cases v <;> first | rfl | cases hc)) fun D0 σ H q => ?_
  obtain ⟨ρ, fl, ρ', R, ee, q⟩ := q
  unfold exS at ee
  obtain ⟨⟨d, ρ1⟩, e1, e2⟩ := Option.bind_eq_some_iff.mp ee
  simp only at e2
  split at e2
  · rename_i c hc
    obtain ⟨nm, e3, e4⟩ := Option.bind_eq_some_iff.mp e2
    split at e4
    · rename_i ht
      obtain ⟨c', e5, e6⟩ := Option.map_eq_some_iff.mp e4
      cases e6
      obtain ⟨ds, rfl⟩ := clsO_of e3
      obtain ⟨rfl, hlen⟩ := putO_of e5
      refine ⟨ρ, d, ρ1, R, e1, fun w H1 k1 s1 R1 hn hu od => ?_⟩
      obtain ⟨p, hp, o⟩ := R1.ow i _ hc
      obtain ⟨C, dx, fs, o⟩ := o.ob
      refine ⟨.ref p, hp, p, C, dx, fs, rfl, o.at_, o.pl.cl, G.g.fld _ ht.1 C o.cn, by rw [o.fr.len]; omega, ?_⟩
      have os := od.s ht.2
      have npw : w ≠ p := fun e => hu w (Foot.self ..) ⟨i, _, p, hc, hp, by rw [e]; exact Foot.self ..⟩
      have o2 := o.put (f := f) (y := .ref w) (d := own_ d) (.ow (os.keep (upd_ne npw) ⟨fun b xs hb => by rw [upd_ne (fun e => by subst e; rw [o.at_] at hb; cases hb)]; exact hb, fun b o' u hb => by rw [upd_ne (fun e => by subst e; rw [o.at_] at hb; cases hb)]; exact hb, fun b P hb => by rw [upd_ne (fun e => by subst e; rw [o.at_] at hb; cases hb)]; exact hb⟩))
        fun q x hq _ g w' h1 h2 => by
          cases hq
          exact (hu w (Foot.self ..) ⟨i, _, p, hc, hp, .inr ⟨C, dx, fs, g, w', o.at_, h1, List.mem_cons_of_mem _ h2⟩⟩).elim
      have oo : Own X.K (upd H1 p (.ins C dx (putF f (.ref w) fs))) p (.dict ((MK, .str nm) :: putD (.inr f) (own_ d) ds)) := .inr ⟨nm, _, C, dx, _, rfl, o2⟩
      obtain ⟨R2, f2⟩ := Fr.obj (B := B) (Fr.ev k1 s1 R1) R1 hc hp (Foot.self ..) oo fun b fb => by
        rcases foot_put o fb with z' | ⟨x, hb, _⟩
        · exact .inl z'
        · injection hb with hb
          subst hb
          exact .inr ⟨fun ⟨j, ww⟩ => hu _ (Foot.self ..) ⟨j, ww⟩, hn _ (Foot.self ..)⟩
      exact q _ _ f2 R2
    · cases e4
  · cases e2
end
/-! ### what belongs to a field -/
section
variable {K : PySem.W.Frag} {H : Hp} {fs : List (Str × V)} {ds : List (D × D)} {f : Str} {p q C dx : Addr} {nm : Str} {u : HO} {x z : D}
theorem putF_id {y : V} : ∀ {fs : List (Str × V)}, fs.lookup f = some y → putF f y fs = fs
  | [], h => by cases h
  | (k, v) :: r, h => by
    rw [show putF f y ((k, v) :: r) = (if k = f then (k, y) :: r else (k, v) :: putF f y r) from rfl]
    rw [List.lookup_cons] at h
    by_cases e : k = f
    · subst e
      rw [if_pos rfl]
      simp at h
      rw [h]
    · have : (f == k) = false := by simpa using fun q : f = k => e q.symm
      rw [this] at h
      rw [if_neg e, putF_id h]
theorem rawF_own {nm : Str} (o : OwnO K H p nm ds C dx fs) (h : rawF f (.dict ((MK, .str nm) :: ds)) = some z) (hz : isOw z = true) : ∃ q, fs.lookup f = some (.ref q) ∧ OwnS K H q (unOwn z) ∧ ((.str f, z) : D × D) ∈ ds := by
  unfold rawF at h
  simp only [isMK_mk, if_true] at h
  obtain ⟨v, h1, h2⟩ := valD_own o.fr h
  have mem : ∀ {ds : List (D × D)}, valD (.inr f) ds = some z → ((.str f, z) : D × D) ∈ ds := fun {ds} h => by
    induction ds with
    | nil => cases h
    | cons a r ih =>
      obtain ⟨k, w⟩ := a
      unfold valD at h
      split at h
      · rename_i hk
        cases h
        have : k = .str f := by
          unfold keyOf at hk
          split at hk <;> cases hk
          rfl
        rw [this]
        exact List.mem_cons_self
      · split at h
        · cases h
        · exact List.mem_cons_of_mem _ (ih h)
  cases h2 with
  | rz z' => rw [rz_ow z'] at hz; cases hz
  | ow o' => exact ⟨_, h1, by rw [unOwn_own]; exact o', mem h⟩
/-- what belongs to a field has changed -/
theorem OwnO.nest (o : OwnO K H p nm ds C dx fs) (h1 : fs.lookup f = some (.ref q)) (h2 : ((.str f, own_ z) : D × D) ∈ ds) (oz : OwnS K H q z) (ox : OwnS K (upd H q u) q x) : OwnO K (upd H q u) p nm (putD (.inr f) (own_ x) ds) C dx fs := by
  obtain ⟨w, hw, cw⟩ := oz.obj
  have mq : (f, V.ref q) ∈ fs := lookup_mem h1
  have npq : p ≠ q := fun e => by
    subst e
    rw [o.at_] at hw; cases hw
    cases z with
    | list _ => obtain ⟨_, e, _⟩ := oz; rw [o.at_] at e; cases e
    | dict _ => obtain ⟨_, e, _⟩ := oz; rw [o.at_] at e; cases e
    | _ => exact oz.elim
  have per : Per H (upd H q u) := by
    refine ⟨fun b xs hb => ?_, fun b o' w' hb => ?_, fun b xs hb => ?_⟩
    · rw [upd_ne (fun e => by subst e; rw [hw] at hb; cases hb; cases cw)]; exact hb
    · rw [upd_ne (fun e => by subst e; rw [hw] at hb; cases hb; cases cw)]; exact hb
    · rw [upd_ne (fun e => by subst e; rw [hw] at hb; cases hb; cases cw)]; exact hb
  -- the others; f's own entry is put anew behind
  have go : ∀ {gs : List (Str × V)} {es : List (D × D)}, FldsR K H gs es → (gs.map (·.1)).Nodup → (∀ g v, (g, v) ∈ gs → (g, v) ∈ fs) → (∀ e ∈ es, e ∈ ds) → FldsR K (upd H q u) (putF f (.ref q) gs) (putD (.inr f) (own_ x) es) := by
    intro gs es r
    induction r with
    | nil => intro _ _ _; exact .cons (.ow ox) .nil
    | @cons g v e gs es z' r ih =>
      intro nd s1 s2
      obtain ⟨n, nd⟩ := List.nodup_cons.mp nd
      show FldsR K _ (if g = f then (g, V.ref q) :: gs else (g, v) :: putF f (.ref q) gs) _
      have oth : ∀ {h : Str} {b : Addr} {y : D}, h ≠ f → (h, V.ref b) ∈ fs → ((.str h, own_ y) : D × D) ∈ ds → upd H q u b = H b := fun {h b y} hn k1 k2 => upd_ne fun e => by
        subst e
        exact hn (o.ap h f b y z k1 mq k2 h2)
      by_cases hg : g = f
      · subst hg
        rw [if_pos rfl]
        have : putD (.inr g) (own_ x) ((.str g, e) :: es) = (.str g, own_ x) :: es := by
          unfold putD
          rw [List.any_cons, decide_eq_true (keyOf_str g), Bool.true_or, if_pos rfl, List.map_cons, if_pos (keyOf_str g), no_key r n]
        rw [this]
        refine .cons (.ow ox) (r.map fun h v d k1 k2 z'' => z''.keep (fun b y hv hd => ?_) per)
        subst hv hd
        exact oth (fun e => n (by rw [← e]; exact List.mem_map.mpr ⟨_, k1, rfl⟩)) (s1 _ _ (List.mem_cons_of_mem _ k1)) (s2 _ (List.mem_cons_of_mem _ k2))
      · rw [if_neg hg, putD_cons (by rw [keyOf_str]; intro e; exact hg (Sum.inr.inj (Option.some.inj e)))]
        refine .cons (z'.keep (fun b y hv hd => ?_) per) (ih nd (fun g v h => s1 g v (List.mem_cons_of_mem _ h)) fun e h => s2 e (List.mem_cons_of_mem _ h))
        subst hv hd
        exact oth hg (s1 _ _ List.mem_cons_self) (s2 _ List.mem_cons_self)
  have fr := go o.fr o.nd (fun _ _ h => h) (fun _ h => h)
  rw [putF_id h1] at fr
  refine ⟨(upd_ne npq).trans o.at_, o.cn, o.pl, fr, o.nd, fun g g' b y y' k1 k2 k3 k4 => ?_⟩
  have old : ∀ {g : Str} {y : D}, ((.str g, own_ y) : D × D) ∈ putD (.inr f) (own_ x) ds → ∃ y', ((.str g, own_ y') : D × D) ∈ ds := fun {g y} h => by
    rcases mem_putD h with ⟨e, _⟩ | h
    · exact ⟨z, by rw [e]; exact h2⟩
    · exact ⟨y, h⟩
  obtain ⟨_, k3⟩ := old k3
  obtain ⟨_, k4⟩ := old k4
  exact o.ap g g' b _ _ k1 k2 k3 k4
theorem foot_nest {b : Addr} (o : OwnO K H p nm ds C dx fs) (h1 : fs.lookup f = some (.ref q)) (h2 : ((.str f, own_ z) : D × D) ∈ ds) (npq : p ≠ q) (h : Foot (upd H q u) p (.dict ((MK, .str nm) :: putD (.inr f) (own_ x) ds)) b) : Foot H p (.dict ((MK, .str nm) :: ds)) b := by
  rcases h with rfl | ⟨C', dx', fs', g, y, e, k1, k2⟩
  · exact Foot.self ..
  · rw [upd_ne npq, o.at_] at e; cases e
    rcases mem_putD (mem_obj k2) with ⟨e, _⟩ | k2
    · subst e
      exact .inr ⟨C, dx, fs, g, z, o.at_, k1, List.mem_cons_of_mem _ h2⟩
    · exact .inr ⟨C, dx, fs, g, y, o.at_, k1, List.mem_cons_of_mem _ k2⟩
theorem isOw_un {z : D} (h : isOw z = true) : z = own_ (unOwn z) := by
  obtain ⟨x, rfl⟩ := isOw_ex h
  rw [unOwn_own]
theorem setIn_own {k d z' : D} {v w : V} (oz : OwnS K H q z) (h : setIn k d z = some z') (zk : Rz K H w k) (zd : Rz K H v d) : ∃ u, canFz u = true ∧ OwnS K (upd H q u) q z' ∧ ∀ Q : Hp → Prop, Q (upd H q u) → (rSetL (.ref q) w v H Q ∨ rSetD (.ref q) w v H Q) := by
  obtain ⟨c, hc, cc⟩ := oz.obj
  have per : ∀ u, Per H (upd H q u) := fun u => by
    refine ⟨fun b xs hb => ?_, fun b o' w' hb => ?_, fun b xs hb => ?_⟩
    · rw [upd_ne (fun e => by subst e; rw [hc] at hb; cases hb; cases cc)]; exact hb
    · rw [upd_ne (fun e => by subst e; rw [hc] at hb; cases hb; cases cc)]; exact hb
    · rw [upd_ne (fun e => by subst e; rw [hc] at hb; cases hb; cases cc)]; exact hb
  unfold setIn at h
  cases z with
  | list ds =>
    simp only at h
    split at h
    · rename_i j
      obtain ⟨j', h1, h2⟩ := Option.map_eq_some_iff.mp h
      cases h2
      cases zk
      obtain ⟨vs, e, za⟩ := oz
      refine ⟨.lst (vs.set j' v), rfl, ⟨_, upd_same, (za.set j' zd).per (per _)⟩, fun Q hq => .inl ⟨q, vs, j, j', rfl, rfl, e, by rw [za.length]; exact h1, hq⟩⟩
    · cases h
  | dict ds =>
    simp only at h
    obtain ⟨j, h1, h2⟩ := Option.bind_eq_some_iff.mp h
    split at h2
    · rename_i hz
      cases h2
      have eu := ry_key (.inl zk) h1
      subst eu
      obtain ⟨vs, e, za⟩ := oz
      exact ⟨.dK (putK vs j v), rfl, ⟨_, upd_same, RzKv.per (per _) (put_rz za zd)⟩, fun Q hq => .inr ⟨q, _, rfl, DPut.k e (by rw [za.length]; exact hz.1), hq⟩⟩
    · cases h2
  | _ => cases h
end
section
variable {X : Cx} {T : CT} {bl : List Str} {B : List Nat}
theorem set_own' (hu : X.A.units + 1 < cLine) : PSet X (fun o i v H Q => rSetL o i v H Q ∨ rSetD o i v H Q) := by
  intro pins s σ H o i v ov iv u Q I ro ri rv h
  rcases h with h | h
  · exact set_list pins s σ H o i v ov iv u Q I ro ri rv h
  · exact set_dict hu pins s σ H o i v ov iv u Q I ro ri rv h
theorem fput_ok (G : Gs X T bl) {i : Nat} {f x : Str} {k e : ME} {y v : Expr} {px p1 p2 pos : Pos} (hv : varB T.N X.env.scope i x = true) (hk : cm T bl X.env.scope k y = true) (he : cm T bl X.env.scope e v = true) (hn : notSlice y = true) (hc : notComp v = true) :
    PS X (.Assign [.Subscript (.Attribute (.Name x px) f p1) y p2] v pos) (tS T X.K B (.fput i f k e)) := by
  have hu : X.A.units + 1 < cLine := Nat.lt_of_le_of_lt (Nat.add_le_add_left (by decide : 1 ≤ 64) _) G.g.units
  refine PS.imp (ps_asg (good e G.g he).pe (pg_sub (pe_fld (pe_name G.g hv) rfl) (good k G.g hk).pe (set_own' hu) (by intro w; cases y <;> first | rfl | cases hn)) (by cases v <;> first | rfl | cases hc) (by rfl)) fun D0 σ H q => ?_
  obtain ⟨ρ, fl, ρ', R, ee, q⟩ := q
  unfold exS at ee
  obtain ⟨⟨d, ρ1⟩, e1, e2⟩ := Option.bind_eq_some_iff.mp ee
  obtain ⟨⟨dk, ρ2⟩, e3, e4⟩ := Option.bind_eq_some_iff.mp e2
  simp only at e4
  split at e4
  · rename_i c hc
    obtain ⟨nm, e5, e6⟩ := Option.bind_eq_some_iff.mp e4
    split at e6
    · rename_i ht
      obtain ⟨z, e7, e8⟩ := Option.bind_eq_some_iff.mp e6
      split at e8
      · rename_i hz
        obtain ⟨z', e9, e10⟩ := Option.bind_eq_some_iff.mp e8
        obtain ⟨c', e11, e12⟩ := Option.map_eq_some_iff.mp e10
        cases e12
        obtain ⟨ds, rfl⟩ := clsO_of e5
        obtain ⟨rfl, hlen⟩ := putO_of e11
        refine ⟨ρ, d, ρ1, R, e1, fun w H1 k1 s1 R1 zd => ?_⟩
        obtain ⟨p, hp, o⟩ := R1.ow i _ hc
        obtain ⟨C, dx, fs, o⟩ := o.ob
        obtain ⟨r, l1, oz, mz⟩ := rawF_own o e7 hz
        refine ⟨.ref p, hp, p, C, dx, fs, .ref r, rfl, o.at_, o.pl.cl, G.g.fld _ ht C o.cn, l1, ?_⟩
        refine ⟨hide ρ1, dk, ρ2, R1.hide, e3, fun kv H2 k2 s2 R2 zk => ?_⟩
        obtain ⟨st, R3, k3⟩ := hide_keep R1 k2
        have per : Per H1 H2 := k3.per R1
        have oz2 : OwnS X.K H2 r (unOwn z) := by
          obtain ⟨u, hu, cu⟩ := oz.obj
          exact oz.keep ((st r u hu fun ps e => by subst e; cases cu).trans hu.symm) per
        have o2 : OwnO X.K H2 p nm ds C dx fs := by
          obtain ⟨p', hp', o'⟩ := R3.ow i _ hc
          rw [hp] at hp'; cases hp'
          obtain ⟨C', dx', fs', o'⟩ := o'.ob
          have := o'.at_
          rw [st p _ o.at_ fun ps e => by cases e] at this
          cases this
          exact o'
        obtain ⟨u, cu, ox, go⟩ := setIn_own oz2 e9 zk (zd.per per)
        have mz' : ((.str f, own_ (unOwn z)) : D × D) ∈ ds := by rw [← isOw_un hz]; exact mz
        have npr : p ≠ r := fun e => by
          subst e
          cases hzz : unOwn z with
          | list _ => rw [hzz] at oz2; obtain ⟨_, e, _⟩ := oz2; rw [o2.at_] at e; cases e
          | dict _ => rw [hzz] at oz2; obtain ⟨_, e, _⟩ := oz2; rw [o2.at_] at e; cases e
          | _ => rw [hzz] at oz2; exact oz2.elim
        have oo : Own X.K (upd H2 r u) p (.dict ((MK, .str nm) :: putD (.inr f) (own_ z') ds)) := .inr ⟨nm, _, C, dx, _, rfl, o2.nest l1 mz' oz2 ox⟩
        obtain ⟨R4, f4⟩ := Fr.obj (B := B) (Fr.ev (k1.trans s1 k3) s1 R3) R3 hc hp (.inr ⟨C, dx, fs, f, _, o2.at_, lookup_mem l1, List.mem_cons_of_mem _ mz'⟩) oo fun b fb => .inl (foot_nest o2 l1 mz' npr fb)
        exact go _ (q σ _ f4 R4)
      · cases e8
    · cases e6
  · cases e4
theorem fapp_ok (G : Gs X T bl) {i : Nat} {f x : Str} {e : ME} {y : Expr} {px p1 apos cpos pos : Pos} (hv : varB T.N X.env.scope i x = true) (n : notStar y = true) (he : cm T bl X.env.scope e y = true) (hl : (apos.endLine == cpos.line) = true) :
    PS X (.Expr (.Call (.Attribute (.Attribute (.Name x px) f p1) "append" apos) [y] [] cpos) pos) (tS T X.K B (.fapp i f e)) := by
  have hst := star_off (es := []) (env := X.env) n
  refine PS.imp (ps_expr (pe_bm PySem.F.plainAttrs_list PySem.F.slot_list_append PySem.F.type_list_append mt_append (pe_fld (pe_name G.g hv) rfl) (pa_cons (good e G.g he).pe pa_nil hst) rfl ?_ hl hst (by rfl)) (by rfl)) fun D0 σ H q => ?_
  · rw [hst]; rfl
  · obtain ⟨ρ, fl, ρ', R, ee, q⟩ := q
    unfold exS at ee
    obtain ⟨⟨d, ρ2⟩, e3, e4⟩ := Option.bind_eq_some_iff.mp ee
    simp only at e4
    split at e4
    · rename_i c hc
      obtain ⟨nm, e5, e6⟩ := Option.bind_eq_some_iff.mp e4
      split at e6
      · rename_i ht
        obtain ⟨z, e7, e8⟩ := Option.bind_eq_some_iff.mp e6
        split at e8
        · rename_i hz
          obtain ⟨z', e9, e10⟩ := Option.bind_eq_some_iff.mp e8
          obtain ⟨c', e11, e12⟩ := Option.map_eq_some_iff.mp e10
          cases e12
          obtain ⟨ds, rfl⟩ := clsO_of e5
          obtain ⟨rfl, hlen⟩ := putO_of e11
          obtain ⟨p, hp, o⟩ := R.ow i _ hc
          obtain ⟨C, dx, fs, o⟩ := o.ob
          obtain ⟨r, l1, oz, mz⟩ := rawF_own o e7 hz
          have mz' : ((.str f, own_ (unOwn z)) : D × D) ∈ ds := by rw [← isOw_un hz]; exact mz
          generalize hzz : unOwn z = y0 at *
          unfold appIn at e9
          split at e9
          · rename_i es
            split at e9
            · rename_i hsz
              cases e9
              obtain ⟨vs0, ev0, za0⟩ := oz
              refine ⟨.ref p, hp, p, C, dx, fs, .ref r, rfl, o.at_, o.pl.cl, G.g.fld _ ht C o.cn, l1, .inl ⟨rfl, _, SqL.of ev0⟩, ?_⟩
              refine ⟨hide ρ, d, ρ2, R.hide, e3, fun w H2 k2 s2 R2 zd => ?_⟩
              obtain ⟨st, R3, k3⟩ := hide_keep R k2
              have per : Per H H2 := k3.per R
              have ev2 : H2 r = some (.lst vs0) := st r _ ev0 fun ps e => by cases e
              have za2 := za0.per per
              refine ⟨r, vs0, w, rfl, rfl, ev2, by rw [za2.length]; exact hsz, ?_⟩
              have o2 : OwnO X.K H2 p nm ds C dx fs := by
                obtain ⟨p', hp', o'⟩ := R3.ow i _ hc
                rw [hp] at hp'; cases hp'
                obtain ⟨C', dx', fs', o'⟩ := o'.ob
                have := o'.at_
                rw [st p _ o.at_ fun ps e => by cases e] at this
                cases this
                exact o'
              have per2 : Per H2 (upd H2 r (.lst (vs0 ++ [w]))) := by
                refine ⟨fun b xs hb => ?_, fun b o' w' hb => ?_, fun b xs hb => ?_⟩
                · rw [upd_ne (fun e => by subst e; rw [ev2] at hb; cases hb)]; exact hb
                · rw [upd_ne (fun e => by subst e; rw [ev2] at hb; cases hb)]; exact hb
                · rw [upd_ne (fun e => by subst e; rw [ev2] at hb; cases hb)]; exact hb
              have ox : OwnS X.K (upd H2 r (.lst (vs0 ++ [w]))) r (.list (es ++ [d])) := ⟨_, upd_same, (za2.append (.cons zd .nil)).per per2⟩
              have npr : p ≠ r := fun e => by subst e; rw [o2.at_] at ev2; cases ev2
              have oo : Own X.K (upd H2 r (.lst (vs0 ++ [w]))) p (.dict ((MK, .str nm) :: putD (.inr f) (own_ (.list (es ++ [d]))) ds)) := .inr ⟨nm, _, C, dx, _, rfl, o2.nest l1 mz' ⟨vs0, ev2, za2⟩ ox⟩
              obtain ⟨R4, f4⟩ := Fr.obj (B := B) (Fr.ev k3 (Sk.refl _) R3) R3 hc hp (.inr ⟨C, dx, fs, f, _, o2.at_, lookup_mem l1, List.mem_cons_of_mem _ mz'⟩) oo fun b fb => .inl (foot_nest o2 l1 mz' npr fb)
              exact q σ _ f4 R4
            · cases e9
          · cases e9
        · cases e8
      · cases e6
    · cases e4
end
end Mp
namespace Mp
open PySem PySem.Spec L2 LamX
open PyProof.Rows hiding St
variable [LamT]
section
variable {X : Cx} {T : CT} {bl : List Str} {B : List Nat}
/-- the state behind a store of a new list -/
theorem new_ok {st : Stmt} {e : ME} {i : Nat} (hB : i ∉ B) (h : PS X st (tAsg (tEvF T X.K e) (gName i))) : PS X st (tS T X.K B (.new i e)) := by
  refine PS.imp h fun D0 σ H q => ?_
  obtain ⟨ρ, fl, ρ', R, ee, q⟩ := q
  unfold exS at ee
  obtain ⟨⟨d, ρ1⟩, e1, e2⟩ := Option.bind_eq_some_iff.mp ee
  obtain ⟨ρ2, e3, e4⟩ := Option.map_eq_some_iff.mp e2
  cases e4
  exact ⟨ρ, d, ρ1, R, e1, fun p H1 k s R1 hp hn o => q _ H1 (Fr.ow (Fr.ev k s R1) e3 hp hB) (R1.set_ow e3 o hn)⟩
/-- .. and of one that stands still from now on -/
theorem frz_ok {st : Stmt} {e : ME} {i : Nat} (hB : i ∉ B) (hp : plainM e = true) (h : PS X st (tAsg (tEvF T X.K e) (gName i))) : PS X st (tS T X.K B (.asg i e)) := by
  refine ⟨fun pins s σ H D0 I q => ?_⟩
  obtain ⟨ρ, fl, ρ', R, ee, q⟩ := q
  unfold exS at ee
  obtain ⟨⟨d, ρ1⟩, e1, e2⟩ := Option.bind_eq_some_iff.mp ee
  obtain ⟨ρ2, e3, e4⟩ := Option.map_eq_some_iff.mp e2
  cases e4
  refine thn (h.run pins s σ H { D0 with nx := fun σ' H' => ∃ p, σ' = σ.set i (some (.ref p)) ∧ Keep σ ρ H ρ1 H' ∧ Sk ρ ρ1 ∧ Rel X.K H' σ ρ1 ∧ (∀ b, Foot H' p d b → H b = none) ∧ (∀ b, Foot H' p d b → ¬ Owned H' σ ρ1 b) ∧ Own X.K H' p d } I ⟨ρ, d, ρ1, R, e1, fun p H' a b c f g o => ⟨p, rfl, a, b, c, f, g, o⟩⟩) fun f s' hs => ?_
  cases f with
  | next =>
    obtain ⟨σ', H', I', p, rfl, k, sk, R', hp', hn, o⟩ := hs
    obtain ⟨HL, IL, h1, h2, z⟩ := o.lock I'
    rw [frz_ev hp e1] at z
    have per := still_per h1 h2
    obtain ⟨RL, oL⟩ := R'.off (fun b w => h1 b (fun f => hn b f w)) per (fun t ht => still_tabs h1 h2 _ _ (R'.tb t ht))
    have k2 : Keep σ ρ H ρ1 HL := ⟨fun b u hb n t => by rw [h1 b fun f => by rw [hp' b f] at hb; cases hb]; exact k.keep b u hb n t, fun i b w => k.own i b ((oL i b).mp w), fun b hb => k.alive b (still_alive h1 h2 b hb), fun P q mt t => still_tabs h1 h2 P q (k.tabs P q mt t)⟩
    obtain ⟨R3, o3⟩ := RL.set_da e3 z
    exact ⟨_, _, IL, q _ _ ((Fr.ev k2 sk RL).trans (Fr.da e3 o3 hB)) R3⟩
  | brk => exact hs
  | cont => exact hs
  | ret u => exact hs
theorem asg_ok (G : Gs X T bl) {e : ME} {v : Expr} {i : Nat} {x : Str} {py pos : Pos} (hB : i ∉ B) (ht : tgD T.N X.env.scope i x = true) (hc : notComp v = true) (h : cm T bl X.env.scope e v = true) : PS X (.Assign [.Name x py] v pos) (tS T X.K B (.asg i e)) := by
  obtain ⟨h1, h2⟩ := tgD_spec ht
  refine PS.imp (ps_set (i := i) (by rw [G.g.hN]; exact G.g.nd) (by rw [G.g.hN]; exact h1) h2 (good e G.g h).pe (swaps_off hc) (.inl (G.fn x))) fun D0 σ H q => ?_
  obtain ⟨ρ, fl, ρ', R, ee, q⟩ := q
  unfold exS at ee
  obtain ⟨⟨d, ρ1⟩, e1, e2⟩ := Option.bind_eq_some_iff.mp ee
  obtain ⟨ρ2, e3, e4⟩ := Option.map_eq_some_iff.mp e2
  cases e4
  refine ⟨ρ, d, ρ1, R, e1, fun v H1 k s R1 z => ?_⟩
  obtain ⟨R3, o3⟩ := R1.set_da e3 z
  exact q _ _ ((Fr.ev k s R1).trans (Fr.da e3 o3 hB)) R3
/-- several data put into slots -/
theorem das_ok {K : PySem.W.Frag} {H : Hp} : ∀ {is : List Nat} {ds : List D} {xs : List V} {σ : St} {ρ ρ' : Ev} {Q : St → Hp → Prop}, Rel K H σ ρ → setDas ρ is ds = some ρ' → RzAll K H xs ds → (∀ i ∈ is, i ∉ B) →
    (∀ σ', Rel K H σ' ρ' → Fr B σ ρ H σ' ρ' H → Q σ' H) → xs.length = is.length ∧ gNames is xs σ H Q
  | [], [], _, _, _, _, _, R, e, .nil, _, q => by
    cases e
    exact ⟨rfl, rfl, q _ R Fr.refl⟩
  | [], _ :: _, _, _, _, _, _, _, e, _, _, _ => by cases e
  | i :: is, d :: ds, _, σ, ρ, ρ', Q, R, e, .cons (v := v) (vs := xs) z r, hm, q => by
    unfold setDas at e
    obtain ⟨ρ1, e1, e2⟩ := Option.bind_eq_some_iff.mp e
    obtain ⟨R1, o1⟩ := R.set_da e1 z
    have step := das_ok (Q := Q) R1 e2 r (fun j hj => hm j (List.mem_cons_of_mem _ hj)) fun σ' a f => q σ' a ((Fr.da e1 o1 (hm i List.mem_cons_self)).trans f)
    exact ⟨by rw [List.length_cons, List.length_cons, step.1], v, xs, rfl, step.2⟩
  | _ :: _, [], _, _, _, _, _, _, e, _, _, _ => by cases e
theorem bind_ok {K : PySem.W.Frag} {H : Hp} {tg : Tg} {d : D} {x : V} {σ : St} {ρ ρ' : Ev} {Q : St → Hp → Prop} (R : Rel K H σ ρ) (e : bindT tg d ρ = some ρ') (z : Rz K H x d) (hB : tgOff B tg = true) (q : ∀ σ', Rel K H σ' ρ' → Fr B σ ρ H σ' ρ' H → Q σ' H) : gTg K tg x σ H Q := by
  cases tg with
  | v i =>
    have e : setDa ρ i d = some ρ' := e
    obtain ⟨R1, o1⟩ := R.set_da e z
    exact q _ R1 (Fr.da e o1 (by simpa [tgOff] using hB))
  | tp is =>
    cases d with
    | tuple ds =>
      have e : setDas ρ is ds = some ρ' := e
      cases z with
      | tup s r =>
        obtain ⟨h1, h2⟩ := das_ok (B := B) R e r (fun i hi => by simpa using List.all_eq_true.mp hB i hi) q
        exact ⟨_, _, rfl, s, h1, h2⟩
    | _ => cases e
theorem unp_ok (G : Gs X T bl) {e : ME} {v : Expr} {is : List Nat} {es : List Expr} {k : Nat} {p pos : Pos} (hB : ∀ i ∈ is, i ∉ B) (ht : tgsD T.N X.env.scope is es = true) (hc : notComp v = true) (hu : notTup v = true) (h : cm T bl X.env.scope e v = true) :
    PS X (.Assign [.Tuple es k p] v pos) (tS T X.K B (.unp is e)) := by
  obtain ⟨a, c, d⟩ := pgs_d G ht
  refine PS.imp (ps_asg (good e G.g h).pe (pg_tup G.g.calm a (d _) (c _)) (by cases v <;> first | rfl | cases hc) (by cases v <;> first | rfl | cases hu)) fun D0 σ H q => ?_
  obtain ⟨ρ, fl, ρ', R, ee, q⟩ := q
  unfold exS at ee
  obtain ⟨⟨d, ρ1⟩, e1, e2⟩ := Option.bind_eq_some_iff.mp ee
  cases d with
  | tuple ds =>
    obtain ⟨ρ2, e3, e4⟩ := Option.map_eq_some_iff.mp e2
    cases e4
    refine ⟨ρ, _, ρ1, R, e1, fun v H1 k s R1 z => ?_⟩
    cases z with
    | tup hs r =>
      obtain ⟨h1, h2⟩ := das_ok (B := B) (Q := D0.nx) R1 e3 r hB fun σ' R2 f => q σ' H1 ((Fr.ev k s R1).trans f) R2
      exact ⟨_, _, rfl, hs, h1, h2⟩
  | _ => cases e2
theorem unpS_ok (G : Gs X T bl) {e : ME} {v : Expr} {i j : Nat} {x y : Str} {k : Nat} {px py ps p pos : Pos} (hi : i ∉ B) (hj : j ∉ B) (hx : tgD T.N X.env.scope i x = true) (hy : tgD T.N X.env.scope j y = true) (hc : notComp v = true) (hu : notTup v = true) (h : cm T bl X.env.scope e v = true) :
    PS X (.Assign [.Tuple [.Name x px, .Starred (.Name y py) ps] k p] v pos) (tS T X.K B (.unpS i j e)) := by
  have two : PGs X [.Name x px, .Name y py] (gNames [i, j]) := pgs_cons (pg_d G hx) (pgs_cons (pg_d G hy) pgs_nil)
  refine PS.imp (ps_asg (good e G.g h).pe (pg_star G.g.calm two (fun _ => rfl) (fun _ => rfl)) (by cases v <;> first | rfl | cases hc) (by cases v <;> first | rfl | cases hu)) fun D0 σ H q => ?_
  obtain ⟨ρ, fl, ρ', R, ee, q⟩ := q
  unfold exS at ee
  obtain ⟨⟨d, ρ1⟩, e1, e2⟩ := Option.bind_eq_some_iff.mp ee
  simp only at e2
  split at e2
  · rename_i d0 ds
    obtain ⟨ρ2, e3, e4⟩ := Option.map_eq_some_iff.mp e2
    cases e4
    refine ⟨ρ, _, ρ1, R, e1, fun v H1 k s R1 z => ?_⟩
    cases z with
    | tup hs r =>
      cases r with
      | cons z0 zr =>
        rename_i x0 xr
        refine ⟨_, x0, xr, rfl, hs, fun L ob hL => ?_⟩
        have sm := same_new (o := .frz ob (.lst xr)) hL
        have per := Per.of_same sm
        have R2 := R1.same sm
        have zz : RzAll X.K (upd H1 L (.frz ob (.lst xr))) [x0, .ref L] [d0, .list ds] := .cons (z0.per per) (.cons (.lst (.inl ⟨ob, upd_same⟩) (zr.per per)) .nil)
        exact (das_ok (B := B) (Q := D0.nx) R2 e3 zz (fun n hn => by
          rcases List.mem_cons.mp hn with rfl | hn
          · exact hi
          · rw [List.mem_singleton.mp hn]; exact hj) fun σ' R3 f => q σ' _ (((Fr.ev k s R1).trans (Fr.ev (Keep.same R1 sm) (Sk.refl _) R2)).trans f) R3).2
  · cases e2
/-- a list or a dict of one's own has changed -/
theorem Fr.change {K : PySem.W.Frag} {σ : St} {ρ ρ1 : Ev} {H H1 : Hp} {i : Nat} {c d : D} {p : Addr} {o : HO} (f : Fr B σ ρ H σ ρ1 H1) (R1 : Rel K H1 σ ρ1) (h : ρ1[i]? = some (.ow c)) (hp : σ[i]? = some (some (.ref p))) (oc : OwnS K H1 p c) (oe : OwnS K (upd H1 p o) p d) (hc : canFz o = true) :
    Rel K (upd H1 p o) σ (ρ1.set i (.ow d)) ∧ Fr B σ ρ H σ (ρ1.set i (.ow d)) (upd H1 p o) := by
  obtain ⟨R2, k⟩ := own_step R1 h hp oc oe hc
  exact ⟨R2, f.trans (Fr.ev k (sk_set h) R2)⟩
theorem set_own (hu : X.A.units + 1 < cLine) : PSet X (fun o i v H Q => rSetL o i v H Q ∨ rSetD o i v H Q) := by
  intro pins s σ H o i v ov iv u Q I ro ri rv h
  rcases h with h | h
  · exact set_list pins s σ H o i v ov iv u Q I ro ri rv h
  · exact set_dict hu pins s σ H o i v ov iv u Q I ro ri rv h
theorem put_ok (G : Gs X T bl) {i : Nat} {k e : ME} {x : Str} {y v : Expr} {p p' pos : Pos} (hv : varB T.N X.env.scope i x = true) (hk : cm T bl X.env.scope k y = true) (he : cm T bl X.env.scope e v = true) (hn : notSlice y = true) (hc : notComp v = true) :
    PS X (.Assign [.Subscript (.Name x p) y p'] v pos) (tS T X.K B (.put i k e)) := by
  have hu : X.A.units + 1 < cLine := Nat.lt_of_le_of_lt (Nat.add_le_add_left (by decide : 1 ≤ 64) _) G.g.units
  refine PS.imp (ps_asg (good e G.g he).pe (pg_sub (pe_name G.g hv) (good k G.g hk).pe (set_own hu) (by intro w; cases y <;> first | rfl | cases hn)) (by cases v <;> first | rfl | cases hc) (by rfl)) fun D0 σ H q => ?_
  obtain ⟨ρ, fl, ρ', R, ee, q⟩ := q
  unfold exS at ee
  obtain ⟨⟨d, ρ1⟩, e1, e2⟩ := Option.bind_eq_some_iff.mp ee
  simp only at e2
  split at e2
  · rename_i ds0 h0
    obtain ⟨⟨dk, ρ2⟩, e3, e4⟩ := Option.bind_eq_some_iff.mp e2
    simp only at e4
    split at e4
    · rename_i j ds h1
      obtain ⟨j', e5, e6⟩ := Option.map_eq_some_iff.mp e4
      cases e6
      refine ⟨ρ, d, ρ1, R, e1, fun w H1 k1 s1 R1 z1 => ?_⟩
      obtain ⟨p0, hp0, _⟩ := R1.ow i _ h0
      refine ⟨_, hp0, ρ1, _, ρ2, R1, e3, fun u H2 k2 s2 R2 z2 => .inl ?_⟩
      cases z2
      obtain ⟨p1, hp1, vs, hvs, za⟩ := R2.ow i _ h1
      rw [hp0] at hp1; cases hp1
      refine ⟨p0, vs, j, j', rfl, rfl, hvs, by rw [za.length]; exact e5, ?_⟩
      have per : Per H2 (upd H2 p0 (.lst (vs.set j' w))) := by
        refine ⟨fun b xs hb => ?_, fun b o u hb => ?_, fun b xs hb => ?_⟩
        · rw [upd_ne (fun e => by subst e; rw [hvs] at hb; cases hb)]; exact hb
        · rw [upd_ne (fun e => by subst e; rw [hvs] at hb; cases hb)]; exact hb
        · rw [upd_ne (fun e => by subst e; rw [hvs] at hb; cases hb)]; exact hb
      obtain ⟨R3, f3⟩ := Fr.change (B := B) (d := .list (ds.set j' d)) (o := .lst (vs.set j' w)) (Fr.ev (k1.trans s1 k2) (s1.trans s2) R2) R2 h1 hp0 ⟨vs, hvs, za⟩ ⟨_, upd_same, (za.set j' (z1.per (k2.per R1))).per per⟩ rfl
      exact q σ _ f3 R3
    · cases e4
  · rename_i ds0 h0
    obtain ⟨⟨dk, ρ2⟩, e3, e4⟩ := Option.bind_eq_some_iff.mp e2
    simp only at e4
    split at e4
    · rename_i j ds hj h1
      split at e4
      · rename_i hz
        obtain ⟨hz, hnb⟩ := hz
        cases e4
        refine ⟨ρ, d, ρ1, R, e1, fun w H1 k1 s1 R1 z1 => ?_⟩
        obtain ⟨p0, hp0, _⟩ := R1.ow i _ h0
        refine ⟨_, hp0, ρ1, _, ρ2, R1, e3, fun u H2 k2 s2 R2 z2 => .inr ?_⟩
        have eu := ry_key (.inl z2) hj
        subst eu
        obtain ⟨p1, hp1, oo⟩ := R2.ow i _ h1
        rw [hp0] at hp1; cases hp1
        obtain ⟨vs, hvs, za⟩ := oo.s (by simpa using hnb)
        refine ⟨p0, _, rfl, DPut.k hvs (by rw [za.length]; exact hz), ?_⟩
        have per : Per H2 (upd H2 p0 (.dK (putK vs j w))) := by
          refine ⟨fun b xs hb => ?_, fun b o u hb => ?_, fun b xs hb => ?_⟩
          · rw [upd_ne (fun e => by subst e; rw [hvs] at hb; cases hb)]; exact hb
          · rw [upd_ne (fun e => by subst e; rw [hvs] at hb; cases hb)]; exact hb
          · rw [upd_ne (fun e => by subst e; rw [hvs] at hb; cases hb)]; exact hb
        obtain ⟨R3, f3⟩ := Fr.change (B := B) (d := .dict (putD j d ds)) (o := .dK (putK vs j w)) (Fr.ev (k1.trans s1 k2) (s1.trans s2) R2) R2 h1 hp0 ⟨vs, hvs, za⟩ ⟨_, upd_same, RzKv.per per (put_rz za (z1.per (k2.per R1)))⟩ rfl
        exact q σ _ f3 R3
      · cases e4
    · cases e4
  · cases e2
/-- one's own thing stands still from now on -/
theorem freeze_own {pins : List (Addr × Obj)} {σ : St} {H : Hp} {s : Shared} {ρ : Ev} {j : Nat} {d : D} {p : Addr} (I : Inv X pins σ H s) (R : Rel X.K H σ ρ) (h : ρ[j]? = some (.ow d)) (hp : σ[j]? = some (some (.ref p))) (hB : j ∉ B) :
    ∃ H', Inv X pins σ H' s ∧ Rel X.K H' σ (ρ.set j (.da (frzD d))) ∧ Fr B σ ρ H σ (ρ.set j (.da (frzD d))) H' ∧ Rz X.K H' (.ref p) (frzD d) := by
  obtain ⟨p', hp', o⟩ := R.ow j d h
  rw [hp] at hp'; cases hp'
  obtain ⟨HL, IL, h1, h2, z⟩ := o.lock I
  have per := still_per h1 h2
  have lj : j < ρ.length := (List.getElem?_eq_some_iff.mp h).1
  have other : ∀ {k : Nat} {e : D}, (ρ.set j (.da (frzD d)))[k]? = some (.ow e) → k ≠ j ∧ ρ[k]? = some (.ow e) := fun {k e} hk => by
    by_cases e' : j = k
    · subst e'
      rw [List.getElem?_set_self lj] at hk; cases hk
    · rw [List.getElem?_set_ne e'] at hk
      exact ⟨fun q => e' q.symm, hk⟩
  -- the other slots' things
  have st : ∀ {k : Nat} {e : D} {q b : Addr}, k ≠ j → ρ[k]? = some (.ow e) → σ[k]? = some (some (.ref q)) → Foot H q e b → HL b = H b := fun {k e q b} nk hk hq f => h1 b fun f2 => R.ne k j e d q p b nk hk h hq hp f f2
  have ff : ∀ {k : Nat} {e : D} {q : Addr}, k ≠ j → ρ[k]? = some (.ow e) → σ[k]? = some (some (.ref q)) → ∀ b, (Foot HL q e b ↔ Foot H q e b) := fun {k e q} nk hk hq b => Foot.iff (st nk hk hq (Foot.self ..))
  refine ⟨HL, IL, ⟨fun k e hk => ?_, fun k e hk => ?_, fun a b e f q r x hab g1 g2 g3 g4 f1 f2 => ?_, by rw [List.length_set]; exact R.len, fun t ht => still_tabs h1 h2 _ _ (R.tb t ht), fun k hk => by
    by_cases e' : j = k
    · subst e'
      rw [List.getElem?_set_self lj] at hk; cases hk
    · rw [List.getElem?_set_ne e'] at hk
      exact ⟨(R.fv k hk).1, (R.fv k hk).2.trans per⟩⟩, ⟨fun b u hb n t => ?_, fun k b w' => ?_, still_alive h1 h2, (fun P q _ => still_tabs h1 h2 P q), fun k hk => ⟨rfl, fun e he => ?_⟩⟩, z⟩
  · by_cases e' : j = k
    · subst e'
      rw [List.getElem?_set_self lj] at hk; cases hk
      exact ⟨_, hp, z⟩
    · rw [List.getElem?_set_ne e'] at hk
      obtain ⟨v, a, zz⟩ := R.da k e hk
      exact ⟨v, a, zz.per per⟩
  · obtain ⟨nk, hk⟩ := other hk
    obtain ⟨q, a, oo⟩ := R.ow k e hk
    exact ⟨q, a, oo.keep (fun b f => st nk hk a f) per⟩
  · obtain ⟨n1, g1⟩ := other g1
    obtain ⟨n2, g2⟩ := other g2
    exact R.ne a b e f q r x hab g1 g2 g3 g4 ((ff n1 g1 g3 x).mp f1) ((ff n2 g2 g4 x).mp f2)
  · rw [h1 b fun f => n ⟨j, d, p, h, hp, f⟩]; exact hb
  · obtain ⟨e, q, g1, g2, f⟩ := w'
    obtain ⟨nk, g1⟩ := other g1
    exact .inl ⟨e, q, g1, g2, (ff nk g1 g2 b).mp f⟩
  · have e' : j ≠ k := fun q => hB (by rw [q]; exact hk)
    exact ⟨e, by rw [List.getElem?_set_ne e']; exact he⟩
/-- x = y, y one's own: both stand still from now on -/
theorem asgO_ok (G : Gs X T bl) {i j : Nat} {x y : Str} {py p pos : Pos} (hBi : i ∉ B) (hBj : j ∉ B) (ht : tgD T.N X.env.scope i x = true) (hv : varB T.N X.env.scope j y = true) : PS X (.Assign [.Name x py] (.Name y p) pos) (tS T X.K B (.asgO i j)) := by
  obtain ⟨h1, h2⟩ := tgD_spec ht
  refine ⟨fun pins s σ H D0 I q => ?_⟩
  obtain ⟨ρ, fl, ρ', R, ee, q⟩ := q
  unfold exS at ee
  split at ee
  · rename_i d hd
    obtain ⟨ρ2, e3, e4⟩ := Option.map_eq_some_iff.mp ee
    cases e4
    obtain ⟨p0, hp0, _⟩ := R.ow j d hd
    obtain ⟨H', I', R', f', z⟩ := freeze_own (B := B) I R hd hp0 hBj
    obtain ⟨R3, o3⟩ := R'.set_da e3 z
    exact (ps_set (te := tVar j) (i := i) (by rw [G.g.hN]; exact G.g.nd) (by rw [G.g.hN]; exact h1) h2 (pe_name G.g hv) (swaps_off (v := .Name y p) rfl) (.inl (G.fn x))).run pins s σ H' D0 I' ⟨_, hp0, q _ _ (f'.trans (Fr.da e3 o3 hBi)) R3⟩
  · cases ee
/-- x.append(y), y one's own: y stands still from now on -/
theorem appO_ok (G : Gs X T bl) {i j : Nat} {x y : Str} {p py apos cpos pos : Pos} (hBj : j ∉ B) (hv : varB T.N X.env.scope i x = true) (hw : varB T.N X.env.scope j y = true) (hl : (apos.endLine == cpos.line) = true) :
    PS X (.Expr (.Call (.Attribute (.Name x p) "append" apos) [.Name y py] [] cpos) pos) (tS T X.K B (.appO i j)) := by
  have hst := star_off (e := .Name y py) (es := []) (env := X.env) rfl
  have base := ps_expr (pos := pos) (pe_bm PySem.F.plainAttrs_list PySem.F.slot_list_append PySem.F.type_list_append mt_append (pe_name (pos := p) G.g hv) (pa_cons (pe_name (pos := py) G.g hw) pa_nil hst) rfl (by rw [hst]; rfl) hl hst (by rfl)) (by rfl)
  refine ⟨fun pins s σ H D0 I q => ?_⟩
  obtain ⟨ρ, fl, ρ', R, ee, q⟩ := q
  unfold exS at ee
  split at ee
  · cases ee
  · rename_i hij
    split at ee
    · rename_i ds d hi hj
      split at ee
      · rename_i hz
        cases ee
        obtain ⟨pj, hpj, _⟩ := R.ow j d hj
        obtain ⟨H', I', R', f', z⟩ := freeze_own (B := B) I R hj hpj hBj
        have hi' : (ρ.set j (.da (frzD d)))[i]? = some (.ow (.list ds)) := by rw [List.getElem?_set_ne (fun e => hij e.symm)]; exact hi
        obtain ⟨pi, hpi, vs, hvs, za⟩ := R'.ow i _ hi'
        refine base.run pins s σ H' D0 I' ⟨_, hpi, .inl ⟨rfl, _, SqL.of hvs⟩, _, hpj, ?_⟩
        refine ⟨pi, vs, .ref pj, rfl, rfl, hvs, by rw [za.length]; exact hz, ?_⟩
        have per : Per H' (upd H' pi (.lst (vs ++ [.ref pj]))) := by
          refine ⟨fun b xs hb => ?_, fun b o u hb => ?_, fun b xs hb => ?_⟩
          · rw [upd_ne (fun e => by subst e; rw [hvs] at hb; cases hb)]; exact hb
          · rw [upd_ne (fun e => by subst e; rw [hvs] at hb; cases hb)]; exact hb
          · rw [upd_ne (fun e => by subst e; rw [hvs] at hb; cases hb)]; exact hb
        obtain ⟨R3, f3⟩ := Fr.change (B := B) (d := .list (ds ++ [frzD d])) (o := .lst (vs ++ [.ref pj])) f' R' hi' hpi ⟨vs, hvs, za⟩ ⟨_, upd_same, (za.append (.cons z .nil)).per per⟩ rfl
        exact q σ _ f3 R3
      · cases ee
    · cases ee
theorem app_ok (G : Gs X T bl) {i : Nat} {e : ME} {x : Str} {y : Expr} {p apos cpos pos : Pos} (hv : varB T.N X.env.scope i x = true) (n : notStar y = true) (he : cm T bl X.env.scope e y = true) (hl : (apos.endLine == cpos.line) = true) :
    PS X (.Expr (.Call (.Attribute (.Name x p) "append" apos) [y] [] cpos) pos) (tS T X.K B (.app i e)) := by
  have hst := star_off (es := []) (env := X.env) n
  refine PS.imp (ps_expr (pe_bm PySem.F.plainAttrs_list PySem.F.slot_list_append PySem.F.type_list_append mt_append (pe_name G.g hv) (pa_cons (good e G.g he).pe pa_nil hst) rfl ?_ hl hst (by rfl)) (by rfl)) fun D0 σ H q => ?_
  · rw [hst]; rfl
  · obtain ⟨ρ, fl, ρ', R, ee, q⟩ := q
    unfold exS at ee
    split at ee
    · rename_i ds0 h0
      obtain ⟨⟨d, ρ1⟩, e1, e2⟩ := Option.bind_eq_some_iff.mp ee
      simp only at e2
      split at e2
      · rename_i ds h1
        split at e2
        · rename_i hz
          cases e2
          obtain ⟨p0, hp0, vs0, hvs0, _⟩ := R.ow i _ h0
          refine ⟨_, hp0, .inl ⟨rfl, _, SqL.of hvs0⟩, ρ, d, ρ1, R, e1, fun w H1 k1 s1 R1 z1 => ?_⟩
          obtain ⟨p1, hp1, vs, hvs, za⟩ := R1.ow i _ h1
          rw [hp0] at hp1; cases hp1
          refine ⟨p0, vs, w, rfl, rfl, hvs, by rw [za.length]; exact hz, ?_⟩
          have per : Per H1 (upd H1 p0 (.lst (vs ++ [w]))) := by
            refine ⟨fun b xs hb => ?_, fun b o u hb => ?_, fun b xs hb => ?_⟩
            · rw [upd_ne (fun e => by subst e; rw [hvs] at hb; cases hb)]; exact hb
            · rw [upd_ne (fun e => by subst e; rw [hvs] at hb; cases hb)]; exact hb
            · rw [upd_ne (fun e => by subst e; rw [hvs] at hb; cases hb)]; exact hb
          obtain ⟨R3, f3⟩ := Fr.change (B := B) (d := .list (ds ++ [d])) (o := .lst (vs ++ [w])) (Fr.ev k1 s1 R1) R1 h1 hp0 ⟨vs, hvs, za⟩ ⟨_, upd_same, (za.append (.cons z1 .nil)).per per⟩ rfl
          exact q σ _ f3 R3
        · cases e2
      · cases e2
    · cases ee
theorem ife_ok {c : ME} {a b : MSs} {t : Expr} {x y : List Stmt} {pos : Pos} (hc : PT X t (tTst T X.K c)) (ha : PSs X x (tSs T X.K B a)) (hb : PSs X y (tSs T X.K B b)) : PS X (.If t x y pos) (tS T X.K B (.ife c a b)) := by
  refine PS.imp (ps_if hc ha hb) fun D0 σ H q => ?_
  obtain ⟨ρ, fl, ρ', R, ee, q⟩ := q
  unfold exS at ee
  obtain ⟨⟨d, ρ1⟩, e1, e2⟩ := Option.bind_eq_some_iff.mp ee
  have up : ∀ {H1 : Hp} {σ' : St} {H' : Hp}, Keep σ ρ H ρ1 H1 → Sk ρ ρ1 → Rel X.K H1 σ ρ1 → Fr B σ ρ1 H1 σ' ρ' H' → Rel X.K H' σ' ρ' → Post X.K B D0 H1 fl σ' ρ' H' := fun {H1 σ' H'} k s R1 f R' => by
    have p := q σ' H' ((Fr.ev k s R1).trans f) R'
    cases fl with
    | ro d =>
      intro a o w
      refine p a o ?_
      rcases w with w | w
      · exact .inl ⟨fun b f => k.alive b (w.1 b f), w.2⟩
      · exact .inr w
    | _ => exact p
  cases d with
  | bool k =>
    refine ⟨ρ, k, ρ1, R, e1, fun H1 k1 s1 R1 => ?_⟩
    cases k with
    | true =>
      rw [if_pos rfl]
      exact ⟨ρ1, fl, ρ', R1, e2, fun σ' H' f R' => up k1 s1 R1 f R'⟩
    | false =>
      rw [if_neg Bool.false_ne_true]
      exact ⟨ρ1, fl, ρ', R1, e2, fun σ' H' f R' => up k1 s1 R1 f R'⟩
  | _ => cases e2
theorem for_ok (G : Gs X T bl) {tg : Tg} {it : MI} {body : MSs} {t iter : Expr} {x : List Stmt} {pos : Pos} (ht : cmTD T.N X.env.scope tg t = true) (hB : tgOff B tg = true) (hi : PI X t iter (tIv T X.K it)) (hs : notSet iter = true) (hb : PSs X x (tSs T X.K B body)) :
    PS X (.For t iter x [] pos) (tS T X.K B (.for tg it body)) := by
  refine PS.imp (ps_for G.pass G.g.calm hi (pg_td G ht) hb (by intro z; cases iter <;> first | rfl | cases hs)) fun D0 σ H q => ?_
  obtain ⟨ρ, fl, ρe, R, ee, q⟩ := q
  unfold exS at ee
  obtain ⟨⟨ds, ρ1⟩, e1, e2⟩ := Option.bind_eq_some_iff.mp ee
  refine ⟨ρ, ds, ρ1, R, e1, fun J H1 k1 s1 R1 ir ln => ?_⟩
  have f1 : Fr B σ ρ H σ ρ1 H1 := Fr.ev k1 s1 R1
  generalize hf : (fun x ρ => (bindT tg x ρ).bind fun ρ1 => exSs T body ρ1) = f at e2
  let Pv : Nat → St → Hp → Prop := fun i σ' H' => ∃ ρi, Rel X.K H' σ' ρi ∧ Fr B σ ρ1 H1 σ' ρi H' ∧ forLoop f (ds.drop i) ρi = some (fl, ρe)
  have h0 : Pv 0 σ H1 := ⟨ρ1, R1, Fr.refl, e2⟩
  have last : ∀ {n : Nat} {σ' : St} {H' : Hp}, n = ds.length → Pv n σ' H' → D0.nx σ' H' := fun {n σ' H'} hn P => by
    obtain ⟨ρi, Ri, fi, ei⟩ := P
    subst hn
    rw [List.drop_length] at ei
    cases ei
    exact q σ' H' (f1.trans fi) Ri
  have turn : ∀ {i : Nat} {y : V} {d : D} {σ' : St} {H' : Hp}, ds[i]? = some d → Rz X.K H' y d → Pv i σ' H' → gTg X.K tg y σ' H' fun σ2 H2 => tSs T X.K B body { D0 with nx := Pv (i + 1), ct := Pv (i + 1), bk := D0.nx } σ2 H2 := fun {i y d σ' H'} hd z P => by
    obtain ⟨ρi, Ri, fi, ei⟩ := P
    have hi' := (List.getElem?_eq_some_iff.mp hd).1
    have hdrop : ds.drop i = d :: ds.drop (i + 1) := by
      rw [List.drop_eq_getElem_cons hi']
      congr 1
      rw [List.getElem?_eq_getElem hi'] at hd
      exact Option.some.inj hd
    rw [hdrop] at ei
    unfold forLoop at ei
    obtain ⟨⟨fl1, ρ'⟩, g1, g2⟩ := Option.bind_eq_some_iff.mp ei
    rw [← hf] at g1
    obtain ⟨ρ2, g3, g4⟩ := Option.bind_eq_some_iff.mp g1
    refine bind_ok Ri g3 z hB fun σ2 R2 f2 => ⟨ρ2, fl1, ρ', R2, g4, fun σ3 H3 f3 R3 => ?_⟩
    have f4 := (fi.trans f2).trans f3
    have f2' := fi.trans f2
    cases fl1 with
    | nx => exact ⟨ρ', R3, f4, g2⟩
    | ct => exact ⟨ρ', R3, f4, g2⟩
    | bk => cases g2; exact q σ3 H3 (f1.trans f4) R3
    | rt d => cases g2; exact q σ3 H3 (f1.trans f4) R3
    | ro d =>
      cases g2
      intro a o w
      refine q σ3 H3 (f1.trans f4) R3 a o ?_
      rcases w with w | w
      · exact .inl ⟨fun b f => f1.alive b (f2'.alive b (w.1 b f)), w.2⟩
      · exact .inr w
  have per : ∀ {i : Nat} {σ' : St} {H' : Hp}, Pv i σ' H' → Per H1 H' := fun P => by
    obtain ⟨_, _, fi, _⟩ := P
    exact fi.per R1
  rcases ir with ir | ⟨_, ir⟩
  case inr =>
    have pair : ∀ {i : Nat} {v : V} {d : D} {es : List D} {y : V} {σ' : St} {H' H2 : Hp}, ds = enumD es → es[i]? = some d → Rz X.K H' v d → Pv i σ' H' → (∃ t, y = .ref t ∧ H' t = none ∧ H2 = upd H' t (.tup [.int (i : Nat), v])) →
        gTg X.K tg y σ' H2 fun σ2 H2 => tSs T X.K B body { D0 with nx := Pv (i + 1), ct := Pv (i + 1), bk := D0.nx } σ2 H2 := fun {i v d es y σ' H' H2} e hd z P ⟨t, ey, ht', eH⟩ => by
      subst ey eH
      obtain ⟨ρi, Ri, fi, ei⟩ := P
      have sm := same_new (o := .tup [V.int (i : Nat), v]) ht'
      exact turn (by rw [e]; exact enumD_at hd) (.tup (.inl (.inl upd_same)) (RzAll.per (Per.of_same sm) (.cons (.int _) (.cons z .nil)))) ⟨ρi, Ri.same sm, fi.trans (Fr.ev (Keep.same Ri sm) (Sk.refl _) (Ri.same sm)), ei⟩
    cases ir with
    | lst hs ha =>
      refine for_it walk_enum Pv h0 (fun i σ' H' _ P => (hs.per (per P)).sq) (fun i y σ' H' H2 hi P yy => ?_) fun σ' H' P => last (by rw [enumD_len]; exact ha.length) P
      obtain ⟨t, v0, x, h1, h2, h3, h4, h5⟩ := yy
      cases h4
      obtain ⟨d, hd, z⟩ := ha.get' h5
      exact pair rfl hd (z.per (per P)) P ⟨t, h1, h2, h3⟩
    | tup hs ha =>
      refine for_it walk_enT Pv h0 (fun i σ' H' _ P => SqT.per (per P) hs) (fun i y σ' H' H2 hi P yy => ?_) fun σ' H' P => last (by rw [enumD_len]; exact ha.length) P
      obtain ⟨t, v0, x, h1, h2, h3, h4, h5⟩ := yy
      cases h4
      obtain ⟨d, hd, z⟩ := ha.get' h5
      exact pair rfl hd (z.per (per P)) P ⟨t, h1, h2, h3⟩
  cases ir with
  | lst hs ha =>
    refine for_list (K := X.K) Pv h0 (fun i σ' H' _ P => (hs.per (per P)).sq) (fun i y σ' H' hy P => ?_) fun σ' H' P => last ha.length P
    obtain ⟨d, hd, z⟩ := ha.get' hy
    exact turn hd (z.per (per P)) P
  | tup hs ha =>
    refine for_tup (K := X.K) Pv h0 (fun i σ' H' _ P => SqT.per (per P) hs) (fun i y σ' H' hy P => ?_) fun σ' H' P => last ha.length P
    obtain ⟨d, hd, z⟩ := ha.get' hy
    exact turn hd (z.per (per P)) P
  | rng =>
    rename_i lo n
    refine for_range Pv h0 (fun i σ' H' hi P => ?_) fun σ' H' P => last (rngD_length lo n).symm P
    exact turn (d := .int (lo + i)) (by simp [rngD, hi]) (.int _) P
  | str =>
    rename_i z
    refine for_it walk_str Pv h0 (fun _ _ _ _ _ => trivial) (fun i y σ' H' H2 hi P yy => ?_) fun σ' H' P => last (signsD_len z).symm P
    obtain ⟨rfl, c, hc, rfl⟩ := yy
    exact turn (d := .str ⟨#[c]⟩) (by simp [signsD, hc]) (.str _) P
  | keys hd hr =>
    refine for_it walk_keys Pv h0 (fun i σ' H' _ P => (per P).2.1 _ _ _ hd) (fun i y σ' H' H2 hi P yy => ?_) fun σ' H' P => last (by rw [List.length_map, hr.length]) P
    obtain ⟨rfl, k, v, hk, rfl⟩ := yy
    obtain ⟨d, e1, _⟩ := hr.get' hk
    exact turn (d := keyD k) (by simp [e1]) (rz_key k) P
end
mutual
theorem goodS {T : CT} {bl : List Str} {B : List Nat} : ∀ (m : MS) {X : Cx} (G : Gs X T bl) {s : Stmt}, cmS T bl X.env.scope B m s = true → PS X s (tS T X.K B m)
  | .asg i e, X, G, s, h => by
    unfold cmS at h
    split at h
    · simp only [Bool.and_eq_true, Bool.or_eq_true, Bool.not_eq_true'] at h
      obtain ⟨⟨⟨h1, h2⟩, h3⟩, h4⟩ := h
      have hB : i ∉ B := by simpa using h2
      rcases h4 with h4 | h4
      · exact asg_ok G hB h1 h4 h3
      · exact frz_ok hB h4.1.2 (store_pe G h1 h4.1.1 (cmF_of h3) h4.2)
    · cases h
  | .new i e, X, G, s, h => by
    unfold cmS at h
    split at h
    · simp only [Bool.and_eq_true, Bool.not_eq_true'] at h
      obtain ⟨⟨⟨⟨h1, h2⟩, h3⟩, h4⟩, h5⟩ := h
      exact new_ok (by simpa using h2) (store_pe G h1 h4 h3 h5)
    · cases h
  | .unp is e, X, G, s, h => by
    unfold cmS at h
    split at h
    · simp only [Bool.and_eq_true] at h
      obtain ⟨⟨⟨⟨h1, h2⟩, h3⟩, h4⟩, h5⟩ := h
      exact unp_ok G (fun i hi => by simpa using List.all_eq_true.mp h2 i hi) h1 h4 h5 h3
    · cases h
  | .put i k e, X, G, s, h => by
    unfold cmS at h
    split at h
    · simp only [Bool.and_eq_true] at h
      obtain ⟨⟨⟨⟨h1, h2⟩, h3⟩, h4⟩, h5⟩ := h
      exact put_ok G h1 h2 h3 h4 h5
    · cases h
  | .app i e, X, G, s, h => by
    unfold cmS at h
    split at h
    · simp only [Bool.and_eq_true, decide_eq_true_eq] at h
      obtain ⟨⟨⟨⟨h1, rfl⟩, h3⟩, h4⟩, h5⟩ := h
      exact app_ok G h1 h3 h4 h5
    · cases h
  | .unpS i j e, X, G, s, h => by
    unfold cmS at h
    split at h
    · simp only [Bool.and_eq_true, Bool.not_eq_true'] at h
      obtain ⟨⟨⟨⟨⟨⟨h1, h2⟩, h3⟩, h4⟩, h5⟩, h6⟩, h7⟩ := h
      exact unpS_ok G (by simpa using h3) (by simpa using h4) h1 h2 h6 h7 h5
    · cases h
  | .appO i j, X, G, s, h => by
    unfold cmS at h
    split at h
    · simp only [Bool.and_eq_true, decide_eq_true_eq, Bool.not_eq_true'] at h
      obtain ⟨⟨⟨⟨h1, h2⟩, h3⟩, rfl⟩, h5⟩ := h
      exact appO_ok G (by simpa using h3) h1 h2 h5
    · cases h
  | .asgO i j, X, G, s, h => by
    unfold cmS at h
    split at h
    · simp only [Bool.and_eq_true, Bool.not_eq_true'] at h
      obtain ⟨⟨⟨h1, h2⟩, h3⟩, h4⟩ := h
      exact asgO_ok G (by simpa using h2) (by simpa using h4) h1 h3
    · cases h
  | .ife c a b, X, G, s, h => by
    unfold cmS at h
    split at h
    · simp only [Bool.and_eq_true] at h
      exact ife_ok (good c G.g h.1.1).pt (goodSs a G h.1.2) (goodSs b G h.2)
    · cases h
  | .for tg it body, X, G, s, h => by
    unfold cmS at h
    split at h
    · simp only [Bool.and_eq_true] at h
      obtain ⟨⟨⟨⟨⟨h1, h2⟩, h3⟩, h4⟩, hE⟩, h5⟩ := h
      exact for_ok G h1 h2 (goodI it G.g h3 hE) h4 (goodSs body G h5)
    · cases h
  | .ret e, X, G, s, h => by
    unfold cmS at h
    split at h
    · refine PS.imp (ps_ret (good e G.g h).pe) fun D0 σ H q => ?_
      obtain ⟨ρ, fl, ρ', R, ee, q⟩ := q
      unfold exS at ee
      obtain ⟨⟨d, ρ1⟩, e1, e2⟩ := Option.map_eq_some_iff.mp ee
      cases e2
      exact ⟨ρ, d, ρ', R, e1, fun v H' k s R' z => q σ H' (Fr.ev k s R') R' v z⟩
    · cases h
  | .retN, X, G, s, h => by
    unfold cmS at h
    split at h
    · refine PS.imp ps_retN fun D0 σ H q => ?_
      obtain ⟨ρ, fl, ρ', R, ee, q⟩ := q
      unfold exS at ee
      cases ee
      exact q σ H Fr.refl R _ .non
    · cases h
  | .retO i, X, G, s, h => by
    unfold cmS at h
    split at h
    · simp only [Bool.and_eq_true, Bool.not_eq_true'] at h
      have hB : i ∉ B := by simpa using h.2
      refine PS.imp (ps_ret (pe_name G.g h.1)) fun D0 σ H q => ?_
      obtain ⟨ρ, fl, ρ', R, ee, q⟩ := q
      unfold exS at ee
      split at ee
      · rename_i d hd
        cases ee
        obtain ⟨p, hp, o⟩ := R.ow i _ hd
        exact ⟨_, hp, q σ H Fr.refl R p o (.inr ⟨i, hB, hd, hp⟩)⟩
      · cases ee
    · cases h
  | .retF e, X, G, s, h => by
    unfold cmS at h
    split at h
    · rw [Bool.and_eq_true] at h
      refine PS.imp (ps_ret (fresh_pe G.g h.2 h.1)) fun D0 σ H q => ?_
      obtain ⟨ρ, fl, ρ', R, ee, q⟩ := q
      unfold exS at ee
      obtain ⟨⟨d, ρ1⟩, e1, e2⟩ := Option.map_eq_some_iff.mp ee
      cases e2
      exact ⟨ρ, d, ρ', R, e1, fun p H' k s R' hp hn o => q σ H' (Fr.ev k s R') R' p o (.inl ⟨hp, hn⟩)⟩
    · cases h
  | .ex e, X, G, s, h => by
    unfold cmS at h
    split at h
    · rw [Bool.and_eq_true] at h
      refine PS.imp (ps_expr (good e G.g h.1).pe (swaps_off h.2)) fun D0 σ H q => ?_
      obtain ⟨ρ, fl, ρ', R, ee, q⟩ := q
      unfold exS at ee
      obtain ⟨⟨d, ρ1⟩, e1, e2⟩ := Option.map_eq_some_iff.mp ee
      cases e2
      exact ⟨ρ, d, ρ', R, e1, fun v H' k s R' z => q σ H' (Fr.ev k s R') R'⟩
    · cases h
  | .die, X, G, s, h => ⟨fun _ _ _ _ _ _ q => by
    obtain ⟨ρ, fl, ρ', R, ee, q⟩ := q
    unfold exS at ee
    cases ee⟩
  | .pass, X, G, s, h => by
    unfold cmS at h
    split at h
    · refine PS.imp ps_pass fun D0 σ H q => ?_
      obtain ⟨ρ, fl, ρ', R, ee, q⟩ := q
      unfold exS at ee
      cases ee
      exact q σ H Fr.refl R
    · cases h
  | .brk, X, G, s, h => by
    unfold cmS at h
    split at h
    · refine PS.imp ps_break fun D0 σ H q => ?_
      obtain ⟨ρ, fl, ρ', R, ee, q⟩ := q
      unfold exS at ee
      cases ee
      exact q σ H Fr.refl R
    · cases h
  | .cnt, X, G, s, h => by
    unfold cmS at h
    split at h
    · refine PS.imp ps_continue fun D0 σ H q => ?_
      obtain ⟨ρ, fl, ρ', R, ee, q⟩ := q
      unfold exS at ee
      cases ee
      exact q σ H Fr.refl R
    · cases h
  | .fset i f e, X, G, s, h => by
    unfold cmS at h
    split at h
    · simp only [Bool.and_eq_true, decide_eq_true_eq] at h
      obtain ⟨⟨⟨h1, rfl⟩, h3⟩, h4⟩ := h
      exact fset_ok G h1 h3 h4
    · cases h
  | .fnew i f e, X, G, s, h => by
    unfold cmS at h
    split at h
    · simp only [Bool.and_eq_true, decide_eq_true_eq] at h
      obtain ⟨⟨⟨⟨h1, rfl⟩, h3⟩, h4⟩, h5⟩ := h
      exact fnew_ok G h1 (fresh_pe G.g h4 h3) h5
    · cases h
  | .fput i f k e, X, G, s, h => by
    unfold cmS at h
    split at h
    · simp only [Bool.and_eq_true, decide_eq_true_eq] at h
      obtain ⟨⟨⟨⟨⟨h1, rfl⟩, h3⟩, h4⟩, h5⟩, h6⟩ := h
      exact fput_ok G h1 h3 h4 h5 h6
    · cases h
  | .fapp i f e, X, G, s, h => by
    unfold cmS at h
    split at h
    · simp only [Bool.and_eq_true, decide_eq_true_eq] at h
      obtain ⟨⟨⟨⟨⟨h1, rfl⟩, rfl⟩, h4⟩, h5⟩, h6⟩ := h
      exact fapp_ok G h1 h4 h5 h6
    · cases h
theorem goodSs {T : CT} {bl : List Str} {B : List Nat} : ∀ (m : MSs) {X : Cx} (G : Gs X T bl) {ss : List Stmt}, cmSs T bl X.env.scope B m ss = true → PSs X ss (tSs T X.K B m)
  | .nil, X, G, ss, h => by
    cases ss with
    | nil => exact nil_ok
    | cons _ _ => simp [cmSs] at h
  | .cons m r, X, G, ss, h => by
    cases ss with
    | nil => simp [cmSs] at h
    | cons s ss =>
      simp only [cmSs, Bool.and_eq_true] at h
      exact seq_ok (goodS m G h.1) (goodSs r G h.2)
end
end Mp
namespace Mp
open PySem PySem.Spec L2 LamX
open PyProof.Rows hiding St
variable [LamT]

/-! ### a def's denotation -/
def initArgs : List Bool → List D → Ev
  | true :: m, d :: ds => .ow d :: initArgs m ds
  | false :: m, d :: ds => .da d :: initArgs m ds
  | _, _ => []
def outsFrom : List Bool → Nat → Ev → Option (List D)
  | [], _, _ => some []
  | false :: m, i, ρ => outsFrom m (i + 1) ρ
  | true :: m, i, ρ => match ρ[i]? with
    | some (.ow d) => (outsFrom m (i + 1) ρ).map (d :: ·)
    | _ => none
def lentAt : List Bool → Nat → List Nat
  | [], _ => []
  | false :: m, i => lentAt m (i + 1)
  | true :: m, i => i :: lentAt m (i + 1)
def initEv (n : Nat) (mask : List Bool) (ds : List D) : Ev := initArgs mask ds ++ List.replicate (n - ds.length) .un
/-- what a def hands back, and how it leaves what was lent to it -/
def denOf (T : CT) (mask : List Bool) (ro : Bool) (body : MSs) (ds : List D) : Option (D × List D) :=
  if ds.length = mask.length ∧ ds.length ≤ T.N.length then
    (exSs T body (initEv T.N.length mask ds)).bind fun (fl, ρ') => match fl with
      | .rt d => if ro = true then none else (outsFrom mask 0 ρ').map fun os => (d, os)
      | .ro d => if ro = true then (outsFrom mask 0 ρ').map fun os => (d, os) else none
      | .nx => if ro = true then none else (outsFrom mask 0 ρ').map fun os => (.none, os)
      | _ => none
  else none
structure FnG (P : Program) (w : World) (K : PySem.W.Frag) (mg : Str → Option Value) (base : Heap) (k : Nat) (x : Str) (F : FnT) : Prop where
  ex : (∃ (f : Addr) (fd : FuncData) (ps : List Str), mg x = some (.ref f) ∧ PySem.W.keepIn K (.ref f) = true ∧ OkG P w K mg base k f fd ps (spFn K F) ∧ BindsF K fd ps F) ∨ ClsG P w K mg base k x F
/-- a method that keeps its promise -/
structure MthG (P : Program) (w : World) (K : PySem.W.Frag) (mg : Str → Option Value) (base : Heap) (k : Nat) (cls m : Str) (F : FnT) : Prop where
  ex : ∃ (g : Addr) (fd : FuncData) (ps : List Str), (∀ C, ClsN K C cls → PlC K C ∧ Meth K C m g) ∧ OkG P w K mg base k g fd ps (spFn K F) ∧ BindsF K fd ps F
theorem MthG.mono {P : Program} {w : World} {K : PySem.W.Frag} {mg : Str → Option Value} {base : Heap} {j k : Nat} {cls m : Str} {F : FnT} (g : MthG P w K mg base j cls m F) (h : j ≤ k) : MthG P w K mg base k cls m F := by
  obtain ⟨f, fd, ps, a, b, c⟩ := g.ex
  exact ⟨f, fd, ps, a, b.mono h, c⟩
/-- what of the text's top a def leans on -/
structure TopG (P : Program) (w : World) (K : PySem.W.Frag) (mg : Str → Option Value) (base : Heap) (k : Nat) (T : CT) (bl : List Str) : Prop where
  blt : ∀ x ∈ bl, mg x = none
  con : ∀ (g : Nat) (x : Str) (d : D), T.cons[g]? = some (x, d) → ∃ u v, mg x = some u ∧ RelV v u ∧ ∀ H, Rz K H v d
  fn : ∀ (f : Nat) (x : Str) (F : FnT), T.fns[f]? = some (x, F) → FnG P w K mg base k x F
  fld : ∀ p ∈ T.flds, ∀ C, ClsN K C p.1 → PySem.W.findIn K (.ref C) p.2 = some none := by exact fun _ h => nomatch h
  isc : ∀ p ∈ T.isc, ∃ v u, NameV mg p.1.2 v u ∧ ∀ C, ClsN K C p.1.1 → PySem.W.kitOne K (.ref C) u = some p.2 := by exact fun _ h => nomatch h
  mth : ∀ (f : Nat) (m : Str) (al : List (Str × FnT)), T.mts[f]? = some (m, al) → ∀ cls F, al.lookup cls = some F → MthG P w K mg base k cls m F := by exact fun _ _ _ h => nomatch h
  pld : ∀ f ∈ T.pls, ∀ (x : Str) (F : FnT), T.fns[f]? = some (x, F) → ∃ (f : Addr) (fd : FuncData) (ps : List Str), mg x = some (.ref f) ∧ PySem.W.keepIn K (.ref f) = true ∧ OkG P w K mg base k f fd ps (spFn K F) ∧ BindsF K fd ps F := by exact fun _ h => nomatch h
  ho : ∀ (h : Nat) (x : Str) (den : (D → Option D) → D → Option D), T.ho[h]? = some (x, den) → ∃ f : Addr, mg x = some (.ref f) ∧ PySem.W.keepIn K (.ref f) = true ∧ ∀ base' : Heap, (∀ b o, base.get? b = some o → base'.get? b = some o) → HoOk P w K mg base' k f den := by exact fun _ _ _ h => nomatch h
/-- the table of the code object of the function at f stands at P -/
def lamKB (K : PySem.W.Frag) (f P : Addr) : Bool := match K.lookup f with
  | some ⟨_, _, .func fd, _⟩ => (match fd.code with | .ref c => PySem.W.codeHdIn K c P | _ => false)
  | _ => false
/-- lambdas may be made within the def at f -/
structure LamAt (K : PySem.W.Frag) (mg : Str → Option Value) (base : Heap) (f : Addr) (q : Str) : Prop where
  ex : ∃ P, lamKB K f P = true ∧ K.In base ∧ (P, q) ∈ LamT.ts ∧ (∀ t ∈ LamT.ts, t.1 = P → t.2 = q) ∧ base.BuiltinsAt mg P ∧ mainGlobals ≠ P
theorem lamKB_code {K : PySem.W.Frag} {f P : Addr} {oc : Value} {od : Option Addr} {fd : FuncData} {osl : Array (Option Value)} (h : lamKB K f P = true) (lk : K.lookup f = some ⟨oc, od, .func fd, osl⟩) : ∃ c, fd.code = .ref c ∧ PySem.W.codeHdIn K c P = true := by
  unfold lamKB at h
  rw [lk] at h
  simp only at h
  split at h
  · rename_i c e
    exact ⟨c, e, h⟩
  · cases h
section
variable {K : PySem.W.Frag} {H : Hp}
theorem args_len : ∀ {m : List Bool} {vs : List V} {ds : List D}, ArgsOk K H m vs ds → ds.length = m.length
  | _, _, _, .nil => rfl
  | _, _, _, .v _ r => congrArg Nat.succ (args_len r)
  | _, _, _, .o _ r => congrArg Nat.succ (args_len r)
theorem mem_lentAt : ∀ {m : List Bool} {i j : Nat}, j ∈ lentAt m i ↔ ∃ k, j = i + k ∧ m[k]? = some true
  | [], i, j => ⟨fun h => (List.not_mem_nil h).elim, fun ⟨k, _, h⟩ => by simp at h⟩
  | false :: m, i, j => by
    show j ∈ lentAt m (i + 1) ↔ _
    rw [mem_lentAt]
    constructor
    · rintro ⟨k, e, h⟩; exact ⟨k + 1, by omega, by simpa using h⟩
    · rintro ⟨k, e, h⟩
      cases k with
      | zero => simp at h
      | succ k => exact ⟨k, by omega, by simpa using h⟩
  | true :: m, i, j => by
    show j ∈ i :: lentAt m (i + 1) ↔ _
    rw [List.mem_cons, mem_lentAt]
    constructor
    · rintro (e | ⟨k, e, h⟩)
      · exact ⟨0, by omega, rfl⟩
      · exact ⟨k + 1, by omega, by simpa using h⟩
    · rintro ⟨k, e, h⟩
      cases k with
      | zero => exact .inl (by omega)
      | succ k => exact .inr ⟨k, by omega, by simpa using h⟩
theorem init_ow : ∀ {m : List Bool} {vs : List V} {ds : List D} {n i : Nat} {d : D}, ArgsOk K H m vs ds → (initArgs m ds ++ List.replicate n Slot.un)[i]? = some (.ow d) → ∃ p, vs[i]? = some (.ref p) ∧ ds[i]? = some d ∧ m[i]? = some true ∧ Own K H p d ∧ (p, d) ∈ lent m vs ds
  | _, _, _, n, i, d, .nil, h => by
    simp only [initArgs, List.nil_append, List.getElem?_replicate] at h
    split at h <;> cases h
  | _, _, _, n, 0, d, .v z r, h => by simp [initArgs] at h
  | _, _, _, n, i + 1, d, .v z r, h => by
    obtain ⟨p, h1, h2, h3, h4, h5⟩ := init_ow (n := n) (i := i) r (by simpa [initArgs] using h)
    exact ⟨p, by simpa using h1, by simpa using h2, by simpa using h3, h4, by rw [lent_f]; exact h5⟩
  | _, _, _, n, 0, d, .o o r, h => by
    simp [initArgs] at h
    subst h
    exact ⟨_, rfl, rfl, rfl, o, List.mem_cons_self⟩
  | _, _, _, n, i + 1, d, .o o r, h => by
    obtain ⟨p, h1, h2, h3, h4, h5⟩ := init_ow (n := n) (i := i) r (by simpa [initArgs] using h)
    exact ⟨p, by simpa using h1, by simpa using h2, by simpa using h3, h4, List.mem_cons_of_mem _ h5⟩
theorem init_da : ∀ {m : List Bool} {vs : List V} {ds : List D} {n i : Nat} {d : D}, ArgsOk K H m vs ds → (initArgs m ds ++ List.replicate n Slot.un)[i]? = some (.da d) → ∃ v, vs[i]? = some v ∧ Rz K H v d
  | _, _, _, n, i, d, .nil, h => by
    simp only [initArgs, List.nil_append, List.getElem?_replicate] at h
    split at h <;> cases h
  | _, _, _, n, 0, d, .v z r, h => by
    simp [initArgs] at h
    subst h
    exact ⟨_, rfl, z⟩
  | _, _, _, n, i + 1, d, .v z r, h => by
    obtain ⟨v, h1, h2⟩ := init_da (n := n) (i := i) r (by simpa [initArgs] using h)
    exact ⟨v, by simpa using h1, h2⟩
  | _, _, _, n, 0, d, .o o r, h => by simp [initArgs] at h
  | _, _, _, n, i + 1, d, .o o r, h => by
    obtain ⟨v, h1, h2⟩ := init_da (n := n) (i := i) r (by simpa [initArgs] using h)
    exact ⟨v, by simpa using h1, h2⟩
theorem init_slot : ∀ {m : List Bool} {vs : List V} {ds : List D} {n i : Nat}, ArgsOk K H m vs ds → m[i]? = some true → ∃ d, (initArgs m ds ++ List.replicate n Slot.un)[i]? = some (.ow d)
  | _, _, _, n, i, .nil, h => by simp at h
  | _, _, _, n, 0, .v z r, h => by simp at h
  | _, _, _, n, i + 1, .v z r, h => by
    obtain ⟨d, h1⟩ := init_slot (n := n) (i := i) r (by simpa using h)
    exact ⟨d, by simpa [initArgs] using h1⟩
  | _, _, _, n, 0, .o o r, h => ⟨_, by simp [initArgs]; rfl⟩
  | _, _, _, n, i + 1, .o o r, h => by
    obtain ⟨d, h1⟩ := init_slot (n := n) (i := i) r (by simpa using h)
    exact ⟨d, by simpa [initArgs] using h1⟩
theorem lent_mem : ∀ {m : List Bool} {vs : List V} {ds : List D} {i : Nat} {p : Addr}, ArgsOk K H m vs ds → m[i]? = some true → vs[i]? = some (.ref p) → ∃ d, (p, d) ∈ lent m vs ds
  | _, _, _, i, p, .nil, h, _ => by simp at h
  | _, _, _, 0, p, .v z r, h, _ => by simp at h
  | _, _, _, i + 1, p, .v z r, h, h2 => by
    rw [lent_f]
    exact lent_mem (i := i) r (by simpa using h) (by simpa using h2)
  | _, _, _, 0, p, .o o r, h, h2 => by
    simp at h2
    subst h2
    exact ⟨_, List.mem_cons_self⟩
  | _, _, _, i + 1, p, .o o r, h, h2 => by
    obtain ⟨d, h3⟩ := lent_mem (i := i) r (by simpa using h) (by simpa using h2)
    exact ⟨d, List.mem_cons_of_mem _ h3⟩
theorem lent_ne : ∀ {m : List Bool} {vs : List V} {ds : List D} {i j : Nat} {p q : Addr}, ArgsOk K H m vs ds → ((lent m vs ds).map (·.1)).Nodup → i ≠ j → m[i]? = some true → m[j]? = some true → vs[i]? = some (.ref p) → vs[j]? = some (.ref q) → p ≠ q
  | _, _, _, i, j, p, q, .nil, _, _, h, _, _, _ => by simp at h
  | _, _, _, 0, j, p, q, .v z r, _, _, h, _, _, _ => by simp at h
  | _, _, _, i + 1, 0, p, q, .v z r, _, _, _, h, _, _ => by simp at h
  | _, _, _, i + 1, j + 1, p, q, .v z r, nd, hij, h1, h2, h3, h4 => by
    rw [lent_f] at nd
    exact lent_ne (i := i) (j := j) r nd (by omega) (by simpa using h1) (by simpa using h2) (by simpa using h3) (by simpa using h4)
  | _, _, _, 0, 0, p, q, .o o r, _, hij, _, _, _, _ => absurd rfl hij
  | _, _, _, 0, j + 1, p, q, .o (m := m) (vs := vs) (ds := ds) o r, nd, hij, h1, h2, h3, h4 => by
    simp at h3
    subst h3
    obtain ⟨n, _⟩ := List.nodup_cons.mp (show (_ :: (lent m vs ds).map (·.1)).Nodup from nd)
    intro e
    subst e
    obtain ⟨d, hd⟩ := lent_mem (i := j) r (by simpa using h2) (by simpa using h4)
    exact n (List.mem_map.mpr ⟨_, hd, rfl⟩)
  | _, _, _, i + 1, 0, p, q, .o (m := m) (vs := vs) (ds := ds) o r, nd, hij, h1, h2, h3, h4 => by
    simp at h4
    subst h4
    obtain ⟨n, _⟩ := List.nodup_cons.mp (show (_ :: (lent m vs ds).map (·.1)).Nodup from nd)
    intro e
    subst e
    obtain ⟨d, hd⟩ := lent_mem (i := i) r (by simpa using h1) (by simpa using h3)
    exact n (List.mem_map.mpr ⟨_, hd, rfl⟩)
  | _, _, _, i + 1, j + 1, p, q, .o (m := m) (vs := vs) (ds := ds) o r, nd, hij, h1, h2, h3, h4 => by
    obtain ⟨_, nd⟩ := List.nodup_cons.mp (show (_ :: (lent m vs ds).map (·.1)).Nodup from nd)
    exact lent_ne (i := i) (j := j) r nd (by omega) (by simpa using h1) (by simpa using h2) (by simpa using h3) (by simpa using h4)
theorem init_nofv : ∀ {m : List Bool} {ds : List D}, Slot.fv ∉ initArgs m ds
  | [], ds => by cases ds <;> simp [initArgs]
  | true :: m, [] => by simp [initArgs]
  | false :: m, [] => by simp [initArgs]
  | true :: m, d :: ds => by
    simp only [initArgs, List.mem_cons, not_or]
    exact ⟨(fun h => nomatch h), init_nofv⟩
  | false :: m, d :: ds => by
    simp only [initArgs, List.mem_cons, not_or]
    exact ⟨(fun h => nomatch h), init_nofv⟩
theorem init_rel {m : List Bool} {vs : List V} {ds : List D} (n : Nat) (ao : ArgsOk K H m vs ds) (ap : Apart H (lent m vs ds)) (tb : TabsK K H) : Rel K H (vs.map some ++ List.replicate n none) (initArgs m ds ++ List.replicate n .un) := by
  have at_ : ∀ {i : Nat} {v : V}, vs[i]? = some v → (vs.map some ++ List.replicate n (none : Option V))[i]? = some (some v) := fun {i v} h => by
    rw [List.getElem?_append_left (by simpa using (List.getElem?_eq_some_iff.mp h).1), List.getElem?_map, h]; rfl
  have il : (initArgs m ds).length = m.length := by
    clear ap at_
    induction ao with
    | nil => rfl
    | v _ _ ih => simpa [initArgs] using ih
    | o _ _ ih => simpa [initArgs] using ih
  refine ⟨fun i d h => ?_, fun i d h => ?_, fun i j d e p q b hij h1 h2 h3 h4 f1 f2 => ?_, by rw [List.length_append, List.length_append, List.length_map, il, ao.length, List.length_replicate, List.length_replicate], tb, fun i h => by
    have hm := List.mem_of_getElem? h
    rcases List.mem_append.mp hm with z | z
    · exact (init_nofv z).elim
    · cases List.eq_of_mem_replicate z⟩
  · obtain ⟨v, h1, h2⟩ := init_da ao h
    exact ⟨v, at_ h1, h2⟩
  · obtain ⟨p, h1, _, _, o, _⟩ := init_ow ao h
    exact ⟨p, at_ h1, o⟩
  · obtain ⟨p', a1, _, a3, _, a5⟩ := init_ow ao h1
    obtain ⟨q', b1, _, b3, _, b5⟩ := init_ow ao h2
    rw [at_ a1] at h3; cases h3
    rw [at_ b1] at h4; cases h4
    exact ap.2 _ a5 _ b5 (lent_ne ao ap.1 hij a3 b3 a1 b1) b f1 f2
/-- what was lent, as it stands at the end -/
theorem outs_ok {H' : Hp} {ρ' : Ev} : ∀ {m : List Bool} {vs : List V} {ds : List D} {outs : List D} (i : Nat), ArgsOk K H m vs ds →
    (∀ j p d0 d, vs[j]? = some (.ref p) → ds[j]? = some d0 → m[j]? = some true → ρ'[i + j]? = some (.ow d) → Own K H' p d ∧ ∀ b, Foot H' p d b → Foot H p d0 b ∨ H b = none) →
    outsFrom m i ρ' = some outs → OutsOk K H H' (lent m vs ds) outs ∧ (outL (lent m vs ds) outs).map (·.1) = (lent m vs ds).map (·.1) ∧ ∀ x ∈ outL (lent m vs ds) outs, ∃ (j : Nat), m[j]? = some true ∧ vs[j]? = some (V.ref x.1) ∧ ρ'[i + j]? = some (Slot.ow x.2)
  | _, _, _, outs, i, .nil, _, e => by cases e; exact ⟨.nil, rfl, fun _ h => nomatch h⟩
  | _, _, _, outs, i, .v (m := m) (v := v) (vs := vs) (ds := ds) z r, h, e => by
    rw [lent_f]
    obtain ⟨a, b, c⟩ := outs_ok (i + 1) r (fun j p d0 d h1 h2 h3 h4 => h (j + 1) p d0 d (by simpa using h1) (by simpa using h2) (by simpa using h3) (by rw [show i + (j + 1) = i + 1 + j by omega]; exact h4)) e
    exact ⟨a, b, fun x hx => by
      obtain ⟨j, h1, h2, h3⟩ := c x hx
      exact ⟨j + 1, by simpa using h1, by simpa using h2, by rw [show i + (j + 1) = i + 1 + j by omega]; exact h3⟩⟩
  | _, _, _, outs, i, .o (m := m) (p := p) (vs := vs) (d := d0) (ds := ds) z r, h, e => by
    unfold outsFrom at e
    split at e
    · rename_i d hd
      obtain ⟨os, e1, e2⟩ := Option.map_eq_some_iff.mp e
      cases e2
      obtain ⟨o, f⟩ := h 0 p d0 d rfl rfl rfl hd
      obtain ⟨a, b, c⟩ := outs_ok (i + 1) r (fun j p d0 d h1 h2 h3 h4 => h (j + 1) p d0 d (by simpa using h1) (by simpa using h2) (by simpa using h3) (by rw [show i + (j + 1) = i + 1 + j by omega]; exact h4)) e1
      refine ⟨.cons o f a, ?_, fun x hx => ?_⟩
      · show p :: (outL (lent m vs ds) os).map (·.1) = p :: (lent m vs ds).map (·.1)
        rw [b]
      · rcases List.mem_cons.mp (show x ∈ (p, d) :: outL (lent m vs ds) os from hx) with e | hx
        · subst e
          exact ⟨0, rfl, rfl, hd⟩
        · obtain ⟨j, h1, h2, h3⟩ := c x hx
          exact ⟨j + 1, by simpa using h1, by simpa using h2, by rw [show i + (j + 1) = i + 1 + j by omega]; exact h3⟩
    · cases e
end
/-- a def's body as a term of rules, under no guard -/
theorem okG_of {P : Program} {w : World} {K : PySem.W.Frag} {mg : Str → Option Value} {base : Heap} {x qual : Str} {st : Stmt} {f : Addr} {fd : FuncData} {N ps : List Str} {k : Nat} {sp : Sp} (Fu : Fun K x qual st f fd) (S : FnScope N ps (defScope st))
    (many : ∀ {vs : List V} {H : Hp} {Q : VK} {E : XK}, sp vs H Q E → vs.length = ps.length)
    (body : ∀ {cdv : Value} {A : Around} {outer : List Env} {s : Shared} {H : Hp} {vs : List V} {Q : VK} {E : XK}, (∀ P, lamKB K f P = true → ∃ c, cdv = .ref c ∧ PySem.W.codeHdIn K c P = true) → A.guards = some [] → Room k (A.deeper (envOfC qual (defScope st) s.heap.objs.size f cdv)) → sp vs H Q E →
      ∃ t, PSs (cxOf CX0 P w K mg base N qual (defScope st) f cdv A outer s H E).nox (defBody st) t ∧ t { nx := fun _ H' => Q .non H', rt := Q } (start N vs) H) : OkG P w K mg base (k + 1) f fd ps sp := by
  obtain ⟨oc, od, kV, doc, pm, an, cdv, ct, osl, rfl, lk, hcd⟩ := Fu.ex
  refine ⟨many, fun {A outer s H args us vs Q E} gq hr e0 hb r hsp => ?_⟩
  have KX : K.In s.heap := e0.mod.kin.keeps fun b o e => (e0.bs b o e).1
  have lim : s.heap.NoLimit := e0.mod.nolimit.keeps fun b o e => (e0.bs b o e).1
  have kinds : ∀ y ∈ ps.zip us, (defScope st).names.lookup y.1 = some .local ∨ ((defScope st).names.lookup y.1 = some .cell ∧ ((cellsFrom (s.heap.objs.size + 1) (defScope st).names []).lookup y.1).isSome = true) := fun ⟨n, v⟩ hy =>
    (S.par n (List.of_mem_zip hy).1).elim .inl fun q => .inr ⟨q, PySem.W.cellsFrom_some _ _ _ (.inl q)⟩
  refine codeAny_call_function hr.depth (KX _ _ lk) rfl S.co S.gen rfl (PySem.W.codeRec_of KX hcd) (hb _ _ _ _ (wpAny_newFunctionEnv_cells S.kind kinds fun env he s1 x => ?_))
  cases he
  refine ⟨lim.keeps x.toInCall.keep, codeAny_func ?_⟩
  obtain ⟨t, ht, hq⟩ := body (fun P z => lamKB_code z lk) gq (hr.deeper _) hsp
  have I := inv_start (CX := CX0) (E := E) (qual := qual) (f := f) (cd := cdv) S hr.hd e0 (many hsp) r x
  have ht := ht.nox
  refine wpAny_mono (ht.run [] s1 (start N vs) H _ I hq) (fun fl s' hs => ?_) fun _ _ hs => hs
  cases fl with
  | ret u =>
    obtain ⟨v, _, H', J, rv, q⟩ := hs
    exact ⟨v, H', J.os, J.bare, J.base, J.hok, rv, q⟩
  | next =>
    obtain ⟨_, H', J, q⟩ := hs
    exact ⟨.non, H', J.os, J.bare, J.base, J.hok, rfl, q⟩
  | brk => obtain ⟨_, _, _, q⟩ := hs; exact q.elim
  | cont => obtain ⟨_, _, _, q⟩ := hs; exact q.elim
/-- THE RULE: a def keeps the promise of its denotation (e: the room that sorting by keys needs) -/
theorem def_okD {P : Program} {w : World} {K : PySem.W.Frag} {mg : Str → Option Value} {base : Heap} {x qual : Str} {st : Stmt} {f : Addr} {fd : FuncData} {ps : List Str} {k : Nat} {T : CT} {bl : List Str} {F : FnT} {body : MSs} (e : Nat) (he : ("<deep>" : Str) ∈ bl → e = 8) (hl : ("<lam>" : Str) ∈ bl → LamAt K mg base f (qual ++ ".<locals>." ++ "<lambda>"))
    (Fu : Fun K x qual st f fd) (S : FnScope T.N ps (defScope st)) (G : TopG P w K mg base k T bl) (hm : F.mask.length = ps.length) (hd : F.den = denOf T F.mask F.ro body) (hc : cmSs T bl (defScope st) (lentAt F.mask 0) body (defBody st) = true) (hfv : T.fv = none := by rfl) :
    OkG P w K mg base (k + e + 1) f fd ps (spFn K F) := by
  refine okG_of Fu S (fun {vs H Q E} h => ?_) (fun {cdv A outer s H vs Q E} hcd gq hr h => ?_)
  · obtain ⟨ds, d, outs, ao, _⟩ := h
    exact ao.length.trans hm
  · obtain ⟨ds, d, outs, ao, nd, tbs, e, q⟩ := h
    rename_i e8
    let X : Cx := (cxOf CX0 P w K mg base T.N qual (defScope st) f cdv A outer s H E).nox
    have r0 : Room k X.A := hr.mono (Nat.le_add_right ..)
    have r8 : ("<deep>" : Str) ∈ bl → Room (k + 8) X.A := fun h => by
      have := hr
      rw [he h] at this
      exact this
    have g : Gd X T bl := ⟨rfl, S.nd, rfl, hr.units, gq, G.blt, G.con, fun i y F' hi => by
      rcases (G.fn i y F' hi).ex with ⟨a, fd', ps', h1, h2, h3, h4⟩ | c
      · exact ⟨.inl ⟨a, fd', ps', k, h1, h2, h3, r0, h4⟩⟩
      · exact ⟨.inr ⟨k, c, r0⟩⟩, G.fld, G.isc, fun i m al hi cls F' hc => by
      obtain ⟨a, fd', ps', h1, h2, h3⟩ := (G.mth i m al hi cls F' hc).ex
      exact ⟨a, fd', ps', k, h1, h2, r0, h3⟩, fun h => by
      obtain ⟨P', h1, h2, h3, h4, h5, h6⟩ := (hl h).ex
      obtain ⟨c, hc, hh⟩ := hcd P' h1
      exact ⟨c, P', hc, h3, h4, ⟨PySem.W.codeHd_of_K h2 hh, h5, h6⟩⟩, fun h => ⟨(r8 h).mono (Nat.le_add_left ..), fun i y F' hi => by
        rcases (G.fn i y F' hi).ex with ⟨a, fd', ps', h1, h2, h3, h4⟩ | c
        · exact ⟨.inl ⟨a, fd', ps', k, h1, h2, h3, r8 h, h4⟩⟩
        · exact ⟨.inr ⟨k, c, r8 h⟩⟩, fun i m al hi cls F' hc => by
        obtain ⟨a, fd', ps', h1, h2, h3⟩ := (G.mth i m al hi cls F' hc).ex
        exact ⟨a, fd', ps', k, h1, h2, r8 h, h3⟩⟩, fun h i hi y F' hf => by
      obtain ⟨a, fd', ps', h1, h2, h3, h4⟩ := G.pld i hi y F' hf
      exact ⟨a, fd', ps', k, h1, h2, h3, r8 h, h4⟩, fun i y den hi hd => by
      obtain ⟨f, h1, h2, h3⟩ := G.ho i y den hi
      exact ⟨f, k, h1, h2, r8 hd, h3⟩, fun g hg => (by rw [hfv] at hg; exact nomatch hg), fun _ => hfv, fun _ _ => rfl⟩
    have gs : Gs X T bl := ⟨g, fun _ => rfl, PassesOwn.never, S.kind⟩
    refine ⟨tSs T K (lentAt F.mask 0) body, goodSs body gs hc, ?_⟩
    rw [hd] at e
    unfold denOf at e
    split at e
    · rename_i hlen
      obtain ⟨⟨fl, ρ'⟩, e1, e2⟩ := Option.bind_eq_some_iff.mp e
      have hst : L2.start T.N vs = vs.map some ++ List.replicate (T.N.length - ds.length) none := by
        unfold L2.start
        rw [ao.length, ← args_len ao]
      have R := init_rel (T.N.length - ds.length) ao nd tbs
      rw [← hst] at R
      have at0 : ∀ {i : Nat} {v : V}, vs[i]? = some v → (L2.start T.N vs)[i]? = some (some v) := fun {i v} h => by
        rw [hst, List.getElem?_append_left (by simpa using (List.getElem?_eq_some_iff.mp h).1), List.getElem?_map, h]; rfl
      -- whose something is at the start
      have own : ∀ {i : Nat} {b : Addr}, OwnedAt H (L2.start T.N vs) (initEv T.N.length F.mask ds) i b → ∃ (p : Addr) (d : D), vs[i]? = some (V.ref p) ∧ ds[i]? = some d ∧ F.mask[i]? = some true ∧ (p, d) ∈ lent F.mask vs ds ∧ Foot H p d b := fun {i b} ⟨d, p, h1, h2, f⟩ => by
        obtain ⟨p', a1, a2, a3, _, a5⟩ := init_ow ao h1
        rw [at0 a1] at h2; cases h2
        exact ⟨p, d, a1, a2, a3, a5, f⟩
      refine ⟨initEv T.N.length F.mask ds, fl, ρ', R, e1, fun σ' H' fr R' => ?_⟩
      have keep : KeepL (lent F.mask vs ds) H H' := ⟨fun b o hb n t => fr.keep b o hb (fun ⟨i, w⟩ => by
        obtain ⟨p, d, _, _, _, h5, f⟩ := own w
        exact n ⟨_, h5, f⟩) t, fr.alive, fr.tabs⟩
      -- the lent ones stand where they stood
      have at_ : ∀ {j : Nat} {p : Addr}, vs[j]? = some (V.ref p) → F.mask[j]? = some true → σ'[j]? = some (some (V.ref p)) := fun {j p} hj hm => by
        rw [(fr.bo j (mem_lentAt.mpr ⟨j, by omega, hm⟩)).1]
        exact at0 hj
      have outsOk : ∀ {os : List D}, outsFrom F.mask 0 ρ' = some os → OutsOk K H H' (lent F.mask vs ds) os ∧ Apart H' (outL (lent F.mask vs ds) os) ∧ ∀ b, FootL H' (outL (lent F.mask vs ds) os) b → Owned H' σ' ρ' b := fun {os} eo => by
        obtain ⟨a, b, c⟩ := outs_ok 0 ao (H' := H') (fun j p d0 d h1 h2 h3 h4 => by
          rw [Nat.zero_add] at h4
          have hs := at_ h1 h3
          obtain ⟨q, a, o⟩ := R'.ow j d h4
          rw [hs] at a; cases a
          refine ⟨o, fun b f => ?_⟩
          rcases fr.own j b ⟨d, p, h4, hs, f⟩ with w | w
          · obtain ⟨p', d', x1, x2, _, _, x5⟩ := own w
            rw [h1] at x1; cases x1
            rw [h2] at x2; cases x2
            exact .inl x5
          · exact .inr w) eo
        have c' : ∀ x ∈ outL (lent F.mask vs ds) os, ∃ (j : Nat), σ'[j]? = some (some (V.ref x.1)) ∧ ρ'[j]? = some (Slot.ow x.2) := fun x hx => by
          obtain ⟨j, h1, h2, h3⟩ := c x hx
          rw [Nat.zero_add] at h3
          exact ⟨j, at_ h2 h1, h3⟩
        refine ⟨a, ⟨by rw [b]; exact nd.1, fun x hx y hy ne b f1 f2 => ?_⟩, fun b ⟨x, hx, f⟩ => ?_⟩
        · obtain ⟨i, h1, h2⟩ := c' x hx
          obtain ⟨j, h3, h4⟩ := c' y hy
          exact R'.ne i j _ _ _ _ b (fun e => ne (by subst e; rw [h1] at h3; injection h3 with h3; injection h3 with h3; injection h3)) h2 h4 h1 h3 f1 f2
        · obtain ⟨i, h1, h2⟩ := c' x hx
          exact ⟨i, _, _, h2, h1, f⟩
      cases fl with
      | nx =>
        simp only at e2
        split at e2
        · cases e2
        · rename_i hro
          obtain ⟨os, e3, e4⟩ := Option.map_eq_some_iff.mp e2
          cases e4
          obtain ⟨o1, o2, _⟩ := outsOk e3
          exact q .non H' keep o1 o2 (by unfold RetOk; rw [if_neg hro]; exact .non)
      | rt d' =>
        simp only at e2
        split at e2
        · cases e2
        · rename_i hro
          obtain ⟨os, e3, e4⟩ := Option.map_eq_some_iff.mp e2
          cases e4
          obtain ⟨o1, o2, _⟩ := outsOk e3
          exact fun v z => q v H' keep o1 o2 (by unfold RetOk; rw [if_neg hro]; exact z)
      | ro d' =>
        simp only at e2
        split at e2
        · rename_i hro
          obtain ⟨os, e3, e4⟩ := Option.map_eq_some_iff.mp e2
          cases e4
          intro p o hp
          obtain ⟨o1, o2, o3⟩ := outsOk e3
          refine q (.ref p) H' keep o1 o2 ?_
          unfold RetOk
          rw [if_pos hro]
          rcases hp with ⟨h1, h2⟩ | ⟨i, hB, h1, h2⟩
          · exact ⟨p, rfl, o, h1, fun b f w => h2 b f (o3 b w)⟩
          · -- the slot's own, new since the start
            have new : ∀ b, Foot H' p d b → H b = none := fun b f => by
              rcases fr.own i b ⟨d, p, h1, h2, f⟩ with w | w
              · obtain ⟨_, _, _, _, x3, _, _⟩ := own w
                exact absurd (mem_lentAt.mpr ⟨i, by omega, x3⟩) hB
              · exact w
            refine ⟨p, rfl, o, new, fun b f ⟨x, hx, f2⟩ => ?_⟩
            obtain ⟨a, bb, c⟩ := outs_ok 0 ao (H' := H') (ρ' := ρ') (fun j p d0 d h1 h2 h3 h4 => by
              rw [Nat.zero_add] at h4
              have hs := at_ h1 h3
              obtain ⟨q, a, o⟩ := R'.ow j d h4
              rw [hs] at a; cases a
              refine ⟨o, fun b f => ?_⟩
              rcases fr.own j b ⟨d, p, h4, hs, f⟩ with w | w
              · obtain ⟨p', d', x1, x2, _, _, x5⟩ := own w
                rw [h1] at x1; cases x1
                rw [h2] at x2; cases x2
                exact .inl x5
              · exact .inr w) e3
            obtain ⟨j, x1, x2, x3⟩ := c x hx
            rw [Nat.zero_add] at x3
            exact R'.ne i j _ _ _ _ b (fun e => hB (by subst e; exact mem_lentAt.mpr ⟨i, by omega, x1⟩)) h1 x3 h2 (at_ x2 x1) f f2
        · cases e2
      | bk => cases e2
      | ct => cases e2
    · cases e
/-- the same without lambdas and without sorting by keys -/
theorem def_ok {P : Program} {w : World} {K : PySem.W.Frag} {mg : Str → Option Value} {base : Heap} {x qual : Str} {st : Stmt} {f : Addr} {fd : FuncData} {ps : List Str} {k : Nat} {T : CT} {bl : List Str} {F : FnT} {body : MSs}
    (Fu : Fun K x qual st f fd) (S : FnScope T.N ps (defScope st)) (G : TopG P w K mg base k T bl) (hm : F.mask.length = ps.length) (hd : F.den = denOf T F.mask F.ro body) (hc : cmSs T bl (defScope st) (lentAt F.mask 0) body (defBody st) = true)
    (nd : ("<deep>" : Str) ∉ bl := by decide) (nl : ("<lam>" : Str) ∉ bl := by decide) (hfv : T.fv = none := by rfl) : OkG P w K mg base (k + 1) f fd ps (spFn K F) :=
  def_okD 0 (fun h => absurd h nd) (fun h => absurd h nl) Fu S G hm hd hc hfv
end Mp
namespace Mp
open PySem PySem.Spec L2 LamX
open PyProof.Rows hiding St
variable [LamT]

/-! ### the end of a law -/
section
variable {P : Program} {w : World} {K : PySem.W.Frag} {mg : Str → Option Value} {base : Heap}
theorem pick_range : ∀ {α : Type} (xs : List α), pick xs (List.range xs.length) = some xs := by
  intro α xs
  suffices h : ∀ (ys : List α) (zs : List α), xs = zs ++ ys → pick xs ((List.range ys.length).map (zs.length + ·)) = some ys by
    have := h xs [] rfl
    simpa using this
  intro ys
  induction ys with
  | nil => intro zs h; rfl
  | cons y r ih =>
    intro zs h
    have e1 := ih (zs ++ [y]) (by simp [h])
    have e2 : (List.range (y :: r).length).map (zs.length + ·) = zs.length :: (List.range r.length).map ((zs ++ [y]).length + ·) := by
      rw [List.length_cons, List.range_succ_eq_map]
      simp [Nat.add_comm, Nat.add_left_comm, Function.comp_def]
    rw [e2]
    unfold pick
    rw [e1, h]
    simp
/-- a call by places alone -/
theorem binds_pos {fd : FuncData} {ps : List Str} {F : FnT} (b : Binds K fd ps []) (h1 : F.np = ps.length) (h2 : F.ks = []) (h3 : F.dfl = []) (h4 : F.pm = List.range F.np) : BindsF K fd ps F := by
  refine ⟨[], [], fun H => by rw [h3]; exact .nil, .nil, fun s us ws bs hK l1 l2 hp hb => ?_⟩
  rw [h2] at l2 ⊢
  have : ws = [] := by simpa using l2
  subst this
  rw [List.append_nil, List.append_nil, h4, ← l1, pick_range] at hp
  cases hp
  have := b s us hK (by rw [List.append_nil]; omega)
  rwa [List.append_nil] at this
/-- a call with keywords, no defaults -/
theorem binds_kw {x qual : Str} {st : Stmt} {f : Addr} {fd : FuncData} {ps : List Str} {F : FnT} (Fu : Fun K x qual st f fd) (h3 : F.dfl = [])
    (h : ∀ (kV doc pm : Value) (an : Option Addr) (cdv ct : Value) (us ws bs : List Value), us.length = F.np → ws.length = F.ks.length → pick (us ++ ws) F.pm = some bs →
      bindArgs (PySem.W.fnOf x qual (defArgs st) (defBody st) (defScope st) .none kV doc pm an cdv ct) ⟨us, F.ks.zip ws⟩ = pure (ps.zip bs)) : BindsF K fd ps F := by
  obtain ⟨oc, od, kV, doc, pm, an, cdv, ct, osl, rfl, lk, hcd⟩ := Fu.ex
  refine ⟨[], [], fun H => by rw [h3]; exact .nil, .nil, fun s us ws bs hK l1 l2 hp hb => ?_⟩
  rw [List.append_nil] at hp
  exact .of_eq (h kV doc pm an cdv ct us ws bs l1 l2 hp)
theorem fnG {x : Str} {F : FnT} {f : Addr} {fd : FuncData} {ps : List Str} {j k : Nat} (hm : mg x = some (.ref f)) (kp : PySem.W.keepIn K (.ref f) = true) (ok : OkG P w K mg base j f fd ps (spFn K F)) (h : j ≤ k) (b : BindsF K fd ps F) : FnG P w K mg base k x F :=
  ⟨.inl ⟨f, fd, ps, hm, kp, ok.mono h, b⟩⟩
/-- a written tuple -/
theorem rz_tupK {H : Hp} {a : Addr} {dd : Option Addr} {its : Array Value} {n : Nat} {sl : Array (Option Value)} {vs : List V} {ds : List D} (l : K.lookup a = some ⟨.type "tuple", dd, .seq its n, sl⟩) (z : its.size ≤ sizeLine) (v : Vals vs its.toList) (r : RzAll K H vs ds) : Rz K H (.ref a) (.tuple ds) :=
  .tup (.inr ⟨_, its, n, l, rfl, rfl, z, v⟩) r
theorem fns_of {T : CT} {fs : List (Str × FnT)} (h : T.fns = fs) (all : ∀ p ∈ fs, FnG P w K mg base k p.1 p.2) : ∀ (f : Nat) (x : Str) (F : FnT), T.fns[f]? = some (x, F) → FnG P w K mg base k x F := fun f x F e => by
  rw [h] at e
  exact all (x, F) (List.mem_of_getElem? e)
theorem cons_of {T : CT} {cs : List (Str × D)} (h : T.cons = cs) (all : ∀ p ∈ cs, ∃ u v, mg p.1 = some u ∧ RelV v u ∧ ∀ H, Rz K H v p.2) : ∀ (g : Nat) (x : Str) (d : D), T.cons[g]? = some (x, d) → ∃ u v, mg x = some u ∧ RelV v u ∧ ∀ H, Rz K H v d := fun g x d e => by
  rw [h] at e
  exact all (x, d) (List.mem_of_getElem? e)
end
/-- the law's own promise, from its denotation -/
theorem law_sp {K : PySem.W.Frag} {F : FnT} {H : Hp} {a : Addr} {ns : List Int} (hm : F.mask = [false]) (hr : F.ro = false) (hs : FzL K H a (ns.map V.int)) (tb : TabsK K H) (hd : F.den [.list (ns.map .int)] = some (.bool true, [])) :
    spFn K F [.ref a] H (fun v _ => v = .bl true) (fun _ _ _ => False) := by
  have rz : ∀ ns : List Int, RzAll K H (ns.map V.int) (ns.map PyData.int) := fun ns => by
    induction ns with
    | nil => exact .nil
    | cons n r ih => exact .cons (.int n) ih
  refine ⟨[.list (ns.map .int)], .bool true, [], ?_, ?_, tb, hd, fun v H' _ _ _ r => ?_⟩
  · rw [hm]; exact .v (.lst hs (rz ns)) .nil
  · rw [hm]; exact Apart.nil
  · unfold RetOk at r
    rw [hr] at r
    exact tst_bl r
/-- an empty table of code objects -/
def tab0 : Obj := { cls := .none, data := .fields #[] }
/-- what of the heap behind the top a law's call may see: the script, and empty tables -/
structure Seen (K : PySem.W.Frag) (h : Heap) (a : Addr) (TS : List Addr) (vs : List Value) (ns : List Int) (b : Addr) (u : HO) : Prop where
  is : (b = a ∧ K.lookup a = none ∧ u = .frz { cls := .type "list", data := .seq vs.toArray } (.lst (ns.map V.int))) ∨ (b ∈ TS ∧ K.lookup b = none ∧ h.get? b = some tab0 ∧ u = .tbl #[])
/-- a law's call, where the promise is kept under no guard: at the heap behind the top -/
theorem law_go {P : Program} {w : World} {K : PySem.W.Frag} {mg mb : Str → Option Value} {k : Nat} {fa a : Addr} {fd : FuncData} {x : Str} {sp : Sp} {s : Shared} {vs : List Value} {ns : List Int} {TS : List Addr} (KX : K.In s.heap) (hn : s.heap.Ns mainGlobals mg) (hb : s.heap.Ns builtinsNs mb)
    (hbb : ∀ x : Str, x ≠ "__name__" → mb x = bootBuiltins x) (lim : s.heap.NoLimit) (hg : s.gens = #[]) (ha : s.heap.get? a = some { cls := .type "list", data := .seq vs.toArray }) (hi : IntsAre vs ns) (hl : ns.length ≤ sizeLine) (hr : Room k callerA)
    (hT : ∀ p ∈ TS, s.heap.get? p = some tab0) (nT : ∀ p ∈ TS, K.lookup p = none) (cT : ∀ p ∈ TS, ∃ c, PySem.W.codeHdIn K c p = true) (hbm : ∃ (bm : Addr) (ob : Obj), mg "__builtins__" = some (.ref bm) ∧ bm ≠ builtinsNs ∧ s.heap.get? bm = some ob ∧ ob.cls = .type "module" ∧ ob.dict = some builtinsNs ∧ ob.data = .plain)
    (F : ∀ base : Heap, K.In base → base.Ns mainGlobals mg → (∀ p ∈ TS, base.BuiltinsAt mg p ∧ mainGlobals ≠ p) → OkG P w K mg base k fa fd [x] sp) (bi : ∀ (s : Shared) (u : Value), BindsTo s fd ⟨[u], []⟩ [(x, u)])
    (hsp : ∀ H : Hp, (∀ p ∈ TS, H p = some (.tbl #[])) → FzL K H a (ns.map V.int) → sp [.ref a] H (fun v _ => v = .bl true) fun _ _ _ => False) :
    codeAny (model P w) callerA (.call (.ref fa) ⟨[.ref a], []⟩) (fun r s' => r = .ok (.ret (.bool true)) ∧ OldK s.heap s'.heap ∧ s'.os = s.os ∧ AllBare s'.gens) s := by
  have rv := vals_ints hi
  have aT : a ∉ TS := fun z => by
    have q := hT a z
    rw [ha] at q
    exact absurd (congrArg Obj.data (Option.some.inj q)) (fun z => by cases (show Data.seq vs.toArray _ = Data.fields #[] from z))
  -- nothing but the script and the tables is in view
  have view : ∀ H : Hp, (∀ b u, H b = some u → Seen K s.heap a TS vs ns b u) → (∀ p ∈ TS, H p = some (.tbl #[])) → FzL K H a (ns.map V.int) → HOk P w H s.heap →
      codeAny (model P w) callerA (.call (.ref fa) ⟨[.ref a], []⟩) (fun r s' => r = .ok (.ret (.bool true)) ∧ OldK s.heap s'.heap ∧ s'.os = s.os ∧ AllBare s'.gens) s := by
    intro H one hH sq ok
    have gone : ∀ {b : Addr} {o : Obj}, s.heap.get? b = some o → (∀ vs n, o.data ≠ .seq vs n) → o.data ≠ .fields #[] → H b = none := fun {b o} e h1 h2 => match h : H b with
      | none => rfl
      | some u => by
        rcases (one b u h).is with ⟨rfl, _, _⟩ | ⟨_, _, e', _⟩
        · rw [ha] at e; cases e
          exact (h1 _ _ rfl).elim
        · rw [e'] at e; cases e
          exact (h2 rfl).elim
    have dictFree : ∀ {b : Addr} {o : Obj} {es : Array DictEntry} {ep : Nat}, s.heap.get? b = some o → o.data = .dict es ep → H b = none := fun {b o es ep} e d => gone e (fun _ _ z => by rw [d] at z; cases z) (fun z => by rw [d] at z; cases z)
    have ns_of : ∀ {b : Addr} {m : Str → Option Value}, s.heap.Ns b m → (hidT s.heap H).Ns b m := fun ⟨o, es, ep, e, d, r⟩ => ⟨o, es, ep, hidT_get e (dictFree e d), d, r⟩
    have kb : K.In (hidT s.heap H) := fun b o e => hidT_get (KX b o e) (match h : H b with
      | none => rfl
      | some u => by
        rcases (one b u h).is with ⟨rfl, e2, _⟩ | ⟨_, e2, _⟩
        · rw [e2] at e; cases e
        · rw [e2] at e; cases e)
    have e0 : Env0 P w K mg (hidT s.heap H) callerA [] s H :=
      ⟨rfl, ⟨kb, ns_of hn, ⟨mb, ns_of hb, hbb⟩, let ⟨m, h1, h2⟩ := lim; ⟨m, ns_of h1, h2⟩⟩, fun b o e => of_hidT e, Nat.le_of_eq (hidT_size _ _), trivial, fun b hb => (List.not_mem_nil hb).elim, ok, .of_eq hg⟩
    have tb : ∀ p ∈ TS, (hidT s.heap H).BuiltinsAt mg p ∧ mainGlobals ≠ p := fun p hp => by
      obtain ⟨bm, ob, b1, b2, b3, b4, b5, b6⟩ := hbm
      have g0 : ∀ {o : Obj}, s.heap.get? mainGlobals = some o → ∃ es ep, o.data = .dict es ep := fun {o} e => by
        obtain ⟨o', es, ep, e', d, _⟩ := hn
        rw [e] at e'; cases e'
        exact ⟨es, ep, d⟩
      refine ⟨⟨bm, ob, b1, b2, fun q => ?_, fun q => ?_, hidT_get b3 (gone b3 (fun _ _ z => by rw [b6] at z; cases z) fun z => by rw [b6] at z; cases z), b4, b5, b6⟩, fun q => ?_⟩
      · subst q
        obtain ⟨es, ep, d⟩ := g0 b3
        rw [b6] at d; cases d
      · subst q
        rw [hT _ hp] at b3; cases b3; cases b6
      · obtain ⟨es, ep, d⟩ := g0 (q ▸ hT p hp)
        cases d
    refine codeAny_mono ((F _ kb (ns_of hn) tb).go (us := [.ref a]) (vs := [.ref a]) rfl hr e0 (bi s (.ref a)) (.cons rfl .nil) (hsp H hH sq)) fun r s' h => ?_
    match r, h with
    | .error e, h => exact False.elim h
    | .ok .next, h => exact False.elim h
    | .ok .brk, h => exact False.elim h
    | .ok .cont, h => exact False.elim h
    | .ok (.ret u), h =>
      obtain ⟨v, H', os, bare, un, ok', r', q⟩ := h
      have q : v = .bl true := q
      rw [q] at r'
      have r' : u = Value.bool true := r'
      rw [r']
      have stay : ∀ b o, b ∉ TS → s.heap.get? b = some o → s'.heap.get? b = some o := fun b o nb e => by
        cases h : H b with
        | none => exact un.keep b o e h (fun z => (List.not_mem_nil z).elim) (by simp)
        | some u =>
          rcases (one b u h).is with ⟨rfl, _, eu⟩ | ⟨hb, _⟩
          · rw [eu] at h
            have e1 := (ok b _ h).1
            have e2 := (ok' b _ (un.frzs b _ _ h)).1
            rw [e] at e1
            cases e1
            exact e2
          · exact (nb hb).elim
      have grown : ∀ p ∈ TS, ∃ more : Array Value, s'.heap.get? p = some { cls := .none, data := .fields more } := fun p hp => by
        obtain ⟨more, z⟩ := un.tbls p #[] (hH p hp)
        exact ⟨_, ok' p _ z⟩
      refine ⟨rfl, ⟨fun b o e => ?_, fun b o e => ?_⟩, os, bare⟩
      · by_cases hb : b ∈ TS
        · obtain ⟨more, hm⟩ := grown b hb
          rw [hT b hb] at e; cases e
          obtain ⟨c, hc⟩ := cT b hb
          exact .inr (.inl ⟨((PySem.W.codeHd_of_K KX hc).tab (hT b hb)).isCodeTable, rfl, #[], more, rfl, by rw [Array.empty_append]; exact hm⟩)
        · exact .inl (stay b o hb e)
      · by_cases hb : b ∈ TS
        · obtain ⟨more, hm⟩ := grown b hb
          exact ⟨_, hm⟩
        · exact ⟨o, stay b o hb e⟩
  have okT : ∀ {b : Addr} {H : Hp}, b ∈ TS → ObjOk P w H s.heap b (.tbl #[]) := fun hb => hT _ hb
  cases hk : K.lookup a with
  | some o =>
    have e := (KX a o hk).symm.trans ha
    cases e
    have at_ : ∀ b u, (if b ∈ TS then some (HO.tbl #[]) else none) = some u → b ∈ TS ∧ u = .tbl #[] := fun b u h => by
      split at h
      · rename_i hb; exact ⟨hb, (Option.some.inj h).symm⟩
      · cases h
    exact view (fun b => if b ∈ TS then some (.tbl #[]) else none) (fun b u h => by
        obtain ⟨hb, e⟩ := at_ b u h
        exact ⟨.inr ⟨hb, nT b hb, hT b hb, e⟩⟩) (fun p hp => if_pos hp) (.inr ⟨_, vs.toArray, _, hk, rfl, rfl, rfl, by rw [List.size_toArray, hi.length]; exact hl, by simpa using rv⟩) fun b u h => by
        obtain ⟨hb, e⟩ := at_ b u h
        subst e
        exact okT hb
  | none =>
    have at_ : ∀ b u, (if b = a then some (HO.frz { cls := .type "list", data := .seq vs.toArray } (.lst (ns.map V.int))) else if b ∈ TS then some (HO.tbl #[]) else none) = some u → (b = a ∧ u = .frz { cls := .type "list", data := .seq vs.toArray } (.lst (ns.map V.int))) ∨ (b ∈ TS ∧ u = .tbl #[]) := fun b u h => by
      split at h
      · rename_i e
        exact .inl ⟨e, (Option.some.inj h).symm⟩
      · split at h
        · rename_i hb; exact .inr ⟨hb, (Option.some.inj h).symm⟩
        · cases h
    exact view (fun b => if b = a then some (.frz { cls := .type "list", data := .seq vs.toArray } (.lst (ns.map V.int))) else if b ∈ TS then some (.tbl #[]) else none)
      (fun b u h => by
        rcases at_ b u h with ⟨rfl, e⟩ | ⟨hb, e⟩
        · exact ⟨.inl ⟨rfl, hk, e⟩⟩
        · exact ⟨.inr ⟨hb, nT b hb, hT b hb, e⟩⟩)
      (fun p hp => (if_neg (fun e : p = a => aT (by rw [← e]; exact hp))).trans (if_pos hp)) (.inl ⟨_, if_pos rfl⟩) fun b u h => by
        rcases at_ b u h with ⟨rfl, e⟩ | ⟨hb, e⟩
        · subst e
          exact ⟨ha, by rw [List.length_map]; exact hl, vs, _, rv, ha⟩
        · subst e
          exact okT hb
/-- the walk of a law whose denotation says True of every script -/
theorem walk {l : PySem.W.OpenLaw} {x : Str} {q : Program} {loose : List Str} {XP : (Str → Option Value) → Heap → Prop} {YP : World → Heap → Prop} {d : DefRec} {K : Params → PySem.W.Frag} {F : FnT} {k : Nat} (TS : List Addr) (hn : l.most = some 63) (hdf : d.params.defaults = []) (hr : Room k callerA)
    (hm : F.mask = [false]) (hro : F.ro = false) (hd : ∀ ns : List Int, ns.length ≤ 63 → F.den [.list (ns.map .int)] = some (.bool true, []))
    (hY : ∀ (w : World) (h : Heap), YP w h → (K w.params).In h ∧ (∀ p ∈ TS, h.get? p = some tab0)) (nT : ∀ (p : Params), ∀ q ∈ TS, (K p).lookup q = none) (cT : ∀ (p : Params), ∀ q ∈ TS, ∃ c, PySem.W.codeHdIn (K p) c q = true) (inT : ∀ (p : Params), ∀ t ∈ LamT.ts, t.1 ∈ TS)
    (G : ∀ (w : World) (mg : Str → Option Value) (fa : Addr) (h : Heap), (K w.params).In h → h.Ns mainGlobals mg → mg d.name = some (.ref fa) →
      ∃ fd : FuncData, (∀ (s : Shared) (u : Value), BindsTo s fd ⟨[u], []⟩ [(x, u)]) ∧ ∀ base : Heap, (K w.params).In base → base.Ns mainGlobals mg → (∀ p ∈ TS, base.BuiltinsAt mg p ∧ mainGlobals ≠ p) → OkG l.prog w (K w.params) mg base k fa fd [x] (spFn (K w.params) F)) :
    PySem.W.WalkO q loose XP YP l.row.toRowW d [] (fun f vs => PySem.call f vs) := by
  refine Att.attach_callB hn hdf fun w s₀ s₁ mg mb fa o pm cd doc a vs ns Gr Y ho hd' hcd hmg hobj hints hlen hbits hg => ?_
  obtain ⟨KX, hT⟩ := hY w _ Y
  obtain ⟨fd, bi, ok⟩ := G w mg fa _ KX Gr.T.g hmg
  refine law_go KX Gr.T.g Gr.T.b Gr.T.builtins Gr.T.nolimit hg hobj hints (Nat.le_trans hlen (by decide)) hr hT (nT w.params) (cT w.params) Gr.T.bmain ok bi fun H hH hS => law_sp hm hro hS (fun t ht => ?_) (hd ns hlen)
  exact TabS.nil (hH _ (inT w.params t ht))
end Mp
namespace Mp
open PySem PySem.Spec L2
open PyProof.Rows hiding St
variable [LamT]

/-! ### what the top has written -/
theorem all0 {α : Type} {p : α → Prop} : ∀ x ∈ ([] : List α), p x := fun _ h => nomatch h
theorem allc {α : Type} {p : α → Prop} {a : α} {l : List α} (h : p a) (t : ∀ x ∈ l, p x) : ∀ x ∈ a :: l, p x := List.forall_mem_cons.mpr ⟨h, t⟩
structure HasFn (K : PySem.W.Frag) (x : Str) (st : Stmt) : Prop where
  ex : ∃ (f : Addr) (oc : Value) (od an : Option Addr) (kV doc pm cdv ct : Value) (sl : Array (Option Value)), PySem.W.nsIn K mainGlobals x = some (some (.ref f)) ∧
    K.lookup f = some ⟨oc, od, .func (PySem.W.fnOf x x (defArgs st) (defBody st) (defScope st) .none kV doc pm an cdv ct), sl⟩ ∧ PySem.W.codeIn K cdv x = true ∧ PySem.W.keepIn K (.ref f) = true
theorem HasFn.mk' {K : PySem.W.Frag} {x : Str} {st : Stmt} {f : Addr} {oc : Value} {od an : Option Addr} {kV doc pm cdv ct : Value} {sl : Array (Option Value)} (a : PySem.W.nsIn K mainGlobals x = some (some (.ref f)))
    (l : K.lookup f = some ⟨oc, od, .func (PySem.W.fnOf x x (defArgs st) (defBody st) (defScope st) .none kV doc pm an cdv ct), sl⟩) (c : PySem.W.codeIn K cdv x = true) (k : PySem.W.keepIn K (.ref f) = true) : HasFn K x st :=
  ⟨f, oc, od, an, kV, doc, pm, cdv, ct, sl, a, l, c, k⟩
structure FnAt (K : PySem.W.Frag) (mg : Str → Option Value) (x : Str) (st : Stmt) : Prop where
  ex : ∃ (f : Addr) (fd : FuncData), mg x = some (.ref f) ∧ PySem.W.keepIn K (.ref f) = true ∧ Fun K x x st f fd
theorem HasFn.at_ {K : PySem.W.Frag} {x : Str} {st : Stmt} {h : Heap} {mg : Str → Option Value} (A : HasFn K x st) (X : K.In h) (G : h.Ns mainGlobals mg) : FnAt K mg x st := by
  obtain ⟨f, oc, od, an, kV, doc, pm, cdv, ct, sl, a, l, c, k⟩ := A.ex
  exact ⟨f, _, PySem.W.mg_of X G a, k, fun_mk l c k⟩
abbrev ConAt (K : PySem.W.Frag) (mg : Str → Option Value) (x : Str) (d : D) : Prop := ∃ u v, mg x = some u ∧ RelV v u ∧ ∀ H, Rz K H v d
theorem rz_lstK {K : PySem.W.Frag} {H : Hp} {a : Addr} {its : Array Value} {n : Nat} {sl : Array (Option Value)} {vs : List V} {ds : List D} (l : K.lookup a = some ⟨.type "list", none, .seq its n, sl⟩) (z : its.size ≤ sizeLine) (v : Vals vs its.toList) (r : RzAll K H vs ds) : Rz K H (.ref a) (.list ds) :=
  .lst (.inr ⟨_, its, n, l, rfl, rfl, rfl, z, v⟩) r
theorem FnG.mono {P : Program} {w : World} {K : PySem.W.Frag} {mg : Str → Option Value} {base : Heap} {j k : Nat} {x : Str} {F : FnT} (g : FnG P w K mg base j x F) (h : j ≤ k) : FnG P w K mg base k x F := by
  rcases g.ex with ⟨f, fd, ps, a, b, c, d⟩ | c
  · exact ⟨.inl ⟨f, fd, ps, a, b, c.mono h, d⟩⟩
  · exact ⟨.inr (c.mono h)⟩
theorem bind1 {K : PySem.W.Frag} {x qual p : Str} {st : Stmt} {f : Addr} {fd : FuncData} (F : Fun K x qual st f fd)
    (h : ∀ (kV doc pm : Value) (an : Option Addr) (cdv ct : Value) (us : List Value), us.length = [p].length → bindArgs (PySem.W.fnOf x qual (defArgs st) (defBody st) (defScope st) .none kV doc pm an cdv ct) ⟨us, []⟩ = pure ([p].zip us)) :
    ∀ (s : Shared) (u : Value), BindsTo s fd ⟨[u], []⟩ [(p, u)] := by
  obtain ⟨oc, od, kV, doc, pm, an, cdv, ct, osl, rfl, lk, hcd⟩ := F.ex
  exact fun s u => .of_eq (h kV doc pm an cdv ct [u] rfl)
theorem rv_ref (a : Addr) : RelV (.ref a) (.ref a) := rfl
theorem rv_non : RelV .non .none := rfl
theorem rv_bl (b : Bool) : RelV (.bl b) (.bool b) := rfl
theorem rv_int (i : Int) (t : Tok) : RelV (.int i) (.int i t) := ⟨t, rfl⟩
theorem rv_str (x : Str) (t : Tok) : RelV (.str x) (.str x t) := ⟨t, rfl⟩
/-- a def that is not called any deeper keeps any promise -/
theorem ok_none {P : Program} {w : World} {K : PySem.W.Frag} {mg : Str → Option Value} {base : Heap} {k : Nat} {f : Addr} {fd : FuncData} {ps : List Str} {F : FnT} (h : F.den = fun _ => none) : OkG P w K mg base k f fd ps (spFn K F) := by
  have no : ∀ {vs : List V} {H : Hp} {Q : VK} {E : XK}, ¬ spFn K F vs H Q E := fun {vs H Q E} q => by
    obtain ⟨_, _, _, _, _, _, e, _⟩ := q
    rw [h] at e
    cases e
  exact ⟨fun q => (no q).elim, fun _ _ _ _ _ q => (no q).elim⟩
/-! ### defs with keyword-only defaults -/
structure HasFnD (K : PySem.W.Frag) (x : Str) (st : Stmt) (kws : List (Str × V)) : Prop where
  ex : ∃ (f : Addr) (fd : FuncData), PySem.W.nsIn K mainGlobals x = some (some (.ref f)) ∧ PySem.W.keepIn K (.ref f) = true ∧ FunD K x x (defArgs st) (defBody st) (defScope st) [] kws f fd
theorem HasFnD.mk1 {K : PySem.W.Frag} {x : Str} {st : Stmt} {f D : Addr} {oc : Value} {od an : Option Addr} {doc pm cdv ct : Value} {sl : Array (Option Value)} {kw : Str} {v : V} {u : Value} (a : PySem.W.nsIn K mainGlobals x = some (some (.ref f)))
    (l : K.lookup f = some ⟨oc, od, .func (PySem.W.fnOf x x (defArgs st) (defBody st) (defScope st) .none (.ref D) doc pm an cdv ct), sl⟩) (c : PySem.W.codeIn K cdv x = true) (k : PySem.W.keepIn K (.ref f) = true) (d : PySem.W.nsIn K D kw = some (some u)) (r : RelV v u) : HasFnD K x st [(kw, v)] :=
  ⟨f, _, a, k, ⟨⟨oc, od, .none, .ref D, doc, pm, an, cdv, ct, sl, rfl, l, c, .inl ⟨rfl, rfl⟩, .inr ⟨D, rfl, fun q hq => by
    rw [List.mem_singleton.mp hq]
    exact ⟨u, d, r⟩⟩⟩, k⟩⟩
structure FnAtD (K : PySem.W.Frag) (mg : Str → Option Value) (x : Str) (st : Stmt) (kws : List (Str × V)) : Prop where
  ex : ∃ (f : Addr) (fd : FuncData), mg x = some (.ref f) ∧ PySem.W.keepIn K (.ref f) = true ∧ FunD K x x (defArgs st) (defBody st) (defScope st) [] kws f fd
theorem HasFnD.at_ {K : PySem.W.Frag} {x : Str} {st : Stmt} {kws : List (Str × V)} {h : Heap} {mg : Str → Option Value} (A : HasFnD K x st kws) (X : K.In h) (G : h.Ns mainGlobals mg) : FnAtD K mg x st kws := by
  obtain ⟨f, fd, a, k, F⟩ := A.ex
  exact ⟨f, fd, PySem.W.mg_of X G a, k, F⟩
theorem funD_fun {K : PySem.W.Frag} {x qual : Str} {st : Stmt} {kws : List (Str × V)} {f : Addr} {fd : FuncData} (F : FunD K x qual (defArgs st) (defBody st) (defScope st) [] kws f fd) : Fun K x qual st f fd := by
  obtain ⟨oc, od, dV, kV, doc, pm, an, cdv, ct, osl, e, lk, hcd, hD, _⟩ := F.ex
  rcases hD with ⟨_, rfl⟩ | ⟨n, _⟩
  · exact ⟨⟨oc, od, kV, doc, pm, an, cdv, ct, osl, e, lk, hcd⟩, F.kp⟩
  · exact absurd rfl n
/-- the keyword-only ones fill up from their defaults -/
theorem binds_kwo {K : PySem.W.Frag} {x qual : Str} {st : Stmt} {kws : List (Str × V)} {f : Addr} {fd : FuncData} {ps : List Str} {F : FnT} (Fd : FunD K x qual (defArgs st) (defBody st) (defScope st) [] kws f fd) (hk : kws ≠ []) (hn : F.np + kws.length = ps.length) (h2 : F.ks = []) (h4 : F.pm = List.range ps.length)
    (hd : ∀ H, RzAll K H (kws.map (·.2)) F.dfl)
    (h : ∀ (D : Addr) (doc pm : Value) (an : Option Addr) (cdv ct : Value) (us ks : List Value), us.length = F.np → ks.length = kws.length →
      KwChain D ((kws.map (·.1)).zip ks) (bindArgs (PySem.W.fnOf x qual (defArgs st) (defBody st) (defScope st) .none (.ref D) doc pm an cdv ct) ⟨us, []⟩) (ps.zip (us ++ ks))) : BindsF K fd ps F := by
  obtain ⟨ds, r, b⟩ := Fd.binds0 F.np hk hn h
  refine ⟨_, ds, hd, r, fun s us ws bs X l1 l2 hp hb => ?_⟩
  rw [h2] at l2 ⊢
  obtain rfl : ws = [] := by simpa using l2
  rw [List.append_nil] at hp
  have hl : (us ++ ds).length = ps.length := by
    have := r.length
    rw [List.length_map] at this
    rw [List.length_append]
    omega
  rw [h4, ← hl, pick_range] at hp
  cases hp
  exact b s us X hl
end Mp
set_option maxHeartbeats 2000000
namespace Mp
open PySem PySem.HandSPX PySem.Builtin PySem.Builtin.ObjectAttr
variable [LamT]

/-! ### an exception of an own class is made: __new__ of a built-in class, then the own __init__, with keywords too -/
/-- what the mro behind the class must have -/
structure Tail (nB : String) (bm : List Value) : Prop where
  new : bm.contains (.type nB) = true
  noA : bm.contains (.type "AttributeError") = false
  noN : bm.contains (.type "NameError") = false
section
variable {M : Model} {prog : Program} {w : World} {A : Around} {E : Value → Shared → Prop} {R : Result → Shared → Prop} {h : Heap} {g : Array GenState} {d : Drawn} {t : Nat} {os : OsState}
variable {nm q : Str} {C N : Addr} {bs bm bmB : List Value} {hdct : Bool} {sn : List Str} {sub : List Value} {ab : Bool} {col : Option Bool} {dd : Option Addr} {k0 k1 k2 k3 k5 : Option Value} {B newId initId : String}

theorem new_check (F : ExcBaseFacts B newId initId bmB) (T : Tail B bm) {rest : List Value} {kw : List (Str × Value)} {Q : Unit → Shared → Prop}
    (hC : h.get? C = some (excClassObj nm q C N bs bm hdct sn sub ab col dd k0 k1 k2 k3 k5 newId)) (hq : Q () ⟨h, g, d, t, os⟩) : wpAny M A (checkBuiltinCall newId ⟨.ref C :: rest, kw⟩) Q E ⟨h, g, d, t, os⟩ := by
  have hcont : (Value.ref C :: bm).contains (.type B) = true := by rw [List.contains_cons, T.new, Bool.or_true]
  have hstar := F.noStar
  simp only [checkBuiltinCall, F.newKind, F.newSplit, F.newRow]
  repeat (first | refine wpAny_loadPart_at hC ?_ | (refine wpAny_isSubtype_exc hC ?_; rw [hcont]) | refine wpAny_staticBase_exc hC ?_ | refine wpAny_madeBy_exc hC ?_ | simp only [bne_self_eq_false, Bool.false_eq_true, if_false] | wp_step)
  exact hq
theorem new_runs (F : ExcBaseFacts B newId initId bmB) (T : Tail B bm) {rest : List Value} {kw : List (Str × Value)}
    (hC : h.get? C = some (excClassObj nm q C N bs bm hdct sn sub ab col dd k0 k1 k2 k3 k5 newId))
    (hq : R (.ok (.ret (.ref (h.objs.size + 1)))) ⟨(h.push { cls := .type "tuple", data := .seq rest.toArray }).push
      { cls := .ref C, data := .fields #[.ref h.objs.size, .none, .none, .none, .bool false, .none] }, g, d, t, os⟩) (hrest : rest.length ≤ sizeLine) :
    codeAny (model prog w) A (.builtin newId ⟨.ref C :: rest, kw⟩) R ⟨h, g, d, t, os⟩ := by
  have hends := F.ends
  have hcB : (Value.ref C :: bm).contains (.type B) = true := by rw [List.contains_cons, T.new, Bool.or_true]
  have hcA : (Value.ref C :: bm).contains (.type "AttributeError") = false := by rw [List.contains_cons, T.noA]; rfl
  have hcN : (Value.ref C :: bm).contains (.type "NameError") = false := by rw [List.contains_cons, T.noN]; rfl
  refine codeAny_builtinAt F.entry ?_
  unfold Builtin.«BaseException.__new__»
  refine wpAt_bind ?_
  show wpAt _ _ _ (stack >>= _) _ _ _
  refine wpAt_bind (wpAt_stack fun p below => wpAt_of_wpAny ?_)
  wp_walk
  refine wpAt_of_wpAny ?_
  rw [F.owner]
  repeat (first | with_reducible refine wpAny_madeHere_exc F.canon hC ?_ | with_reducible refine wpAny_loadPart_at hC ?_ | (with_reducible refine wpAny_isSubtype_exc hC ?_; first | rw [hcB] | rw [hcA] | rw [hcN]) | wp_step)
  show R _ _
  rw [Heap.size_push]
  exact hq
theorem type_runs (F : ExcBaseFacts B newId initId bmB) (T : Tail B bm) {rest : List Value} {kw : List (Str × Value)} {fI : Addr} {Q : Fin → Shared → Prop}
    (hC : h.get? C = some (excClassObj nm q C N bs bm hdct sn sub ab col dd k0 k1 k2 k3 k5 newId))
    (hi : W.Looks (model prog w) h (typeLookup (.ref C) "__init__") (some (.ref fI))) (hb : ∀ self, W.Looks (model prog w) h (bindSpecial (.ref fI) self) (.ref fI, [self])) (hrest : rest.length ≤ sizeLine)
    (hq : codeAny (model prog w) A (.call (.ref fI) ⟨.ref (h.objs.size + 1) :: rest, kw⟩)
      (fun r s' => match r with | .ok (.ret v) => v = .none ∧ Q (.done (.ret (.ref (h.objs.size + 1)))) s' | .ok _ => False | .error e => E e s')
      ⟨(h.push (W.kdv_tup rest)).push (excO C h.objs.size), g, d, t, os⟩) :
    wpAny (model prog w) A (Builtin.«type.__call__» ⟨.ref C :: rest, kw⟩) Q E ⟨h, g, d, t, os⟩ := by
  repeat (first | with_reducible refine wpAny_loadPart_at hC ?_ | with_reducible refine wpAny_madeBy_exc hC ?_ | wp_step)
  refine codeAny_call_builtin_code (Code.quiet_builtin _ F.quiet) (new_check F T hC ?_)
  refine new_runs F T hC ?_ hrest
  show wpAny _ _ _ _ _ _
  have k : ∀ b o, h.get? b = some o → ((h.push (W.kdv_tup rest)).push (excO C h.objs.size)).get? b = some o := fun b o e => Heap.get?_push_of_some _ (Heap.get?_push_of_some _ e)
  have hC₁ := k _ _ hC
  have hget : ((h.push (W.kdv_tup rest)).push (excO C h.objs.size)).get? (h.objs.size + 1) = some (excO C h.objs.size) := by heap_get
  have hcC : (Value.ref C :: bm).contains (.ref C) = true := by simp
  have i1 := hi.keeps k
  have b1 := (hb (.ref (h.objs.size + 1))).keeps k
  unfold isInstance
  repeat (first | with_reducible refine wpAny_loadPart_at hget ?_ | (with_reducible refine wpAny_isSubtype_exc hC₁ ?_; rw [hcC]) | wp_step)
  show wpAny _ _ (typeLookup (.ref C) _) _ _ _
  refine i1.at ?_
  refine wpAny_holding (wpAny_bind (b1.at ?_))
  refine wpAny_bind (wpAny_call (codeAny_mono hq fun r s' z => ?_))
  rcases r with e | (v | _ | _ | _) <;> first | exact z | exact z.elim | skip
  obtain ⟨rfl, z⟩ := z
  first
    | exact wpAny_pure (wpAny_pure z)
    | (wp_walk; exact z)
theorem make_runs (F : ExcBaseFacts B newId initId bmB) (T : Tail B bm) {rest : List Value} {kw : List (Str × Value)} {fI : Addr}
    (hC : h.get? C = some (excClassObj nm q C N bs bm hdct sn sub ab col dd k0 k1 k2 k3 k5 newId))
    (hi : W.Looks (model prog w) h (typeLookup (.ref C) "__init__") (some (.ref fI))) (hb : ∀ self, W.Looks (model prog w) h (bindSpecial (.ref fI) self) (.ref fI, [self])) (hrest : rest.length ≤ sizeLine)
    (hq : codeAny (model prog w) (A.under (.builtin "type.__call__" ⟨.ref C :: rest, kw⟩)) (.call (.ref fI) ⟨.ref (h.objs.size + 1) :: rest, kw⟩) (W.InitBack (h.objs.size + 1) R)
      ⟨(h.push (W.kdv_tup rest)).push (excO C h.objs.size), g, d, t, os⟩) :
    codeAny (model prog w) A (.call (.ref C) ⟨rest, kw⟩) R ⟨h, g, d, t, os⟩ := by
  have f1 := tc_lookup
  have f2 := tc_bind (.ref C)
  have hTy : (⟨h, g, d, t, os⟩ : Shared).TypeIs (.ref C) "type" := ⟨_, hC, rfl⟩
  refine codeAny_of_tree ?_
  show wpAny _ _ (callAny (.ref C) _) _ _ _
  repeat (any_goals (first | assumption | with_reducible refine wpAny_loadPart_at hC ?_ | wp_step))
  refine ⟨rfl, ?_⟩
  refine codeAny_call_builtin_at (Code.quiet_builtin _ (by decide +kernel)) entry_typeCall (wpAny_check_type_call_sub hC (type_runs F T hC hi hb hrest ?_))
  refine codeAny_mono hq fun r s' z => ?_
  rcases r with e | (v | _ | _ | _) <;> exact z
end

/-! ### the built-in __init__ on it, and a field's store -/
structure IniF (B initId : String) : Prop where
  plain : plainId initId = true
  entry : entryFor table initId = some Builtin.«BaseException.__init__»
  kind : builtinKind initId = some .slot
  split : splitId initId = some (B, "__init__")
  row : Manifest.signature? initId = some ⟨.positional, "*", B, .self, [⟨"args", .varPos, false⟩]⟩
  noStar : (B != "*") = true
section
variable {M : Model} {prog : Program} {w : World} {A : Around} {E : Value → Shared → Prop} {R : Result → Shared → Prop} {h : Heap} {g : Array GenState} {d : Drawn} {t : Nat} {os : OsState}
variable {nm q : Str} {C N : Addr} {bs bm : List Value} {hdct : Bool} {sn : List Str} {sub : List Value} {ab : Bool} {col : Option Bool} {dd : Option Addr} {k0 k1 k2 k3 k5 : Option Value} {B newId initId : String}
theorem ini_check (F : IniF B initId) (hB : bm.contains (.type B) = true) {e : Addr} {oe : Obj} {rest : List Value} {Q : Unit → Shared → Prop}
    (hC : h.get? C = some (excClassObj nm q C N bs bm hdct sn sub ab col dd k0 k1 k2 k3 k5 newId)) (he : h.get? e = some oe) (hcls : oe.cls = .ref C) (hq : Q () ⟨h, g, d, t, os⟩) :
    wpAny M A (checkBuiltinCall initId ⟨.ref e :: rest, []⟩) Q E ⟨h, g, d, t, os⟩ := by
  have hcB : (Value.ref C :: bm).contains (.type B) = true := by rw [List.contains_cons, hB, Bool.or_true]
  have hshort := F.noStar
  simp only [checkBuiltinCall, F.kind, F.split, F.row]
  repeat (first | (with_reducible refine wpAny_loadPart_at he ?_; rw [hcls]) | with_reducible refine wpAny_loadPart_at hC ?_ | (with_reducible refine wpAny_isSubtype_exc hC ?_; rw [hcB]) | wp_step)
  refine wpAny_onRaise ?_
  rw [show ∀ (a b : String) (n : Nat), Bind.check ⟨.positional, "*", B, .self, [⟨"args", .varPos, false⟩]⟩ a b n (List.map (fun x => x.fst) ({ pos := Value.ref e :: rest } : Args).kw) = pure () from
    fun a b n => check_star_args _ _ _ _ _ _]
  exact wpAny_pure hq
theorem ini_runs (F : IniF B initId) (hB : bm.contains (.type B) = true) {e t0 : Addr} {rest : List Value}
    (hC : h.get? C = some (excClassObj nm q C N bs bm hdct sn sub ab col dd k0 k1 k2 k3 k5 newId)) (he : h.get? e = some (excO C t0)) (hrest : rest.length ≤ sizeLine)
    (hq : ∀ h' t1, (∀ b o, b ≠ e → h.get? b = some o → h'.get? b = some o) → h'.get? e = some (excO C t1) → R (.ok (.ret .none)) ⟨h', g, d, t, os⟩) :
    codeAny (model prog w) A (.call (.builtin initId) ⟨.ref e :: rest, []⟩) R ⟨h, g, d, t, os⟩ := by
  refine codeAny_call_builtin F.plain F.entry (ini_check F hB hC he rfl ?_)
  wp_walk
  refine hq _ h.objs.size (fun b o hb ho => ?_) ?_
  · rw [Heap.get?_update_other _ _ (Ne.symm hb)]
    exact Heap.get?_push_of_some _ ho
  · rw [Heap.get?_update_self _ (Heap.get?_push_of_some _ he) rfl]
    rfl
end
/-- what a class must let its instances' stores through by -/
structure Lets (cd : ClassData) : Prop where
  obj : cd.mro.contains (.type "object") = true
  ne : cd.mro.isEmpty = false
  pass : ∀ self : Value, refuseLoop self "__setattr__" cd.mro = pure ()
  hd : cd.hasDict = true
section
variable {prog : Program} {w : World} {A : Around} {E : Value → Shared → Prop} {R : Result → Shared → Prop} {hp : Heap} {g : Array GenState} {d : Drawn} {t : Nat} {os : OsState}
theorem sto_new {K : W.Frag} {name : Str} {tk : Tok} {v : Value} {x C : Addr} {fv : Array Value} {cd : ClassData}
    (X : K.In hp) (hx : hp.get? x = some { cls := .ref C, data := .fields fv }) (hcd : W.clsIn K C = some cd) (L : Lets cd) (ha : W.findIn K (.ref C) name = some none)
    (hq : ∀ h' tk' dx, (∀ b o, b ≠ x → hp.get? b = some o → h'.get? b = some o) → hp.objs.size ≤ dx → dx ≠ x → h'.get? x = some { cls := .ref C, dict := some dx, data := .fields fv } →
      h'.Ns1 dx (fun y => if y = name then some v else none) → R (.ok (.ret .none)) ⟨h', g, d, tk', os⟩) :
    codeAny (model prog w) A (.call (.builtin "object.__setattr__") ⟨[.ref x, .str name tk, v], []⟩) R ⟨hp, g, d, t, os⟩ := by
  have I : W.InstAt hp x { cls := .ref C, data := .fields fv } C none := ⟨hx, rfl, rfl, trivial⟩
  have SF := F.store_object
  have hxs : x ≠ hp.objs.size := Nat.ne_of_lt (Heap.lt_size hx)
  have sub : W.Looks (model prog w) hp (isInstance (.ref x) (.type "object")) true := I.type.andThen (W.looks_mroIn X (by unfold W.mroIn; rw [hcd, Option.bind_some, if_neg (by rw [L.ne]; decide), L.obj]))
  refine codeAny_call_builtin SF.slot.plain SF.entry (@W.check_slot (model prog w) _ _ ⟨hp, g, d, t, os⟩ "object.__setattr__" "object" "__setattr__" (.ref x) [.str name tk, v] [] _ SF.kind SF.split sub (SF.args (.ref x) (.str name tk) v) ?_)
  have hmr : W.Looks (model prog w) hp (mroOf (.ref C)) cd.mro := (W.looks_clsIn X hcd).andThen .now
  have L3 : W.Looks (model prog w) hp (storeTaker? none) none := .now
  have hcls : W.Looks (model prog w) hp (classData C) cd := W.looks_clsIn X hcd
  rw [W.osa_eq, refuse_eq]
  refine wpAny_bind (wpAny_bind (I.type.at (wpAny_bind (hmr.at ?_))))
  rw [L.pass]
  refine wpAny_pure (wpAny_bind (I.type.at (wpAny_bind ((W.looks_findIn X ha).at (wpAny_bind (L3.at ?_))))))
  show wpAny _ _ (storeInOwnDict (.ref x) (.ref C) (.str name tk) name v false) _ _ _
  have hh := L.hd
  clear hmr sub L
  obtain ⟨nm, bs, mro, ns, qn, hd, sn, sb, ab, col, del⟩ := cd
  dsimp only at hh
  subst hh
  unfold storeInOwnDict ownDictForStores
  repeat (first | with_reducible refine store_in_new ?_ ?_ | with_reducible refine wpAny_loadPart_at hx ?_ | with_reducible refine hcls.at ?_ | wp_step)
  · exact ⟨_, #[], _, (Heap.get?_update_ne _ _ _ _ hxs.symm).trans (Heap.get?_push_at rfl rfl), rfl, fun e he => absurd he (by simp), fun _ => rfl⟩
  · intro h' tk' hn' hs
    have hx₁ : (hp.push { cls := .type "dict", data := .dict #[] }).get? x = some { cls := .ref C, data := .fields fv } := Heap.get?_push_of_some _ hx
    refine hq h' tk' hp.objs.size (fun b o hb ho => ?_) (Nat.le_refl _) hxs.symm ?_ hn'
    · exact (hs.2 b (Nat.ne_of_lt (Heap.lt_size ho))).trans ((Heap.get?_update_ne _ _ _ _ hb).trans (Heap.get?_push_of_some _ ho))
    · exact (hs.2 x hxs).trans (Heap.get?_update_self _ hx₁ rfl)
theorem sto_old {K : W.Frag} {name : Str} {tk : Tok} {v : Value} {x C dx : Addr} {fv : Array Value} {cd : ClassData} {m0 : Str → Option Value} {nl : List Str}
    (X : K.In hp) (hx : hp.get? x = some { cls := .ref C, dict := some dx, data := .fields fv }) (hns : hp.Ns1 dx m0) (hw : Within m0 nl) (hz : nl.length ≤ 1000) (hcd : W.clsIn K C = some cd) (L : Lets cd)
    (ha : W.findIn K (.ref C) name = some none)
    (hq : ∀ h' tk', (∀ b o, b ≠ dx → hp.get? b = some o → h'.get? b = some o) → h'.Ns1 dx (fun y => if y = name then some v else m0 y) → R (.ok (.ret .none)) ⟨h', g, d, tk', os⟩) :
    codeAny (model prog w) A (.call (.builtin "object.__setattr__") ⟨[.ref x, .str name tk, v], []⟩) R ⟨hp, g, d, t, os⟩ := by
  obtain ⟨oD, esD, epD, hoD, hdD, _⟩ := hns.count hw
  have I : W.InstAt hp x { cls := .ref C, dict := some dx, data := .fields fv } C (some oD) := ⟨hx, rfl, rfl, hoD⟩
  have SF := F.store_object
  have sub : W.Looks (model prog w) hp (isInstance (.ref x) (.type "object")) true := I.type.andThen (W.looks_mroIn X (by unfold W.mroIn; rw [hcd, Option.bind_some, if_neg (by rw [L.ne]; decide), L.obj]))
  refine codeAny_call_builtin SF.slot.plain SF.entry (@W.check_slot (model prog w) _ _ ⟨hp, g, d, t, os⟩ "object.__setattr__" "object" "__setattr__" (.ref x) [.str name tk, v] [] _ SF.kind SF.split sub (SF.args (.ref x) (.str name tk) v) ?_)
  have hmr : W.Looks (model prog w) hp (mroOf (.ref C)) cd.mro := (W.looks_clsIn X hcd).andThen .now
  have L3 : W.Looks (model prog w) hp (storeTaker? none) none := .now
  have hcls : W.Looks (model prog w) hp (classData C) cd := W.looks_clsIn X hcd
  rw [W.osa_eq, refuse_eq]
  refine wpAny_bind (wpAny_bind (I.type.at (wpAny_bind (hmr.at ?_))))
  rw [L.pass]
  refine wpAny_pure (wpAny_bind (I.type.at (wpAny_bind ((W.looks_findIn X ha).at (wpAny_bind (L3.at ?_))))))
  show wpAny _ _ (storeInOwnDict (.ref x) (.ref C) (.str name tk) name v false) _ _ _
  have hh := L.hd
  clear hmr sub L
  obtain ⟨nm, bs, mro, ns, qn, hd, sn, sb, ab, col, del⟩ := cd
  dsimp only at hh
  subst hh
  unfold storeInOwnDict ownDictForStores
  repeat (first | with_reducible refine OEX.store_in_old hns hw hz ?_ | with_reducible refine wpAny_loadPart_at hx ?_ | with_reducible refine hcls.at ?_ | wp_step)
  intro h' tk' hn' hs
  exact hq h' tk' (fun b o hb ho => (hs.2 b hb).trans ho) hn'
end
end Mp
set_option maxHeartbeats 2000000
namespace Mp
open PySem PySem.Spec L2
open PyProof.Rows hiding St
variable [LamT]

/-! ### the built-in classes above the own ones -/
def refsT (tl : List Value) : List Value → Bool
  | .ref _ :: r => refsT tl r
  | l => l == tl
def headB : List Value → Bool
  | [] => false
  | .ref _ :: _ => false
  | _ => true
/-- what the built-in part of an mro is good for -/
structure TlF (tl : List Value) (B nB newId initId : String) : Prop where
  fac : ∃ bmB iN, ExcBaseFacts nB newId iN bmB
  ini : IniF B initId
  hB : tl.contains (.type B) = true
  tail : Tail nB tl
  obj : tl.contains (.type "object") = true
  pass : ∀ self : Value, refuseLoop self "__setattr__" tl = pure ()
  hd : headB tl = true
section
variable {tl : List Value} {B nB newId initId : String}
theorem refsT_cases (T : TlF tl B nB newId initId) : ∀ l : List Value, refsT tl l = true → (∃ c r, l = .ref c :: r ∧ refsT tl r = true) ∨ l = tl
  | [], e => .inr (beq_iff_eq.mp e)
  | .ref c :: r, e => .inl ⟨c, r, rfl, e⟩
  | .none :: _, e => .inr (beq_iff_eq.mp e)
  | .ellipsis :: _, e => .inr (beq_iff_eq.mp e)
  | .notImplemented :: _, e => .inr (beq_iff_eq.mp e)
  | .bool _ :: _, e => .inr (beq_iff_eq.mp e)
  | .int _ _ :: _, e => .inr (beq_iff_eq.mp e)
  | .float _ _ :: _, e => .inr (beq_iff_eq.mp e)
  | .str _ _ :: _, e => .inr (beq_iff_eq.mp e)
  | .bytes _ _ :: _, e => .inr (beq_iff_eq.mp e)
  | .type _ :: _, e => .inr (beq_iff_eq.mp e)
  | .builtin _ :: _, e => .inr (beq_iff_eq.mp e)
theorem TlF.ne (T : TlF tl B nB newId initId) : tl ≠ [] := fun e => by
  have := T.hd
  rw [e] at this
  cases this
theorem refsT_spec (T : TlF tl B nB newId initId) : ∀ l : List Value, refsT tl l = true → (∀ self : Value, refuseLoop self "__setattr__" l = pure ()) ∧ (∀ X : String, l.contains (.type X) = tl.contains (.type X)) ∧ l.isEmpty = false
  | [], e => by
    rcases refsT_cases T [] e with ⟨_, _, h, _⟩ | h
    · cases h
    · exact absurd h.symm T.ne
  | a :: r, e => by
    rcases refsT_cases T (a :: r) e with ⟨c, r', h, e'⟩ | h
    · obtain ⟨rfl, rfl⟩ := List.cons.inj h
      obtain ⟨h1, h2, _⟩ := refsT_spec T r e'
      refine ⟨fun self => by rw [refuseLoop_ref]; exact h1 self, fun X => ?_, rfl⟩
      rw [List.contains_cons, h2]
      rfl
    · rw [h]
      exact ⟨T.pass, fun _ => rfl, by cases tl with | nil => exact absurd rfl T.ne | cons _ _ => rfl⟩
end
def tlVE : List Value := [.type "ValueError", .type "Exception", .type "BaseException", .type "object"]
def tlKE : List Value := [.type "KeyError", .type "LookupError", .type "Exception", .type "BaseException", .type "object"]
def tlIE : List Value := [.type "IndexError", .type "LookupError", .type "Exception", .type "BaseException", .type "object"]
def tlRE : List Value := [.type "RuntimeError", .type "Exception", .type "BaseException", .type "object"]
theorem iniF_base {B N I : String} {bm : List Value} (F : ExcBaseFacts B N I bm) : IniF B I := ⟨F.init.plain, F.initEntry, F.initKind, F.initSplit, F.initRow, F.noStar⟩
theorem iniF_cls {B N I : String} (F : ExcClass B N I) : IniF B I := ⟨F.init.plain, F.initEntry, F.initKind, F.initSplit, F.initSig, F.notStar⟩
theorem tlF_VE : TlF tlVE "ValueError" "ValueError" "ValueError.__new__" "ValueError.__init__" :=
  ⟨⟨_, _, F.excBase_ValueError⟩, iniF_base F.excBase_ValueError, by decide +kernel, ⟨by decide +kernel, by decide +kernel, by decide +kernel⟩, by decide +kernel, fun self => by kernel_rfl, rfl⟩
theorem tlF_KE : TlF tlKE "KeyError" "LookupError" "LookupError.__new__" "KeyError.__init__" :=
  ⟨⟨_, _, F.excBase_LookupError⟩, iniF_cls PyProof.Rows.excClass_KeyError, by decide +kernel, ⟨by decide +kernel, by decide +kernel, by decide +kernel⟩, by decide +kernel, fun self => by kernel_rfl, rfl⟩
theorem tlF_IE : TlF tlIE "IndexError" "IndexError" "IndexError.__new__" "IndexError.__init__" :=
  ⟨⟨_, _, F.excBase_IndexError⟩, iniF_base F.excBase_IndexError, by decide +kernel, ⟨by decide +kernel, by decide +kernel, by decide +kernel⟩, by decide +kernel, fun self => by kernel_rfl, rfl⟩
theorem tlF_RE : TlF tlRE "RuntimeError" "RuntimeError" "RuntimeError.__new__" "RuntimeError.__init__" :=
  ⟨⟨_, _, F.excBase_RuntimeError⟩, iniF_base F.excBase_RuntimeError, by decide +kernel, ⟨by decide +kernel, by decide +kernel, by decide +kernel⟩, by decide +kernel, fun self => by kernel_rfl, rfl⟩

/-! ### an own class of exceptions -/
structure XCls (K : PySem.W.Frag) (C : Addr) (tl : List Value) (B nB newId initId : String) : Prop where
  cls : ∃ nm q N bs bm sn sub ab col dd k0 k1 k2 k3 k5, K.lookup C = some (excClassObj nm q C N bs bm true sn sub ab col dd k0 k1 k2 k3 k5 newId) ∧ refsT tl bm = true
  sa : PySem.W.findIn K (.ref C) "__setattr__" = some (some (.builtin "object.__setattr__"))
  tlf : TlF tl B nB newId initId
section
variable {X : Cx} {pins : List (Addr × Obj)} {σ : St} {H : Hp} {s : Shared} {a C dx : Addr} {f : Str} {y : V} {u : Value} {fs : List (Str × V)} {Q : Unit → Shared → Prop} {E : Value → Shared → Prop} {A : Around}
variable {tl : List Value} {B nB newId initId : String}
theorem XCls.lets {K : PySem.W.Frag} (T : XCls K C tl B nB newId initId) : ∃ cd, PySem.W.clsIn K C = some cd ∧ Lets cd := by
  obtain ⟨nm, q, N, bs, bm, sn, sub, ab, col, dd, k0, k1, k2, k3, k5, hC, hbm⟩ := T.cls
  obtain ⟨h1, h2, h3⟩ := refsT_spec T.tlf (.ref C :: bm) (show refsT tl bm = true from hbm)
  refine ⟨{ name := nm, bases := bs, mro := .ref C :: bm, ns := N, qualname := q, hasDict := true, slotNames := sn, subclasses := sub, abstract := ab, collection := col, hasDel := false }, by unfold PySem.W.clsIn; rw [hC] <;> rfl, ⟨?_, h3, h1, rfl⟩⟩
  exact (h2 "object").trans T.tlf.obj
theorem st_new (T : XCls X.K C tl B nB newId initId) (I : Inv X pins σ H s) (e : H a = some (exo a C none)) (hno : PySem.W.findIn X.K (.ref C) f = some none) (ry : RelV y u)
    (h : ∀ dx s', H dx = none → dx ≠ a → Inv X pins σ (upd (upd H dx (exd dx [(f, y)])) a (exo a C (some dx))) s' → Q () s') : wpAny (model X.prog X.w) A (setAttr (.ref a) f u) Q E s := by
  obtain ⟨cd, hcl, L⟩ := T.lets
  obtain ⟨t1, ho⟩ := exo_at I.hok e
  obtain ⟨hp, g, d, t, os⟩ := s
  refine PySem.W.set_plain I.kIn (ox := { cls := .ref C, dict := none, data := .fields #[.ref t1, .none, .none, .none, .bool false, .none] }) (od := none) ⟨ho, rfl, rfl, trivial⟩ T.sa ?_
  refine sto_new I.kIn ho hcl L hno (fun h' tk' dx k dn dne hx hn => ?_)
  have hnd : H dx = none := I.hok.fresh dn
  have nd : ∀ {b : Addr} {o : Obj}, hp.get? b = some o → b ≠ dx := fun {b o} q => Nat.ne_of_lt (Nat.lt_of_lt_of_le (Heap.lt_size q) dn)
  have na : ∀ {b : Addr}, H b = none → b ≠ a := fun {b} n z => by
    rw [z, e] at n
    cases n
  have Un1 : Un X.fs [] H (upd (upd H dx (exd dx [(f, y)])) a (exo a C (some dx))) hp h' := {
    keep := fun b o q n _ _ => k b o (na n) q
    slot := fun b o q n _ _ => ⟨o.slots, k b o (na n) q⟩
    free := fun b o q n _ => by rw [upd_ne (na n), upd_ne (nd q)]; exact n
    there := fun b o q _ => by
      by_cases hb : b = a
      · exact ⟨_, by rw [hb]; exact hx⟩
      · exact ⟨o, k b o hb q⟩
    tups := fun b xs q => by rw [upd_ne (at_ne e q exo_tup), upd_ne (ne_of_none q hnd)]; exact q
    frzs := fun b o v q => by rw [upd_ne (at_ne e q exo_frz), upd_ne (ne_of_none q hnd)]; exact q
    tbls := fun b ps q => ⟨#[], by rw [upd_ne (at_ne e q exo_tbl), upd_ne (ne_of_none q hnd), q]; simp⟩ }
  refine h dx _ hnd dne (I.un (t' := tk') Un1 fun b o q => ?_)
  by_cases hb : b = a
  · subst hb
    rw [upd_same] at q
    cases q
    exact exo_ok hx
  · rw [upd_ne hb] at q
    by_cases hd : b = dx
    · subst hd
      rw [upd_same] at q
      cases q
      exact exd_ok hn (relO_put (fs := []) ry fun g => True.intro)
    · rw [upd_ne hd] at q
      exact (I.hok b o q).stay (fun c v hc z => k c v (by
          rcases hc with hc | hc
          · rw [hc]
            exact hb
          · exact at_ne e hc exo_own) z)
        (fun c hc => by rw [upd_ne (at_ne e hc exo_own), upd_ne (ne_of_none hc hnd)]; exact hc) (fun c xs hc => by rw [upd_ne (at_ne e hc exo_tup), upd_ne (ne_of_none hc hnd)]; exact hc)
theorem st_old (T : XCls X.K C tl B nB newId initId) (I : Inv X pins σ H s) (e : H a = some (exo a C (some dx))) (ed : H dx = some (exd dx fs)) (hl : fs.length ≤ 900) (hno : PySem.W.findIn X.K (.ref C) f = some none) (ry : RelV y u)
    (h : ∀ s', Inv X pins σ (upd H dx (exd dx ((f, y) :: fs))) s' → Q () s') : wpAny (model X.prog X.w) A (setAttr (.ref a) f u) Q E s := by
  obtain ⟨cd, hcl, L⟩ := T.lets
  obtain ⟨t1, ho⟩ := exo_at I.hok e
  obtain ⟨mA, hns, rel⟩ := exd_at I.hok ed
  have hw := within_of rel
  obtain ⟨hp, g, d, t, os⟩ := s
  obtain ⟨oD, _, _, hoD, _, _⟩ := hns.count hw
  refine PySem.W.set_plain I.kIn (ox := { cls := .ref C, dict := some dx, data := .fields #[.ref t1, .none, .none, .none, .bool false, .none] }) (od := some oD) ⟨ho, rfl, rfl, hoD⟩ T.sa ?_
  refine sto_old I.kIn ho hns hw (by rw [List.length_map]; omega) hcl L hno (fun h' tk' k hn => ?_)
  have hd : ∃ o, h'.get? dx = some o := by
    obtain ⟨o, _, _, e', _⟩ := hn
    exact ⟨o, e'⟩
  exact h _ (I.write (t' := tk') (x := dx) (e := dx) (o := exd dx ((f, y) :: fs)) (by rw [ed]; exact True.intro) (.inl rfl) k hd (exd_ok hn (relO_put ry rel)))
/-- the built-in __init__ on one that is being made: nothing of it is told -/
theorem ini_ok {us : List Value} {Q : Value → Shared → Prop} (T : XCls X.K C tl B nB newId initId) (I : Inv X pins σ H s) (e : H a = some (exo a C none)) (hl : us.length ≤ sizeLine) (h : ∀ s', Inv X pins σ H s' → Q .none s') :
    wpAny (model X.prog X.w) A (call (.builtin initId) (.ref a :: us)) Q E s := by
  obtain ⟨nm, q, N, bs, bm, sn, sub, ab, col, dd, k0, k1, k2, k3, k5, hC, hbm⟩ := T.cls
  obtain ⟨_, h2, _⟩ := refsT_spec T.tlf bm hbm
  obtain ⟨t1, ho⟩ := exo_at I.hok e
  obtain ⟨hp, g, d, t, os⟩ := s
  refine wpAny_call (ini_runs T.tlf.ini ((h2 B).trans T.tlf.hB) (I.kIn _ _ hC) ho hl fun h' t2 k hx => ?_)
  have J := I.write (t' := t) (x := a) (e := a) (o := exo a C none) (by rw [e]; exact True.intro) (.inl rfl) k ⟨_, hx⟩ (exo_ok hx)
  have eu : upd H a (exo a C none) = H := by
    funext b
    by_cases hb : b = a
    · rw [hb, upd_same, e]
    · rw [upd_ne hb]
  rw [eu] at J
  exact h _ J
end
end Mp
set_option maxHeartbeats 2000000
namespace Mp
open PySem PySem.Spec L2
open PyProof.Rows hiding St
variable [LamT]

/-! ### rules: the built-in __init__ by an own or a built-in class, a field's store -/
structure IniAt (K : PySem.W.Frag) (mg : Str → Option Value) (b : Str) (initId : String) : Prop where
  ex : (∃ P : Addr, mg b = some (.ref P) ∧ PySem.W.readsIn K P (.type "type") = true ∧ PySem.W.specialIn K (.ref P) "__getattribute__" = some (some (.builtin "type.__getattribute__")) ∧ PySem.W.findCls K (.ref P) (.type "type") "__init__" = some (.val (.builtin initId))) ∨
    ∃ T : String, mg b = none ∧ bootBuiltins b = some (.type T) ∧ typeOf (.type T) = pure (.type "type") ∧ Manifest.isStub T = false ∧ PySem.W.findCls K (.type T) (.type "type") "__init__" = some (.val (.builtin initId)) ∧ b ≠ "__name__"
  hh : PySem.W.handedIn (.builtin initId) = true
def tXI (K : PySem.W.Frag) (ta : TA) : TE := fun σ H Q => ta σ H fun vs H1 => ∃ (a C : Addr) (ws : List V), vs = .ref a :: ws ∧ ws.length ≤ 1000 ∧ H1 a = some (exo a C none) ∧ Q .non H1
def tSto (K : PySem.W.Frag) (C : Addr) (f : Str) (to te : TE) : TS := fun D σ H => te σ H fun y H1 => to σ H1 fun x H2 => ∃ a : Addr, x = .ref a ∧ PySem.W.findIn K (.ref C) f = some none ∧
  ((H2 a = some (exo a C none) ∧ ∀ dx, H2 dx = none → dx ≠ a → D.nx σ (upd (upd H2 dx (exd dx [(f, y)])) a (exo a C (some dx)))) ∨
    ∃ (dx : Addr) (fs : List (Str × V)), H2 a = some (exo a C (some dx)) ∧ H2 dx = some (exd dx fs) ∧ fs.length ≤ 900 ∧ D.nx σ (upd H2 dx (exd dx ((f, y) :: fs))))
section
variable {X : Cx} {o e : Expr} {es : List Expr} {to te : TE} {ta : TA} {f b : Str} {p p' p1 p2 pos : Pos} {C : Addr} {tl : List Value} {B nB newId initId : String}
theorem pe_xini {pl : Sem Bool} (XC : XCls X.K C tl B nB newId initId) (IA : IniAt X.K X.mg b initId) (hg : gloB X.env.scope b = true) (ha : PA X (e :: es) ta)
    (hc : eval (.Call (.Attribute (.Name b p1) "__init__" p2) (e :: es) [] pos) X.env = (do
      let ov ← eval (.Name b p1) X.env
      standAt p2.atName
      let (f, first) ← holding [ov] (getMethod ov "__init__" pl)
      callWith pos f first (backTo pos (starEach (e :: es) X.env)) (backToKw pos (keywordEach [] X.env))))
    (he : starEach (e :: es) X.env = (false, eval e X.env) :: starEach es X.env) (hpl : (backTo pos (starEach es X.env)).any (·.1) = false) :
    PE X (.Call (.Attribute (.Name b p1) "__init__" p2) (e :: es) [] pos) (fun σ H Q => ta σ H fun vs H1 => ∃ (a : Addr) (ws : List V), vs = .ref a :: ws ∧ ws.length ≤ 1000 ∧ H1 a = some (exo a C none) ∧ Q .non H1) := by
  simp only [gloB, Bool.and_eq_true, decide_eq_true_eq, Bool.not_eq_true'] at hg
  refine ⟨fun pins s σ H Q I h => ?_⟩
  have fin : ∀ tk, wpAny (model X.prog X.w) X.A (callWith pos (Value.builtin initId) [] (backTo pos (starEach (e :: es) X.env)) []) (EP X pins σ Q) X.xe { s with toks := tk } := fun tk => by
    refine PyProof.Rows.callWith_method1 (thn (ha.run pos pins _ σ H _ (I.tok tk) h) fun us s1 ⟨vs, H1, I1, r1, a, ws, ev, hl, ea, q⟩ => ?_) he hpl
    subst ev
    cases r1 with
    | @cons _ u0 _ ur ra rw' =>
      obtain rfl : u0 = Value.ref a := ra
      have hlen : ur.length ≤ sizeLine := by
        rw [← Paired.length rw', sizeLine_eq]
        omega
      exact ini_ok XC I1 ea hlen fun s' J => ⟨.non, H1, J, rfl, q⟩
  rcases IA.ex with ⟨P, m1, m2, m3, m4⟩ | ⟨Tn, m1, m2, m3, m4, m5, m6⟩
  · refine PySem.W.methodCall_KW (ld_glob I hg.1 m1 ?_ hg.2) hc
    exact PySem.W.method_cls I.kIn m3 (PySem.W.cls_value I.kIn m2 m4 IA.hh (fin _))
  · refine PySem.W.methodCall_KW (ld_blt I hg.1 m1 m2 ?_ m6 hg.2) hc
    obtain ⟨m, fr⟩ := I.fr
    exact PySem.W.method_type fr I.ok.mod.kin m3 m4 m5 IA.hh (fin _)
theorem ps_sto (XC : XCls X.K C tl B nB newId initId) (ho : PE X o to) (he : PE X e te) (hs : swapsWith e (some (.Attribute o f p')) pos.line X.env = pure false) : PS X (.Assign [.Attribute o f p'] e pos) (tSto X.K C f to te) := by
  refine ⟨fun pins s σ H D I h => ?_⟩
  refine plainObj_wpAny_Assign_Attribute (thn (he.run pins s σ H _ I h) fun v s1 ⟨y, H1, I1, r1, q1⟩ => thn (ho.run pins s1 σ H1 _ I1 q1) fun u s2 ⟨x, H2, I2, r2, a, ex, hno, q⟩ => ?_) hs
  subst ex
  obtain rfl : u = Value.ref a := r2
  rcases q with ⟨ea, q⟩ | ⟨dx, fs, ea, ed, hl, q⟩
  · exact st_new XC I2 ea hno r1 fun dx s' n ne J => ⟨σ, _, J, q dx n ne⟩
  · exact st_old XC I2 ea ed hl hno r1 fun s' J => ⟨σ, _, J, q⟩
end
/-! ### the stores behind it -/
def svl (σ : St) (i : Nat) : V := match σ[i]? with
  | some (some v) => v
  | _ => .non
def stosV (σ : St) : List (Str × Nat) → List (Str × V) → List (Str × V)
  | [], acc => acc
  | (f, i) :: r, acc => stosV σ r ((f, svl σ i) :: acc)
def stoB (N : List Str) (sc : Scope) : List (Str × Nat) → List Stmt → Bool
  | [], [] => true
  | (f, i) :: r, .Assign [.Attribute (.Name z _) f' _] (.Name q _) _ :: rest => varB N sc 0 z && decide (f' = f) && varB N sc i q && stoB N sc r rest
  | _, _ => false
theorem stoB_cons {N : List Str} {sc : Scope} {f : Str} {i : Nat} {r : List (Str × Nat)} {sts : List Stmt} (h : stoB N sc ((f, i) :: r) sts = true) :
    ∃ z pz pf q pq pos rest, sts = .Assign [.Attribute (.Name z pz) f pf] (.Name q pq) pos :: rest ∧ varB N sc 0 z = true ∧ varB N sc i q = true ∧ stoB N sc r rest = true := by
  unfold stoB at h
  split at h
  · rename_i e
    cases e
  · rename_i f1 i1 r1 z pz f' pf q pq pos rest e1
    cases e1
    simp only [Bool.and_eq_true, decide_eq_true_eq] at h
    obtain ⟨⟨⟨h1, rfl⟩, h3⟩, h4⟩ := h
    exact ⟨_, _, _, _, _, _, _, rfl, h1, h3, h4⟩
  · cases h
theorem var_pe {X : Cx} {N : List Str} {i : Nat} {x : Str} {p : Pos} (hN : X.N = N) (h : varB N X.env.scope i x = true) : PE X (.Name x p) (tVar i) := by
  obtain ⟨h1, h2, h3, h4⟩ := varB_spec h
  exact pe_var (by rw [hN]; exact h1) h2 h3 h4
/-- the further stores -/
def tStos (fl : List (Str × Nat)) : TS := fun D σ H => ∃ (a C dx : Addr) (acc : List (Str × V)), σ[0]? = some (some (.ref a)) ∧ H a = some (exo a C (some dx)) ∧ H dx = some (exd dx acc) ∧ dx ≠ a ∧ acc.length + fl.length ≤ 900 ∧ (∀ q ∈ fl, ∃ y, σ[q.2]? = some (some y)) ∧
  ∀ H', (∀ b, b ≠ dx → H' b = H b) → H' dx = some (exd dx (stosV σ fl acc)) → D.nx σ H'
theorem svl_eq {σ : St} {i : Nat} {y : V} (h : σ[i]? = some (some y)) : svl σ i = y := by
  unfold svl
  rw [h]
theorem exo_inj {a b C C' : Addr} {d d' : Option Addr} {H : Hp} (h : H a = some (exo a C d)) (h' : H a = some (exo a C' d')) : exo a C d = exo a C' d' := Option.some.inj (h.symm.trans h')
section
variable {X : Cx} {C : Addr} {tl : List Value} {B nB newId initId : String} {N : List Str}
theorem pss_stos (XC : XCls X.K C tl B nB newId initId) (hN : X.N = N) : ∀ (fl : List (Str × Nat)) (sts : List Stmt), stoB N X.env.scope fl sts = true → (∀ q ∈ fl, PySem.W.findIn X.K (.ref C) q.1 = some none) →
    PSs X sts (fun D σ H => ∃ (a dx : Addr) (acc : List (Str × V)), σ[0]? = some (some (.ref a)) ∧ H a = some (exo a C (some dx)) ∧ H dx = some (exd dx acc) ∧ dx ≠ a ∧ acc.length + fl.length ≤ 900 ∧ (∀ q ∈ fl, ∃ y, σ[q.2]? = some (some y)) ∧
      ∀ H', (∀ b, b ≠ dx → H' b = H b) → H' dx = some (exd dx (stosV σ fl acc)) → D.nx σ H')
  | [], [], _, _ => ⟨fun pins s σ H D I h => by
      obtain ⟨a, dx, acc, h1, h2, h3, h4, h5, h6, q⟩ := h
      exact pss_nil.run pins s σ H D I (q H (fun _ _ => rfl) h3)⟩
  | [], _ :: _, h, _ => by simp [stoB] at h
  | (f, i) :: r, sts, h, hf => by
    obtain ⟨z, pz, pf, q0, pq, pos, rest, rfl, h1, h3, h4⟩ := stoB_cons h
    have ih := pss_stos XC hN r rest h4 fun q hq => hf q (List.mem_cons_of_mem _ hq)
    have one := ps_sto (f := f) (p' := pf) (pos := pos) XC (var_pe (p := pz) hN h1) (var_pe (p := pq) hN h3) (by rfl)
    refine ⟨fun pins s σ H D I hh => (pss_cons one ih).run pins s σ H D I ?_⟩
    obtain ⟨a, dx, acc, k1, k2, k3, k4, k5, k6, q⟩ := hh
    obtain ⟨y, hy⟩ := k6 (f, i) List.mem_cons_self
    refine ⟨y, hy, .ref a, k1, a, rfl, hf (f, i) List.mem_cons_self, .inr ⟨dx, acc, k2, k3, by simp at k5; omega, ?_⟩⟩
    refine ⟨a, dx, (f, y) :: acc, k1, by rw [upd_ne (Ne.symm k4)]; exact k2, upd_same, k4, by simp at k5 ⊢; omega, fun q hq => k6 q (List.mem_cons_of_mem _ hq), fun H' e1 e2 => q H' (fun b hb => by rw [e1 b hb, upd_ne hb]) ?_⟩
    rw [e2]
    show _ = some (exd dx (stosV σ r ((f, svl σ i) :: acc)))
    rw [svl_eq hy]
end
/-! ### the promise of such an __init__ -/
def FunX (K : PySem.W.Frag) (x qual : Str) (st : Stmt) (f : Addr) (fd : FuncData) : Prop :=
  ∃ (oc : Value) (od : Option Addr) (dV kV doc pm : Value) (an : Option Addr) (cdv ct : Value) (osl : Array (Option Value)),
    fd = PySem.W.fnOf x qual (defArgs st) (defBody st) (defScope st) dV kV doc pm an cdv ct ∧ K.lookup f = some ⟨oc, od, .func fd, osl⟩ ∧ PySem.W.codeIn K cdv qual = true
theorem okG_ofX {P : Program} {w : World} {K : PySem.W.Frag} {mg : Str → Option Value} {base : Heap} {x qual : Str} {st : Stmt} {f : Addr} {fd : FuncData} {N ps : List Str} {k : Nat} {sp : Sp} (Fu : FunX K x qual st f fd) (S : FnScope N ps (defScope st))
    (many : ∀ {vs : List V} {H : Hp} {Q : VK} {E : XK}, sp vs H Q E → vs.length = ps.length)
    (body : ∀ {cdv : Value} {A : Around} {outer : List Env} {s : Shared} {H : Hp} {vs : List V} {Q : VK} {E : XK}, A.guards = some [] → Room k (A.deeper (envOfC qual (defScope st) s.heap.objs.size f cdv)) → sp vs H Q E →
      ∃ t, PSs (cxOf CX0 P w K mg base N qual (defScope st) f cdv A outer s H E).nox (defBody st) t ∧ t { nx := fun _ H' => Q .non H', rt := Q } (start N vs) H) : OkG P w K mg base (k + 1) f fd ps sp := by
  obtain ⟨oc, od, dV, kV, doc, pm, an, cdv, ct, osl, rfl, lk, hcd⟩ := Fu
  refine ⟨many, fun {A outer s H args us vs Q E} gq hr e0 hb r hsp => ?_⟩
  have KX : K.In s.heap := e0.mod.kin.keeps fun b o e => (e0.bs b o e).1
  have lim : s.heap.NoLimit := e0.mod.nolimit.keeps fun b o e => (e0.bs b o e).1
  have kinds : ∀ y ∈ ps.zip us, (defScope st).names.lookup y.1 = some .local ∨ ((defScope st).names.lookup y.1 = some .cell ∧ ((cellsFrom (s.heap.objs.size + 1) (defScope st).names []).lookup y.1).isSome = true) := fun ⟨n, v⟩ hy =>
    (S.par n (List.of_mem_zip hy).1).elim .inl fun q => .inr ⟨q, PySem.W.cellsFrom_some _ _ _ (.inl q)⟩
  refine codeAny_call_function hr.depth (KX _ _ lk) rfl S.co S.gen rfl (PySem.W.codeRec_of KX hcd) (hb _ _ _ _ (wpAny_newFunctionEnv_cells S.kind kinds fun env he s1 x => ?_))
  cases he
  refine ⟨lim.keeps x.toInCall.keep, codeAny_func ?_⟩
  obtain ⟨t, ht, hq⟩ := body gq (hr.deeper _) hsp
  have I := inv_start (CX := CX0) (E := E) (qual := qual) (f := f) (cd := cdv) S hr.hd e0 (many hsp) r x
  have ht := ht.nox
  refine wpAny_mono (ht.run [] s1 (start N vs) H _ I hq) (fun fl s' hs => ?_) fun _ _ hs => hs
  cases fl with
  | ret u =>
    obtain ⟨v, _, H', J, rv, q⟩ := hs
    exact ⟨v, H', J.os, J.bare, J.base, J.hok, rv, q⟩
  | next =>
    obtain ⟨_, H', J, q⟩ := hs
    exact ⟨.non, H', J.os, J.bare, J.base, J.hok, rfl, q⟩
  | brk => obtain ⟨_, _, _, q⟩ := hs; exact q.elim
  | cont => obtain ⟨_, _, _, q⟩ := hs; exact q.elim
def spIni (C : Addr) (N : List Str) (fl : List (Str × Nat)) : Sp := fun vs H Q _ => ∃ (a : Addr) (ys : List V), vs = .ref a :: ys ∧ vs.length = N.length ∧ H a = some (exo a C none) ∧
  ∀ dx H', H dx = none → dx ≠ a → (∀ b, b ≠ a → b ≠ dx → H' b = H b) → H' a = some (exo a C (some dx)) → H' dx = some (exd dx (stosV (vs.map some) fl [])) → Q .non H'
theorem ini_def {P : Program} {w : World} {K : PySem.W.Frag} {mg : Str → Option Value} {base : Heap} {qual : Str} {st : Stmt} {f C : Addr} {fd : FuncData} {N : List Str} {k : Nat} {tl : List Value} {B nB newId initId : String} {b z0 tx : Str} {p1 p2 p3 p4 p5 p6 : Pos} {j : Nat} {f0 : Str} {i0 : Nat} {fl : List (Str × Nat)} {s0 : Stmt} {sts : List Stmt} {plf : Env → Sem Bool}
    (Fu : FunX K "__init__" qual st f fd) (S : FnScope N N (defScope st)) (XC : XCls K C tl B nB newId initId) (IA : IniAt K mg b initId) (hn : ∀ q ∈ (f0, i0) :: fl, PySem.W.findIn K (.ref C) q.1 = some none)
    (hb : defBody st = .Expr (.Call (.Attribute (.Name b p1) "__init__" p2) [.Name z0 p3, .Constant (.str tx) j p4] [] p5) p6 :: s0 :: sts) (hg : gloB (defScope st) b = true) (hz : varB N (defScope st) 0 z0 = true)
    (hs : stoB N (defScope st) ((f0, i0) :: fl) (s0 :: sts) = true) (hi : ∀ q ∈ (f0, i0) :: fl, q.2 < N.length) (hl : fl.length ≤ 800)
    (hc : ∀ env : Env, eval (.Call (.Attribute (.Name b p1) "__init__" p2) [.Name z0 p3, .Constant (.str tx) j p4] [] p5) env = (do
      let ov ← eval (.Name b p1) env
      standAt p2.atName
      let (f, first) ← holding [ov] (getMethod ov "__init__" (plf env))
      callWith p5 f first (backTo p5 (starEach [.Name z0 p3, .Constant (.str tx) j p4] env)) (backToKw p5 (keywordEach [] env)))) :
    OkG P w K mg base (k + 1) f fd N (spIni C N ((f0, i0) :: fl)) := by
  refine okG_ofX Fu S (fun {vs H Q E} h => ?_) (fun {cdv A outer s H vs Q E} gq hr h => ?_)
  · obtain ⟨_, _, _, h, _⟩ := h
    exact h
  · let X : Cx := (cxOf CX0 P w K mg base N qual (defScope st) f cdv A outer s H E).nox
    have hN : X.N = N := rfl
    obtain ⟨a, ys, rfl, hlen, ha, q⟩ := h
    have hst : L2.start N (.ref a :: ys) = (V.ref a :: ys).map some := by
      unfold L2.start
      rw [hlen, Nat.sub_self]
      simp
    obtain ⟨z, pz, pf, q0, pq, pos, rest, e2, h1, h3, h4⟩ := stoB_cons hs
    cases e2
    have pr := pe_xini (X := X) (pl := plf X.env) (es := [.Constant (.str tx) j p4]) (pos := p5) (p1 := p1) (p2 := p2) XC IA hg (pa_cons (var_pe (p := p3) hN hz) (pa_cons pe_str pa_nil (star_off rfl)) (star_off rfl)) (hc X.env) (star_off rfl) (by rw [star_off rfl]; rfl)
    have one := ps_sto (X := X) (f := f0) (p' := pf) (pos := pos) XC (var_pe (p := pz) hN h1) (var_pe (p := pq) hN h3) (by rfl)
    have all := pss_cons (ps_expr (pos := p6) pr (by rfl)) (pss_cons one (pss_stos (X := X) XC hN fl sts h4 fun q hq => hn q (List.mem_cons_of_mem _ hq)))
    rw [← hb] at all
    refine ⟨_, all, ?_⟩
    have get : ∀ i, i < N.length → ∃ y, (L2.start N (.ref a :: ys))[i]? = some (some y) := fun i hi => by
      rw [hst]
      have : i < (V.ref a :: ys).length := by rw [hlen]; exact hi
      exact ⟨_, by rw [List.getElem?_map, List.getElem?_eq_getElem this]; rfl⟩
    obtain ⟨y, hy⟩ := get i0 (hi _ List.mem_cons_self)
    have h0 : (L2.start N (.ref a :: ys))[0]? = some (some (.ref a)) := by rw [hst]; rfl
    refine ⟨.ref a, h0, a, [.str tx], rfl, by simp, ha, ?_⟩
    refine ⟨y, hy, .ref a, h0, a, rfl, hn _ List.mem_cons_self, .inl ⟨ha, fun dx nd ne => ?_⟩⟩
    refine ⟨a, dx, [(f0, y)], h0, upd_same, by rw [upd_ne ne, upd_same], ne, by simp; omega, fun q hq => get _ (hi q (List.mem_cons_of_mem _ hq)), fun H' e1 e2 => ?_⟩
    refine q dx H' nd ne (fun b hb hd => by rw [e1 b hd, upd_ne hb, upd_ne hd]) (by rw [e1 a (Ne.symm ne), upd_same]) ?_
    rw [e2]
    show _ = some (exd dx (stosV _ fl ((f0, svl _ i0) :: [])))
    rw [← hst, svl_eq hy]
end Mp
set_option maxHeartbeats 2000000
namespace Mp
open PySem PySem.Spec L2 PySem.HandSPX LamX
open PyProof.Rows hiding St
variable [LamT]

/-! ### from one's own exception to one that stands still -/
theorem Inv.refit {X : Cx} {pins : List (Addr × Obj)} {σ : St} {H : Hp} {s : Shared} {a : Addr} {φ : Heap → Prop} {u' : HO} {o : Obj} (I : Inv X pins σ H s) (h : H a = some (.ext φ)) (ho : s.heap.get? a = some o)
    (ok : ∀ H', ObjOk X.prog X.w H' s.heap a u') : Inv X pins σ (upd H a (.frz o u')) s := by
  have nt : ∀ b xs, H b = some (.tup xs) → b ≠ a := fun b xs q e => by subst e; rw [h] at q; cases q
  have nf : ∀ b o v, H b = some (.frz o v) → b ≠ a := fun b o v q e => by subst e; rw [h] at q; cases q
  have nb : ∀ b ps, H b = some (.tbl ps) → b ≠ a := fun b ps q e => by subst e; rw [h] at q; cases q
  have nw : ∀ b x, H b = some (.own x) → b ≠ a := fun b x q e => by subst e; rw [h] at q; cases q
  have hk : HOk X.prog X.w (upd H a (.frz o u')) s.heap := fun b z e => by
    by_cases hb : b = a
    · subst hb
      rw [upd_same] at e; cases e
      exact ⟨ho, ok _⟩
    · rw [upd_ne hb] at e
      exact (I.hok b z e).stay (fun _ _ _ r => r) (fun d r => by rw [upd_ne (nw d _ r)]; exact r) fun d xs r => by rw [upd_ne (nt d _ r)]; exact r
  have un : Un X.fs [] H (upd H a (.frz o u')) s.heap s.heap :=
    ⟨fun _ _ q _ _ _ => q, fun b ob q _ _ _ => ⟨ob.slots, q⟩, fun b ob _ n _ => by
      rw [upd_ne (fun e => by subst e; rw [h] at n; cases n)]; exact n, fun b ob q _ => ⟨ob, q⟩,
      fun b xs q => by rw [upd_ne (nt b _ q)]; exact q, fun b ob z q => by rw [upd_ne (nf b _ _ q)]; exact q,
      fun b ps q => ⟨#[], by rw [upd_ne (nb b _ q), q]; simp⟩⟩
  exact I.un (h' := s.heap) (t' := s.toks) un hk
theorem there_ok {P : Program} {w : World} {h : Heap} {a : Addr} {o : Obj} (e : h.get? a = some o) (H : Hp) : ObjOk P w H h a (.ext fun h => ∃ o, h.get? a = some o) :=
  ⟨⟨o, e⟩, ⟨o, e⟩, fun h1 h2 ⟨o, q⟩ k => ⟨o, k _ q⟩⟩
/-! ### the data of it -/
def stosD (ds : List D) : List (Str × Nat) → List (Str × D) → List (Str × D)
  | [], acc => acc
  | (f, i) :: r, acc => stosD ds r ((f, ds.getD (i - 1) .none) :: acc)
/-- the denotation of a class of exceptions: its fields by the parameters -/
def exDen (nm : Str) (n : Nat) (fl : List (Str × Nat)) (ds : List D) : Option (D × List D) := if ds.length = n then some (obD nm (stosD ds fl []), []) else none
theorem stos_rz {K : PySem.W.Frag} {H : Hp} {a : Addr} {cs : List V} {ds : List D} (r : RzAll K H cs ds) : ∀ (fl : List (Str × Nat)) (acc : List (Str × V)) (acd : List (Str × D)), (∀ q ∈ fl, 1 ≤ q.2 ∧ q.2 ≤ ds.length) → RzKv K H (fKey acc) (acd.map fun p => (.str p.1, p.2)) →
    RzKv K H (fKey (stosV ((V.ref a :: cs).map some) fl acc)) ((stosD ds fl acd).map fun p => (.str p.1, p.2))
  | [], _, _, _, h => h
  | (f, i) :: t, acc, acd, hi, h => by
    obtain ⟨h1, h2⟩ := hi (f, i) List.mem_cons_self
    simp only at h1 h2
    obtain ⟨j, rfl⟩ : ∃ j, i = j + 1 := ⟨i - 1, by omega⟩
    have hj : j < ds.length := by omega
    obtain ⟨v, e1, z⟩ := r.get (i := j) (d := ds[j]) (List.getElem?_eq_getElem hj)
    refine stos_rz r t ((f, svl _ (j + 1)) :: acc) ((f, ds.getD (j + 1 - 1) .none) :: acd) (fun q hq => hi q (List.mem_cons_of_mem _ hq)) ?_
    have e2 : svl ((V.ref a :: cs).map some) (j + 1) = v := svl_eq (by rw [List.map_cons, List.getElem?_cons_succ, List.getElem?_map, e1]; rfl)
    have e3 : ds.getD (j + 1 - 1) .none = ds[j] := by
      rw [Nat.add_sub_cancel, List.getD_eq_getElem?_getD, List.getElem?_eq_getElem hj]; rfl
    rw [e2, e3]
    exact RzKv.cons (k := .inr f) z h
theorem pure_args {K : PySem.W.Frag} {H : Hp} : ∀ {m : List Bool} {vs : List V} {ds : List D}, ArgsOk K H m vs ds → m.all (fun b => !b) = true → RzAll K H vs ds ∧ lent m vs ds = []
  | _, _, _, .nil, _ => ⟨.nil, rfl⟩
  | _, _, _, .v (v := v) z r, h => by
    obtain ⟨a, b⟩ := pure_args r (by simpa using h)
    exact ⟨.cons z a, by rw [lent_f]; exact b⟩
  | _, _, _, .o _ _, h => by simp at h
theorem KeepL.same {ls : List (Addr × D)} {H H' : Hp} (s : Same H H') : KeepL ls H H' :=
  ⟨fun b o e _ _ => s b o e, fun b h => (by
    cases e : H b with
    | none => rfl
    | some o => rw [s b o e] at h; cases h), fun P q _ (t : TabS H P q) => t.ext s⟩
theorem pick_len {α : Type} {as : List α} : ∀ {pm : List Nat} {bs : List α}, pick as pm = some bs → bs.length = pm.length
  | [], _, h => by cases h; rfl
  | i :: pm, bs, h => by
    unfold pick at h
    obtain ⟨_, _, h2⟩ := Option.bind_eq_some_iff.mp h
    obtain ⟨cs, h3, h4⟩ := Option.map_eq_some_iff.mp h2
    cases h4
    rw [List.length_cons, List.length_cons, pick_len h3]
theorem pick_shift {α : Type} (x : α) (as : List α) : ∀ (pm : List Nat), pick (x :: as) (pm.map (· + 1)) = pick as pm
  | [] => rfl
  | i :: pm => by
    rw [List.map_cons]
    unfold pick
    rw [List.getElem?_cons_succ, pick_shift x as pm]
theorem pick_self {α : Type} (x : α) (as bs : List α) (pm : List Nat) (h : pick as pm = some bs) : pick (x :: as) (0 :: pm.map (· + 1)) = some (x :: bs) := by
  unfold pick
  rw [List.getElem?_cons_zero, Option.bind_some, pick_shift, h]
  rfl
theorem under_quiet {A : Around} {args : Args} (h : A.guards = some []) : (A.under (.builtin "type.__call__" args)).guards = some [] := by
  show pushGuards (Code.guards (.builtin "type.__call__" args)) A.guards = some []
  have e : Code.guards (.builtin "type.__call__" args) = [] := by
    unfold Code.guards
    rw [if_neg]
    show ¬ guardIds.contains "type.__call__" = true
    decide
  rw [h, e]
  rfl
/-! ### the contracts of classes -/
/-- one that has its own __init__ -/
theorem cls_ini {P : Program} {w : World} {K : PySem.W.Frag} {mg : Str → Option Value} {base : Heap} {k : Nat} {x : Str} {C fI : Addr} {fd : FuncData} {N : List Str} {tl : List Value} {B nB newId initId : String} {fl : List (Str × Nat)} {F F1 : FnT}
    (hm : mg x = some (.ref C)) (kp : PySem.W.keepIn K (.ref C) = true) (XC : XCls K C tl B nB newId initId) (cn : ClsN K C x) (ex : ExcC K C) (iC : PySem.W.findIn K (.ref C) "__init__" = some (some (.ref fI))) (tI : PySem.W.typeIn K (.ref fI) = some (.type "function"))
    (ok : OkG P w K mg base k fI fd N (spIni C N fl)) (bf : BindsF K fd N F1) (h1 : F1.np = F.np + 1) (h2 : F1.ks = F.ks) (h3 : F1.dfl = F.dfl) (h4 : F1.pm = 0 :: F.pm.map (· + 1)) (hl : F.np ≤ 1000) (hN : N.length = F.pm.length + 1)
    (hma : F.mask.all (fun b => !b) = true) (hro : F.ro = false) (hd : F.den = exDen x F.pm.length fl) (hi : ∀ q ∈ fl, 1 ≤ q.2 ∧ q.2 ≤ F.pm.length) : ClsG P w K mg base (k + 1) x F := by
  obtain ⟨dvs, dus, hdv, rdv, bnd⟩ := bf
  refine ⟨C, dvs, hm, kp, fun H => by rw [← h3]; exact hdv H, ?_⟩
  intro X e1 e2 e3 e4 e5 room quiet
  subst e1 e2 e3 e4 e5
  intro pins σ H s Q us ws vs zs cs I rv rz lv lz hp hsp
  obtain ⟨nm, q, Nn, bs, bm, sn, sub, ab, col, dd, k0, k1, k2, k3, k5, hC, hbm⟩ := XC.cls
  obtain ⟨bmB, iN, Fb⟩ := XC.tlf.fac
  obtain ⟨_, hct, _⟩ := refsT_spec XC.tlf bm hbm
  have T : Tail nB bm := ⟨(hct nB).trans XC.tlf.tail.new, (hct _).trans XC.tlf.tail.noA, (hct _).trans XC.tlf.tail.noN⟩
  obtain ⟨ds, d, outs, ao, nd, tbs, ed, qq⟩ := hsp
  obtain ⟨rzc, ln⟩ := pure_args ao hma
  rw [ln] at qq
  obtain ⟨hp0, g, dr, tk, os⟩ := s
  have hsz : hp0.objs.size ≤ hp0.objs.size + 1 := Nat.le_succ _
  have hn : H (hp0.objs.size + 1) = none := I.hok.fresh hsz
  have kk : ∀ b o, hp0.get? b = some o → ((hp0.push (PySem.W.kdv_tup us)).push (PySem.HandSPX.excO C hp0.objs.size)).get? b = some o := fun b o e => Heap.get?_push_of_some _ (Heap.get?_push_of_some _ e)
  have hget : ((hp0.push (PySem.W.kdv_tup us)).push (PySem.HandSPX.excO C hp0.objs.size)).get? (hp0.objs.size + 1) = some (PySem.HandSPX.excO C hp0.objs.size) := by heap_get
  have I2 : Inv X pins σ (upd H (hp0.objs.size + 1) (exo (hp0.objs.size + 1) C none)) ⟨(hp0.push (PySem.W.kdv_tup us)).push (PySem.HandSPX.excO C hp0.objs.size), g, dr, tk, os⟩ :=
    I.laid (t' := tk) (a := hp0.objs.size + 1) (o := exo (hp0.objs.size + 1) C none) (h' := (hp0.push (PySem.W.kdv_tup us)).push (PySem.HandSPX.excO C hp0.objs.size)) kk hsz (exo_ok hget)
  have lus : us.length = F.np := by rw [← rv.length]; exact lv
  have lws : ws.length = F.ks.length := by rw [← rz.length]; exact lz
  have hus : us.length ≤ sizeLine := by rw [lus, sizeLine_eq]; omega
  obtain ⟨vbs, hvb, rvb⟩ := pick_vals ((rv.append rz).append rdv) hp
  have hcs : cs.length = F.pm.length := pick_len hp
  have hds : ds.length = F.pm.length := by rw [← rzc.length]; exact hcs
  have hfin : (V.ref (hp0.objs.size + 1) :: cs).length = N.length := by rw [List.length_cons, hcs, hN]
  rw [hd] at ed
  unfold exDen at ed
  rw [if_pos hds] at ed
  cases ed
  have bt := bnd ⟨(hp0.push (PySem.W.kdv_tup us)).push (PySem.HandSPX.excO C hp0.objs.size), g, dr, tk, os⟩ (Value.ref (hp0.objs.size + 1) :: us) ws (Value.ref (hp0.objs.size + 1) :: vbs) I2.kIn (by rw [List.length_cons, lus, h1]) (by rw [lws, h2])
    (by rw [h4]; exact pick_self _ _ _ _ hvb) (by rw [List.length_cons, ← rvb.length, hcs, hN])
  rw [h2] at bt
  refine wpAny_call (make_runs Fb T (I.kIn _ _ hC) (PySem.W.looks_findIn I.kIn iC) (fun self => PySem.W.bind_fn I.kIn self tI) hus (codeAny_mono
    (ok.go (vs := V.ref (hp0.objs.size + 1) :: cs) (Q := fun v H2 => v = .non ∧ ∃ dx, upd H (hp0.objs.size + 1) (exo (hp0.objs.size + 1) C none) dx = none ∧ dx ≠ hp0.objs.size + 1 ∧ (∀ b, b ≠ hp0.objs.size + 1 → b ≠ dx → H2 b = upd H (hp0.objs.size + 1) (exo (hp0.objs.size + 1) C none) b) ∧
        H2 (hp0.objs.size + 1) = some (exo (hp0.objs.size + 1) C (some dx)) ∧ H2 dx = some (exd dx (stosV ((V.ref (hp0.objs.size + 1) :: cs).map some) fl []))) (E := fun _ _ _ => False)
      (under_quiet quiet) (room.make C us (F.ks.zip ws)) (I2.env0.make C us (F.ks.zip ws)) bt (.cons rfl rvb) ⟨hp0.objs.size + 1, cs, rfl, hfin, upd_same, fun dx H' z1 z2 z3 z4 z5 => ⟨rfl, dx, z1, z2, z3, z4, z5⟩⟩) fun r s' hq' => ?_))
  cases r with
  | error er => exact hq'.elim
  | ok fl' =>
    cases fl' with
    | next => exact False.elim hq'
    | brk => exact False.elim hq'
    | cont => exact False.elim hq'
    | ret u =>
      obtain ⟨v, H2, I3, rv2, ev, dx, z1, z2, z3, z4, z5⟩ := I2.after hq'
      subst ev
      obtain ⟨t1, ho⟩ := exo_at I3.hok z4
      obtain ⟨mA, hns, rel⟩ := exd_at I3.hok z5
      obtain ⟨od, hod, _⟩ := lookIn_ns hns
      have J1 := Inv.refit (u' := .ext fun h => ∃ o, h.get? (hp0.objs.size + 1) = some o) I3 z4 ho (there_ok ho)
      have z5' : upd H2 (hp0.objs.size + 1) (.frz { cls := .ref C, dict := some dx, data := .fields #[.ref t1, .none, .none, .none, .bool false, .none] } (.ext fun h => ∃ o, h.get? (hp0.objs.size + 1) = some o)) dx = some (exd dx (stosV ((V.ref (hp0.objs.size + 1) :: cs).map some) fl [])) := by
        rw [upd_ne z2]; exact z5
      have J2 := Inv.refit (u' := .xd (stosV ((V.ref (hp0.objs.size + 1) :: cs).map some) fl [])) J1 z5' hod (fun H' => ⟨mA, hns, rel⟩)
      have hdn : H dx = none := by rw [upd_ne z2] at z1; exact z1
      have keep : ∀ b o, H b = some o → upd (upd H2 (hp0.objs.size + 1) (.frz { cls := .ref C, dict := some dx, data := .fields #[.ref t1, .none, .none, .none, .bool false, .none] } (.ext fun h => ∃ o, h.get? (hp0.objs.size + 1) = some o))) dx (.frz od (.xd (stosV ((V.ref (hp0.objs.size + 1) :: cs).map some) fl []))) b = some o := fun b o e => by
        have b1 : b ≠ hp0.objs.size + 1 := ne_of_none e hn
        have b2 : b ≠ dx := ne_of_none e hdn
        rw [upd_ne b2, upd_ne b1, z3 b b1 b2, upd_ne b1]
        exact e
      have oa := ObAt.exc (K := X.K) (H := upd (upd H2 (hp0.objs.size + 1) (.frz { cls := .ref C, dict := some dx, data := .fields #[.ref t1, .none, .none, .none, .bool false, .none] } (.ext fun h => ∃ o, h.get? (hp0.objs.size + 1) = some o))) dx (.frz od (.xd (stosV ((V.ref (hp0.objs.size + 1) :: cs).map some) fl []))))
        (a := hp0.objs.size + 1) (C := C) (by rw [upd_ne (Ne.symm z2), upd_same]) rfl rfl rfl upd_same ex
      have rzc' := RzAll.per (Per.of_same fun b o e => keep b o e) rzc
      have res := qq (.ref (hp0.objs.size + 1)) _ (KeepL.same keep) .nil Apart.nil (by
        unfold RetOk
        rw [hro]
        exact .obj oa cn (stos_rz rzc' fl [] [] (fun q hq => by rw [hds]; exact hi q hq) .nil))
      exact ⟨rv2, ⟨V.ref (hp0.objs.size + 1), _, J2, rfl, res⟩⟩
/-- one without an own __init__, made with one thing -/
theorem cls_txt {P : Program} {w : World} {K : PySem.W.Frag} {mg : Str → Option Value} {base : Heap} {k : Nat} {x : Str} {C : Addr} {bmB : List Value} {B newId initId : String} {F : FnT}
    (hm : mg x = some (.ref C)) (kp : PySem.W.keepIn K (.ref C) = true) (Fb : ExcBaseFacts B newId initId bmB) (q0 : PySem.W.excIn K C bmB newId = true) (cn : ClsN K C x) (ex : ExcC K C)
    (h1 : F.np = 1) (h2 : F.ks = []) (h3 : F.dfl = []) (hma : F.mask = [false]) (hro : F.ro = false) (hd : F.den = exDen x 1 []) : ClsG P w K mg base k x F := by
  refine ⟨C, [], hm, kp, fun H => by rw [h3]; exact .nil, ?_⟩
  intro X e1 e2 e3 e4 e5 room quiet
  subst e1 e2 e3 e4 e5
  intro pins σ H s Q us ws vs zs cs I rv rz lv lz hp hsp
  obtain ⟨ds, d, outs, ao, nd, tbs, ed, qq⟩ := hsp
  rw [hma] at ao qq
  rw [h1] at lv
  rw [h2] at lz ⊢
  obtain ⟨u, hu⟩ : ∃ u, us = [u] := by
    have : us.length = 1 := by rw [← rv.length]; exact lv
    match us, this with
    | [u], _ => exact ⟨u, rfl⟩
  subst hu
  obtain ⟨rzc, ln⟩ := pure_args ao rfl
  rw [ln] at qq
  have hds : ds.length = 1 := by rw [← rzc.length, ao.length]; rfl
  rw [hd] at ed
  unfold exDen at ed
  rw [if_pos hds] at ed
  cases ed
  show wpAny _ _ (call (.ref C) [u]) _ _ _
  obtain ⟨bm, N, nm, qn, bs, hdct, sn, sub, ab, col, dd, k0, k1, k2, k3, k5, mN, hC, hN, hni, T⟩ := exc_obj I.kIn q0
  refine wpAny_call_exc_subT Fb T hC hN hni (fun h' a hmk => ?_) (by show 1 ≤ sizeLine; rw [sizeLine_eq]; omega)
  have hn : H a = none := I.hok.gone hmk.new
  obtain ⟨t, ht, _, _⟩ := hmk.there
  have J1 : L2.Inv X pins σ (upd H a (ExO (.ref C) a)) { s with heap := h' } := I.laidN (t' := s.toks) hmk.keeps hmk.new hn (exO_ok ht ⟨rfl, rfl⟩ rfl rfl rfl (show 4 < 6 by decide))
  have J2 := Inv.refit (u' := .ext fun h => ∃ o, h.get? a = some o) J1 upd_same ht (there_ok ht)
  have keep : ∀ b o, H b = some o → upd (upd H a (ExO (.ref C) a)) a (.frz { cls := .ref C, data := .fields #[.ref t, .none, .none, .none, .bool false, .none] } (.ext fun h => ∃ o, h.get? a = some o)) b = some o := fun b o e => by
    have b1 : b ≠ a := ne_of_none e hn
    rw [upd_ne b1, upd_ne b1]
    exact e
  have oa := ObAt.exc0 (K := X.K) (H := upd (upd H a (ExO (.ref C) a)) a (.frz { cls := .ref C, data := .fields #[.ref t, .none, .none, .none, .bool false, .none] } (.ext fun h => ∃ o, h.get? a = some o))) (a := a) (C := C) upd_same rfl rfl rfl ex
  have res := qq (.ref a) _ (KeepL.same keep) .nil Apart.nil (by
    unfold RetOk
    rw [hro]
    exact .obj oa cn .nil)
  exact ⟨.ref a, _, J2, rfl, res⟩
/-- positional defaults: how a call fills up -/
theorem binds_dfl {K : PySem.W.Frag} {x qual : Str} {params : Arguments} {body : List Stmt} {scope : Scope} {dvs : List V} {f : Addr} {fd : FuncData} {ps : List Str} {F : FnT} (Fd : FunD K x qual params body scope dvs [] f fd) (hd : dvs ≠ []) (j : Nat)
    (hz : ∀ H, RzAll K H (dvs.drop j) F.dfl)
    (h : ∀ (T : Addr) (kV doc pm : Value) (an : Option Addr) (cdv ct : Value) (us ws its bs : List Value), us.length = F.np → ws.length = F.ks.length → its.length = dvs.length → pick (us ++ ws ++ its.drop j) F.pm = some bs →
      ∃ k, bindArgs (PySem.W.fnOf x qual params body scope (.ref T) kV doc pm an cdv ct) ⟨us, F.ks.zip ws⟩ = seqItems? (.ref T) >>= k ∧ k (some its.toArray) = pure (ps.zip bs)) : BindsF K fd ps F := by
  obtain ⟨oc, od, dV, kV, doc, pm, an, cdv, ct, osl, rfl, lk, hcd, hD, hK⟩ := Fd.ex
  rcases hD with ⟨e, _⟩ | ⟨_, T, o, its, m, rfl, lT, oT, rT⟩
  · exact absurd e hd
  · refine ⟨dvs.drop j, its.drop j, hz, rT.drop j, fun s us ws bs X l1 l2 hp hb => ?_⟩
    obtain ⟨k, e1, e2⟩ := h T kV doc pm an cdv ct us ws its bs l1 l2 rT.length.symm hp
    refine BindsTo.of_looks fun M => ?_
    rw [e1]
    exact looks_items X lT oT (.of_pure e2)
end Mp
namespace Mp
open PySem PySem.Spec L2
open PyProof.Rows hiding St

/-! ### how the interpreter's answers are worked out -/
section
variable (T : CT) (ρ : Ev)
@[simp] theorem x_var (i : Nat) : ev T (.var i) ρ = match ρ[i]? with | some (.da d) => some (d, ρ) | _ => none := by rw [ev] <;> rfl
@[simp] theorem x_cst (d : D) : ev T (.cst d) ρ = some (d, ρ) := by rw [ev] <;> rfl
@[simp] theorem x_glb (g : Nat) : ev T (.glb g) ρ = (T.cons[g]?).map fun p => (p.2, ρ) := by rw [ev] <;> rfl
@[simp] theorem x_tup (es : MEs) : ev T (.tup es) ρ = (evs T es ρ).bind fun p => (pures p.1).map fun ds => (.tuple ds, p.2) := by rw [ev] <;> rfl
@[simp] theorem x_lst (es : MEs) : ev T (.lst es) ρ = (evs T es ρ).bind fun p => (pures p.1).map fun ds => (.list ds, p.2) := by rw [ev] <;> rfl
@[simp] theorem x_prim (p : Prim) (es : MEs) : ev T (.prim p es) ρ = (evs T es ρ).bind fun q => (resolveP q.2 q.1).bind fun ds => (primD p ds).map fun d => (d, q.2) := by rw [ev] <;> rfl
@[simp] theorem x_fn (f : Nat) (es : MEs) : ev T (.fn f es) ρ = (evs T es ρ).bind fun q => (T.fns[f]?).bind fun F => (callL F.2 q.1 q.2).map fun r => (if F.2.ro = true then frzD r.1 else r.1, r.2) := by rw [ev] <;> rfl
@[simp] theorem x_fnF (f : Nat) (es : MEs) : ev T (.fnF f es) ρ = (evs T es ρ).bind fun q => (T.fns[f]?).bind fun F => callL F.2 q.1 q.2 := by rw [ev] <;> rfl
def bandK (T : CT) (b : ME) (p : D × Ev) : Option (D × Ev) := match p.1 with | .bool true => ev T b p.2 | .bool false => some (.bool false, p.2) | _ => none
def borK (T : CT) (b : ME) (p : D × Ev) : Option (D × Ev) := match p.1 with | .bool true => some (.bool true, p.2) | .bool false => ev T b p.2 | _ => none
def iteK (T : CT) (a b : ME) (p : D × Ev) : Option (D × Ev) := match p.1 with | .bool true => ev T a p.2 | .bool false => ev T b p.2 | _ => none
def notK (p : D × Ev) : Option (D × Ev) := match p.1 with | .bool b => some (.bool (!b), p.2) | _ => none
@[simp] theorem x_band (a b : ME) : ev T (.band a b) ρ = (ev T a ρ).bind (bandK T b) := by rw [ev] <;> rfl
@[simp] theorem x_bor (a b : ME) : ev T (.bor a b) ρ = (ev T a ρ).bind (borK T b) := by rw [ev] <;> rfl
@[simp] theorem x_bnot (a : ME) : ev T (.bnot a) ρ = (ev T a ρ).bind notK := by rw [ev] <;> rfl
@[simp] theorem x_ite (c a b : ME) : ev T (.ite c a b) ρ = (ev T c ρ).bind (iteK T a b) := by rw [ev] <;> rfl
@[simp] theorem bandK_t (b : ME) : bandK T b (.bool true, ρ) = ev T b ρ := rfl
@[simp] theorem bandK_f (b : ME) : bandK T b (.bool false, ρ) = some (.bool false, ρ) := rfl
@[simp] theorem borK_t (b : ME) : borK T b (.bool true, ρ) = some (.bool true, ρ) := rfl
@[simp] theorem borK_f (b : ME) : borK T b (.bool false, ρ) = ev T b ρ := rfl
@[simp] theorem iteK_t (a b : ME) : iteK T a b (.bool true, ρ) = ev T a ρ := rfl
@[simp] theorem iteK_f (a b : ME) : iteK T a b (.bool false, ρ) = ev T b ρ := rfl
@[simp] theorem notK_b (b : Bool) : notK (.bool b, ρ) = some (.bool (!b), ρ) := rfl
theorem bandK_b (a : Bool) (b : ME) : bandK T b (.bool a, ρ) = if a = true then ev T b ρ else some (.bool false, ρ) := by cases a <;> rfl
theorem borK_b (a : Bool) (b : ME) : borK T b (.bool a, ρ) = if a = true then some (.bool true, ρ) else ev T b ρ := by cases a <;> rfl
@[simp] theorem x_e (m : ME) : evA T (.e m) ρ = (ev T m ρ).map fun p => (.v p.1, p.2) := by rw [evA] <;> rfl
@[simp] theorem x_o (i : Nat) : evA T (.o i) ρ = match ρ[i]? with | some (.ow _) => some (.o i, ρ) | _ => none := by rw [evA] <;> rfl
@[simp] theorem x_nil : evs T .nil ρ = some ([], ρ) := by rw [evs] <;> rfl
@[simp] theorem x_cons (a : MA) (r : MEs) : evs T (.cons a r) ρ = (evA T a ρ).bind fun p => (evs T r p.2).map fun q => (p.1 :: q.1, q.2) := by rw [evs] <;> rfl
@[simp] theorem r_nil : resolve ρ [] = some [] := rfl
@[simp] theorem r_v (d : D) (r : List Arg) : resolve ρ (.v d :: r) = (resolve ρ r).map (d :: ·) := rfl
@[simp] theorem r_o (i : Nat) (r : List Arg) : resolve ρ (.o i :: r) = (match ρ[i]? with | some (.ow d) => some d | _ => none).bind fun d => (resolve ρ r).map (d :: ·) := rfl
@[simp] theorem rp_nil : resolveP ρ [] = some [] := rfl
@[simp] theorem rp_v (d : D) (r : List Arg) : resolveP ρ (.v d :: r) = (resolveP ρ r).map (d :: ·) := rfl
@[simp] theorem rp_o (i : Nat) (r : List Arg) : resolveP ρ (.o i :: r) = (match ρ[i]? with | some (.ow d) => if isOb d = true then none else some d | _ => none).bind fun d => (resolveP ρ r).map (d :: ·) := rfl
@[simp] theorem ob_list (ds : List D) : isOb (.list ds) = false := rfl
@[simp] theorem ob_nil : isOb (.dict []) = false := rfl
@[simp] theorem fz_list (ds : List D) : frzD (.list ds) = .list ds := rfl
@[simp] theorem fz_nil : frzD (.dict []) = .dict [] := rfl
@[simp] theorem pu_nil : pures [] = some [] := rfl
@[simp] theorem pu_v (d : D) (r : List Arg) : pures (.v d :: r) = (pures r).map (d :: ·) := rfl
@[simp] theorem pk_nil {α : Type} (as : List α) : pick as [] = some [] := rfl
@[simp] theorem pk_cons {α : Type} (as : List α) (i : Nat) (r : List Nat) : pick as (i :: r) = (as[i]?).bind fun a => (pick as r).map (a :: ·) := rfl
@[simp] theorem fi_nil (s : List Nat) : fits [] [] s = true := rfl
@[simp] theorem fi_v (m : List Bool) (d : D) (r : List Arg) (s : List Nat) : fits (false :: m) (.v d :: r) s = fits m r s := rfl
@[simp] theorem fi_o (m : List Bool) (i : Nat) (r : List Arg) (s : List Nat) : fits (true :: m) (.o i :: r) s = (!s.contains i && fits m r (i :: s)) := rfl
@[simp] theorem gb_nil : giveBack [] [] ρ = some ρ := rfl
@[simp] theorem gb_v (d : D) (r : List Arg) (os : List D) : giveBack (.v d :: r) os ρ = giveBack r os ρ := by cases os <;> rfl
@[simp] theorem gb_o (i : Nat) (d : D) (r : List Arg) (os : List D) : giveBack (.o i :: r) (d :: os) ρ = giveBack r os (ρ.set i (.ow d)) := rfl
@[simp] theorem x_call (F : FnT) (as : List Arg) : callFn F as ρ = (pick (as ++ F.dfl.map Arg.v) F.pm).bind fun bs => if fits F.mask bs [] = true then (resolve ρ bs).bind fun ds => (F.den ds).bind fun p => (giveBack bs p.2 ρ).map fun ρ' => (p.1, ρ') else none := rfl
@[simp] theorem lo_nil : lockOf [] = none := rfl
@[simp] theorem lo_v (d : D) (r : List Arg) : lockOf (.v d :: r) = lockOf r := rfl
@[simp] theorem lo_o (i : Nat) (r : List Arg) : lockOf (.o i :: r) = lockOf r := rfl
@[simp] theorem lo_l (i : Nat) (r : List Arg) : lockOf (.l i :: r) = some i := rfl
def lockK (F : FnT) (as : List Arg) (ρ : Ev) : Option Nat → Option (D × Ev)
  | none => callFn F as ρ
  | some i => match ρ[i]? with
    | some (.ow c) => if F.mask.all (fun b => !b) = true ∧ F.ro = false then (callFn F (as.map (unl i (frzD c))) (ρ.set i (.da (frzD c)))).bind fun p => if okL c p.1 = true then some (p.1, ρ) else none else none
    | _ => none
@[simp] theorem x_callL (F : FnT) (as : List Arg) : callL F as ρ = lockK F as ρ (lockOf as) := by
  unfold callL lockK
  cases lockOf as <;> rfl
@[simp] theorem lk_none (F : FnT) (as : List Arg) : lockK F as ρ none = callFn F as ρ := rfl
@[simp] theorem lk_some (F : FnT) (as : List Arg) (i : Nat) : lockK F as ρ (some i) = match ρ[i]? with
    | some (.ow c) => if F.mask.all (fun b => !b) = true ∧ F.ro = false then (callFn F (as.map (unl i (frzD c))) (ρ.set i (.da (frzD c)))).bind fun p => if okL c p.1 = true then some (p.1, ρ) else none else none
    | _ => none := rfl
@[simp] theorem un_v (i : Nat) (c d : D) : unl i c (.v d) = .v d := rfl
@[simp] theorem un_o (i j : Nat) (c : D) : unl i c (.o j) = .o j := rfl
@[simp] theorem un_l (i j : Nat) (c : D) : unl i c (.l j) = if j = i then .v c else .l j := rfl
@[simp] theorem hm_v (m : Str) (d : D) : headM m ρ (.v d) = clsM m d := rfl
@[simp] theorem hm_o (m : Str) (i : Nat) : headM m ρ (.o i) = match ρ[i]? with | some (.ow d) => clsM m d | _ => none := rfl
@[simp] theorem hm_l (m : Str) (i : Nat) : headM m ρ (.l i) = match ρ[i]? with | some (.ow d) => clsM m d | _ => none := rfl
@[simp] theorem x_l (i : Nat) : evA T (.l i) ρ = match ρ[i]? with | some (.ow _) => some (.l i, ρ) | _ => none := by rw [evA] <;> rfl
@[simp] theorem x_app (i : Nat) (a : ME) : ev T (.app i a) ρ = match ρ[i]? with | some .fv => (ev T a ρ).bind fun p => T.fv.bind fun g => (g p.1).map fun z => (z, p.2) | _ => none := by rw [ev] <;> rfl
@[simp] theorem x_hoL (h : Nat) (a : ME) (i : Nat) (m : ME) : ev T (.hoL h a i m) ρ = (ev T a ρ).bind fun p => (T.ho[h]?).bind fun W => if i < p.2.length then (W.2 (fun z => (ev T m ((hide p.2).set i (.da z))).map (·.1)) p.1).map fun z => (z, p.2) else none := by rw [ev] <;> rfl
@[simp] theorem x_hoF (h : Nat) (a : ME) (f : Nat) : ev T (.hoF h a f) ρ = (ev T a ρ).bind fun p => (T.ho[h]?).bind fun W => (T.fns[f]?).bind fun F => (W.2 (fun z => (callFn F.2 [.v z] []).map (·.1)) p.1).map fun z => (z, p.2) := by rw [ev] <;> rfl
@[simp] theorem x_mth (f : Nat) (h : MA) (es : MEs) : ev T (.mth f h es) ρ = (evA T h ρ).bind fun p => (T.mts[f]?).bind fun M => (headM M.1 p.2 p.1).bind fun c => (M.2.lookup c).bind fun F => (evs T es p.2).bind fun q => (callL F (p.1 :: q.1) q.2).map fun r => (if F.ro = true then frzD r.1 else r.1, r.2) := by rw [ev] <;> rfl
@[simp] theorem x_mthF (f : Nat) (h : MA) (es : MEs) : ev T (.mthF f h es) ρ = (evA T h ρ).bind fun p => (T.mts[f]?).bind fun M => (headM M.1 p.2 p.1).bind fun c => (M.2.lookup c).bind fun F => (evs T es p.2).bind fun q => callL F (p.1 :: q.1) q.2 := by rw [ev] <;> rfl
@[simp] theorem x_fldO (i : Nat) (f : Str) : ev T (.fldO i f) ρ = match ρ[i]? with | some (.ow d) => (fldD T.flds f d).bind fun z => if isOw z = true then none else some (z, ρ) | _ => none := by rw [ev] <;> rfl
@[simp] theorem x_fset (i : Nat) (f : Str) (e : ME) : exS T (.fset i f e) ρ = (ev T e ρ).bind fun p => match p.2[i]? with
    | some (.ow c) => (clsO c).bind fun nm => if (nm, f) ∈ T.flds then (putO f p.1 c).map fun c' => (.nx, p.2.set i (.ow c')) else none
    | _ => none := by rw [exS] <;> rfl
@[simp] theorem x_fnew (i : Nat) (f : Str) (e : ME) : exS T (.fnew i f e) ρ = (ev T e ρ).bind fun p => match p.2[i]? with
    | some (.ow c) => (clsO c).bind fun nm => if (nm, f) ∈ T.flds ∧ isOb p.1 = false then (putO f (own_ p.1) c).map fun c' => (.nx, p.2.set i (.ow c')) else none
    | _ => none := by rw [exS] <;> rfl
@[simp] theorem x_fput (i : Nat) (f : Str) (k e : ME) : exS T (.fput i f k e) ρ = (ev T e ρ).bind fun p => (ev T k (hide p.2)).bind fun q => match p.2[i]? with
    | some (.ow c) => (clsO c).bind fun nm => if (nm, f) ∈ T.flds then (rawF f c).bind fun z => if isOw z = true then (setIn q.1 p.1 (unOwn z)).bind fun z' => (putO f (own_ z') c).map fun c' => (.nx, p.2.set i (.ow c')) else none else none
    | _ => none := by rw [exS] <;> rfl
@[simp] theorem x_fapp (i : Nat) (f : Str) (e : ME) : exS T (.fapp i f e) ρ = (ev T e (hide ρ)).bind fun q => match ρ[i]? with
    | some (.ow c) => (clsO c).bind fun nm => if (nm, f) ∈ T.flds then (rawF f c).bind fun z => if isOw z = true then (appIn q.1 (unOwn z)).bind fun z' => (putO f (own_ z') c).map fun c' => (.nx, ρ.set i (.ow c')) else none else none
    | _ => none := by rw [exS] <;> rfl
@[simp] theorem hd_nil : hide [] = [] := rfl
@[simp] theorem hd_da (d : D) (r : Ev) : hide (.da d :: r) = .da d :: hide r := rfl
@[simp] theorem hd_ow (d : D) (r : Ev) : hide (.ow d :: r) = .un :: hide r := rfl
@[simp] theorem hd_un (r : Ev) : hide (.un :: r) = .un :: hide r := rfl
@[simp] theorem x_snil : exSs T .nil ρ = some (.nx, ρ) := by rw [exSs] <;> rfl
@[simp] theorem x_asg (i : Nat) (e : ME) : exS T (.asg i e) ρ = (ev T e ρ).bind fun p => (setDa p.2 i p.1).map fun ρ' => (.nx, ρ') := by rw [exS] <;> rfl
@[simp] theorem x_new (i : Nat) (e : ME) : exS T (.new i e) ρ = (ev T e ρ).bind fun p => (setOw p.2 i p.1).map fun ρ' => (.nx, ρ') := by rw [exS] <;> rfl
def unpK (is : List Nat) (p : D × Ev) : Option (Fl × Ev) := match p.1 with
    | .tuple ds => (setDas p.2 is ds).map fun ρ' => (.nx, ρ')
    | _ => none
@[simp] theorem x_unp (is : List Nat) (e : ME) : exS T (.unp is e) ρ = (ev T e ρ).bind (unpK is) := by rw [exS] <;> rfl
@[simp] theorem unpK_t (is : List Nat) (ds : List D) : unpK is (.tuple ds, ρ) = (setDas ρ is ds).map fun ρ' => (.nx, ρ') := rfl
@[simp] theorem x_ret (e : ME) : exS T (.ret e) ρ = (ev T e ρ).map fun p => (.rt p.1, p.2) := by rw [exS] <;> rfl
@[simp] theorem x_retF (e : ME) : exS T (.retF e) ρ = (ev T e ρ).map fun p => (.ro p.1, p.2) := by rw [exS] <;> rfl
def ifK (T : CT) (a b : MSs) (p : D × Ev) : Option (Fl × Ev) := match p.1 with | .bool true => exSs T a p.2 | .bool false => exSs T b p.2 | _ => none
@[simp] theorem x_if (c : ME) (a b : MSs) : exS T (.ife c a b) ρ = (ev T c ρ).bind (ifK T a b) := by rw [exS] <;> rfl
@[simp] theorem ifK_t (a b : MSs) : ifK T a b (.bool true, ρ) = exSs T a ρ := rfl
@[simp] theorem ifK_f (a b : MSs) : ifK T a b (.bool false, ρ) = exSs T b ρ := rfl
theorem ifK_b (c : Bool) (a b : MSs) : ifK T a b (.bool c, ρ) = if c = true then exSs T a ρ else exSs T b ρ := by cases c <;> rfl
def seqK (T : CT) (r : MSs) (p : Fl × Ev) : Option (Fl × Ev) := match p.1 with | .nx => exSs T r p.2 | f => some (f, p.2)
@[simp] theorem x_scons (s : MS) (r : MSs) : exSs T (.cons s r) ρ = (exS T s ρ).bind (seqK T r) := by
  rw [exSs]
  congr 1
@[simp] theorem seqK_nx (r : MSs) : seqK T r (.nx, ρ) = exSs T r ρ := rfl
@[simp] theorem seqK_rt (r : MSs) (d : D) : seqK T r (.rt d, ρ) = some (.rt d, ρ) := rfl
@[simp] theorem seqK_ro (r : MSs) (d : D) : seqK T r (.ro d, ρ) = some (.ro d, ρ) := rfl
@[simp] theorem seqK_bk (r : MSs) : seqK T r (.bk, ρ) = some (.bk, ρ) := rfl
@[simp] theorem seqK_ct (r : MSs) : seqK T r (.ct, ρ) = some (.ct, ρ) := rfl
def putK1 (T : CT) (i : Nat) (k : ME) (p : D × Ev) : Option (Fl × Ev) := match p.2[i]? with
    | some (.ow (.list _)) => (ev T k p.2).bind fun (dk, ρ2) => match dk, ρ2[i]? with
      | .int j, some (.ow (.list ds)) => (L2.ixN ds.length j).map fun j => (.nx, ρ2.set i (.ow (.list (ds.set j p.1))))
      | _, _ => none
    | _ => none
def putK0 (T : CT) (i : Nat) (k : ME) (p : D × Ev) : Option (Fl × Ev) := match p.2[i]? with
    | some (.ow (.list _)) => (ev T k p.2).bind fun (dk, ρ2) => match dk, ρ2[i]? with
      | .int j, some (.ow (.list ds)) => (L2.ixN ds.length j).map fun j => (.nx, ρ2.set i (.ow (.list (ds.set j p.1))))
      | _, _ => none
    | some (.ow (.dict _)) => (ev T k p.2).bind fun (dk, ρ2) => match keyOf dk, ρ2[i]? with
      | some j, some (.ow (.dict ds)) => if ds.length < sizeLine ∧ isOb (.dict ds) = false then some (.nx, ρ2.set i (.ow (.dict (putD j p.1 ds)))) else none
      | _, _ => none
    | _ => none
theorem x_put0 (i : Nat) (k e : ME) : exS T (.put i k e) ρ = (ev T e ρ).bind (putK0 T i k) := by rw [exS] <;> rfl
theorem putK0_l (i : Nat) (k : ME) (d : D) (ds : List D) (h : ρ[i]? = some (.ow (.list ds))) : putK0 T i k (d, ρ) = putK1 T i k (d, ρ) := by
  unfold putK0 putK1
  simp only [h]
theorem putK0_d (i : Nat) (k : ME) (d : D) (ds : List (D × D)) (h : ρ[i]? = some (.ow (.dict ds))) : putK0 T i k (d, ρ) = (ev T k ρ).bind fun (dk, ρ2) => match keyOf dk, ρ2[i]? with
      | some j, some (.ow (.dict ds)) => if ds.length < sizeLine ∧ isOb (.dict ds) = false then some (.nx, ρ2.set i (.ow (.dict (putD j d ds)))) else none
      | _, _ => none := by
  unfold putK0
  simp only [h]
@[simp] theorem x_fld (f : Str) (a : ME) : ev T (.fld f a) ρ = (ev T a ρ).bind fun p => (fldD T.flds f p.1).map fun z => (z, p.2) := by rw [ev] <;> rfl
@[simp] theorem x_isC (x : Str) (a : ME) : ev T (.isC x a) ρ = (ev T a ρ).bind fun p => (isCD T.isc x p.1).map fun z => (z, p.2) := by rw [ev] <;> rfl
@[simp] theorem x_dct (ks : List Str) (es : MEs) : ev T (.dct ks es) ρ = (evs T es ρ).bind fun p => (pures p.1).bind fun ds => (dctD ks ds).map fun d => (d, p.2) := by rw [ev] <;> rfl
def unpSK (i j : Nat) (p : D × Ev) : Option (Fl × Ev) := match p.1 with
    | .tuple (d0 :: ds) => (setDas p.2 [i, j] [d0, .list ds]).map fun ρ' => (.nx, ρ')
    | _ => none
@[simp] theorem x_unpS (i j : Nat) (e : ME) : exS T (.unpS i j e) ρ = (ev T e ρ).bind (unpSK i j) := by rw [exS] <;> rfl
@[simp] theorem unpSK_t (i j : Nat) (d0 : D) (ds : List D) : unpSK i j (.tuple (d0 :: ds), ρ) = (setDas ρ [i, j] [d0, .list ds]).map fun ρ' => (.nx, ρ') := rfl
@[simp] theorem x_appO (i j : Nat) : exS T (.appO i j) ρ = if i = j then none else match ρ[i]?, ρ[j]? with
    | some (.ow (.list ds)), some (.ow d) => if ds.length < sizeLine then some (.nx, (ρ.set j (.da (frzD d))).set i (.ow (.list (ds ++ [frzD d])))) else none
    | _, _ => none := by rw [exS] <;> rfl
@[simp] theorem x_asgO (i j : Nat) : exS T (.asgO i j) ρ = match ρ[j]? with
    | some (.ow d) => (setDa (ρ.set j (.da (frzD d))) i (frzD d)).map fun ρ' => (.nx, ρ')
    | _ => none := by rw [exS] <;> rfl
theorem putK1_c (i : Nat) (j : Int) (d : D) : putK1 T i (.cst (.int j)) (d, ρ) = match ρ[i]? with
    | some (.ow (.list ds)) => (L2.ixN ds.length j).map fun j => (.nx, ρ.set i (.ow (.list (ds.set j d))))
    | _ => none := by
  unfold putK1
  simp only [x_cst]
  cases h : ρ[i]? with
  | none => rfl
  | some s => cases s with
    | un => rfl
    | fv => rfl
    | da d => rfl
    | ow d => cases d <;> simp [h]
/-- a store at a written index of a list, at a key of a dict -/
@[simp] theorem x_putc (i : Nat) (j : Int) (e : ME) : exS T (.put i (.cst (.int j)) e) ρ = (ev T e ρ).bind fun p => match p.2[i]? with
    | some (.ow (.list ds)) => (L2.ixN ds.length j).map fun j => (.nx, p.2.set i (.ow (.list (ds.set j p.1))))
    | some (.ow (.dict ds)) => if ds.length < sizeLine ∧ isOb (.dict ds) = false then some (.nx, p.2.set i (.ow (.dict (putD (.inl j) p.1 ds)))) else none
    | _ => none := by
  rw [x_put0]
  congr 1
  funext p
  obtain ⟨d, ρ⟩ := p
  unfold putK0
  simp only [x_cst]
  cases h : ρ[i]? with
  | none => rfl
  | some s => cases s with
    | un => rfl
    | fv => rfl
    | da d => rfl
    | ow d => cases d <;> simp [h, keyOf]
end
section
variable (T : CT) (ρ : Ev)
def chK (T : CT) (q : Prim) (c : ME) (y : D) (ρ : Ev) (z : D) : Option (D × Ev) := match z with
    | .bool true => (ev T c ρ).bind fun w => (primD q [y, w.1]).map fun d => (d, w.2)
    | .bool false => some (.bool false, ρ)
    | _ => none
@[simp] theorem x_chain (p q : Prim) (a b c : ME) : ev T (.chain p q a b c) ρ = (ev T a ρ).bind fun u => (ev T b u.2).bind fun v => (primD p [u.1, v.1]).bind (chK T q c v.1 v.2) := by rw [ev] <;> rfl
@[simp] theorem chK_t (q : Prim) (c : ME) (y : D) : chK T q c y ρ (.bool true) = (ev T c ρ).bind fun w => (primD q [y, w.1]).map fun d => (d, w.2) := rfl
@[simp] theorem chK_f (q : Prim) (c : ME) (y : D) : chK T q c y ρ (.bool false) = some (.bool false, ρ) := rfl
def popK (i : Nat) (p : D × Ev) : Option (D × Ev) := match p.1, p.2[i]? with
      | .int k, some (.ow (.list ds)) => if -(2 ^ 63) ≤ k ∧ k < 2 ^ 63 then (seqIndex? k ds.length).bind fun j => (ds[j]?).map fun y => (y, p.2.set i (.ow (.list (ds.eraseIdx j)))) else none
      | _, _ => none
@[simp] theorem x_pop (i : Nat) (a : ME) : ev T (.pop i a) ρ = match ρ[i]? with | some (.ow (.list _)) => (ev T a ρ).bind (popK i) | _ => none := by rw [ev] <;> rfl
@[simp] theorem x_flat (i j : Nat) (it : MI) (m : ME) (own : List Nat) : ev T (.flat i j it m own) ρ = (evi T it ρ).bind fun p => (flatLoop (fun x ρt => (setDa ρt i x).bind fun ρ2 => (ev T m ρ2).bind fun (d, ρ3) => match d with
        | .list xs => some (xs, ρ3)
        | _ => none) own p.1 p.2).bind fun q => if q.1.length ≤ sizeLine ∧ j < p.2.length then some (.list q.1, restore p.2 q.2 own) else none := by rw [ev] <;> rfl
def cstep (T : CT) (elt : ME) (tg : Tg) (cs : MC) (x : D) (ρt : Ev) : Option (Option D × Ev) := (bindT tg x ρt).bind fun ρ2 => (evc T cs ρ2).bind fun p =>
        if p.1 = true then (ev T elt p.2).map fun q => (some q.1, q.2) else some (none, p.2)
@[simp] theorem x_comp (elt : ME) (tg : Tg) (it : MI) (cs : MC) (own : List Nat) : ev T (.comp elt tg it cs own) ρ = (evi T it ρ).bind fun p => (compLoop (cstep T elt tg cs) own p.1 p.2).map fun q => (.list q.1, restore p.2 q.2 own) := by rw [ev] <;> rfl
def rngK (p : D × Ev) : Option (List D × Ev) := match p.1 with | .int n => if -(sizeLine : Int) ≤ n ∧ n ≤ sizeLine then some (rngD 0 n.toNat, p.2) else none | _ => none
@[simp] theorem x_rng1 (a : ME) : evi T (.rng1 a) ρ = (ev T a ρ).bind rngK := by rw [evi] <;> rfl
theorem rngK_nat (n : Nat) (h : n ≤ sizeLine) : rngK (.int (n : Int), ρ) = some (rngD 0 n, ρ) := by
  unfold rngK
  show (if -(sizeLine : Int) ≤ (n : Int) ∧ (n : Int) ≤ sizeLine then some (rngD 0 (n : Int).toNat, ρ) else none) = _
  rw [if_pos ⟨by omega, by omega⟩, Int.toNat_natCast]
theorem rngK_int (n : Int) (h0 : 0 ≤ n) (h : n ≤ 1000) : rngK (.int n, ρ) = some (rngD 0 n.toNat, ρ) := by
  have e := rngK_nat ρ n.toNat (Nat.le_trans (by omega : n.toNat ≤ 1000) (by decide))
  rwa [Int.toNat_of_nonneg h0] at e
def seqI (p : D × Ev) : Option (List D × Ev) := match p.1 with | .list ds => some (ds, p.2) | .tuple ds => some (ds, p.2) | .str x => if x.cps.size ≤ sizeLine then some (signsD x, p.2) else none | .dict ks => if isOb (.dict ks) = true then none else some (ks.map (·.1), p.2) | _ => none
@[simp] theorem x_seq (a : ME) : evi T (.seq a) ρ = (ev T a ρ).bind seqI := by rw [evi] <;> rfl
@[simp] theorem seqI_l (ds : List D) : seqI (.list ds, ρ) = some (ds, ρ) := rfl
@[simp] theorem seqI_t (ds : List D) : seqI (.tuple ds, ρ) = some (ds, ρ) := rfl
@[simp] theorem x_all : evc T .all ρ = some (true, ρ) := by rw [evc] <;> rfl
def oneK (p : D × Ev) : Option (Bool × Ev) := match p.1 with | .bool b => some (b, p.2) | _ => none
@[simp] theorem x_one (c : ME) : evc T (.one c) ρ = (ev T c ρ).bind oneK := by rw [evc] <;> rfl
@[simp] theorem oneK_b (b : Bool) : oneK (.bool b, ρ) = some (b, ρ) := rfl
@[simp] theorem b_v (i : Nat) (d : D) : bindT (.v i) d ρ = setDa ρ i d := rfl
@[simp] theorem b_tp (is : List Nat) (ds : List D) : bindT (.tp is) (.tuple ds) ρ = setDas ρ is ds := rfl
@[simp] theorem w_nil : wipes ρ [] = ρ := rfl
@[simp] theorem w_cons (v : Nat) (vs : List Nat) : wipes ρ (v :: vs) = (wipes ρ vs).set v .un := rfl
@[simp] theorem rs_nil (ρ0 : Ev) : restore ρ0 ρ [] = ρ := rfl
@[simp] theorem rs_cons (ρ0 : Ev) (v : Nat) (vs : List Nat) : restore ρ0 ρ (v :: vs) = (restore ρ0 ρ vs).set v (ρ0.getD v .un) := rfl
@[simp] theorem x_for (tg : Tg) (it : MI) (body : MSs) : exS T (.for tg it body) ρ = (evi T it ρ).bind fun p => forLoop (fun x ρt => (bindT tg x ρt).bind fun ρ2 => exSs T body ρ2) p.1 p.2 := by rw [exS] <;> rfl
end
section
variable (a b : D) (ds : List D)
@[simp] theorem p_add : primD .add [a, b] = addD a b := rfl
@[simp] theorem p_sub : primD .sub [a, b] = int2 (fun i j => some (.int (i - j))) a b := rfl
@[simp] theorem p_mul : primD .mul [a, b] = mulA a b := rfl
@[simp] theorem p_fdiv : primD .fdiv [a, b] = fdivD a b := rfl
@[simp] theorem p_mod : primD .mod [a, b] = modD a b := rfl
@[simp] theorem p_pow : primD .pow [a, b] = powD a b := rfl
@[simp] theorem p_neg : primD .neg [a] = negD a := rfl
@[simp] theorem p_eq : primD .eq [a, b] = eqD a b := rfl
@[simp] theorem p_ne : primD .ne [a, b] = neD a b := rfl
@[simp] theorem p_lt (i j : Int) : primD .lt [.int i, .int j] = some (.bool (decide (i < j))) := rfl
theorem p_lt0 : primD .lt [a, b] = ltD a b := rfl
@[simp] theorem p_le : primD .le [a, b] = cmpD (fun i j => decide (i ≤ j)) a b := rfl
@[simp] theorem p_gt : primD .gt [a, b] = cmpD (fun i j => decide (j < i)) a b := rfl
@[simp] theorem p_ge : primD .ge [a, b] = cmpD (fun i j => decide (j ≤ i)) a b := rfl
@[simp] theorem p_isin : primD .isin [a, b] = inD false a b := rfl
@[simp] theorem p_notin : primD .notin [a, b] = inD true a b := rfl
@[simp] theorem p_isN : primD .isN [a] = some (.bool (isNoneD a)) := rfl
@[simp] theorem p_notN : primD .notN [a] = some (.bool (!isNoneD a)) := rfl
@[simp] theorem p_isB (c : Bool) : primD (.isB c) [a] = isBD c false a := rfl
@[simp] theorem p_notB (c : Bool) : primD (.notB c) [a] = isBD c true a := rfl
@[simp] theorem p_idx : primD .idx [a, b] = idxD a b := rfl
@[simp] theorem p_slc (lo hi : Bool) : primD (.slc lo hi) ds = slcD lo hi ds := rfl
@[simp] theorem p_len : primD .len [a] = lenD a := rfl
@[simp] theorem p_lenSet : primD .lenSet [a] = lenSetD a := rfl
@[simp] theorem p_isinst (t : String) : primD (.isinst t) [a] = some (.bool (isinstD t a)) := rfl
@[simp] theorem p_abs : primD .abs [a] = absD a := rfl
@[simp] theorem p_max2 : primD .max2 [a, b] = int2 (fun i j => some (.int (if j > i then j else i))) a b := rfl
@[simp] theorem p_min2 : primD .min2 [a, b] = int2 (fun i j => some (.int (if j < i then j else i))) a b := rfl
@[simp] theorem p_toInt : primD .toInt [a] = toIntD a := rfl
@[simp] theorem p_toTuple : primD .toTuple [a] = toTupleD a := rfl
@[simp] theorem p_toList : primD .toList [a] = toListD a := rfl
@[simp] theorem p_repr : primD .repr [a] = reprD a := rfl
@[simp] theorem p_split (s : Str) : primD (.split s) [a] = splitD s a := rfl
@[simp] theorem p_dnew : primD .dnew [] = some (.dict []) := rfl
@[simp] theorem p_toDict : primD .toDict [a] = toDictD a := rfl
@[simp] theorem p_sortSet : primD .sortSet [a] = sortSetD a := rfl
@[simp] theorem p_sindex (s : Str) : primD (.sindex s) [a] = sindexD s a := rfl
@[simp] theorem p_scount (s : Str) : primD (.scount s) [a] = scountD s a := rfl
@[simp] theorem p_sortKeys : primD .sortKeys [a] = sortKeysD a := rfl
@[simp] theorem p_index : primD .index [a, b] = indexD a b := rfl
@[simp] theorem p_all : primD .all [a] = allD a := rfl
end
section
variable (i j : Int) (xs ys : List D)
@[simp] theorem d_int2 (g : Int → Int → Option D) : int2 g (.int i) (.int j) = g i j := rfl
@[simp] theorem d_add : addD (.int i) (.int j) = some (.int (i + j)) := rfl
@[simp] theorem d_addT : addD (.tuple xs) (.tuple ys) = if xs.length + ys.length ≤ sizeLine then some (.tuple (xs ++ ys)) else none := rfl
@[simp] theorem d_addL : addD (.list xs) (.list ys) = if xs.length + ys.length ≤ sizeLine then some (.list (xs ++ ys)) else none := rfl
@[simp] theorem d_mulA : mulA (.int i) (.int j) = if (-(2 ^ 64) < i ∧ i < 2 ^ 64) ∨ (-(2 ^ 64) < j ∧ j < 2 ^ 64) then some (.int (i * j)) else none := rfl
@[simp] theorem d_mul : mulD (.int i) (.int j) = if (-(2 ^ 64) < i ∧ i < 2 ^ 64) ∨ (-(2 ^ 64) < j ∧ j < 2 ^ 64) then some (.int (i * j)) else none := rfl
@[simp] theorem d_fdiv : fdivD (.int i) (.int j) = if 0 < j ∧ j < 2 ^ 64 then some (.int (i / j)) else none := rfl
@[simp] theorem d_mod : modD (.int i) (.int j) = if 0 < j then some (.int (i % j)) else none := rfl
@[simp] theorem d_pow : powD (.int i) (.int j) = if 0 ≤ j ∧ j ≤ 1000000 ∧ i.natAbs < 2 ^ 64 then some (.int (i ^ j.toNat)) else none := rfl
@[simp] theorem d_cmp (p : Int → Int → Bool) : cmpD p (.int i) (.int j) = some (.bool (p i j)) := rfl
@[simp] theorem d_idxT : idxD (.tuple xs) (.int i) = L2.atI xs i := rfl
@[simp] theorem d_idxL : idxD (.list xs) (.int i) = L2.atI xs i := rfl
@[simp] theorem d_len_t : lenD (.tuple xs) = some (.int xs.length) := rfl
@[simp] theorem d_len_l : lenD (.list xs) = some (.int xs.length) := rfl
@[simp] theorem d_isB (b c n : Bool) : isBD b n (.bool c) = some (.bool (decide (c = b) != n)) := rfl
@[simp] theorem d_toIntB (b : Bool) : toIntD (.bool b) = some (.int (if b then 1 else 0)) := rfl
@[simp] theorem d_toIntI : toIntD (.int i) = some (.int i) := rfl
@[simp] theorem d_toT : toTupleD (.list xs) = some (.tuple xs) := rfl
@[simp] theorem d_toT' : toTupleD (.tuple xs) = some (.tuple xs) := rfl
@[simp] theorem d_toL : toListD (.list xs) = some (.list xs) := rfl
@[simp] theorem d_toL' : toListD (.tuple xs) = some (.list xs) := rfl
@[simp] theorem d_neg : negD (.int i) = some (.int (-i)) := rfl
end
@[simp] theorem i_ev (n : Nat) (m : List Bool) (ds : List D) : initEv n m ds = initArgs m ds ++ List.replicate (n - ds.length) .un := rfl
@[simp] theorem i_t (m : List Bool) (d : D) (ds : List D) : initArgs (true :: m) (d :: ds) = .ow d :: initArgs m ds := rfl
@[simp] theorem i_f (m : List Bool) (d : D) (ds : List D) : initArgs (false :: m) (d :: ds) = .da d :: initArgs m ds := rfl
@[simp] theorem i_n : initArgs [] [] = [] := rfl
@[simp] theorem o_n (i : Nat) (ρ : Ev) : outsFrom [] i ρ = some [] := rfl
@[simp] theorem o_f (m : List Bool) (i : Nat) (ρ : Ev) : outsFrom (false :: m) i ρ = outsFrom m (i + 1) ρ := rfl
@[simp] theorem o_t (m : List Bool) (i : Nat) (ρ : Ev) : outsFrom (true :: m) i ρ = match ρ[i]? with | some (.ow d) => (outsFrom m (i + 1) ρ).map (d :: ·) | _ => none := rfl
@[simp] theorem s_da (ρ : Ev) (i : Nat) (d : D) : setDa ρ i d = match ρ[i]? with | some (.ow _) => none | some _ => some (ρ.set i (.da d)) | none => none := rfl
@[simp] theorem s_ow (ρ : Ev) (i : Nat) (d : D) : setOw ρ i d = if i < ρ.length then some (ρ.set i (.ow d)) else none := rfl
@[simp] theorem at_zero (x : D) (r : List D) : L2.atI (x :: r) 0 = some x := by
  unfold L2.atI L2.ixN
  rw [if_pos (by decide), if_pos (by simp)]
  rfl
@[simp] theorem at_one (x y : D) (r : List D) : L2.atI (x :: y :: r) 1 = some y := by
  unfold L2.atI L2.ixN
  rw [if_pos (by decide), if_pos (by simp; omega)]
  rfl
@[simp] theorem at_two (x y z : D) (r : List D) : L2.atI (x :: y :: z :: r) 2 = some z := by
  unfold L2.atI L2.ixN
  rw [if_pos (by decide), if_pos (by simp; omega)]
  rfl
@[simp] theorem at_three (x y z u : D) (r : List D) : L2.atI (x :: y :: z :: u :: r) 3 = some u := by
  unfold L2.atI L2.ixN
  rw [if_pos (by decide), if_pos (by simp; omega)]
  rfl
@[simp] theorem ix_zero (n : Nat) : L2.ixN (n + 1) 0 = some 0 := by
  unfold L2.ixN
  rw [if_pos (by decide), if_pos (by omega)]
  rfl
@[simp] theorem ix_one (n : Nat) : L2.ixN (n + 1 + 1) 1 = some 1 := by
  unfold L2.ixN
  rw [if_pos (by decide), if_pos (by omega)]
  rfl
/-- an index in range is one of the places -/
theorem at_mem {xs : List D} {i : Int} (h0 : 0 ≤ i) (h1 : i < xs.length) : ∃ d, d ∈ xs ∧ L2.atI xs i = some d := by
  unfold L2.atI L2.ixN
  rw [if_pos h0, if_pos h1]
  have : i.toNat < xs.length := by omega
  exact ⟨xs[i.toNat], List.getElem_mem _, by simp [this]⟩
theorem at_get {xs : List D} {i : Nat} {d : D} (h : xs[i]? = some d) : L2.atI xs (i : Int) = some d := by
  have h1 : i < xs.length := (List.getElem?_eq_some_iff.mp h).1
  unfold L2.atI L2.ixN
  rw [if_pos (by omega), if_pos (by omega)]
  simpa using h
end Mp
set_option maxHeartbeats 2000000
namespace Mp
open PySem PySem.Spec L2
open PyProof.Rows hiding St
variable [LamT]

/-! ### what the top has written of classes -/
def clsB (st : Stmt) : List Stmt := match st with
  | .ClassDef (body := b) .. => b
  | _ => []
def kitRow (K : PySem.W.Frag) (C : Addr) (us : List Value) : List (Option Bool) := us.map (PySem.W.kitOne K (.ref C))
def SIX : List Value := [.type "int", .type "str", .type "bool", .type "tuple", .type "list", .type "dict"]
def excB (K : PySem.W.Frag) (C : Addr) : Bool :=
  decide (PySem.W.findIn K (.ref C) "__getattribute__" = some (some (.builtin "BaseException.__getattribute__"))) && (decide (PySem.W.findIn K (.ref C) "__getattr__" = some none) && (decide (PySem.W.subIn K (.ref C) (.type "BaseException") = some true) &&
    (PySem.W.hasDictIn K C && (decide (PySem.W.findIn K (.ref C) "__class__" = some (some (.builtin "object.__class__"))) && (decide (PySem.W.specialIn K (.builtin "object.__class__") "__get__" = some (some (.builtin "getset_descriptor.__get__"))) &&
      (decide (PySem.W.takesIn K (.builtin "object.__class__") = some true) && (decide (PySem.W.mroIn K C (.type "object") = some true) && decide (PySem.W.findIn K (.ref C) "__setattr__" = some (some (.builtin "object.__setattr__"))))))))))
theorem excB_ok {K : PySem.W.Frag} {C : Addr} (h : excB K C = true) : ExcC K C ∧ PySem.W.findIn K (.ref C) "__setattr__" = some (some (.builtin "object.__setattr__")) := by
  unfold excB at h
  simp only [Bool.and_eq_true, decide_eq_true_eq] at h
  obtain ⟨h1, h2, h3, h4, h5, h6, h7, h8, h9⟩ := h
  exact ⟨⟨h1, h2, h3, h4, h5, h6, h7, h8⟩, h9⟩
theorem row_at {K : PySem.W.Frag} {C : Addr} {us : List Value} {bs : List (Option Bool)} {u : Value} {b : Option Bool} (h : kitRow K C us = bs) (i : Nat) (hu : us[i]? = some u) (hb : bs[i]? = some b) : PySem.W.kitOne K (.ref C) u = b := by
  have e : bs[i]? = some (PySem.W.kitOne K (.ref C) u) := by
    rw [← h]
    unfold kitRow
    rw [List.getElem?_map, hu]
    rfl
  rw [hb] at e
  exact (Option.some.inj e).symm
theorem cls_at {K : PySem.W.Frag} {C : Addr} {nm : Str} {us : List Value} {bs : List (Option Bool)} (a : PySem.W.nsIn K mainGlobals nm = some (some (.ref C))) (r : kitRow K C (SIX ++ us) = [some false, some false, some false, some false, some false, some false] ++ bs) : ClsN K C nm := by
  refine ⟨a, fun T hT => ?_⟩
  simp only [List.mem_cons, List.not_mem_nil, or_false] at hT
  rcases hT with rfl | rfl | rfl | rfl | rfl | rfl
  · exact row_at r 0 rfl rfl
  · exact row_at r 1 rfl rfl
  · exact row_at r 2 rfl rfl
  · exact row_at r 3 rfl rfl
  · exact row_at r 4 rfl rfl
  · exact row_at r 5 rfl rfl
def noB (K : PySem.W.Frag) (C : Addr) (fs : List Str) : Bool := fs.all fun f => decide (PySem.W.findIn K (.ref C) f = some none)
theorem noB_at {K : PySem.W.Frag} {C : Addr} {fs : List Str} (h : noB K C fs = true) : ∀ f ∈ fs, PySem.W.findIn K (.ref C) f = some none := fun f hf => of_decide_eq_true (List.all_eq_true.mp h f hf)
abbrev FldG (K : PySem.W.Frag) (FL : List (Str × Str)) : Prop := ∀ p ∈ FL, ∀ C, ClsN K C p.1 → PySem.W.findIn K (.ref C) p.2 = some none
abbrev IscG (K : PySem.W.Frag) (mg : Str → Option Value) (IS : List ((Str × Str) × Bool)) : Prop := ∀ p ∈ IS, ∃ v u, NameV mg p.1.2 v u ∧ ∀ C, ClsN K C p.1.1 → PySem.W.kitOne K (.ref C) u = some p.2
theorem fld_of {K : PySem.W.Frag} {C0 : Addr} {nm f : Str} (cn : ClsN K C0 nm) (h : PySem.W.findIn K (.ref C0) f = some none) : ∀ C, ClsN K C nm → PySem.W.findIn K (.ref C) f = some none := fun C c => by
  cases c.uniq cn
  exact h
theorem isc_of {K : PySem.W.Frag} {mg : Str → Option Value} {C0 : Addr} {nm x : Str} {v : V} {u : Value} {b : Bool} (nv : NameV mg x v u) (cn : ClsN K C0 nm) (h : PySem.W.kitOne K (.ref C0) u = some b) :
    ∃ v u, NameV mg x v u ∧ ∀ C, ClsN K C nm → PySem.W.kitOne K (.ref C) u = some b := ⟨v, u, nv, fun C c => by
  cases c.uniq cn
  exact h⟩
theorem isc_app {K : PySem.W.Frag} {mg : Str → Option Value} {l m : List ((Str × Str) × Bool)} (a : IscG K mg l) (b : IscG K mg m) : IscG K mg (l ++ m) := fun p hp => by
  rcases List.mem_append.mp hp with h | h
  · exact a p h
  · exact b p h
theorem nv_own {K : PySem.W.Frag} {h : Heap} {mg : Str → Option Value} {x : Str} {C : Addr} (X : K.In h) (G : h.Ns mainGlobals mg) (a : PySem.W.nsIn K mainGlobals x = some (some (.ref C))) : NameV mg x (.ref C) (.ref C) :=
  .inl ⟨PySem.W.mg_of X G a, rfl, fun _ h => h⟩
theorem nv_bt {mg : Str → Option Value} {x : Str} {T : String} (h : mg x = none) (b : bootBuiltins x = some (.type T)) (n : x ≠ "__name__") : NameV mg x (.ty T) (.type T) := .inr ⟨T, h, b, rfl, rfl, n⟩
theorem xcls_of {K : PySem.W.Frag} {C : Addr} {tl : List Value} {B nB newId initId : String} {nm q : Str} {N : Addr} {bs bm : List Value} {sn : List Str} {sub : List Value} {ab : Bool} {col : Option Bool} {dd : Option Addr} {k0 k1 k2 k3 k5 : Option Value}
    (l : K.lookup C = some (excClassObj nm q C N bs bm true sn sub ab col dd k0 k1 k2 k3 k5 newId)) (r : refsT tl bm = true) (e : excB K C = true) (t : TlF tl B nB newId initId) : XCls K C tl B nB newId initId :=
  ⟨⟨_, _, _, _, _, _, _, _, _, _, _, _, _, _, _, l, r⟩, (excB_ok e).2, t⟩
theorem ini_own {K : PySem.W.Frag} {h : Heap} {mg : Str → Option Value} {b : Str} {P : Addr} {initId : String} (X : K.In h) (G : h.Ns mainGlobals mg) (a : PySem.W.nsIn K mainGlobals b = some (some (.ref P))) (r : PySem.W.readsIn K P (.type "type") = true)
    (s : PySem.W.specialIn K (.ref P) "__getattribute__" = some (some (.builtin "type.__getattribute__"))) (f : PySem.W.findCls K (.ref P) (.type "type") "__init__" = some (.val (.builtin initId))) (hh : PySem.W.handedIn (.builtin initId) = true) : IniAt K mg b initId :=
  ⟨.inl ⟨P, PySem.W.mg_of X G a, r, s, f⟩, hh⟩
theorem ini_bt {K : PySem.W.Frag} {mg : Str → Option Value} {b : Str} {T initId : String} (h : mg b = none) (bb : bootBuiltins b = some (.type T)) (t : typeOf (.type T) = pure (.type "type")) (st : Manifest.isStub T = false) (f : PySem.W.findCls K (.type T) (.type "type") "__init__" = some (.val (.builtin initId))) (n : b ≠ "__name__")
    (hh : PySem.W.handedIn (.builtin initId) = true) : IniAt K mg b initId := ⟨.inr ⟨T, h, bb, t, st, f, n⟩, hh⟩
theorem fun_mkD {K : PySem.W.Frag} {x qual : Str} {st : Stmt} {f T : Addr} {oc : Value} {od an : Option Addr} {kV doc pm cdv ct : Value} {sl : Array (Option Value)} {o : Obj} {its : List Value} {n : Nat} {dvs : List V}
    (l : K.lookup f = some ⟨oc, od, .func (PySem.W.fnOf x qual (defArgs st) (defBody st) (defScope st) (.ref T) kV doc pm an cdv ct), sl⟩) (c : PySem.W.codeIn K cdv qual = true) (k : PySem.W.keepIn K (.ref f) = true) (lT : K.lookup T = some o) (oT : o.data = .seq its.toArray n) (v : Vals dvs its) (hd : dvs ≠ []) :
    FunD K x qual (defArgs st) (defBody st) (defScope st) dvs [] f (PySem.W.fnOf x qual (defArgs st) (defBody st) (defScope st) (.ref T) kV doc pm an cdv ct) :=
  ⟨⟨oc, od, _, kV, doc, pm, an, cdv, ct, sl, rfl, l, c, .inr ⟨hd, T, o, its, n, rfl, lT, oT, v⟩, .inl rfl⟩, k⟩
theorem funX_of {K : PySem.W.Frag} {x qual : Str} {st : Stmt} {f : Addr} {oc dV : Value} {od an : Option Addr} {kV doc pm cdv ct : Value} {sl : Array (Option Value)}
    (l : K.lookup f = some ⟨oc, od, .func (PySem.W.fnOf x qual (defArgs st) (defBody st) (defScope st) dV kV doc pm an cdv ct), sl⟩) (c : PySem.W.codeIn K cdv qual = true) : FunX K x qual st f (PySem.W.fnOf x qual (defArgs st) (defBody st) (defScope st) dV kV doc pm an cdv ct) :=
  ⟨oc, od, dV, kV, doc, pm, an, cdv, ct, sl, rfl, l, c⟩
end Mp
namespace Mp
open PySem PySem.Spec L2 LamX
open PyProof.Rows hiding St

/-! ### the same under another view of functions that are handed on -/
section
variable {P : Program} {w : World} {K : PySem.W.Frag} {mg : Str → Option Value} {base : Heap} {k : Nat}
theorem spFn_inst {L0 L1 : LamT} (h : L1.ts = L0.ts) {F : FnT} {vs : List V} {H : Hp} {Q : VK} {E : XK} (hs : @spFn L1 K F vs H Q E) : @spFn L0 K F vs H Q E := by
  obtain ⟨t0, a0, b0⟩ := L0
  obtain ⟨t1, a1, b1⟩ := L1
  cases h
  obtain ⟨ds, d, outs, ao, ap, tb, e, q⟩ := hs
  exact ⟨ds, d, outs, ao, ap, tb, e, fun v H' k a b c => by
    obtain ⟨k1, k2, k3⟩ := k
    exact q v H' (@KeepL.mk ⟨t0, a1, b1⟩ _ _ _ k1 k2 k3) a b c⟩
theorem okG_inst {L0 L1 : LamT} (h : L1.ts = L0.ts) {F : FnT} {f : Addr} {fd : FuncData} {ps : List Str} (ok : OkG P w K mg base k f fd ps (@spFn L0 K F)) : OkG P w K mg base k f fd ps (@spFn L1 K F) :=
  ⟨fun s => ok.many (E := fun _ _ _ => False) (spFn_inst h s), fun g r e0 hb rv s => ok.go g r e0 hb rv (spFn_inst h s)⟩
theorem clsG_inst {L0 L1 : LamT} (h : L1.ts = L0.ts) {x : Str} {F : FnT} (G : @ClsG L0 P w K mg base k x F) : @ClsG L1 P w K mg base k x F := by
  obtain ⟨C, dvs, h1, h2, h3, go⟩ := G
  exact @ClsG.mk L1 _ _ _ _ _ _ _ _ ⟨C, dvs, h1, h2, h3, fun X a1 a2 a3 a4 a5 r q pins σ H s Q us ws vs zs cs I rv rz l1 l2 hp sp => go X a1 a2 a3 a4 a5 r q I rv rz l1 l2 hp (spFn_inst h sp)⟩
theorem fnG_inst {L0 L1 : LamT} (h : L1.ts = L0.ts) {x : Str} {F : FnT} (G : @FnG L0 P w K mg base k x F) : @FnG L1 P w K mg base k x F := by
  obtain ⟨ex⟩ := G
  refine @FnG.mk L1 _ _ _ _ _ _ _ _ ?_
  rcases ex with ⟨f, fd, ps, h1, h2, h3, h4⟩ | c
  · exact .inl ⟨f, fd, ps, h1, h2, okG_inst h h3, h4⟩
  · exact .inr (clsG_inst h c)
theorem mthG_inst {L0 L1 : LamT} (h : L1.ts = L0.ts) {cls m : Str} {F : FnT} (G : @MthG L0 P w K mg base k cls m F) : @MthG L1 P w K mg base k cls m F := by
  obtain ⟨g, fd, ps, h1, h2, h3⟩ := G
  exact @MthG.mk L1 _ _ _ _ _ _ _ _ _ ⟨g, fd, ps, h1, okG_inst h h2, h3⟩
/-- a function that is handed on, told anew -/
theorem fvOk_inst {L0 L1 : LamT} (h : L1.ts = L0.ts) {a : Addr} {g : D → Option D} {h0 : Hp} {RA : Around → Prop} (F : @FvOk L0 P w K mg base a g h0 RA) : @FvOk L1 P w K mg base a g h0 RA := by
  obtain ⟨t0, a0, b0⟩ := L0
  obtain ⟨t1, a1, b1⟩ := L1
  cases h
  obtain ⟨kp, run⟩ := F
  refine @FvOk.mk ⟨t0, a1, b1⟩ _ _ _ _ _ _ _ _ _ kp fun {A outer s H v u d z} gq ra e0 per tb rv zv e => codeAny_mono (run gq ra e0 per tb rv zv e) fun r s' hq => ?_
  cases r with
  | error e => exact hq
  | ok fl =>
    cases fl with
    | ret u =>
      obtain ⟨w', H', a, b, c, d, e, ⟨k1, k2, k3⟩, z⟩ := hq
      exact ⟨w', H', a, b, c, d, e, @KeepA.mk ⟨t0, a1, b1⟩ _ _ k1 k2 k3, z⟩
    | next => exact hq
    | brk => exact hq
    | cont => exact hq
theorem hoOk_inst {L0 L1 : LamT} (h : L1.ts = L0.ts) {f : Addr} {den : (D → Option D) → D → Option D} (F : @HoOk L0 P w K mg base k f den) : @HoOk L1 P w K mg base k f den := by
  obtain ⟨t0, a0, b0⟩ := L0
  obtain ⟨t1, a1, b1⟩ := L1
  cases h
  obtain ⟨go⟩ := F
  refine @HoOk.mk ⟨t0, a1, b1⟩ _ _ _ _ _ _ _ _ fun {a g h0 RA A outer s H v u d z Q} gq r ra e0 fv per tb rv zv e q => go gq r ra e0 (fvOk_inst (L0 := ⟨t0, a1, b1⟩) (L1 := ⟨t0, a0, b0⟩) rfl fv) per tb rv zv e fun w' H' k z => ?_
  obtain ⟨k1, k2, k3⟩ := k
  exact q w' H' (@KeepA.mk ⟨t0, a1, b1⟩ _ _ k1 k2 k3) z
theorem topG_inst {L0 L1 : LamT} (h : L1.ts = L0.ts) {T : CT} {bl : List Str} (G : @TopG L0 P w K mg base k T bl) : @TopG L1 P w K mg base k T bl := by
  obtain ⟨g1, g2, g3, g4, g5, g6, g7, g8⟩ := G
  refine @TopG.mk L1 _ _ _ _ _ _ _ _ g1 g2 (fun f x F e => fnG_inst h (g3 f x F e)) g4 g5 (fun f m al e cls F hc => mthG_inst h (g6 f m al e cls F hc)) (fun f hf x F e => ?_) fun i x den e => ?_
  · obtain ⟨g, fd, ps, h1, h2, h3, h4⟩ := g7 f hf x F e
    exact ⟨g, fd, ps, h1, h2, okG_inst h h3, h4⟩
  · obtain ⟨f, h1, h2, h3⟩ := g8 i x den e
    exact ⟨f, h1, h2, fun b hb => hoOk_inst h (h3 b hb)⟩
/-- what a def that is handed data and a function tells -/
def hoDen (T : CT) (body : MSs) (g : D → Option D) (d : D) : Option D :=
  (exSs { T with fv := some g } body (.da d :: .fv :: List.replicate (T.N.length - 2) .un)).bind fun (fl, _) => match fl with
    | .rt z => some z
    | .nx => some .none
    | _ => none
/-- THE RULE for it -/
theorem ho_def [L0 : LamT] {x qual p0 p1 : Str} {st : Stmt} {f : Addr} {fd : FuncData} {T : CT} {bl : List Str} {body : MSs} (Fu : Fun K x qual st f fd) (S : FnScope T.N [p0, p1] (defScope st)) (bi : Binds K fd [p0, p1] []) (G : TopG P w K mg base k T bl) (hl : 2 ≤ T.N.length)
    (hc : ∀ g, cmSs { T with fv := some g } bl (defScope st) [] body (defBody st) = true) (nd : ("<deep>" : Str) ∉ bl := by decide) (nl : ("<lam>" : Str) ∉ bl := by decide) : HoOk P w K mg base (k + 1) f (hoDen T body) := by
  obtain ⟨oc, od, kV, doc, pm, an, cdv, ct, osl, rfl, lk, hcd⟩ := Fu.ex
  refine ⟨fun {a g h0 RA A outer s H v u d z Q} gq hr hRA e0 FV per tb rv zv e q => ?_⟩
  have KX : K.In s.heap := e0.mod.kin.keeps fun b o e => (e0.bs b o e).1
  have lim : s.heap.NoLimit := e0.mod.nolimit.keeps fun b o e => (e0.bs b o e).1
  have rvs : Vals [v, V.ref a] [u, Value.ref a] := .cons rv (.cons rfl .nil)
  have kinds : ∀ y ∈ [p0, p1].zip [u, Value.ref a], (defScope st).names.lookup y.1 = some .local ∨ ((defScope st).names.lookup y.1 = some .cell ∧ ((cellsFrom (s.heap.objs.size + 1) (defScope st).names []).lookup y.1).isSome = true) := fun ⟨n, v⟩ hy =>
    (S.par n (List.of_mem_zip hy).1).elim .inl fun q => .inr ⟨q, PySem.W.cellsFrom_some _ _ _ (.inl q)⟩
  have hb : BindsTo s _ ⟨[u, Value.ref a], []⟩ ([p0, p1].zip [u, Value.ref a]) := bi s [u, Value.ref a] KX rfl
  refine codeAny_call_function hr.depth (KX _ _ lk) rfl S.co S.gen rfl (PySem.W.codeRec_of KX hcd) (hb _ _ _ _ (wpAny_newFunctionEnv_cells S.kind kinds fun env he s1 x => ?_))
  cases he
  refine ⟨lim.keeps x.toInCall.keep, codeAny_func ?_⟩
  let L1 : LamT := ⟨L0.ts, a, h0⟩
  let X : Cx := (cxOf CX0 P w K mg base T.N qual (defScope st) f cdv A outer s H fun _ _ _ => False).nox
  have G1 : @TopG L1 P w K mg base k T bl := topG_inst (L0 := L0) (L1 := L1) rfl G
  have r0 : Room k X.A := hr.deeper _
  obtain ⟨g1, g2, g3, g4, g5, g6, g7, g8⟩ := G1
  have gd : @Gd L1 X { T with fv := some g } bl := @Gd.mk L1 X { T with fv := some g } bl rfl S.nd rfl r0.units gq g1 g2 (fun i y F' hi => by
      obtain ⟨ex⟩ := g3 i y F' hi
      rcases ex with ⟨a, fd', ps', h1, h2, h3, h4⟩ | c
      · exact @FnRun.mk L1 _ _ _ _ (.inl ⟨a, fd', ps', k, h1, h2, h3, r0, h4⟩)
      · exact @FnRun.mk L1 _ _ _ _ (.inr ⟨k, c, r0⟩)) g4 g5 (fun i m al hi cls F' hc => by
      obtain ⟨a, fd', ps', h1, h2, h3⟩ := g6 i m al hi cls F' hc
      exact @MthRun.mk L1 _ _ _ _ _ ⟨a, fd', ps', k, h1, h2, r0, h3⟩) (fun h => absurd h nl) (fun h => absurd h nd) (fun h => absurd h nd) (fun _ _ _ _ h => absurd h nd) (fun g' hg => by
      cases hg
      exact ⟨RA, fvOk_inst (L0 := L0) (L1 := L1) rfl FV, hRA _⟩) (fun h => absurd h nd) (fun _ _ => rfl)
  have gs : @Gs L1 X { T with fv := some g } bl := @Gs.mk L1 X _ bl gd (fun _ => rfl) PassesOwn.never S.kind
  have ht := goodSs body gs (hc g)
  have I := inv_start (CX := CX0) (E := fun _ _ _ => False) (qual := qual) (f := f) (cd := cdv) S hr.hd e0 rfl rvs x
  unfold hoDen at e
  obtain ⟨⟨fl, ρ'⟩, e1, e2⟩ := Option.bind_eq_some_iff.mp e
  have hst : L2.start T.N [v, V.ref a] = some v :: some (.ref a) :: List.replicate (T.N.length - 2) none := rfl
  have unq : ∀ {i : Nat} {y : Slot}, (Slot.da d :: .fv :: List.replicate (T.N.length - 2) .un)[i]? = some y → (i = 0 ∧ y = .da d) ∨ (i = 1 ∧ y = .fv) ∨ y = .un := fun {i y} h => by
    match i with
    | 0 => exact .inl ⟨rfl, (Option.some.inj h).symm⟩
    | 1 => exact .inr (.inl ⟨rfl, (Option.some.inj h).symm⟩)
    | i + 2 =>
      have h : (List.replicate (T.N.length - 2) Slot.un)[i]? = some y := h
      rw [List.getElem?_replicate] at h
      split at h
      · exact .inr (.inr (Option.some.inj h).symm)
      · cases h
  have R : @Rel L1 K H (L2.start T.N [v, V.ref a]) (.da d :: .fv :: List.replicate (T.N.length - 2) .un) := by
    rw [hst]
    refine @Rel.mk L1 K H _ _ (fun i d' h => ?_) (fun i d' h => ?_) (fun i j d e p q b _ h => ?_) (by simp) tb (fun i h => ?_)
    · rcases unq h with ⟨rfl, e⟩ | ⟨_, e⟩ | e
      · cases e; exact ⟨v, rfl, zv⟩
      · cases e
      · cases e
    · rcases unq h with ⟨_, e⟩ | ⟨_, e⟩ | e <;> cases e
    · rcases unq h with ⟨_, e⟩ | ⟨_, e⟩ | e <;> cases e
    · rcases unq h with ⟨_, e⟩ | ⟨rfl, _⟩ | e
      · cases e
      · exact ⟨rfl, per⟩
      · cases e
  have keep : ∀ {σ' : St} {H' : Hp}, @Fr L1 [] (L2.start T.N [v, V.ref a]) (.da d :: .fv :: List.replicate (T.N.length - 2) .un) H σ' ρ' H' → @KeepA L0 H H' := fun {σ' H'} fr => by
    obtain ⟨f1, _, f3, f4, _⟩ := fr
    exact @KeepA.mk L0 _ _ (fun b o hb t => f1 b o hb (fun ⟨i, dd, p, h, _⟩ => by rcases unq h with ⟨_, e⟩ | ⟨_, e⟩ | e <;> cases e) t) f3 f4
  refine wpAny_mono (ht.nox.run [] s1 (L2.start T.N [v, V.ref a]) H { nx := fun _ H' => Q .non H', rt := Q } I ⟨_, fl, ρ', R, e1, fun σ' H' fr R' => ?_⟩) (fun fl s' hs => ?_) fun _ _ hs => hs
  · cases fl with
    | nx =>
      cases e2
      exact q .non H' (keep fr) .non
    | rt z' =>
      cases e2
      exact fun v' z => q v' H' (keep fr) z
    | ro _ => cases e2
    | bk => cases e2
    | ct => cases e2
  · cases fl with
    | ret u =>
      obtain ⟨v, _, H', J, rv, q⟩ := hs
      exact ⟨v, H', J.os, J.bare, J.base, J.hok, rv, q⟩
    | next =>
      obtain ⟨_, H', J, q⟩ := hs
      exact ⟨.non, H', J.os, J.bare, J.base, J.hok, rfl, q⟩
    | brk => obtain ⟨_, _, _, q⟩ := hs; exact q.elim
    | cont => obtain ⟨_, _, _, q⟩ := hs; exact q.elim
end
end Mp
namespace Mp
open PySem PySem.Spec L2
open PyProof.Rows hiding St

/-! ### plain facts about data -/
@[simp] theorem ls_len (xs : List Str) : (lsD xs).length = xs.length := by simp [lsD]
@[simp] theorem ls_app (xs ys : List Str) : lsD xs ++ lsD ys = lsD (xs ++ ys) := by simp [lsD]
theorem ls_take (xs : List Str) (n : Nat) : (lsD xs).take n = lsD (xs.take n) := by simp [lsD, List.map_take]
theorem ls_drop (xs : List Str) (n : Nat) : (lsD xs).drop n = lsD (xs.drop n) := by simp [lsD, List.map_drop]
theorem ls_get (xs : List Str) (n : Nat) : (lsD xs)[n]? = (xs[n]?).map .str := by simp [lsD]
theorem ls_erase : ∀ (xs : List Str) (n : Nat), (lsD xs).eraseIdx n = lsD (xs.eraseIdx n)
  | [], _ => rfl
  | _ :: _, 0 => rfl
  | x :: r, n + 1 => by
    show PyData.str x :: (lsD r).eraseIdx n = .str x :: lsD (r.eraseIdx n)
    rw [ls_erase r n]
@[simp] theorem so_ls : ∀ xs : List Str, strsOf (lsD xs) = some xs
  | [] => rfl
  | x :: r => by
    show (strsOf (lsD r)).map (x :: ·) = _
    rw [so_ls r]
    rfl
theorem eqvAll_ls : ∀ xs ys : List Str, PyData.eqvAll (lsD xs) (lsD ys) = decide (xs = ys)
  | [], [] => rfl
  | [], y :: r => by
    rw [decide_eq_false (by simp)]
    rfl
  | x :: r, [] => by
    rw [decide_eq_false (by simp)]
    rfl
  | x :: r, y :: s => by
    show PyData.eqvAll (.str x :: lsD r) (.str y :: lsD s) = _
    rw [PyData.eqvAll, PyData.eqv, eqvAll_ls r s, Bool.eq_iff_iff]
    simp
theorem eqv_lsT (xs ys : List Str) : PyData.eqv (.tuple (lsD xs)) (.tuple (lsD ys)) = decide (xs = ys) := by rw [PyData.eqv, eqvAll_ls]
theorem eqv_lsL (xs ys : List Str) : PyData.eqv (.list (lsD xs)) (.list (lsD ys)) = decide (xs = ys) := by rw [PyData.eqv, eqvAll_ls]
theorem plainAll_ls : ∀ xs : List Str, PyData.plainAll (lsD xs) = true
  | [] => rfl
  | x :: r => by
    show PyData.plainAll (.str x :: lsD r) = true
    rw [PyData.plainAll, plainAll_ls r]
    rfl
theorem depthAll_ls : ∀ xs : List Str, PyData.depthAll (lsD xs) ≤ 1
  | [] => by
    show PyData.depthAll [] ≤ 1
    rw [PyData.depthAll]
    omega
  | x :: r => by
    have := depthAll_ls r
    show PyData.depthAll (.str x :: lsD r) ≤ 1
    rw [PyData.depthAll, PyData.depth]
    omega
theorem ok_lsT (xs : List Str) : okD (.tuple (lsD xs)) = true := by
  unfold okD
  rw [PyData.plain, plainAll_ls, PyData.depth]
  have := depthAll_ls xs
  simp
  omega
theorem ok_lsL (xs : List Str) : okD (.list (lsD xs)) = true := by
  unfold okD
  rw [PyData.plain, plainAll_ls, PyData.depth]
  have := depthAll_ls xs
  simp
  omega
@[simp] theorem cut_to (ds : List D) (n : Nat) : cutD ds none (some (n : Int)) = ds.take n := by
  unfold cutD
  rw [HT.sIx_none, HT.sIx_nat, List.drop_zero, Nat.sub_zero]
  by_cases h : n ≤ ds.length
  · rw [Nat.min_eq_left h]
  · rw [Nat.min_eq_right (by omega), List.take_length, List.take_of_length_le (by omega)]
@[simp] theorem cut_from (ds : List D) (n : Nat) : cutD ds (some (n : Int)) none = ds.drop n := by
  unfold cutD
  rw [HT.sIx_none, HT.sIx_nat]
  by_cases h : n ≤ ds.length
  · rw [Nat.min_eq_left h, List.take_of_length_le (by simp)]
  · rw [Nat.min_eq_right (by omega), List.drop_length, List.drop_of_length_le (by omega)]
    simp
theorem cut_to' (ds : List D) {j : Int} (h : 0 ≤ j) : cutD ds none (some j) = ds.take j.toNat := by
  conv => lhs; rw [show j = ((j.toNat : Nat) : Int) by omega]
  exact cut_to ds _
@[simp] theorem cut_from1 (ds : List D) : cutD ds (some 1) none = ds.drop 1 := cut_from ds 1
@[simp] theorem cut_to1 (ds : List D) : cutD ds none (some 1) = ds.take 1 := cut_to ds 1
@[simp] theorem sl_ff (a : D) : slcD false false [a] = sliceD a none none := rfl
@[simp] theorem sl_tf (a : D) (i : Int) : slcD true false [a, .int i] = sliceD a (some i) none := rfl
@[simp] theorem sl_ft (a : D) (i : Int) : slcD false true [a, .int i] = sliceD a none (some i) := rfl
@[simp] theorem sl_t (ds : List D) (lo hi : Option Int) : sliceD (.tuple ds) lo hi = some (.tuple (cutD ds lo hi)) := rfl
@[simp] theorem sl_l (ds : List D) (lo hi : Option Int) : sliceD (.list ds) lo hi = some (.list (cutD ds lo hi)) := rfl
theorem eq_of {a b : D} (h1 : okD a = true) (h2 : okD b = true) : eqD a b = some (.bool (a.eqv b)) := by
  unfold eqD
  rw [if_pos ⟨h1, h2⟩]
theorem ne_of {a b : D} (h1 : okD a = true) (h2 : okD b = true) : neD a b = some (.bool (!a.eqv b)) := by
  unfold neD
  rw [if_pos ⟨h1, h2⟩]
theorem de_str (x y : Str) : eqD (.str x) (.str y) = some (.bool (x == y)) := rfl
theorem dn_str (x y : Str) : neD (.str x) (.str y) = some (.bool (!(x == y))) := rfl
theorem de_int (x y : Int) : eqD (.int x) (.int y) = some (.bool (x == y)) := rfl
theorem dn_int (x y : Int) : neD (.int x) (.int y) = some (.bool (!(x == y))) := rfl
theorem lenSet_t (xs : List Str) (h : xs.length ≤ 1000) : lenSetD (.tuple (lsD xs)) = some (.int (metS xs).length) := by
  unfold lenSetD
  show (strsOf (lsD xs)).bind _ = _
  rw [so_ls, Option.bind_some, if_pos h]
theorem rng_succ (lo : Int) (n : Nat) : rngD lo (n + 1) = .int lo :: rngD (lo + 1) n := by
  unfold rngD
  rw [List.range_succ_eq_map]
  simp [List.map_map, Function.comp_def]
  intro a _
  omega
theorem rng_snoc (lo : Int) (n : Nat) : rngD lo (n + 1) = rngD lo n ++ [.int (lo + n)] := by
  unfold rngD
  rw [List.range_succ]
  simp
@[simp] theorem rng_len (lo : Int) (n : Nat) : (rngD lo n).length = n := by simp [rngD]
@[simp] theorem cl_nil (f : D → Ev → Option (Option D × Ev)) (own : List Nat) (ρ : Ev) : compLoop f own [] ρ = some ([], ρ) := rfl
theorem cl_cons (f : D → Ev → Option (Option D × Ev)) (own : List Nat) (x : D) (r : List D) (ρ : Ev) : compLoop f own (x :: r) ρ = (f x (wipes ρ own)).bind fun p => (compLoop f own r p.2).map fun q => (p.1.toList ++ q.1, q.2) := rfl
/-- a loop that goes through all its rounds -/
theorem for_inv {f : D → Ev → Option (Fl × Ev)} (I : Nat → Ev → Prop) : ∀ (ds : List D) (ρ : Ev) (j : Nat), I j ρ → (∀ i d ρ, ds[i]? = some d → I (j + i) ρ → ∃ ρ', f d ρ = some (.nx, ρ') ∧ I (j + i + 1) ρ') → ∃ ρ', forLoop f ds ρ = some (.nx, ρ') ∧ I (j + ds.length) ρ'
  | [], ρ, j, h, _ => ⟨ρ, rfl, h⟩
  | d :: r, ρ, j, h, st => by
    obtain ⟨ρ1, e1, h1⟩ := st 0 d ρ rfl h
    obtain ⟨ρ2, e2, h2⟩ := for_inv I r ρ1 (j + 1) h1 fun i d' ρ' hi hI => by
      have := st (i + 1) d' ρ' (by simpa using hi) (by rwa [show j + (i + 1) = j + 1 + i by omega])
      rwa [show j + (i + 1) + 1 = j + 1 + i + 1 by omega] at this
    refine ⟨ρ2, ?_, by rw [List.length_cons, show j + (r.length + 1) = j + 1 + r.length by omega]; exact h2⟩
    show (f d ρ).bind _ = _
    rw [e1, Option.bind_some]
    exact e2
/-- slots that hold nothing of one's own -/
def fre : Slot → Bool
  | .ow _ => false
  | _ => true
theorem fre_da (d : D) : fre (.da d) = true := rfl
theorem set_fre {ρ : Ev} {i : Nat} {s : Slot} (d : D) (h : ρ[i]? = some s) (f : fre s = true) : setDa ρ i d = some (ρ.set i (.da d)) := by
  unfold setDa
  rw [h]
  cases s <;> first | rfl | cases f
/-- a comprehension over one name, turn by turn -/
theorem comp_gen {T : CT} {elt : ME} {cs : MC} {i : Nat} {ρ : Ev} (g : D → Option D) (hi : i < ρ.length) : ∀ (ds : List D) (s : Slot), (∀ d ∈ ds, cstep T elt (.v i) cs d (ρ.set i .un) = some (g d, ρ.set i (.da d))) →
    ∃ s', compLoop (cstep T elt (.v i) cs) [i] ds (ρ.set i s) = some (ds.filterMap g, ρ.set i s')
  | [], s, _ => ⟨s, rfl⟩
  | d :: r, s, h => by
    obtain ⟨s', e⟩ := comp_gen g hi r (.da d) fun d' hd => h d' (List.mem_cons_of_mem _ hd)
    refine ⟨s', ?_⟩
    rw [cl_cons]
    have e1 := h d List.mem_cons_self
    rw [w_cons, w_nil, List.set_set, e1, Option.bind_some, e, List.filterMap_cons]
    cases g d <;> rfl
theorem comp_ev {T : CT} {elt : ME} {it : MI} {cs : MC} {i : Nat} {ρ : Ev} {ds : List D} (g : D → Option D) (hi : i < ρ.length) (hit : evi T it ρ = some (ds, ρ)) (h : ∀ d ∈ ds, cstep T elt (.v i) cs d (ρ.set i .un) = some (g d, ρ.set i (.da d))) :
    ev T (.comp elt (.v i) it cs [i]) ρ = some (.list (ds.filterMap g), ρ) := by
  have self : ρ.set i (ρ.getD i .un) = ρ := by
    have e : ρ.getD i .un = ρ[i] := by simp [List.getD, List.getElem?_eq_getElem hi]
    rw [e]
    exact List.set_getElem_self hi
  obtain ⟨s', e⟩ := comp_gen (T := T) (elt := elt) (cs := cs) g hi ds (ρ.getD i .un) h
  rw [self] at e
  rw [x_comp, hit, Option.bind_some]
  show (compLoop _ _ ds ρ).map _ = _
  rw [e, Option.map_some, rs_cons, rs_nil, List.set_set, self]
theorem bools_map (f : D → Bool) : ∀ ds : List D, boolsOf (ds.filterMap fun d => some (.bool (f d))) = some (ds.map f)
  | [] => rfl
  | d :: r => by
    show boolsOf (.bool (f d) :: _) = _
    rw [boolsOf, bools_map f r]
    rfl
theorem all_map (f : D → Bool) (ds : List D) : allD (.list (ds.filterMap fun d => some (.bool (f d)))) = some (.bool (ds.all f)) := by
  show (boolsOf _).map _ = _
  rw [bools_map]
  simp [List.all_map, Function.comp_def]
theorem all_map' (f : D → Bool) (ds : List D) : allD (.list (ds.map fun d => .bool (f d))) = some (.bool (ds.all f)) := by
  have := all_map f ds
  rwa [List.filterMap_eq_map'] at this
theorem len_str {x : Str} (h : x.length ≤ 1000) : lenD (.str x) = some (.int x.length) := by
  show (if x.length ≤ sizeLine then _ else _) = _
  rw [if_pos (Nat.le_trans h (by decide))]
theorem split_str {x b : Str} (hb : (b.length == 0) = false) (h : x.length ≤ 1000) : splitD b (.str x) = some (.list (lsD (Txt.split x b))) := by
  show (if _ then _ else _) = _
  rw [if_pos ⟨hb, Nat.le_trans (by omega : x.length + 2 ≤ 1002) (by decide)⟩]
end Mp
set_option maxHeartbeats 2000000
namespace Mp
open PySem PySem.Spec L2 PySem.HandSPX LamX
open PyProof.Rows hiding St
variable [LamT]

/-! ### objects of ordinary classes, made -/
/-- a class's denotation from that of its __init__ -/
def mkDen (nm : Str) (den : List D → Option (D × List D)) (ds : List D) : Option (D × List D) :=
  (den (obD nm [] :: ds)).bind fun p => match p with
    | (.none, [o]) => some (o, [])
    | _ => none
theorem mkDen_of {nm : Str} {den : List D → Option (D × List D)} {ds outs : List D} {d : D} (h : mkDen nm den ds = some (d, outs)) : den (obD nm [] :: ds) = some (.none, [d]) ∧ outs = [] := by
  unfold mkDen at h
  obtain ⟨p, h1, h2⟩ := Option.bind_eq_some_iff.mp h
  split at h2
  · cases h2
    exact ⟨h1, rfl⟩
  · cases h2
theorem RzAll.args {K : PySem.W.Frag} {H : Hp} : ∀ {m : List Bool} {vs : List V} {ds : List D}, m.all (fun b => !b) = true → m.length = vs.length → RzAll K H vs ds → ArgsOk K H m vs ds
  | [], _, _, _, _, .nil => .nil
  | [], _, _, _, h, .cons _ _ => by cases h
  | true :: _, _, _, h, _, _ => by simp at h
  | false :: _, _, _, _, h, .nil => by cases h
  | false :: m, _, _, h, l, .cons z r => .v z (RzAll.args (by simpa using h) (by simpa using l) r)
theorem cls_obj {P : Program} {w : World} {K : PySem.W.Frag} {mg : Str → Option Value} {base : Heap} {k : Nat} {x : Str} {C fI : Addr} {fd : FuncData} {N : List Str} {F F1 : FnT}
    (hm : mg x = some (.ref C)) (M : Mk K C fI) (cn : ClsN K C x) (pc : PlC K C) (ok : OkG P w K mg base k fI fd N (spFn K F1)) (bf : BindsF K fd N F1) (h1 : F1.np = F.np + 1) (h2 : F1.ks = F.ks) (h3 : F1.dfl = F.dfl) (h4 : F1.pm = 0 :: F.pm.map (· + 1)) (hN : N.length = F.pm.length + 1)
    (hm1 : F1.mask = true :: F.mask) (hr1 : F1.ro = false) (hma : F.mask.all (fun b => !b) = true) (hro : F.ro = true) (hd : F.den = mkDen x F1.den) : ClsG P w K mg base (k + 1) x F := by
  obtain ⟨dvs, dus, hdv, rdv, bnd⟩ := bf
  refine ⟨C, dvs, hm, M.kp, fun H => by rw [← h3]; exact hdv H, ?_⟩
  intro X e1 e2 e3 e4 e5 room quiet
  subst e1 e2 e3 e4 e5
  intro pins σ H s Q us ws vs zs cs I rv rz lv lz hp hsp
  obtain ⟨ds, d, outs, ao, nd, tbs, ed, qq⟩ := hsp
  rw [hd] at ed
  obtain ⟨ed1, rfl⟩ := mkDen_of ed
  obtain ⟨rzc, ln⟩ := pure_args ao hma
  rw [ln] at qq
  obtain ⟨vbs, hvb, rvb⟩ := pick_vals ((rv.append rz).append rdv) hp
  have hcs : cs.length = F.pm.length := pick_len hp
  have lus : us.length = F.np := by rw [← rv.length]; exact lv
  have lws : ws.length = F.ks.length := by rw [← rz.length]; exact lz
  have I2 := Inv.made (C := C) I
  have hx : H (s.heap.objs.size + 1) = none := I.hok.fresh (Nat.le_succ _)
  have hdx : H s.heap.objs.size = none := I.hok.fresh (Nat.le_refl _)
  have hne : s.heap.objs.size ≠ s.heap.objs.size + 1 := Nat.ne_of_lt (Nat.lt_succ_self _)
  generalize ha : s.heap.objs.size + 1 = a at *
  generalize hdd : s.heap.objs.size = dx at *
  have sm : Same H (upd (upd H dx (.own a)) a (.ins C dx [])) := fun b o e => by rw [upd_ne (ne_of_none e hx), upd_ne (ne_of_none e hdx)]; exact e
  have per := Per.of_same sm
  have ft : ∀ b, Foot (upd (upd H dx (.own a)) a (.ins C dx [])) a (obD x []) b → b = a := fun b f => by
    rcases f with f | ⟨C', dx', fs, f, y, e, m1, _⟩
    · exact f
    · rw [upd_same] at e; cases e; cases m1
  have oa : Own X.K (upd (upd H dx (.own a)) a (.ins C dx [])) a (obD x []) := .inr ⟨x, [], C, dx, [], rfl, ⟨upd_same, cn, pc, .nil, List.nodup_nil, fun _ _ _ _ _ h => by cases h⟩⟩
  have ao2 : ArgsOk X.K (upd (upd H dx (.own a)) a (.ins C dx [])) F1.mask (.ref a :: cs) (obD x [] :: ds) := by
    rw [hm1]
    exact .o oa (RzAll.args hma ao.length.symm (rzc.per per))
  have ln2 : lent F1.mask (.ref a :: cs) (obD x [] :: ds) = [(a, obD x [])] := by
    rw [hm1]
    show (a, obD x []) :: lent F.mask cs ds = _
    rw [ln]
  have sp : spFn X.K F1 (.ref a :: cs) (upd (upd H dx (.own a)) a (.ins C dx [])) (fun v H2 => v = .non ∧ Q (.ref a) H2) (fun _ _ _ => False) := by
    refine ⟨_, _, _, ao2, ?_, fun t ht => (tbs t ht).ext sm, ed1, fun v H' kl oo ap ro => ?_⟩
    · rw [ln2]
      exact ⟨by simp, fun p hp q hq n => by
        rw [List.mem_singleton.mp hp, List.mem_singleton.mp hq] at n
        exact (n rfl).elim⟩
    · rw [ln2] at kl oo
      unfold RetOk at ro
      rw [hr1, if_neg Bool.false_ne_true] at ro
      have ev : v = .non := by cases ro; rfl
      cases oo with
      | cons od fd' _ =>
        have new : ∀ b, Foot H' a d b → H b = none := fun b f => by
          rcases fd' b f with z | z
          · rw [ft b z]; exact hx
          · cases e : H b with
            | none => rfl
            | some o => rw [sm b o e] at z; cases z
        refine ⟨ev, qq _ _ ⟨fun b o e _ t => kl.keep b o (sm b o e) (fun ⟨q, hq, f⟩ => ?_) t, fun b e => ?_, fun P q mt t => kl.tabs P q mt (t.ext sm)⟩ .nil Apart.nil ?_⟩
        · rw [List.mem_singleton.mp hq] at f
          rw [ft b f, hx] at e; cases e
        · cases e' : H b with
          | none => rfl
          | some o =>
            have := kl.alive b e
            rw [sm b o e'] at this; cases this
        · unfold RetOk
          rw [hro, if_pos rfl]
          exact ⟨a, rfl, od, new, fun b _ ⟨q, hq, _⟩ => List.not_mem_nil hq⟩
  have bt := bnd _ (Value.ref a :: us) ws (Value.ref a :: vbs) I2.kIn (by rw [List.length_cons, lus, h1]) (by rw [lws, h2]) (by rw [h4]; exact pick_self _ _ _ _ hvb) (by rw [List.length_cons, ← rvb.length, hcs, hN])
  rw [h2] at bt
  subst ha hdd
  refine wpAny_call (make_map (f := fI) I.kIn M.makes M.init (beq_iff_eq.mp M.fn) (codeAny_mono (ok.go (vs := V.ref (s.heap.objs.size + 1) :: cs) (under_quiet quiet) (room.make C us (F.ks.zip ws)) (I2.env0.make C us (F.ks.zip ws)) bt (.cons rfl rvb) sp) fun r s' hq' => ?_))
  cases r with
  | error e => exact hq'.elim
  | ok fl =>
    cases fl with
    | ret u =>
      obtain ⟨v, H', I3, rv, ev, q3⟩ := I2.after hq'
      subst ev
      exact ⟨rv, ⟨V.ref (s.heap.objs.size + 1), H', I3, rfl, q3⟩⟩
    | next => exact False.elim hq'
    | brk => exact False.elim hq'
    | cont => exact False.elim hq'
end Mp
namespace Mp
open PySem PySem.Spec L2
open PyProof.Rows hiding St
variable [LamT]

/-! ### classes and methods at the top -/
def plcB (K : PySem.W.Frag) (C : Addr) : Bool :=
  PySem.W.plainGet K C Str.empty && (PySem.W.hasDictIn K C && (PySem.W.plainOver K C && (decide (PySem.W.findIn K (.ref C) "__setattr__" = some (some (.builtin "object.__setattr__"))) &&
    (decide (PySem.W.findIn K (.ref C) "__class__" = some (some (.builtin "object.__class__"))) && (decide (PySem.W.specialIn K (.builtin "object.__class__") "__get__" = some (some (.builtin "getset_descriptor.__get__"))) &&
      (decide (PySem.W.takesIn K (.builtin "object.__class__") = some true) && decide (PySem.W.mroIn K C (.type "object") = some true)))))))
theorem plc_of {K : PySem.W.Frag} {C : Addr} (h : plcB K C = true) : PlC K C := by
  unfold plcB at h
  simp only [Bool.and_eq_true, decide_eq_true_eq] at h
  obtain ⟨h1, h2, h3, h4, h5, h6, h7, h8⟩ := h
  exact ⟨⟨h1, h2, h3, h4⟩, h5, h6, h7, h8⟩
structure MthAt (K : PySem.W.Frag) (cls m qual : Str) (st : Stmt) : Prop where
  ex : ∃ (g : Addr) (fd : FuncData), Fun K m qual st g fd ∧ ∀ C, ClsN K C cls → PlC K C ∧ Meth K C m g
theorem mth_at {K : PySem.W.Frag} {C g : Addr} {cls m qual : Str} {st : Stmt} {oc : Value} {od an : Option Addr} {osl : Array (Option Value)} {kV doc pm cdv ct : Value} (cn : ClsN K C cls) (pc : PlC K C) (a : PySem.W.findIn K (.ref C) m = some (some (.ref g))) (fn : PySem.W.isFn K (.ref g) = true)
    (l : K.lookup g = some ⟨oc, od, .func (PySem.W.fnOf m qual (defArgs st) (defBody st) (defScope st) .none kV doc pm an cdv ct), osl⟩) (c : PySem.W.codeIn K cdv qual = true) (k : PySem.W.keepIn K (.ref g) = true) : MthAt K cls m qual st :=
  ⟨g, _, fun_mk l c k, fun C' c' => by
    cases c'.uniq cn
    exact ⟨pc, a, fn, k⟩⟩
/-- the same of a method within which lambdas are made: their table stands at P -/
structure MthAtL (K : PySem.W.Frag) (cls m qual : Str) (st : Stmt) (P : Addr) : Prop where
  ex : ∃ (g : Addr) (fd : FuncData), Fun K m qual st g fd ∧ (∀ C, ClsN K C cls → PlC K C ∧ Meth K C m g) ∧ lamKB K g P = true
theorem mth_atL {K : PySem.W.Frag} {C g P : Addr} {cls m qual : Str} {st : Stmt} {oc : Value} {od an : Option Addr} {osl : Array (Option Value)} {kV doc pm cdv ct : Value} (cn : ClsN K C cls) (pc : PlC K C) (a : PySem.W.findIn K (.ref C) m = some (some (.ref g))) (fn : PySem.W.isFn K (.ref g) = true)
    (l : K.lookup g = some ⟨oc, od, .func (PySem.W.fnOf m qual (defArgs st) (defBody st) (defScope st) .none kV doc pm an cdv ct), osl⟩) (c : PySem.W.codeIn K cdv qual = true) (k : PySem.W.keepIn K (.ref g) = true) (t : lamKB K g P = true) : MthAtL K cls m qual st P :=
  ⟨g, _, fun_mk l c k, fun C' c' => by
    cases c'.uniq cn
    exact ⟨pc, a, fn, k⟩, t⟩
/-- the same of a def -/
structure FnAtL (K : PySem.W.Frag) (mg : Str → Option Value) (x : Str) (st : Stmt) (P : Addr) : Prop where
  ex : ∃ (f : Addr) (fd : FuncData), mg x = some (.ref f) ∧ PySem.W.keepIn K (.ref f) = true ∧ Fun K x x st f fd ∧ lamKB K f P = true
theorem fn_atL {K : PySem.W.Frag} {h : Heap} {mg : Str → Option Value} {f P : Addr} {x : Str} {st : Stmt} {oc : Value} {od an : Option Addr} {osl : Array (Option Value)} {kV doc pm cdv ct : Value} (X : K.In h) (G : h.Ns mainGlobals mg) (a : PySem.W.nsIn K mainGlobals x = some (some (.ref f)))
    (l : K.lookup f = some ⟨oc, od, .func (PySem.W.fnOf x x (defArgs st) (defBody st) (defScope st) .none kV doc pm an cdv ct), osl⟩) (c : PySem.W.codeIn K cdv x = true) (k : PySem.W.keepIn K (.ref f) = true) (t : lamKB K f P = true) : FnAtL K mg x st P :=
  ⟨f, _, PySem.W.mg_of X G a, k, fun_mk l c k, t⟩
theorem funD_mk {K : PySem.W.Frag} {x qual : Str} {st : Stmt} {f D : Addr} {oc : Value} {od an : Option Addr} {doc pm cdv ct : Value} {sl : Array (Option Value)} {kws : List (Str × V)} (l : K.lookup f = some ⟨oc, od, .func (PySem.W.fnOf x qual (defArgs st) (defBody st) (defScope st) .none (.ref D) doc pm an cdv ct), sl⟩)
    (c : PySem.W.codeIn K cdv qual = true) (k : PySem.W.keepIn K (.ref f) = true) (d : ∀ q ∈ kws, ∃ u, PySem.W.nsIn K D q.1 = some (some u) ∧ RelV q.2 u) : FunD K x qual (defArgs st) (defBody st) (defScope st) [] kws f (PySem.W.fnOf x qual (defArgs st) (defBody st) (defScope st) .none (.ref D) doc pm an cdv ct) :=
  ⟨⟨oc, od, .none, .ref D, doc, pm, an, cdv, ct, sl, rfl, l, c, .inl ⟨rfl, rfl⟩, .inr ⟨D, rfl, d⟩⟩, k⟩
theorem code_of {K : PySem.W.Frag} {q : Addr} (h : (K.any fun e => PySem.W.codeHdIn K e.1 q) = true) : ∃ c, PySem.W.codeHdIn K c q = true := by
  obtain ⟨e, _, h⟩ := List.any_eq_true.mp h
  exact ⟨e.1, h⟩
section
variable {P : Program} {w : World} {K : PySem.W.Frag} {mg : Str → Option Value} {base : Heap}
theorem mthG {cls m : Str} {F : FnT} {g : Addr} {fd : FuncData} {ps : List Str} {j k : Nat} (hm : ∀ C, ClsN K C cls → PlC K C ∧ Meth K C m g) (ok : OkG P w K mg base j g fd ps (spFn K F)) (h : j ≤ k) (b : BindsF K fd ps F) : MthG P w K mg base k cls m F := ⟨g, fd, ps, hm, ok.mono h, b⟩
theorem mts_of {k : Nat} {T : CT} {ms : List (Str × List (Str × FnT))} (h : T.mts = ms) (all : ∀ p ∈ ms, ∀ q ∈ p.2, MthG P w K mg base k q.1 p.1 q.2) : ∀ (f : Nat) (m : Str) (al : List (Str × FnT)), T.mts[f]? = some (m, al) → ∀ cls F, al.lookup cls = some F → MthG P w K mg base k cls m F := fun f m al e cls F l => by
  rw [h] at e
  exact all (m, al) (List.mem_of_getElem? e) (cls, F) (lookup_mem l)
/-- a def that is handed data and a function -/
structure HoG (P : Program) (w : World) (K : PySem.W.Frag) (mg : Str → Option Value) (base : Heap) (k : Nat) (x : Str) (den : (D → Option D) → D → Option D) : Prop where
  ex : ∃ f : Addr, mg x = some (.ref f) ∧ PySem.W.keepIn K (.ref f) = true ∧ ∀ base' : Heap, (∀ b o, base.get? b = some o → base'.get? b = some o) → HoOk P w K mg base' k f den
theorem HoG.mono {j k : Nat} {x : Str} {den : (D → Option D) → D → Option D} (g : HoG P w K mg base j x den) (h : j ≤ k) : HoG P w K mg base k x den := by
  obtain ⟨f, a, b, c⟩ := g.ex
  exact ⟨f, a, b, fun base' s => ⟨fun gq r => (c base' s).go gq (r.mono h)⟩⟩
theorem hos_of {k : Nat} {T : CT} {hs : List (Str × ((D → Option D) → D → Option D))} (h : T.ho = hs) (all : ∀ p ∈ hs, HoG P w K mg base k p.1 p.2) : ∀ (i : Nat) (x : Str) (den : (D → Option D) → D → Option D), T.ho[i]? = some (x, den) → ∃ f : Addr, mg x = some (.ref f) ∧ PySem.W.keepIn K (.ref f) = true ∧ ∀ base' : Heap, (∀ b o, base.get? b = some o → base'.get? b = some o) → HoOk P w K mg base' k f den := fun i x den e => by
  rw [h] at e
  exact (all (x, den) (List.mem_of_getElem? e)).ex
/-- a def, known as such -/
structure DefG (P : Program) (w : World) (K : PySem.W.Frag) (mg : Str → Option Value) (base : Heap) (k : Nat) (x : Str) (F : FnT) : Prop where
  ex : ∃ (f : Addr) (fd : FuncData) (ps : List Str), mg x = some (.ref f) ∧ PySem.W.keepIn K (.ref f) = true ∧ OkG P w K mg base k f fd ps (spFn K F) ∧ BindsF K fd ps F
theorem DefG.fn {k : Nat} {x : Str} {F : FnT} (g : DefG P w K mg base k x F) : FnG P w K mg base k x F := ⟨.inl g.ex⟩
theorem DefG.mono {j k : Nat} {x : Str} {F : FnT} (g : DefG P w K mg base j x F) (h : j ≤ k) : DefG P w K mg base k x F := by
  obtain ⟨f, fd, ps, a, b, c, d⟩ := g.ex
  exact ⟨f, fd, ps, a, b, c.mono h, d⟩
theorem defG {x : Str} {F : FnT} {f : Addr} {fd : FuncData} {ps : List Str} {j k : Nat} (hm : mg x = some (.ref f)) (kp : PySem.W.keepIn K (.ref f) = true) (ok : OkG P w K mg base j f fd ps (spFn K F)) (h : j ≤ k) (b : BindsF K fd ps F) : DefG P w K mg base k x F := ⟨f, fd, ps, hm, kp, ok.mono h, b⟩
theorem pld_of {k : Nat} {T : CT} {ps : List Nat} (h : T.pls = ps) (all : ∀ i ∈ ps, ∃ x F, T.fns[i]? = some (x, F) ∧ DefG P w K mg base k x F) : ∀ f ∈ T.pls, ∀ (x : Str) (F : FnT), T.fns[f]? = some (x, F) →
    ∃ (f : Addr) (fd : FuncData) (ps : List Str), mg x = some (.ref f) ∧ PySem.W.keepIn K (.ref f) = true ∧ OkG P w K mg base k f fd ps (spFn K F) ∧ BindsF K fd ps F := fun f hf x F e => by
  rw [h] at hf
  obtain ⟨x', F', e', g⟩ := all f hf
  rw [e] at e'
  cases e'
  exact g.ex
end
end Mp
namespace Lw
open Mp PySem PySem.Spec L2
open PyProof.Rows hiding St

instance : LamT := ⟨[(179, "Table.look_at_there.<locals>.<lambda>"), (172, "Table.look_at_keys.<locals>.<lambda>"), (146, "Table.look_at_rows.<locals>.<lambda>")], 0, fun _ => none⟩
def TS : List Addr := [179, 172, 146]
def top (i : Nat) : Stmt := PySem.Challenge.pw_groupedplans_k04_values_and_houses.main.body.getD i (.Pass ⟨0, 0, 0, 0⟩)
def c_HOUSES : D := .int (3)
def c_LETTERS : D := .str "abcdefghijklmnopqrstuvwxyz"
def c_MOST_COLUMNS : D := .int (6)
def c_MOST_KEYS : D := .int (4)
def c_MOST_NAME : D := .int (8)
def c_MOST_ROWS : D := .int (200)
def c_MOST_VALUE : D := .int (1000000000)
def FL : List (Str × Str) := [("Table", "own_rows"), ("Table", "own_columns"), ("Table", "own_keys"), ("Table", "own_there"), ("Table", "own_order"), ("Table", "own_house")]
def IS : List ((Str × Str) × Bool) := []
def bl0 : List Str := ["abs", "all", "bool", "enumerate", "int", "isinstance", "len", "list", "max", "min", "range", "set", "str", "tuple"]
def bl : List Str := bl0
def blA : List Str := (["<deep>", "<here>", "<lam>"] : List Str) ++ bl0
def blD : List Str := (["<deep>"] : List Str) ++ bl0
def blDLH : List Str := (["<deep>", "<lam>", "<here>"] : List Str) ++ bl0
abbrev s_house_of : Stmt := top 15
def q_house_of_1 : MS := (.ret (.prim .mod (.cons (.e (.var 0)) (.cons (.e (.glb 0)) .nil))))
def q_house_of_0 : MS := (.ife (.prim .isN (.cons (.e (.var 0)) .nil)) (.cons (.ret (.cst (.int 0))) .nil) .nil)
def b_house_of : MSs := (.cons q_house_of_0 (.cons q_house_of_1 .nil))
def T_house_of : CT := { N := ["value"], cons := [("HOUSES", c_HOUSES)], fns := [], mts := [], pls := [], ho := [], flds := FL, isc := IS }
def den_house_of : List D → Option (D × List D) := denOf T_house_of [false] false b_house_of
def F_house_of_0_value : FnT := ⟨0, ["value"], [], [0], [false], false, den_house_of⟩
def F_house_of_1 : FnT := ⟨1, [], [], [0], [false], false, den_house_of⟩
abbrev s_is_whole : Stmt := top 12
def q_is_whole_0 : MS := (.ret (.band (.prim (.isinst "int") (.cons (.e (.var 0)) .nil)) (.bnot (.prim (.isinst "bool") (.cons (.e (.var 0)) .nil)))))
def b_is_whole : MSs := (.cons q_is_whole_0 .nil)
def T_is_whole : CT := { N := ["thing"], cons := [], fns := [], mts := [], pls := [], ho := [], flds := FL, isc := IS }
def den_is_whole : List D → Option (D × List D) := denOf T_is_whole [false] false b_is_whole
def F_is_whole_1 : FnT := ⟨1, [], [], [0], [false], false, den_is_whole⟩
abbrev s_is_value : Stmt := top 14
def q_is_value_0 : MS := (.ret (.bor (.prim .isN (.cons (.e (.var 0)) .nil)) (.band (.fn 0 (.cons (.e (.var 0)) .nil)) (.chain .le .le (.prim .sub (.cons (.e (.cst (.int 0))) (.cons (.e (.glb 0)) .nil))) (.var 0) (.glb 0)))))
def b_is_value : MSs := (.cons q_is_value_0 .nil)
def T_is_value : CT := { N := ["thing"], cons := [("MOST_VALUE", c_MOST_VALUE)], fns := [("is_whole", F_is_whole_1)], mts := [], pls := [], ho := [], flds := FL, isc := IS }
def den_is_value : List D → Option (D × List D) := denOf T_is_value [false] false b_is_value
def F_is_value_0_thing : FnT := ⟨0, ["thing"], [], [0], [false], false, den_is_value⟩
def F_is_value_1 : FnT := ⟨1, [], [], [0], [false], false, den_is_value⟩
abbrev s_rank_of : Stmt := top 16
def q_rank_of_1 : MS := (.ret (.tup (.cons (.e (.cst (.int 1))) (.cons (.e (.var 0)) .nil))))
def q_rank_of_0 : MS := (.ife (.prim .isN (.cons (.e (.var 0)) .nil)) (.cons (.ret (.tup (.cons (.e (.cst (.int 0))) (.cons (.e (.cst (.int 0))) .nil)))) .nil) .nil)
def b_rank_of : MSs := (.cons q_rank_of_0 (.cons q_rank_of_1 .nil))
def T_rank_of : CT := { N := ["value"], cons := [], fns := [], mts := [], pls := [], ho := [], flds := FL, isc := IS }
def den_rank_of : List D → Option (D × List D) := denOf T_rank_of [false] false b_rank_of
def F_rank_of_1 : FnT := ⟨1, [], [], [0], [false], false, den_rank_of⟩
abbrev s_ranks_of : Stmt := top 17
def q_ranks_of_0 : MS := (.ret (.comp (.fn 0 (.cons (.e (.var 1)) .nil)) (.v 1) (.seq (.var 0)) .all [1]))
def b_ranks_of : MSs := (.cons q_ranks_of_0 .nil)
def T_ranks_of : CT := { N := ["row", "value"], cons := [], fns := [("rank_of", F_rank_of_1)], mts := [], pls := [], ho := [], flds := FL, isc := IS }
def den_ranks_of : List D → Option (D × List D) := denOf T_ranks_of [false] false b_ranks_of
def F_ranks_of_1 : FnT := ⟨1, [], [], [0], [false], false, den_ranks_of⟩
abbrev s_Table_parts_by : Stmt := (clsB (top 22)).getD 5 (.Pass ⟨0, 0, 0, 0⟩)
def q_Table_parts_by_1 : MS := (.ret (.comp (.prim .toTuple (.cons (.e (.comp (.prim .idx (.cons (.e (.var 4)) (.cons (.e (.var 5)) .nil))) (.v 5) (.seq (.var 2)) .all [5])) .nil)) (.v 4) (.seq (.fld "own_rows" (.var 0))) .all [4]))
def q_Table_parts_by_0 : MS := (.asg 2 (.comp (.prim .index (.cons (.e (.fld "own_columns" (.var 0))) (.cons (.e (.var 3)) .nil))) (.v 3) (.seq (.var 1)) .all [3]))
def b_Table_parts_by : MSs := (.cons q_Table_parts_by_0 (.cons q_Table_parts_by_1 .nil))
def T_Table_parts_by : CT := { N := ["self", "columns", "places", "column", "row", "place"], cons := [], fns := [], mts := [], pls := [], ho := [], flds := FL, isc := IS }
def den_Table_parts_by : List D → Option (D × List D) := denOf T_Table_parts_by [false, false] false b_Table_parts_by
def F_Table_parts_by_2 : FnT := ⟨2, [], [], [0, 1], [false, false], false, den_Table_parts_by⟩
abbrev s_Table_first_none : Stmt := (clsB (top 22)).getD 4 (.Pass ⟨0, 0, 0, 0⟩)
def q_Table_first_none_1 : MS := (.ret (.cst .none))
def q_Table_first_none_0_0 : MS := (.ife (.bor (.bnot (.prim (.isinst "str") (.cons (.e (.var 3)) .nil))) (.bor (.prim .notin (.cons (.e (.var 3)) (.cons (.e (.fld "own_columns" (.var 0))) .nil))) (.prim .isin (.cons (.e (.var 3)) (.cons (.e (.prim (.slc false true) (.cons (.e (.var 1)) (.cons (.e (.var 2)) .nil)))) .nil))))) (.cons (.ret (.var 2)) .nil) .nil)
def q_Table_first_none_0b : MSs := (.cons q_Table_first_none_0_0 .nil)
def q_Table_first_none_0 : MS := (.for (.tp [2, 3]) (.enum (.var 1)) q_Table_first_none_0b)
def b_Table_first_none : MSs := (.cons q_Table_first_none_0 (.cons q_Table_first_none_1 .nil))
def T_Table_first_none : CT := { N := ["self", "some", "place", "one"], cons := [], fns := [], mts := [], pls := [], ho := [], flds := FL, isc := IS }
def den_Table_first_none : List D → Option (D × List D) := denOf T_Table_first_none [false, false] false b_Table_first_none
def F_Table_first_none_2 : FnT := ⟨2, [], [], [0, 1], [false, false], false, den_Table_first_none⟩
abbrev s_Table_look_at_order : Stmt := (clsB (top 22)).getD 9 (.Pass ⟨0, 0, 0, 0⟩)
def q_Table_look_at_order_4_0 : MS := (.ife (.prim .lt (.cons (.e (.prim .idx (.cons (.e (.var 3)) (.cons (.e (.var 4)) .nil)))) (.cons (.e (.prim .idx (.cons (.e (.var 3)) (.cons (.e (.prim .sub (.cons (.e (.var 4)) (.cons (.e (.cst (.int 1))) .nil)))) .nil)))) .nil))) (.cons .die .nil) .nil)
def q_Table_look_at_order_4b : MSs := (.cons q_Table_look_at_order_4_0 .nil)
def q_Table_look_at_order_4 : MS := (.for (.v 4) (.rng2 (.cst (.int 1)) (.prim .len (.cons (.e (.var 3)) .nil))) q_Table_look_at_order_4b)
def q_Table_look_at_order_3 : MS := (.asg 3 (.comp (.fn 0 (.cons (.e (.var 5)) .nil)) (.v 5) (.seq (.mth 0 (.e (.var 0)) (.cons (.e (.var 1)) .nil))) .all [5]))
def q_Table_look_at_order_2 : MS := (.ife (.prim .notN (.cons (.e (.var 2)) .nil)) (.cons .die .nil) .nil)
def q_Table_look_at_order_1 : MS := (.asg 2 (.mth 1 (.e (.var 0)) (.cons (.e (.var 1)) .nil)))
def q_Table_look_at_order_0 : MS := (.ife (.bor (.bnot (.prim (.isinst "tuple") (.cons (.e (.var 1)) .nil))) (.prim .gt (.cons (.e (.prim .len (.cons (.e (.var 1)) .nil))) (.cons (.e (.glb 0)) .nil)))) (.cons .die .nil) .nil)
def b_Table_look_at_order : MSs := (.cons q_Table_look_at_order_0 (.cons q_Table_look_at_order_1 (.cons q_Table_look_at_order_2 (.cons q_Table_look_at_order_3 (.cons q_Table_look_at_order_4 .nil)))))
def T_Table_look_at_order : CT := { N := ["self", "order", "bad", "ranks", "place", "part"], cons := [("MOST_COLUMNS", c_MOST_COLUMNS)], fns := [("ranks_of", F_ranks_of_1)], mts := [("parts_by", [("Table", F_Table_parts_by_2)]), ("first_none", [("Table", F_Table_first_none_2)])], pls := [], ho := [], flds := FL, isc := IS }
def den_Table_look_at_order : List D → Option (D × List D) := denOf T_Table_look_at_order [false, false] false b_Table_look_at_order
def F_Table_look_at_order_2 : FnT := ⟨2, [], [], [0, 1], [false, false], false, den_Table_look_at_order⟩
abbrev s_next_of : Stmt := top 19
def q_next_of_1 : MS := (.ret (.prim .idx (.cons (.e (.var 0)) (.cons (.e (.cst (.int 0))) .nil))))
def q_next_of_0 : MS := (.ife (.prim .eq (.cons (.e (.var 0)) (.cons (.e (.lst .nil)) .nil))) (.cons (.ret (.cst .none)) .nil) .nil)
def b_next_of : MSs := (.cons q_next_of_0 (.cons q_next_of_1 .nil))
def T_next_of : CT := { N := ["places"], cons := [], fns := [], mts := [], pls := [], ho := [], flds := FL, isc := IS }
def den_next_of : List D → Option (D × List D) := denOf T_next_of [false] false b_next_of
def F_next_of_1 : FnT := ⟨1, [], [], [0], [false], false, den_next_of⟩
abbrev s_first_bad : Stmt := top 18
def q_first_bad_0 : MS := (.ret (.fn 0 (.cons (.e (.comp (.var 2) (.tp [2, 3]) (.enum (.var 0)) (.one (.bnot (.app 1 (.var 3)))) [2, 3])) .nil)))
def b_first_bad : MSs := (.cons q_first_bad_0 .nil)
def T_first_bad : CT := { N := ["some", "is_good", "place", "one"], cons := [], fns := [("next_of", F_next_of_1)], mts := [], pls := [], ho := [], flds := FL, isc := IS }
def hd_first_bad : (D → Option D) → D → Option D := hoDen T_first_bad b_first_bad
abbrev s_Table_look_at_there : Stmt := (clsB (top 22)).getD 8 (.Pass ⟨0, 0, 0, 0⟩)
def q_Table_look_at_there_3 : MS := (.ife (.bor (.prim .notN (.cons (.e (.var 2)) .nil)) (.prim .notN (.cons (.e (.var 3)) .nil))) (.cons .die .nil) .nil)
def q_Table_look_at_there_2 : MS := (.asg 3 (.hoL 0 (.prim (.slc false true) (.cons (.e (.var 1)) (.cons (.e (.var 2)) .nil))) 4 (.prim .notin (.cons (.e (.tup (.cons (.e (.cst .none)) .nil))) (.cons (.e (.mth 0 (.e (.var 0)) (.cons (.e (.lst (.cons (.e (.var 4)) .nil))) .nil))) .nil)))))
def q_Table_look_at_there_1 : MS := (.asg 2 (.mth 1 (.e (.var 0)) (.cons (.e (.var 1)) .nil)))
def q_Table_look_at_there_0 : MS := (.ife (.bor (.bnot (.prim (.isinst "tuple") (.cons (.e (.var 1)) .nil))) (.prim .gt (.cons (.e (.prim .len (.cons (.e (.var 1)) .nil))) (.cons (.e (.glb 0)) .nil)))) (.cons .die .nil) .nil)
def b_Table_look_at_there : MSs := (.cons q_Table_look_at_there_0 (.cons q_Table_look_at_there_1 (.cons q_Table_look_at_there_2 (.cons q_Table_look_at_there_3 .nil))))
def T_Table_look_at_there : CT := { N := ["self", "there", "bad", "bare", "column"], cons := [("MOST_COLUMNS", c_MOST_COLUMNS)], fns := [], mts := [("parts_by", [("Table", F_Table_parts_by_2)]), ("first_none", [("Table", F_Table_first_none_2)])], pls := [], ho := [("first_bad", hd_first_bad)], flds := FL, isc := IS }
def den_Table_look_at_there : List D → Option (D × List D) := denOf T_Table_look_at_there [false, false] false b_Table_look_at_there
def F_Table_look_at_there_2 : FnT := ⟨2, [], [], [0, 1], [false, false], false, den_Table_look_at_there⟩
abbrev s_Table_is_key : Stmt := (clsB (top 22)).getD 6 (.Pass ⟨0, 0, 0, 0⟩)
def q_Table_is_key_2 : MS := (.ret (.prim .eq (.cons (.e (.prim .lenSet (.cons (.e (.var 2)) .nil))) (.cons (.e (.prim .len (.cons (.e (.var 2)) .nil))) .nil))))
def q_Table_is_key_1 : MS := (.asg 2 (.mth 0 (.e (.var 0)) (.cons (.e (.var 1)) .nil)))
def q_Table_is_key_0 : MS := (.ife (.bor (.bnot (.prim (.isinst "tuple") (.cons (.e (.var 1)) .nil))) (.bor (.prim .eq (.cons (.e (.var 1)) (.cons (.e (.tup .nil)) .nil))) (.prim .notN (.cons (.e (.mth 1 (.e (.var 0)) (.cons (.e (.var 1)) .nil))) .nil)))) (.cons (.ret (.cst (.bool false))) .nil) .nil)
def b_Table_is_key : MSs := (.cons q_Table_is_key_0 (.cons q_Table_is_key_1 (.cons q_Table_is_key_2 .nil)))
def T_Table_is_key : CT := { N := ["self", "thing", "parts"], cons := [], fns := [], mts := [("parts_by", [("Table", F_Table_parts_by_2)]), ("first_none", [("Table", F_Table_first_none_2)])], pls := [], ho := [], flds := FL, isc := IS }
def den_Table_is_key : List D → Option (D × List D) := denOf T_Table_is_key [false, false] false b_Table_is_key
def F_Table_is_key_2 : FnT := ⟨2, [], [], [0, 1], [false, false], false, den_Table_is_key⟩
abbrev s_Table_look_at_keys : Stmt := (clsB (top 22)).getD 7 (.Pass ⟨0, 0, 0, 0⟩)
def q_Table_look_at_keys_2 : MS := (.ife (.prim .notN (.cons (.e (.var 2)) .nil)) (.cons .die .nil) .nil)
def q_Table_look_at_keys_1 : MS := (.asg 2 (.hoL 0 (.var 1) 3 (.mth 0 (.e (.var 0)) (.cons (.e (.var 3)) .nil))))
def q_Table_look_at_keys_0 : MS := (.ife (.bor (.bnot (.prim (.isinst "tuple") (.cons (.e (.var 1)) .nil))) (.prim .gt (.cons (.e (.prim .len (.cons (.e (.var 1)) .nil))) (.cons (.e (.glb 0)) .nil)))) (.cons .die .nil) .nil)
def b_Table_look_at_keys : MSs := (.cons q_Table_look_at_keys_0 (.cons q_Table_look_at_keys_1 (.cons q_Table_look_at_keys_2 .nil)))
def T_Table_look_at_keys : CT := { N := ["self", "keys", "bad", "key"], cons := [("MOST_KEYS", c_MOST_KEYS)], fns := [], mts := [("is_key", [("Table", F_Table_is_key_2)])], pls := [], ho := [("first_bad", hd_first_bad)], flds := FL, isc := IS }
def den_Table_look_at_keys : List D → Option (D × List D) := denOf T_Table_look_at_keys [false, false] false b_Table_look_at_keys
def F_Table_look_at_keys_2 : FnT := ⟨2, [], [], [0, 1], [false, false], false, den_Table_look_at_keys⟩
abbrev s_Table_is_row : Stmt := (clsB (top 22)).getD 2 (.Pass ⟨0, 0, 0, 0⟩)
def q_Table_is_row_1 : MS := (.ret (.prim .all (.cons (.e (.comp (.fn 0 (.cons (.e (.var 2)) .nil)) (.v 2) (.seq (.var 1)) .all [2])) .nil)))
def q_Table_is_row_0 : MS := (.ife (.bor (.bnot (.prim (.isinst "tuple") (.cons (.e (.var 1)) .nil))) (.prim .ne (.cons (.e (.prim .len (.cons (.e (.var 1)) .nil))) (.cons (.e (.prim .len (.cons (.e (.fld "own_columns" (.var 0))) .nil))) .nil)))) (.cons (.ret (.cst (.bool false))) .nil) .nil)
def b_Table_is_row : MSs := (.cons q_Table_is_row_0 (.cons q_Table_is_row_1 .nil))
def T_Table_is_row : CT := { N := ["self", "thing", "one"], cons := [], fns := [("is_value", F_is_value_1)], mts := [], pls := [], ho := [], flds := FL, isc := IS }
def den_Table_is_row : List D → Option (D × List D) := denOf T_Table_is_row [false, false] false b_Table_is_row
def F_Table_is_row_2 : FnT := ⟨2, [], [], [0, 1], [false, false], false, den_Table_is_row⟩
abbrev s_Table_look_at_rows : Stmt := (clsB (top 22)).getD 3 (.Pass ⟨0, 0, 0, 0⟩)
def q_Table_look_at_rows_2 : MS := (.ife (.prim .notN (.cons (.e (.var 2)) .nil)) (.cons .die .nil) .nil)
def q_Table_look_at_rows_1 : MS := (.asg 2 (.hoL 0 (.var 1) 3 (.mth 0 (.e (.var 0)) (.cons (.e (.var 3)) .nil))))
def q_Table_look_at_rows_0 : MS := (.ife (.bor (.bnot (.prim (.isinst "list") (.cons (.e (.var 1)) .nil))) (.prim .gt (.cons (.e (.prim .len (.cons (.e (.var 1)) .nil))) (.cons (.e (.glb 0)) .nil)))) (.cons .die .nil) .nil)
def b_Table_look_at_rows : MSs := (.cons q_Table_look_at_rows_0 (.cons q_Table_look_at_rows_1 (.cons q_Table_look_at_rows_2 .nil)))
def T_Table_look_at_rows : CT := { N := ["self", "rows", "bad", "row"], cons := [("MOST_ROWS", c_MOST_ROWS)], fns := [], mts := [("is_row", [("Table", F_Table_is_row_2)])], pls := [], ho := [("first_bad", hd_first_bad)], flds := FL, isc := IS }
def den_Table_look_at_rows : List D → Option (D × List D) := denOf T_Table_look_at_rows [false, false] false b_Table_look_at_rows
def F_Table_look_at_rows_2 : FnT := ⟨2, [], [], [0, 1], [false, false], false, den_Table_look_at_rows⟩
abbrev s_first_again : Stmt := top 20
def q_first_again_0 : MS := (.ret (.fn 0 (.cons (.e (.comp (.var 1) (.tp [1, 2]) (.enum (.var 0)) (.one (.prim .isin (.cons (.e (.var 2)) (.cons (.e (.prim (.slc false true) (.cons (.e (.var 0)) (.cons (.e (.var 1)) .nil)))) .nil)))) [1, 2])) .nil)))
def b_first_again : MSs := (.cons q_first_again_0 .nil)
def T_first_again : CT := { N := ["some", "place", "one"], cons := [], fns := [("next_of", F_next_of_1)], mts := [], pls := [], ho := [], flds := FL, isc := IS }
def den_first_again : List D → Option (D × List D) := denOf T_first_again [false] false b_first_again
def F_first_again_1 : FnT := ⟨1, [], [], [0], [false], false, den_first_again⟩
abbrev s_is_name : Stmt := top 13
def q_is_name_0 : MS := (.ret (.band (.prim (.isinst "str") (.cons (.e (.var 0)) .nil)) (.band (.chain .le .le (.cst (.int 1)) (.prim .len (.cons (.e (.var 0)) .nil)) (.glb 1)) (.prim .all (.cons (.e (.comp (.prim .isin (.cons (.e (.var 1)) (.cons (.e (.glb 0)) .nil))) (.v 1) (.seq (.var 0)) .all [1])) .nil)))))
def b_is_name : MSs := (.cons q_is_name_0 .nil)
def T_is_name : CT := { N := ["thing", "sign"], cons := [("LETTERS", c_LETTERS), ("MOST_NAME", c_MOST_NAME)], fns := [], mts := [], pls := [], ho := [], flds := FL, isc := IS }
def den_is_name : List D → Option (D × List D) := denOf T_is_name [false] false b_is_name
def F_is_name_1 : FnT := ⟨1, [], [], [0], [false], false, den_is_name⟩
abbrev s_Table_look_at_columns : Stmt := (clsB (top 22)).getD 1 (.Pass ⟨0, 0, 0, 0⟩)
def q_Table_look_at_columns_3 : MS := (.ife (.bor (.prim .notN (.cons (.e (.var 2)) .nil)) (.prim .notN (.cons (.e (.var 3)) .nil))) (.cons .die .nil) .nil)
def q_Table_look_at_columns_2 : MS := (.asg 3 (.fn 0 (.cons (.e (.prim (.slc false true) (.cons (.e (.var 1)) (.cons (.e (.var 2)) .nil)))) .nil)))
def q_Table_look_at_columns_1 : MS := (.asg 2 (.hoF 0 (.var 1) 1))
def q_Table_look_at_columns_0 : MS := (.ife (.bor (.bnot (.prim (.isinst "list") (.cons (.e (.var 1)) .nil))) (.bnot (.chain .le .le (.cst (.int 1)) (.prim .len (.cons (.e (.var 1)) .nil)) (.glb 0)))) (.cons .die .nil) .nil)
def b_Table_look_at_columns : MSs := (.cons q_Table_look_at_columns_0 (.cons q_Table_look_at_columns_1 (.cons q_Table_look_at_columns_2 (.cons q_Table_look_at_columns_3 .nil))))
def T_Table_look_at_columns : CT := { N := ["self", "columns", "bad", "again"], cons := [("MOST_COLUMNS", c_MOST_COLUMNS)], fns := [("first_again", F_first_again_1), ("is_name", F_is_name_1)], mts := [], pls := [1], ho := [("first_bad", hd_first_bad)], flds := FL, isc := IS }
def den_Table_look_at_columns : List D → Option (D × List D) := denOf T_Table_look_at_columns [false, false] false b_Table_look_at_columns
def F_Table_look_at_columns_2 : FnT := ⟨2, [], [], [0, 1], [false, false], false, den_Table_look_at_columns⟩
abbrev s_Table___init__ : Stmt := (clsB (top 22)).getD 0 (.Pass ⟨0, 0, 0, 0⟩)
def q_Table___init___11 : MS := (.fset 0 "own_house" (.var 6))
def q_Table___init___10 : MS := (.fset 0 "own_order" (.var 5))
def q_Table___init___9 : MS := (.fset 0 "own_there" (.var 4))
def q_Table___init___8 : MS := (.fset 0 "own_keys" (.var 3))
def q_Table___init___7 : MS := (.ife (.band (.prim .notN (.cons (.e (.var 6)) .nil)) (.bor (.bnot (.prim (.isinst "str") (.cons (.e (.var 6)) .nil))) (.prim .notin (.cons (.e (.var 6)) (.cons (.e (.var 1)) .nil))))) (.cons .die .nil) .nil)
def q_Table___init___6 : MS := (.ex (.mth 0 (.l 0) (.cons (.e (.var 5)) .nil)))
def q_Table___init___5 : MS := (.ex (.mth 1 (.l 0) (.cons (.e (.var 4)) .nil)))
def q_Table___init___4 : MS := (.ex (.mth 2 (.l 0) (.cons (.e (.var 3)) .nil)))
def q_Table___init___3 : MS := (.fset 0 "own_rows" (.prim .toList (.cons (.e (.var 2)) .nil)))
def q_Table___init___2 : MS := (.ex (.mth 3 (.l 0) (.cons (.e (.var 2)) .nil)))
def q_Table___init___1 : MS := (.fset 0 "own_columns" (.prim .toList (.cons (.e (.var 1)) .nil)))
def q_Table___init___0 : MS := (.ex (.mth 4 (.l 0) (.cons (.e (.var 1)) .nil)))
def b_Table___init__ : MSs := (.cons q_Table___init___0 (.cons q_Table___init___1 (.cons q_Table___init___2 (.cons q_Table___init___3 (.cons q_Table___init___4 (.cons q_Table___init___5 (.cons q_Table___init___6 (.cons q_Table___init___7 (.cons q_Table___init___8 (.cons q_Table___init___9 (.cons q_Table___init___10 (.cons q_Table___init___11 .nil))))))))))))
def T_Table___init__ : CT := { N := ["self", "columns", "rows", "keys", "there", "order", "house"], cons := [], fns := [], mts := [("look_at_order", [("Table", F_Table_look_at_order_2)]), ("look_at_there", [("Table", F_Table_look_at_there_2)]), ("look_at_keys", [("Table", F_Table_look_at_keys_2)]), ("look_at_rows", [("Table", F_Table_look_at_rows_2)]), ("look_at_columns", [("Table", F_Table_look_at_columns_2)])], pls := [], ho := [], flds := FL, isc := IS }
def den_Table___init__ : List D → Option (D × List D) := denOf T_Table___init__ [true, false, false, false, false, false, false] false b_Table___init__
def F_Table___init___3 : FnT := ⟨3, [], [.tuple [], .tuple [], .tuple [], .none], [0, 1, 2, 3, 4, 5, 6], [true, false, false, false, false, false, false], false, den_Table___init__⟩
def FC_Table_2 : FnT := ⟨2, [], [.tuple [], .tuple [], .tuple [], .none], [0, 1, 2, 3, 4, 5], [false, false, false, false, false, false], true, mkDen "Table" den_Table___init__⟩
abbrev s__law_is_house : Stmt := top 26
def q__law_is_house_1 : MS := (.ret (.band (.prim (.isinst "int") (.cons (.e (.var 2)) .nil)) (.band (.bnot (.prim (.isinst "bool") (.cons (.e (.var 2)) .nil))) (.prim .eq (.cons (.e (.var 2)) (.cons (.e (.var 1)) .nil))))))
def q__law_is_house_0 : MS := (.asg 2 (.fn 0 (.cons (.e (.var 0)) .nil)))
def b__law_is_house : MSs := (.cons q__law_is_house_0 (.cons q__law_is_house_1 .nil))
def T__law_is_house : CT := { N := ["_law_figure", "_law_due", "_law_found"], cons := [], fns := [("house_of", F_house_of_1)], mts := [], pls := [], ho := [], flds := FL, isc := IS }
def den__law_is_house : List D → Option (D × List D) := denOf T__law_is_house [false, false] false b__law_is_house
def F__law_is_house_2 : FnT := ⟨2, [], [], [0, 1], [false, false], false, den__law_is_house⟩
abbrev s__law_take : Stmt := top 25
def q__law_take_2 : MS := (.ret (.prim .mod (.cons (.e (.prim .fdiv (.cons (.e (.prim .mod (.cons (.e (.prim .mul (.cons (.e (.prim .idx (.cons (.o 0) (.cons (.e (.cst (.int 1))) .nil)))) (.cons (.e (.prim .idx (.cons (.o 0) (.cons (.e (.cst (.int 1))) .nil)))) .nil)))) (.cons (.e (.cst (.int 2147483629))) .nil)))) (.cons (.e (.cst (.int 64))) .nil)))) (.cons (.e (.var 1)) .nil))))
def q__law_take_1 : MS := (.put 0 (.cst (.int 1)) (.prim .mod (.cons (.e (.prim .add (.cons (.e (.prim .mul (.cons (.e (.prim .idx (.cons (.o 0) (.cons (.e (.cst (.int 1))) .nil)))) (.cons (.e (.cst (.int 48271))) .nil)))) (.cons (.e (.cst (.int 11))) .nil)))) (.cons (.e (.cst (.int 2147483647))) .nil))))
def q__law_take_0 : MS := (.ife (.prim .gt (.cons (.e (.prim .idx (.cons (.o 0) (.cons (.e (.cst (.int 0))) .nil)))) (.cons (.e (.cst (.int 0))) .nil))) (.cons (.asg 2 (.prim .mod (.cons (.e (.prim .idx (.cons (.o 0) (.cons (.e (.cst (.int 0))) .nil)))) (.cons (.e (.var 1)) .nil)))) (.cons (.put 0 (.cst (.int 0)) (.prim .fdiv (.cons (.e (.prim .idx (.cons (.o 0) (.cons (.e (.cst (.int 0))) .nil)))) (.cons (.e (.var 1)) .nil)))) (.cons (.ret (.var 2)) .nil))) .nil)
def b__law_take : MSs := (.cons q__law_take_0 (.cons q__law_take_1 (.cons q__law_take_2 .nil)))
def T__law_take : CT := { N := ["_law_pool_here", "_law_many", "_law_found"], cons := [], fns := [], mts := [], pls := [], ho := [], flds := FL, isc := IS }
def den__law_take : List D → Option (D × List D) := denOf T__law_take [true, false] false b__law_take
def F__law_take_2 : FnT := ⟨2, [], [], [0, 1], [true, false], false, den__law_take⟩
abbrev s__law_pool : Stmt := top 24
def q__law_pool_3 : MS := (.retF (.lst (.cons (.e (.prim .mul (.cons (.e (.var 2)) (.cons (.e (.prim .toInt (.cons (.e (.prim .ge (.cons (.e (.var 2)) (.cons (.e (.prim .pow (.cons (.e (.cst (.int 10))) (.cons (.e (.cst (.int 18))) .nil)))) .nil)))) .nil))) .nil)))) (.cons (.e (.var 3)) .nil))))
def q__law_pool_2 : MS := (.asg 3 (.prim .mod (.cons (.e (.prim .mul (.cons (.e (.prim .add (.cons (.e (.prim .add (.cons (.e (.prim .mod (.cons (.e (.var 2)) (.cons (.e (.cst (.int 2147483629))) .nil)))) (.cons (.e (.prim .mul (.cons (.e (.prim .mul (.cons (.e (.cst (.int 104729))) (.cons (.e (.var 1)) .nil)))) (.cons (.e (.var 1)) .nil)))) .nil)))) (.cons (.e (.cst (.int 11))) .nil)))) (.cons (.e (.cst (.int 48271))) .nil)))) (.cons (.e (.cst (.int 2147483647))) .nil))))
def q__law_pool_1 : MS := (.ife (.prim .lt (.cons (.e (.var 1)) (.cons (.e (.prim .len (.cons (.e (.var 0)) .nil))) .nil))) (.cons (.asg 2 (.prim .idx (.cons (.e (.var 0)) (.cons (.e (.var 1)) .nil)))) .nil) .nil)
def q__law_pool_0 : MS := (.asg 2 (.cst (.int 0)))
def b__law_pool : MSs := (.cons q__law_pool_0 (.cons q__law_pool_1 (.cons q__law_pool_2 (.cons q__law_pool_3 .nil))))
def T__law_pool : CT := { N := ["_law_script", "_law_k", "_law_cell", "_law_seed"], cons := [], fns := [], mts := [], pls := [], ho := [], flds := FL, isc := IS }
def den__law_pool : List D → Option (D × List D) := denOf T__law_pool [false, false] true b__law_pool
def F__law_pool_2 : FnT := ⟨2, [], [], [0, 1], [false, false], true, den__law_pool⟩
abbrev s_Table_rows : Stmt := (clsB (top 22)).getD 11 (.Pass ⟨0, 0, 0, 0⟩)
def q_Table_rows_0 : MS := (.ret (.prim .toList (.cons (.e (.fld "own_rows" (.var 0))) .nil)))
def b_Table_rows : MSs := (.cons q_Table_rows_0 .nil)
def T_Table_rows : CT := { N := ["self"], cons := [], fns := [], mts := [], pls := [], ho := [], flds := FL, isc := IS }
def den_Table_rows : List D → Option (D × List D) := denOf T_Table_rows [false] false b_Table_rows
def F_Table_rows_1 : FnT := ⟨1, [], [], [0], [false], false, den_Table_rows⟩
abbrev s_law : Stmt := top 27
def q_law_2 : MS := (.ret (.band (.prim (.isB true) (.cons (.e (.fn 2 (.cons (.e (.prim .pow (.cons (.e (.cst (.int 10))) (.cons (.e (.cst (.int 9))) .nil)))) .nil))) .nil)) (.band (.prim (.isB true) (.cons (.e (.fn 1 (.cons (.e (.prim .sub (.cons (.e (.cst (.int 0))) (.cons (.e (.prim .pow (.cons (.e (.cst (.int 10))) (.cons (.e (.cst (.int 9))) .nil)))) .nil)))) .nil))) .nil)) (.prim .eq (.cons (.e (.fn 0 (.cons (.e (.cst (.int 7))) .nil))) (.cons (.e (.cst (.int 1))) .nil))))))
def q_law_1_6_0 : MS := (.ife (.prim (.notB false) (.cons (.e (.fn 2 (.cons (.e (.var 6)) .nil))) .nil)) (.cons (.ret (.cst (.bool false))) .nil) .nil)
def q_law_1_6b : MSs := (.cons q_law_1_6_0 .nil)
def q_law_1_6 : MS := (.for (.v 6) (.seq (.lst (.cons (.e (.prim .add (.cons (.e (.prim .add (.cons (.e (.prim .pow (.cons (.e (.cst (.int 10))) (.cons (.e (.cst (.int 9))) .nil)))) (.cons (.e (.cst (.int 1))) .nil)))) (.cons (.e (.prim .abs (.cons (.e (.var 3)) .nil))) .nil)))) (.cons (.e (.prim .sub (.cons (.e (.prim .sub (.cons (.e (.cst (.int 0))) (.cons (.e (.prim .pow (.cons (.e (.cst (.int 10))) (.cons (.e (.cst (.int 9))) .nil)))) .nil)))) (.cons (.e (.cst (.int 1))) .nil)))) (.cons (.e (.cst (.bool true))) (.cons (.e (.cst (.bool false))) (.cons (.e (.cst (.str "1"))) (.cons (.e (.tup (.cons (.e (.var 3)) .nil))) (.cons (.e (.lst (.cons (.e (.var 3)) .nil))) (.cons (.e (.prim .dnew .nil)) (.cons (.e (.cst (.str ""))) .nil))))))))))) q_law_1_6b)
def q_law_1_5 : MS := (.ife (.prim .ne (.cons (.e (.mth 0 (.e (.fn 3 (.cons (.e (.lst (.cons (.e (.cst (.str "x"))) .nil))) (.cons (.e (.lst (.cons (.e (.tup (.cons (.e (.var 3)) .nil))) (.cons (.e (.tup (.cons (.e (.cst .none)) .nil))) .nil)))) .nil)))) .nil)) (.cons (.e (.lst (.cons (.e (.tup (.cons (.e (.var 3)) .nil))) (.cons (.e (.tup (.cons (.e (.cst .none)) .nil))) .nil)))) .nil))) (.cons (.ret (.cst (.bool false))) .nil) .nil)
def q_law_1_4 : MS := (.ife (.bor (.prim (.notB true) (.cons (.e (.fn 2 (.cons (.e (.var 3)) .nil))) .nil)) (.bor (.bnot (.fn 4 (.cons (.e (.var 3)) (.cons (.e (.var 4)) .nil)))) (.bnot (.fn 4 (.cons (.e (.var 5)) (.cons (.e (.var 4)) .nil)))))) (.cons (.ret (.cst (.bool false))) .nil) .nil)
def q_law_1_3 : MS := (.asg 5 (.prim .add (.cons (.e (.var 3)) (.cons (.e (.prim .idx (.cons (.e (.lst (.cons (.e (.cst (.int 3))) (.cons (.e (.prim .neg (.cons (.e (.cst (.int 3))) .nil))) .nil)))) (.cons (.e (.prim .toInt (.cons (.e (.prim .gt (.cons (.e (.var 3)) (.cons (.e (.cst (.int 0))) .nil)))) .nil))) .nil)))) .nil))))
def q_law_1_2 : MS := (.asg 4 (.prim .sub (.cons (.e (.var 3)) (.cons (.e (.prim .mul (.cons (.e (.prim .fdiv (.cons (.e (.var 3)) (.cons (.e (.cst (.int 3))) .nil)))) (.cons (.e (.cst (.int 3))) .nil)))) .nil))))
def q_law_1_1 : MS := (.asg 3 (.prim .idx (.cons (.e (.lst (.cons (.e (.prim .sub (.cons (.e (.fn 5 (.cons (.o 2) (.cons (.e (.cst (.int 9))) .nil)))) (.cons (.e (.cst (.int 4))) .nil)))) (.cons (.e (.prim .sub (.cons (.e (.fn 5 (.cons (.o 2) (.cons (.e (.prim .add (.cons (.e (.prim .mul (.cons (.e (.cst (.int 2))) (.cons (.e (.prim .pow (.cons (.e (.cst (.int 10))) (.cons (.e (.cst (.int 9))) .nil)))) .nil)))) (.cons (.e (.cst (.int 1))) .nil)))) .nil)))) (.cons (.e (.prim .pow (.cons (.e (.cst (.int 10))) (.cons (.e (.cst (.int 9))) .nil)))) .nil)))) .nil)))) (.cons (.e (.fn 5 (.cons (.o 2) (.cons (.e (.cst (.int 2))) .nil)))) .nil))))
def q_law_1_0 : MS := (.new 2 (.fnF 6 (.cons (.e (.var 0)) (.cons (.e (.var 1)) .nil))))
def q_law_1b : MSs := (.cons q_law_1_0 (.cons q_law_1_1 (.cons q_law_1_2 (.cons q_law_1_3 (.cons q_law_1_4 (.cons q_law_1_5 (.cons q_law_1_6 .nil)))))))
def q_law_1 : MS := (.for (.v 1) (.rng1 (.prim .max2 (.cons (.e (.cst (.int 1))) (.cons (.e (.prim .min2 (.cons (.e (.prim .len (.cons (.e (.var 0)) .nil))) (.cons (.e (.cst (.int 30))) .nil)))) .nil)))) q_law_1b)
def q_law_0 : MS := (.ife (.bor (.prim .ne (.cons (.e (.glb 0)) (.cons (.e (.cst (.int 3))) .nil))) (.bor (.prim (.notB true) (.cons (.e (.fn 2 (.cons (.e (.cst .none)) .nil))) .nil)) (.bnot (.fn 4 (.cons (.e (.cst .none)) (.cons (.e (.cst (.int 0))) .nil)))))) (.cons (.ret (.cst (.bool false))) .nil) .nil)
def b_law : MSs := (.cons q_law_0 (.cons q_law_1 (.cons q_law_2 .nil)))
def T_law : CT := { N := ["_law_script", "_law_k", "_law_pool_here", "_law_figure", "_law_rest", "_law_near", "_law_odd"], cons := [("HOUSES", c_HOUSES)], fns := [("house_of", F_house_of_0_value), ("is_value", F_is_value_0_thing), ("is_value", F_is_value_1), ("Table", FC_Table_2), ("_law_is_house", F__law_is_house_2), ("_law_take", F__law_take_2), ("_law_pool", F__law_pool_2)], mts := [("rows", [("Table", F_Table_rows_1)])], pls := [], ho := [], flds := FL, isc := IS }
def den_law : List D → Option (D × List D) := denOf T_law [false] false b_law
def F_law_1 : FnT := ⟨1, [], [], [0], [false], false, den_law⟩
end Lw
set_option maxHeartbeats 0
namespace Lw
open Mp PySem PySem.Spec L2
open PyProof.Rows hiding St

theorem sc_house_of : FnScope T_house_of.N ["value"] (defScope s_house_of) := ⟨rfl, rfl, rfl, by decide +kernel, rfl, by decide +kernel, by decide +kernel⟩
theorem cm_house_of : cmSs T_house_of bl (defScope s_house_of) [] b_house_of (defBody s_house_of) = true := by decide +kernel
theorem sc_is_whole : FnScope T_is_whole.N ["thing"] (defScope s_is_whole) := ⟨rfl, rfl, rfl, by decide +kernel, rfl, by decide +kernel, by decide +kernel⟩
theorem cm_is_whole : cmSs T_is_whole bl (defScope s_is_whole) [] b_is_whole (defBody s_is_whole) = true := by decide +kernel
theorem sc_is_value : FnScope T_is_value.N ["thing"] (defScope s_is_value) := ⟨rfl, rfl, rfl, by decide +kernel, rfl, by decide +kernel, by decide +kernel⟩
theorem cm_is_value : cmSs T_is_value bl (defScope s_is_value) [] b_is_value (defBody s_is_value) = true := by decide +kernel
theorem sc_rank_of : FnScope T_rank_of.N ["value"] (defScope s_rank_of) := ⟨rfl, rfl, rfl, by decide +kernel, rfl, by decide +kernel, by decide +kernel⟩
theorem cm_rank_of : cmSs T_rank_of bl (defScope s_rank_of) [] b_rank_of (defBody s_rank_of) = true := by decide +kernel
theorem sc_ranks_of : FnScope T_ranks_of.N ["row"] (defScope s_ranks_of) := ⟨rfl, rfl, rfl, by decide +kernel, rfl, by decide +kernel, by decide +kernel⟩
theorem cm_ranks_of : cmSs T_ranks_of bl (defScope s_ranks_of) [] b_ranks_of (defBody s_ranks_of) = true := by decide +kernel
theorem sc_Table_parts_by : FnScope T_Table_parts_by.N ["self", "columns"] (defScope s_Table_parts_by) := ⟨rfl, rfl, rfl, by decide +kernel, rfl, by decide +kernel, by decide +kernel⟩
theorem cm_Table_parts_by : cmSs T_Table_parts_by bl (defScope s_Table_parts_by) [] b_Table_parts_by (defBody s_Table_parts_by) = true := by decide +kernel
theorem sc_Table_first_none : FnScope T_Table_first_none.N ["self", "some"] (defScope s_Table_first_none) := ⟨rfl, rfl, rfl, by decide +kernel, rfl, by decide +kernel, by decide +kernel⟩
theorem cm_Table_first_none : cmSs T_Table_first_none bl (defScope s_Table_first_none) [] b_Table_first_none (defBody s_Table_first_none) = true := by decide +kernel
theorem sc_Table_look_at_order : FnScope T_Table_look_at_order.N ["self", "order"] (defScope s_Table_look_at_order) := ⟨rfl, rfl, rfl, by decide +kernel, rfl, by decide +kernel, by decide +kernel⟩
theorem cm_Table_look_at_order : cmSs T_Table_look_at_order bl (defScope s_Table_look_at_order) [] b_Table_look_at_order (defBody s_Table_look_at_order) = true := by decide +kernel
theorem sc_next_of : FnScope T_next_of.N ["places"] (defScope s_next_of) := ⟨rfl, rfl, rfl, by decide +kernel, rfl, by decide +kernel, by decide +kernel⟩
theorem cm_next_of : cmSs T_next_of bl (defScope s_next_of) [] b_next_of (defBody s_next_of) = true := by decide +kernel
theorem sc_first_bad : FnScope T_first_bad.N ["some", "is_good"] (defScope s_first_bad) := ⟨rfl, rfl, rfl, by decide +kernel, rfl, by decide +kernel, by decide +kernel⟩
theorem cm_first_bad (g : D → Option D) : cmSs { T_first_bad with fv := some g } bl (defScope s_first_bad) [] b_first_bad (defBody s_first_bad) = true := by kernel_rfl
theorem sc_Table_look_at_there : FnScope T_Table_look_at_there.N ["self", "there"] (defScope s_Table_look_at_there) := ⟨rfl, rfl, rfl, by decide +kernel, rfl, by decide +kernel, by decide +kernel⟩
theorem cm_Table_look_at_there : cmSs T_Table_look_at_there blDLH (defScope s_Table_look_at_there) [] b_Table_look_at_there (defBody s_Table_look_at_there) = true := by decide +kernel
theorem sc_Table_is_key : FnScope T_Table_is_key.N ["self", "thing"] (defScope s_Table_is_key) := ⟨rfl, rfl, rfl, by decide +kernel, rfl, by decide +kernel, by decide +kernel⟩
theorem cm_Table_is_key : cmSs T_Table_is_key bl (defScope s_Table_is_key) [] b_Table_is_key (defBody s_Table_is_key) = true := by decide +kernel
theorem sc_Table_look_at_keys : FnScope T_Table_look_at_keys.N ["self", "keys"] (defScope s_Table_look_at_keys) := ⟨rfl, rfl, rfl, by decide +kernel, rfl, by decide +kernel, by decide +kernel⟩
theorem cm_Table_look_at_keys : cmSs T_Table_look_at_keys blDLH (defScope s_Table_look_at_keys) [] b_Table_look_at_keys (defBody s_Table_look_at_keys) = true := by decide +kernel
theorem sc_Table_is_row : FnScope T_Table_is_row.N ["self", "thing"] (defScope s_Table_is_row) := ⟨rfl, rfl, rfl, by decide +kernel, rfl, by decide +kernel, by decide +kernel⟩
theorem cm_Table_is_row : cmSs T_Table_is_row bl (defScope s_Table_is_row) [] b_Table_is_row (defBody s_Table_is_row) = true := by decide +kernel
theorem sc_Table_look_at_rows : FnScope T_Table_look_at_rows.N ["self", "rows"] (defScope s_Table_look_at_rows) := ⟨rfl, rfl, rfl, by decide +kernel, rfl, by decide +kernel, by decide +kernel⟩
theorem cm_Table_look_at_rows : cmSs T_Table_look_at_rows blDLH (defScope s_Table_look_at_rows) [] b_Table_look_at_rows (defBody s_Table_look_at_rows) = true := by decide +kernel
theorem sc_first_again : FnScope T_first_again.N ["some"] (defScope s_first_again) := ⟨rfl, rfl, rfl, by decide +kernel, rfl, by decide +kernel, by decide +kernel⟩
theorem cm_first_again : cmSs T_first_again bl (defScope s_first_again) [] b_first_again (defBody s_first_again) = true := by decide +kernel
theorem sc_is_name : FnScope T_is_name.N ["thing"] (defScope s_is_name) := ⟨rfl, rfl, rfl, by decide +kernel, rfl, by decide +kernel, by decide +kernel⟩
theorem cm_is_name : cmSs T_is_name bl (defScope s_is_name) [] b_is_name (defBody s_is_name) = true := by decide +kernel
theorem sc_Table_look_at_columns : FnScope T_Table_look_at_columns.N ["self", "columns"] (defScope s_Table_look_at_columns) := ⟨rfl, rfl, rfl, by decide +kernel, rfl, by decide +kernel, by decide +kernel⟩
theorem cm_Table_look_at_columns : cmSs T_Table_look_at_columns blD (defScope s_Table_look_at_columns) [] b_Table_look_at_columns (defBody s_Table_look_at_columns) = true := by decide +kernel
theorem sc_Table___init__ : FnScope T_Table___init__.N ["self", "columns", "rows", "keys", "there", "order", "house"] (defScope s_Table___init__) := ⟨rfl, rfl, rfl, by decide +kernel, rfl, by decide +kernel, by decide +kernel⟩
theorem cm_Table___init__ : cmSs T_Table___init__ bl (defScope s_Table___init__) [0] b_Table___init__ (defBody s_Table___init__) = true := by decide +kernel
theorem sc__law_is_house : FnScope T__law_is_house.N ["_law_figure", "_law_due"] (defScope s__law_is_house) := ⟨rfl, rfl, rfl, by decide +kernel, rfl, by decide +kernel, by decide +kernel⟩
theorem cm__law_is_house : cmSs T__law_is_house bl (defScope s__law_is_house) [] b__law_is_house (defBody s__law_is_house) = true := by decide +kernel
theorem sc__law_take : FnScope T__law_take.N ["_law_pool_here", "_law_many"] (defScope s__law_take) := ⟨rfl, rfl, rfl, by decide +kernel, rfl, by decide +kernel, by decide +kernel⟩
theorem cm__law_take : cmSs T__law_take bl (defScope s__law_take) [0] b__law_take (defBody s__law_take) = true := by decide +kernel
theorem sc__law_pool : FnScope T__law_pool.N ["_law_script", "_law_k"] (defScope s__law_pool) := ⟨rfl, rfl, rfl, by decide +kernel, rfl, by decide +kernel, by decide +kernel⟩
theorem cm__law_pool : cmSs T__law_pool bl (defScope s__law_pool) [] b__law_pool (defBody s__law_pool) = true := by decide +kernel
theorem sc_Table_rows : FnScope T_Table_rows.N ["self"] (defScope s_Table_rows) := ⟨rfl, rfl, rfl, by decide +kernel, rfl, by decide +kernel, by decide +kernel⟩
theorem cm_Table_rows : cmSs T_Table_rows bl (defScope s_Table_rows) [] b_Table_rows (defBody s_Table_rows) = true := by decide +kernel
theorem sc_law : FnScope T_law.N ["_law_script"] (defScope s_law) := ⟨rfl, rfl, rfl, by decide +kernel, rfl, by decide +kernel, by decide +kernel⟩
theorem cm_law : cmSs T_law bl (defScope s_law) [] b_law (defBody s_law) = true := by decide +kernel
theorem sub_bl : ∀ x ∈ bl, x ∈ blA := by decide +kernel
theorem sub_blD : ∀ x ∈ blD, x ∈ blA := by decide +kernel
theorem sub_blDLH : ∀ x ∈ blDLH, x ∈ blA := by decide +kernel
section
variable {P : Program} {w : World} {K : PySem.W.Frag} {mg : Str → Option Value} {base : Heap}
theorem g_house_of_0_value (A : FnAt K mg "house_of" s_house_of) (B : ∀ x ∈ blA, mg x = none) (DF : FldG K FL) (DI : IscG K mg IS) (C_HOUSES : ConAt K mg "HOUSES" c_HOUSES) : DefG P w K mg base 1 "house_of" F_house_of_0_value := by
  obtain ⟨f, fd, hm, kp, Fu⟩ := A.ex
  exact defG hm kp (def_ok (k := 0) Fu sc_house_of ⟨(fun x hx => B x (sub_bl x hx)), cons_of rfl (allc C_HOUSES all0), fns_of rfl all0, DF, DI, mts_of rfl all0, pld_of rfl all0, hos_of rfl all0⟩ rfl rfl cm_house_of) (Nat.le_refl _) (binds_kw Fu rfl fun kV dc pm an cdv ct us ws bs l1 l2 hp => match us, ws, l1, l2, hp with | [], [_], _, _, rfl => rfl)
theorem g_house_of_1 (A : FnAt K mg "house_of" s_house_of) (B : ∀ x ∈ blA, mg x = none) (DF : FldG K FL) (DI : IscG K mg IS) (C_HOUSES : ConAt K mg "HOUSES" c_HOUSES) : DefG P w K mg base 1 "house_of" F_house_of_1 := by
  obtain ⟨f, fd, hm, kp, Fu⟩ := A.ex
  exact defG hm kp (def_ok (k := 0) Fu sc_house_of ⟨(fun x hx => B x (sub_bl x hx)), cons_of rfl (allc C_HOUSES all0), fns_of rfl all0, DF, DI, mts_of rfl all0, pld_of rfl all0, hos_of rfl all0⟩ rfl rfl cm_house_of) (Nat.le_refl _) (binds_pos (Fu.binds fun _ _ _ _ _ _ us hl => match us, hl with | [_], _ => rfl) rfl rfl rfl rfl)
theorem g_is_whole_1 (A : FnAt K mg "is_whole" s_is_whole) (B : ∀ x ∈ blA, mg x = none) (DF : FldG K FL) (DI : IscG K mg IS) : DefG P w K mg base 1 "is_whole" F_is_whole_1 := by
  obtain ⟨f, fd, hm, kp, Fu⟩ := A.ex
  exact defG hm kp (def_ok (k := 0) Fu sc_is_whole ⟨(fun x hx => B x (sub_bl x hx)), cons_of rfl all0, fns_of rfl all0, DF, DI, mts_of rfl all0, pld_of rfl all0, hos_of rfl all0⟩ rfl rfl cm_is_whole) (Nat.le_refl _) (binds_pos (Fu.binds fun _ _ _ _ _ _ us hl => match us, hl with | [_], _ => rfl) rfl rfl rfl rfl)
theorem g_is_value_0_thing (A : FnAt K mg "is_value" s_is_value) (B : ∀ x ∈ blA, mg x = none) (DF : FldG K FL) (DI : IscG K mg IS) (C_MOST_VALUE : ConAt K mg "MOST_VALUE" c_MOST_VALUE) (g0 : DefG P w K mg base 1 "is_whole" F_is_whole_1) : DefG P w K mg base 2 "is_value" F_is_value_0_thing := by
  obtain ⟨f, fd, hm, kp, Fu⟩ := A.ex
  exact defG hm kp (def_ok (k := 1) Fu sc_is_value ⟨(fun x hx => B x (sub_bl x hx)), cons_of rfl (allc C_MOST_VALUE all0), fns_of rfl (allc (g0.fn.mono (by omega)) all0), DF, DI, mts_of rfl all0, pld_of rfl all0, hos_of rfl all0⟩ rfl rfl cm_is_value) (Nat.le_refl _) (binds_kw Fu rfl fun kV dc pm an cdv ct us ws bs l1 l2 hp => match us, ws, l1, l2, hp with | [], [_], _, _, rfl => rfl)
theorem g_is_value_1 (A : FnAt K mg "is_value" s_is_value) (B : ∀ x ∈ blA, mg x = none) (DF : FldG K FL) (DI : IscG K mg IS) (C_MOST_VALUE : ConAt K mg "MOST_VALUE" c_MOST_VALUE) (g0 : DefG P w K mg base 1 "is_whole" F_is_whole_1) : DefG P w K mg base 2 "is_value" F_is_value_1 := by
  obtain ⟨f, fd, hm, kp, Fu⟩ := A.ex
  exact defG hm kp (def_ok (k := 1) Fu sc_is_value ⟨(fun x hx => B x (sub_bl x hx)), cons_of rfl (allc C_MOST_VALUE all0), fns_of rfl (allc (g0.fn.mono (by omega)) all0), DF, DI, mts_of rfl all0, pld_of rfl all0, hos_of rfl all0⟩ rfl rfl cm_is_value) (Nat.le_refl _) (binds_pos (Fu.binds fun _ _ _ _ _ _ us hl => match us, hl with | [_], _ => rfl) rfl rfl rfl rfl)
theorem g_rank_of_1 (A : FnAt K mg "rank_of" s_rank_of) (B : ∀ x ∈ blA, mg x = none) (DF : FldG K FL) (DI : IscG K mg IS) : DefG P w K mg base 1 "rank_of" F_rank_of_1 := by
  obtain ⟨f, fd, hm, kp, Fu⟩ := A.ex
  exact defG hm kp (def_ok (k := 0) Fu sc_rank_of ⟨(fun x hx => B x (sub_bl x hx)), cons_of rfl all0, fns_of rfl all0, DF, DI, mts_of rfl all0, pld_of rfl all0, hos_of rfl all0⟩ rfl rfl cm_rank_of) (Nat.le_refl _) (binds_pos (Fu.binds fun _ _ _ _ _ _ us hl => match us, hl with | [_], _ => rfl) rfl rfl rfl rfl)
theorem g_ranks_of_1 (A : FnAt K mg "ranks_of" s_ranks_of) (B : ∀ x ∈ blA, mg x = none) (DF : FldG K FL) (DI : IscG K mg IS) (g0 : DefG P w K mg base 1 "rank_of" F_rank_of_1) : DefG P w K mg base 2 "ranks_of" F_ranks_of_1 := by
  obtain ⟨f, fd, hm, kp, Fu⟩ := A.ex
  exact defG hm kp (def_ok (k := 1) Fu sc_ranks_of ⟨(fun x hx => B x (sub_bl x hx)), cons_of rfl all0, fns_of rfl (allc (g0.fn.mono (by omega)) all0), DF, DI, mts_of rfl all0, pld_of rfl all0, hos_of rfl all0⟩ rfl rfl cm_ranks_of) (Nat.le_refl _) (binds_pos (Fu.binds fun _ _ _ _ _ _ us hl => match us, hl with | [_], _ => rfl) rfl rfl rfl rfl)
theorem m_Table_parts_by_2 (A : MthAt K "Table" "parts_by" "Table.parts_by" s_Table_parts_by) (B : ∀ x ∈ blA, mg x = none) (DF : FldG K FL) (DI : IscG K mg IS) : MthG P w K mg base 1 "Table" "parts_by" F_Table_parts_by_2 := by
  obtain ⟨f, fd, Fu, hm⟩ := A.ex
  exact mthG hm (def_ok (k := 0) Fu sc_Table_parts_by ⟨(fun x hx => B x (sub_bl x hx)), cons_of rfl all0, fns_of rfl all0, DF, DI, mts_of rfl all0, pld_of rfl all0, hos_of rfl all0⟩ rfl rfl cm_Table_parts_by) (Nat.le_refl _) (binds_pos (Fu.binds fun _ _ _ _ _ _ us hl => match us, hl with | [_, _], _ => rfl) rfl rfl rfl rfl)
theorem m_Table_first_none_2 (A : MthAt K "Table" "first_none" "Table.first_none" s_Table_first_none) (B : ∀ x ∈ blA, mg x = none) (DF : FldG K FL) (DI : IscG K mg IS) : MthG P w K mg base 1 "Table" "first_none" F_Table_first_none_2 := by
  obtain ⟨f, fd, Fu, hm⟩ := A.ex
  exact mthG hm (def_ok (k := 0) Fu sc_Table_first_none ⟨(fun x hx => B x (sub_bl x hx)), cons_of rfl all0, fns_of rfl all0, DF, DI, mts_of rfl all0, pld_of rfl all0, hos_of rfl all0⟩ rfl rfl cm_Table_first_none) (Nat.le_refl _) (binds_pos (Fu.binds fun _ _ _ _ _ _ us hl => match us, hl with | [_, _], _ => rfl) rfl rfl rfl rfl)
theorem m_Table_look_at_order_2 (A : MthAt K "Table" "look_at_order" "Table.look_at_order" s_Table_look_at_order) (B : ∀ x ∈ blA, mg x = none) (DF : FldG K FL) (DI : IscG K mg IS) (C_MOST_COLUMNS : ConAt K mg "MOST_COLUMNS" c_MOST_COLUMNS) (g0 : DefG P w K mg base 2 "ranks_of" F_ranks_of_1) (m0_Table : MthG P w K mg base 1 "Table" "parts_by" F_Table_parts_by_2) (m1_Table : MthG P w K mg base 1 "Table" "first_none" F_Table_first_none_2) : MthG P w K mg base 3 "Table" "look_at_order" F_Table_look_at_order_2 := by
  obtain ⟨f, fd, Fu, hm⟩ := A.ex
  exact mthG hm (def_ok (k := 2) Fu sc_Table_look_at_order ⟨(fun x hx => B x (sub_bl x hx)), cons_of rfl (allc C_MOST_COLUMNS all0), fns_of rfl (allc (g0.fn.mono (by omega)) all0), DF, DI, mts_of rfl (allc (allc (m0_Table.mono (by omega)) all0) (allc (allc (m1_Table.mono (by omega)) all0) all0)), pld_of rfl all0, hos_of rfl all0⟩ rfl rfl cm_Table_look_at_order) (Nat.le_refl _) (binds_pos (Fu.binds fun _ _ _ _ _ _ us hl => match us, hl with | [_, _], _ => rfl) rfl rfl rfl rfl)
theorem g_next_of_1 (A : FnAt K mg "next_of" s_next_of) (B : ∀ x ∈ blA, mg x = none) (DF : FldG K FL) (DI : IscG K mg IS) : DefG P w K mg base 1 "next_of" F_next_of_1 := by
  obtain ⟨f, fd, hm, kp, Fu⟩ := A.ex
  exact defG hm kp (def_ok (k := 0) Fu sc_next_of ⟨(fun x hx => B x (sub_bl x hx)), cons_of rfl all0, fns_of rfl all0, DF, DI, mts_of rfl all0, pld_of rfl all0, hos_of rfl all0⟩ rfl rfl cm_next_of) (Nat.le_refl _) (binds_pos (Fu.binds fun _ _ _ _ _ _ us hl => match us, hl with | [_], _ => rfl) rfl rfl rfl rfl)
theorem h_first_bad (A : FnAt K mg "first_bad" s_first_bad) (B : ∀ x ∈ blA, mg x = none) (DF : FldG K FL) (DI : IscG K mg IS) (gg0 : ∀ base : Heap, DefG P w K mg base 1 "next_of" F_next_of_1) : HoG P w K mg base 2 "first_bad" hd_first_bad := by
  obtain ⟨f, fd, hm, kp, Fu⟩ := A.ex
  refine ⟨f, hm, kp, fun base' _ => ?_⟩
  have g0 := gg0 base'
  exact ho_def (k := 1) Fu sc_first_bad (Fu.binds fun _ _ _ _ _ _ us hl => match us, hl with | [_, _], _ => rfl) ⟨(fun x hx => B x (sub_bl x hx)), cons_of rfl all0, fns_of rfl (allc (g0.fn.mono (by omega)) all0), DF, DI, mts_of rfl all0, pld_of rfl all0, hos_of rfl all0⟩ (by decide) cm_first_bad
theorem m_Table_look_at_there_2 (A : MthAtL K "Table" "look_at_there" "Table.look_at_there" s_Table_look_at_there 179) (B : ∀ x ∈ blA, mg x = none) (DF : FldG K FL) (DI : IscG K mg IS) (C_MOST_COLUMNS : ConAt K mg "MOST_COLUMNS" c_MOST_COLUMNS) (m0_Table : MthG P w K mg base 1 "Table" "parts_by" F_Table_parts_by_2) (m1_Table : MthG P w K mg base 1 "Table" "first_none" F_Table_first_none_2) (h0 : HoG P w K mg base 2 "first_bad" hd_first_bad) (KB : K.In base) (BA : ∀ p ∈ TS, base.BuiltinsAt mg p ∧ mainGlobals ≠ p) : MthG P w K mg base 11 "Table" "look_at_there" F_Table_look_at_there_2 := by
  obtain ⟨f, fd, Fu, hm, T⟩ := A.ex
  exact mthG hm (def_okD (k := 2) 8 (fun _ => rfl) (fun _ => ⟨⟨179, T, KB, by decide +kernel, by decide +kernel, (BA _ (by decide)).1, (BA _ (by decide)).2⟩⟩) Fu sc_Table_look_at_there ⟨(fun x hx => B x (sub_blDLH x hx)), cons_of rfl (allc C_MOST_COLUMNS all0), fns_of rfl all0, DF, DI, mts_of rfl (allc (allc (m0_Table.mono (by omega)) all0) (allc (allc (m1_Table.mono (by omega)) all0) all0)), pld_of rfl all0, hos_of rfl (allc (h0.mono (by omega)) all0)⟩ rfl rfl cm_Table_look_at_there) (Nat.le_refl _) (binds_pos (Fu.binds fun _ _ _ _ _ _ us hl => match us, hl with | [_, _], _ => rfl) rfl rfl rfl rfl)
theorem m_Table_is_key_2 (A : MthAt K "Table" "is_key" "Table.is_key" s_Table_is_key) (B : ∀ x ∈ blA, mg x = none) (DF : FldG K FL) (DI : IscG K mg IS) (m0_Table : MthG P w K mg base 1 "Table" "parts_by" F_Table_parts_by_2) (m1_Table : MthG P w K mg base 1 "Table" "first_none" F_Table_first_none_2) : MthG P w K mg base 2 "Table" "is_key" F_Table_is_key_2 := by
  obtain ⟨f, fd, Fu, hm⟩ := A.ex
  exact mthG hm (def_ok (k := 1) Fu sc_Table_is_key ⟨(fun x hx => B x (sub_bl x hx)), cons_of rfl all0, fns_of rfl all0, DF, DI, mts_of rfl (allc (allc (m0_Table.mono (by omega)) all0) (allc (allc (m1_Table.mono (by omega)) all0) all0)), pld_of rfl all0, hos_of rfl all0⟩ rfl rfl cm_Table_is_key) (Nat.le_refl _) (binds_pos (Fu.binds fun _ _ _ _ _ _ us hl => match us, hl with | [_, _], _ => rfl) rfl rfl rfl rfl)
theorem m_Table_look_at_keys_2 (A : MthAtL K "Table" "look_at_keys" "Table.look_at_keys" s_Table_look_at_keys 172) (B : ∀ x ∈ blA, mg x = none) (DF : FldG K FL) (DI : IscG K mg IS) (C_MOST_KEYS : ConAt K mg "MOST_KEYS" c_MOST_KEYS) (m0_Table : MthG P w K mg base 2 "Table" "is_key" F_Table_is_key_2) (h0 : HoG P w K mg base 2 "first_bad" hd_first_bad) (KB : K.In base) (BA : ∀ p ∈ TS, base.BuiltinsAt mg p ∧ mainGlobals ≠ p) : MthG P w K mg base 11 "Table" "look_at_keys" F_Table_look_at_keys_2 := by
  obtain ⟨f, fd, Fu, hm, T⟩ := A.ex
  exact mthG hm (def_okD (k := 2) 8 (fun _ => rfl) (fun _ => ⟨⟨172, T, KB, by decide +kernel, by decide +kernel, (BA _ (by decide)).1, (BA _ (by decide)).2⟩⟩) Fu sc_Table_look_at_keys ⟨(fun x hx => B x (sub_blDLH x hx)), cons_of rfl (allc C_MOST_KEYS all0), fns_of rfl all0, DF, DI, mts_of rfl (allc (allc (m0_Table.mono (by omega)) all0) all0), pld_of rfl all0, hos_of rfl (allc (h0.mono (by omega)) all0)⟩ rfl rfl cm_Table_look_at_keys) (Nat.le_refl _) (binds_pos (Fu.binds fun _ _ _ _ _ _ us hl => match us, hl with | [_, _], _ => rfl) rfl rfl rfl rfl)
theorem m_Table_is_row_2 (A : MthAt K "Table" "is_row" "Table.is_row" s_Table_is_row) (B : ∀ x ∈ blA, mg x = none) (DF : FldG K FL) (DI : IscG K mg IS) (g0 : DefG P w K mg base 2 "is_value" F_is_value_1) : MthG P w K mg base 3 "Table" "is_row" F_Table_is_row_2 := by
  obtain ⟨f, fd, Fu, hm⟩ := A.ex
  exact mthG hm (def_ok (k := 2) Fu sc_Table_is_row ⟨(fun x hx => B x (sub_bl x hx)), cons_of rfl all0, fns_of rfl (allc (g0.fn.mono (by omega)) all0), DF, DI, mts_of rfl all0, pld_of rfl all0, hos_of rfl all0⟩ rfl rfl cm_Table_is_row) (Nat.le_refl _) (binds_pos (Fu.binds fun _ _ _ _ _ _ us hl => match us, hl with | [_, _], _ => rfl) rfl rfl rfl rfl)
theorem m_Table_look_at_rows_2 (A : MthAtL K "Table" "look_at_rows" "Table.look_at_rows" s_Table_look_at_rows 146) (B : ∀ x ∈ blA, mg x = none) (DF : FldG K FL) (DI : IscG K mg IS) (C_MOST_ROWS : ConAt K mg "MOST_ROWS" c_MOST_ROWS) (m0_Table : MthG P w K mg base 3 "Table" "is_row" F_Table_is_row_2) (h0 : HoG P w K mg base 2 "first_bad" hd_first_bad) (KB : K.In base) (BA : ∀ p ∈ TS, base.BuiltinsAt mg p ∧ mainGlobals ≠ p) : MthG P w K mg base 12 "Table" "look_at_rows" F_Table_look_at_rows_2 := by
  obtain ⟨f, fd, Fu, hm, T⟩ := A.ex
  exact mthG hm (def_okD (k := 3) 8 (fun _ => rfl) (fun _ => ⟨⟨146, T, KB, by decide +kernel, by decide +kernel, (BA _ (by decide)).1, (BA _ (by decide)).2⟩⟩) Fu sc_Table_look_at_rows ⟨(fun x hx => B x (sub_blDLH x hx)), cons_of rfl (allc C_MOST_ROWS all0), fns_of rfl all0, DF, DI, mts_of rfl (allc (allc (m0_Table.mono (by omega)) all0) all0), pld_of rfl all0, hos_of rfl (allc (h0.mono (by omega)) all0)⟩ rfl rfl cm_Table_look_at_rows) (Nat.le_refl _) (binds_pos (Fu.binds fun _ _ _ _ _ _ us hl => match us, hl with | [_, _], _ => rfl) rfl rfl rfl rfl)
theorem g_first_again_1 (A : FnAt K mg "first_again" s_first_again) (B : ∀ x ∈ blA, mg x = none) (DF : FldG K FL) (DI : IscG K mg IS) (g0 : DefG P w K mg base 1 "next_of" F_next_of_1) : DefG P w K mg base 2 "first_again" F_first_again_1 := by
  obtain ⟨f, fd, hm, kp, Fu⟩ := A.ex
  exact defG hm kp (def_ok (k := 1) Fu sc_first_again ⟨(fun x hx => B x (sub_bl x hx)), cons_of rfl all0, fns_of rfl (allc (g0.fn.mono (by omega)) all0), DF, DI, mts_of rfl all0, pld_of rfl all0, hos_of rfl all0⟩ rfl rfl cm_first_again) (Nat.le_refl _) (binds_pos (Fu.binds fun _ _ _ _ _ _ us hl => match us, hl with | [_], _ => rfl) rfl rfl rfl rfl)
theorem g_is_name_1 (A : FnAt K mg "is_name" s_is_name) (B : ∀ x ∈ blA, mg x = none) (DF : FldG K FL) (DI : IscG K mg IS) (C_LETTERS : ConAt K mg "LETTERS" c_LETTERS) (C_MOST_NAME : ConAt K mg "MOST_NAME" c_MOST_NAME) : DefG P w K mg base 1 "is_name" F_is_name_1 := by
  obtain ⟨f, fd, hm, kp, Fu⟩ := A.ex
  exact defG hm kp (def_ok (k := 0) Fu sc_is_name ⟨(fun x hx => B x (sub_bl x hx)), cons_of rfl (allc C_LETTERS (allc C_MOST_NAME all0)), fns_of rfl all0, DF, DI, mts_of rfl all0, pld_of rfl all0, hos_of rfl all0⟩ rfl rfl cm_is_name) (Nat.le_refl _) (binds_pos (Fu.binds fun _ _ _ _ _ _ us hl => match us, hl with | [_], _ => rfl) rfl rfl rfl rfl)
theorem m_Table_look_at_columns_2 (A : MthAt K "Table" "look_at_columns" "Table.look_at_columns" s_Table_look_at_columns) (B : ∀ x ∈ blA, mg x = none) (DF : FldG K FL) (DI : IscG K mg IS) (C_MOST_COLUMNS : ConAt K mg "MOST_COLUMNS" c_MOST_COLUMNS) (g0 : DefG P w K mg base 2 "first_again" F_first_again_1) (g1 : DefG P w K mg base 1 "is_name" F_is_name_1) (h0 : HoG P w K mg base 2 "first_bad" hd_first_bad) : MthG P w K mg base 11 "Table" "look_at_columns" F_Table_look_at_columns_2 := by
  obtain ⟨f, fd, Fu, hm⟩ := A.ex
  exact mthG hm (def_okD (k := 2) 8 (fun _ => rfl) (fun h => absurd h (by decide +kernel)) Fu sc_Table_look_at_columns ⟨(fun x hx => B x (sub_blD x hx)), cons_of rfl (allc C_MOST_COLUMNS all0), fns_of rfl (allc (g0.fn.mono (by omega)) (allc (g1.fn.mono (by omega)) all0)), DF, DI, mts_of rfl all0, pld_of rfl (allc ⟨_, _, rfl, g1.mono (by omega)⟩ all0), hos_of rfl (allc (h0.mono (by omega)) all0)⟩ rfl rfl cm_Table_look_at_columns) (Nat.le_refl _) (binds_pos (Fu.binds fun _ _ _ _ _ _ us hl => match us, hl with | [_, _], _ => rfl) rfl rfl rfl rfl)
theorem i_Table___init___Table___init___3 {fa : Addr} {fd : FuncData} (Fu : Fun K "__init__" "Table.__init__" s_Table___init__ fa fd) (B : ∀ x ∈ blA, mg x = none) (DF : FldG K FL) (DI : IscG K mg IS) (m0_Table : MthG P w K mg base 3 "Table" "look_at_order" F_Table_look_at_order_2) (m1_Table : MthG P w K mg base 11 "Table" "look_at_there" F_Table_look_at_there_2) (m2_Table : MthG P w K mg base 11 "Table" "look_at_keys" F_Table_look_at_keys_2) (m3_Table : MthG P w K mg base 12 "Table" "look_at_rows" F_Table_look_at_rows_2) (m4_Table : MthG P w K mg base 11 "Table" "look_at_columns" F_Table_look_at_columns_2) : OkG P w K mg base 13 fa fd ["self", "columns", "rows", "keys", "there", "order", "house"] (spFn K F_Table___init___3) := by
  exact (def_ok (k := 12) Fu sc_Table___init__ ⟨(fun x hx => B x (sub_bl x hx)), cons_of rfl all0, fns_of rfl all0, DF, DI, mts_of rfl (allc (allc (m0_Table.mono (by omega)) all0) (allc (allc (m1_Table.mono (by omega)) all0) (allc (allc (m2_Table.mono (by omega)) all0) (allc (allc (m3_Table.mono (by omega)) all0) (allc (allc (m4_Table.mono (by omega)) all0) all0))))), pld_of rfl all0, hos_of rfl all0⟩ rfl rfl cm_Table___init__)
theorem g__law_is_house_2 (A : FnAt K mg "_law_is_house" s__law_is_house) (B : ∀ x ∈ blA, mg x = none) (DF : FldG K FL) (DI : IscG K mg IS) (g0 : DefG P w K mg base 1 "house_of" F_house_of_1) : DefG P w K mg base 2 "_law_is_house" F__law_is_house_2 := by
  obtain ⟨f, fd, hm, kp, Fu⟩ := A.ex
  exact defG hm kp (def_ok (k := 1) Fu sc__law_is_house ⟨(fun x hx => B x (sub_bl x hx)), cons_of rfl all0, fns_of rfl (allc (g0.fn.mono (by omega)) all0), DF, DI, mts_of rfl all0, pld_of rfl all0, hos_of rfl all0⟩ rfl rfl cm__law_is_house) (Nat.le_refl _) (binds_pos (Fu.binds fun _ _ _ _ _ _ us hl => match us, hl with | [_, _], _ => rfl) rfl rfl rfl rfl)
theorem g__law_take_2 (A : FnAt K mg "_law_take" s__law_take) (B : ∀ x ∈ blA, mg x = none) (DF : FldG K FL) (DI : IscG K mg IS) : DefG P w K mg base 1 "_law_take" F__law_take_2 := by
  obtain ⟨f, fd, hm, kp, Fu⟩ := A.ex
  exact defG hm kp (def_ok (k := 0) Fu sc__law_take ⟨(fun x hx => B x (sub_bl x hx)), cons_of rfl all0, fns_of rfl all0, DF, DI, mts_of rfl all0, pld_of rfl all0, hos_of rfl all0⟩ rfl rfl cm__law_take) (Nat.le_refl _) (binds_pos (Fu.binds fun _ _ _ _ _ _ us hl => match us, hl with | [_, _], _ => rfl) rfl rfl rfl rfl)
theorem g__law_pool_2 (A : FnAt K mg "_law_pool" s__law_pool) (B : ∀ x ∈ blA, mg x = none) (DF : FldG K FL) (DI : IscG K mg IS) : DefG P w K mg base 1 "_law_pool" F__law_pool_2 := by
  obtain ⟨f, fd, hm, kp, Fu⟩ := A.ex
  exact defG hm kp (def_ok (k := 0) Fu sc__law_pool ⟨(fun x hx => B x (sub_bl x hx)), cons_of rfl all0, fns_of rfl all0, DF, DI, mts_of rfl all0, pld_of rfl all0, hos_of rfl all0⟩ rfl rfl cm__law_pool) (Nat.le_refl _) (binds_pos (Fu.binds fun _ _ _ _ _ _ us hl => match us, hl with | [_, _], _ => rfl) rfl rfl rfl rfl)
theorem m_Table_rows_1 (A : MthAt K "Table" "rows" "Table.rows" s_Table_rows) (B : ∀ x ∈ blA, mg x = none) (DF : FldG K FL) (DI : IscG K mg IS) : MthG P w K mg base 1 "Table" "rows" F_Table_rows_1 := by
  obtain ⟨f, fd, Fu, hm⟩ := A.ex
  exact mthG hm (def_ok (k := 0) Fu sc_Table_rows ⟨(fun x hx => B x (sub_bl x hx)), cons_of rfl all0, fns_of rfl all0, DF, DI, mts_of rfl all0, pld_of rfl all0, hos_of rfl all0⟩ rfl rfl cm_Table_rows) (Nat.le_refl _) (binds_pos (Fu.binds fun _ _ _ _ _ _ us hl => match us, hl with | [_], _ => rfl) rfl rfl rfl rfl)
theorem g_law {fa : Addr} {fd : FuncData} (Fu : Fun K "law" "law" s_law fa fd) (B : ∀ x ∈ blA, mg x = none) (DF : FldG K FL) (DI : IscG K mg IS) (C_HOUSES : ConAt K mg "HOUSES" c_HOUSES) (g0 : DefG P w K mg base 1 "house_of" F_house_of_0_value) (g1 : DefG P w K mg base 2 "is_value" F_is_value_0_thing) (g2 : DefG P w K mg base 2 "is_value" F_is_value_1) (g3 : FnG P w K mg base 14 "Table" FC_Table_2) (g4 : DefG P w K mg base 2 "_law_is_house" F__law_is_house_2) (g5 : DefG P w K mg base 1 "_law_take" F__law_take_2) (g6 : DefG P w K mg base 1 "_law_pool" F__law_pool_2) (m0_Table : MthG P w K mg base 1 "Table" "rows" F_Table_rows_1) : OkG P w K mg base 15 fa fd ["_law_script"] (spFn K F_law_1) := by
  exact (def_ok (k := 14) Fu sc_law ⟨(fun x hx => B x (sub_bl x hx)), cons_of rfl (allc C_HOUSES all0), fns_of rfl (allc (g0.fn.mono (by omega)) (allc (g1.fn.mono (by omega)) (allc (g2.fn.mono (by omega)) (allc (g3.mono (by omega)) (allc (g4.fn.mono (by omega)) (allc (g5.fn.mono (by omega)) (allc (g6.fn.mono (by omega)) all0))))))), DF, DI, mts_of rfl (allc (allc (m0_Table.mono (by omega)) all0) all0), pld_of rfl all0, hos_of rfl all0⟩ rfl rfl cm_law)
end
end Lw
namespace Lw
open Mp PySem PySem.Spec L2
open PyProof.Rows hiding St

/-! ### values and their houses -/
def inB (v : Int) : Bool := if -1000000000 ≤ v then decide (v ≤ 1000000000) else false
theorem val_f : T_is_value.fns[0]? = some (("is_whole" : Str), F_is_whole_1) := rfl
theorem whole_int (v : Int) : den_is_whole [.int v] = some (.bool true, []) := rfl
theorem value_int (v : Int) : den_is_value [.int v] = some (.bool (inB v), []) := by
  unfold den_is_value denOf inB
  have hn : T_is_value.N.length = 1 := rfl
  have hc : T_is_value.cons[0]? = some (("MOST_VALUE" : Str), c_MOST_VALUE) := rfl
  have h0 : isNoneD (.int v) = false := rfl
  by_cases h : (-1000000000 : Int) ≤ v
  · simp [b_is_value, q_is_value_0, hn, hc, c_MOST_VALUE, val_f, F_is_whole_1, whole_int, h, h0]
  · simp [b_is_value, q_is_value_0, hn, hc, c_MOST_VALUE, val_f, F_is_whole_1, whole_int, h, h0]
theorem value_non : den_is_value [.none] = some (.bool true, []) := by kernel_rfl
theorem house_int (v : Int) : den_house_of [.int v] = some (.int (v % 3), []) := by kernel_rfl
theorem house_non : den_house_of [.none] = some (.int 0, []) := by kernel_rfl
theorem eq_ints (a b : Int) : eqD (.int a) (.int b) = some (.bool (decide (a = b))) := by
  unfold eqD
  rw [if_pos ⟨rfl, rfl⟩]
  congr 2
theorem is_house (a b : Int) : den__law_is_house [.int a, .int b] = some (.bool (decide (a % 3 = b)), []) := by
  unfold den__law_is_house denOf
  have hn : T__law_is_house.N.length = 3 := rfl
  have hf : T__law_is_house.fns[0]? = some (("house_of" : Str), F_house_of_1) := rfl
  simp [b__law_is_house, q__law_is_house_0, q__law_is_house_1, hn, hf, F_house_of_1, house_int, isinstD, tyD, eq_ints]
theorem is_house0 : den__law_is_house [.none, .int 0] = some (.bool true, []) := by kernel_rfl
/-! ### the table -/
def enI (p : D × Ev) : Option (List D × Ev) := match p.1 with | .list ds => some (enumD ds, p.2) | .tuple ds => some (enumD ds, p.2) | _ => none
theorem x_enum (T : CT) (ρ : Ev) (a : ME) : evi T (.enum a) ρ = (ev T a ρ).bind enI := by rw [evi] <;> rfl
section
variable (g : D → Option D)
theorem fb_step (x0 d : D) (i : Nat) (h : g d = some (.bool true)) : cstep { T_first_bad with fv := some g } (.var 2) (.tp [2, 3]) (.one (.bnot (.app 1 (.var 3)))) (.tuple [.int (i : Int), d]) [.da x0, .fv, .un, .un] = some (none, [.da x0, .fv, .da (.int (i : Int)), .da d]) := by
  simp [cstep, setDas, setDa, h]
theorem fb_loop (x0 : D) : ∀ (es : List (D × Nat)) (s2 s3 : Slot), (∀ e ∈ es, g e.1 = some (.bool true)) → ∃ s2' s3', compLoop (cstep { T_first_bad with fv := some g } (.var 2) (.tp [2, 3]) (.one (.bnot (.app 1 (.var 3))))) [2, 3] (es.map fun e => .tuple [.int (e.2 : Int), e.1]) [.da x0, .fv, s2, s3] = some ([], [.da x0, .fv, s2', s3'])
  | [], s2, s3, _ => ⟨s2, s3, rfl⟩
  | e :: r, s2, s3, h => by
    obtain ⟨a, b, e2⟩ := fb_loop x0 r (.da (.int (e.2 : Int))) (.da e.1) fun e' he => h e' (List.mem_cons_of_mem _ he)
    refine ⟨a, b, ?_⟩
    rw [List.map_cons, cl_cons]
    show (cstep _ _ _ _ _ [.da x0, .fv, .un, .un]).bind _ = _
    rw [fb_step g x0 e.1 e.2 (h e List.mem_cons_self), Option.bind_some]
    show (compLoop _ _ _ [.da x0, .fv, .da (.int (e.2 : Int)), .da e.1]).map _ = _
    rw [e2]
    rfl
theorem next_nil : den_next_of [.list []] = some (.none, []) := by kernel_rfl
theorem fb_all (d : D) (ds : List D) (hd : d = .list ds ∨ d = .tuple ds) (h : ∀ x ∈ ds, g x = some (.bool true)) : hd_first_bad g d = some .none := by
  have hf : T_first_bad.fns[0]? = some (("next_of" : Str), F_next_of_1) := rfl
  obtain ⟨a, b, e⟩ := fb_loop g d ds.zipIdx .un .un fun e he => h _ (by
    have := List.mem_zipIdx he
    simp at this
    rw [this.2]
    exact List.getElem_mem _)
  have ee : evi { T_first_bad with fv := some g } (.enum (.var 0)) [.da d, .fv, .un, .un] = some (enumD ds, [.da d, .fv, .un, .un]) := by
    rw [x_enum]
    rcases hd with rfl | rfl <;> rfl
  have ec : ev { T_first_bad with fv := some g } (.comp (.var 2) (.tp [2, 3]) (.enum (.var 0)) (.one (.bnot (.app 1 (.var 3)))) [2, 3]) [.da d, .fv, .un, .un] = some (.list [], [.da d, .fv, .un, .un]) := by
    rw [x_comp, ee, Option.bind_some]
    show (compLoop _ _ (ds.zipIdx.map fun e => .tuple [.int (e.2 : Int), e.1]) _).map _ = _
    rw [e]
    rfl
  unfold hd_first_bad hoDen
  show ((exSs { T_first_bad with fv := some g } b_first_bad [.da d, .fv, .un, .un]).bind _) = _
  unfold b_first_bad
  rw [x_scons]
  unfold q_first_bad_0
  simp [-x_comp, ec, hf, F_next_of_1, next_nil]
end
end Lw
namespace Lw
open Mp PySem PySem.Spec L2
open PyProof.Rows hiding St

def cols1 : D := .list [.str "x"]
def O0 : D := .dict [(MK, .str "Table")]
def O1 : D := .dict [(MK, .str "Table"), (.str "own_columns", cols1)]
def O2 (r : D) : D := .dict [(MK, .str "Table"), (.str "own_columns", cols1), (.str "own_rows", r)]
def O6 (r : D) : D := .dict [(MK, .str "Table"), (.str "own_columns", cols1), (.str "own_rows", r), (.str "own_keys", .tuple []), (.str "own_there", .tuple []), (.str "own_order", .tuple []), (.str "own_house", .none)]
def rows1 (v : Int) : D := .list [.tuple [.int v], .tuple [.none]]
theorem row_ok (x : D) (h : den_is_value [x] = some (.bool true, [])) : den_Table_is_row [O1, .tuple [x]] = some (.bool true, []) := by
  have hn : T_Table_is_row.N.length = 3 := rfl
  have hf : T_Table_is_row.fns[0]? = some (("is_value" : Str), F_is_value_1) := rfl
  have s0 : exS T_Table_is_row q_Table_is_row_0 [.da O1, .da (.tuple [x]), .un] = some (.nx, [.da O1, .da (.tuple [x]), .un]) := by kernel_rfl
  have e : ev T_Table_is_row (.comp (.fn 0 (.cons (.e (.var 2)) .nil)) (.v 2) (.seq (.var 1)) .all [2]) [.da O1, .da (.tuple [x]), .un] = some (.list [.bool true], [.da O1, .da (.tuple [x]), .un]) := by
    have := comp_ev (T := T_Table_is_row) (elt := .fn 0 (.cons (.e (.var 2)) .nil)) (it := .seq (.var 1)) (cs := .all) (i := 2) (ρ := [.da O1, .da (.tuple [x]), .un]) (ds := [x]) (fun _ => some (.bool true)) (by simp) rfl fun d hd => by
      rw [List.mem_singleton.mp hd]
      simp [cstep, hf, F_is_value_1, h, setDa]
    simpa using this
  unfold den_Table_is_row denOf
  simp only [hn, b_Table_is_row, i_ev]
  show ((exSs T_Table_is_row (.cons q_Table_is_row_0 _) [.da O1, .da (.tuple [x]), .un]).bind _) = _
  rw [x_scons, s0, Option.bind_some, seqK_nx, x_scons]
  unfold q_Table_is_row_1
  simp [-x_comp, e, allD, boolsOf]
theorem rows_ok (v : Int) (h : inB v = true) : den_Table_look_at_rows [O1, rows1 v] = some (.none, []) := by
  have hn : T_Table_look_at_rows.N.length = 4 := rfl
  have hh : T_Table_look_at_rows.ho[0]? = some (("first_bad" : Str), hd_first_bad) := rfl
  have hm : T_Table_look_at_rows.mts[0]? = some (("is_row" : Str), [(("Table" : Str), F_Table_is_row_2)]) := rfl
  have v1 := value_int v
  rw [h] at v1
  have s0 : exS T_Table_look_at_rows q_Table_look_at_rows_0 [.da O1, .da (rows1 v), .un, .un] = some (.nx, [.da O1, .da (rows1 v), .un, .un]) := by kernel_rfl
  have one : ∀ x : D, den_is_value [x] = some (.bool true, []) → (ev T_Table_look_at_rows (.mth 0 (.e (.var 0)) (.cons (.e (.var 3)) .nil)) [.da O1, .da (rows1 v), .un, .da (.tuple [x])]).map (·.1) = some (.bool true) := fun x hx => by
    have e := row_ok x hx
    show (ev T_Table_look_at_rows (.mth 0 (.e (.var 0)) (.cons (.e (.var 3)) .nil)) [.da O1, .da (rows1 v), .un, .da (.tuple [x])]).map (·.1) = _
    rw [x_mth]
    show (((callL F_Table_is_row_2 [.v O1, .v (.tuple [x])] [.da O1, .da (rows1 v), .un, .da (.tuple [x])]).map _)).map _ = _
    simp [F_Table_is_row_2, e]
  have s1 : exS T_Table_look_at_rows q_Table_look_at_rows_1 [.da O1, .da (rows1 v), .un, .un] = some (.nx, [.da O1, .da (rows1 v), .da .none, .un]) := by
    have e := fb_all (fun z => (ev T_Table_look_at_rows (.mth 0 (.e (.var 0)) (.cons (.e (.var 3)) .nil)) [.da O1, .da (rows1 v), .un, .da z]).map (·.1)) (rows1 v) _ (.inl rfl) fun x hx => by
      rcases List.mem_cons.mp hx with rfl | hx
      · exact one _ v1
      · rw [List.mem_singleton.mp hx]; exact one _ value_non
    unfold q_Table_look_at_rows_1
    simp [-x_mth, hh, e, setDa]
  have s2 : exS T_Table_look_at_rows q_Table_look_at_rows_2 [.da O1, .da (rows1 v), .da .none, .un] = some (.nx, [.da O1, .da (rows1 v), .da .none, .un]) := by kernel_rfl
  unfold den_Table_look_at_rows denOf
  simp only [hn, b_Table_look_at_rows, i_ev]
  show ((exSs T_Table_look_at_rows (.cons q_Table_look_at_rows_0 _) [.da O1, .da (rows1 v), .un, .un]).bind _) = _
  rw [x_scons, s0, Option.bind_some, seqK_nx, x_scons, s1, Option.bind_some, seqK_nx, x_scons, s2, Option.bind_some, seqK_nx]
  rfl
section
variable (r : D)
abbrev iE (o r : D) : Ev := [.ow o, .da cols1, .da r, .da (.tuple []), .da (.tuple []), .da (.tuple []), .da .none]
theorem in0 : exS T_Table___init__ q_Table___init___0 (iE O0 r) = some (.nx, iE O0 r) := by kernel_rfl
theorem in1 : exS T_Table___init__ q_Table___init___1 (iE O0 r) = some (.nx, iE O1 r) := by kernel_rfl
end
theorem in2 (v : Int) (h : inB v = true) : exS T_Table___init__ q_Table___init___2 (iE O1 (rows1 v)) = some (.nx, iE O1 (rows1 v)) := by
  have e := rows_ok v h
  have hm : T_Table___init__.mts[3]? = some (("look_at_rows" : Str), [(("Table" : Str), F_Table_look_at_rows_2)]) := rfl
  have hx : exS T_Table___init__ q_Table___init___2 (iE O1 (rows1 v)) = (ev T_Table___init__ (.mth 3 (.l 0) (.cons (.e (.var 2)) .nil)) (iE O1 (rows1 v))).map fun p => (.nx, p.2) := by
    unfold q_Table___init___2
    rw [exS] <;> rfl
  rw [hx, x_mth]
  show ((lockK F_Table_look_at_rows_2 [.l 0, .v (rows1 v)] (iE O1 (rows1 v)) (some 0)).map _).map _ = _
  rw [lk_some]
  show (((callFn F_Table_look_at_rows_2 [.v O1, .v (rows1 v)] [.da O1, .da cols1, .da (rows1 v), .da (.tuple []), .da (.tuple []), .da (.tuple []), .da .none]).bind _).map _).map _ = _
  simp [F_Table_look_at_rows_2, e, okL, noDct, flatD]
theorem in3 (v : Int) : exS T_Table___init__ q_Table___init___3 (iE O1 (rows1 v)) = some (.nx, iE (O2 (rows1 v)) (rows1 v)) := by kernel_rfl
theorem in4 (v : Int) : exS T_Table___init__ q_Table___init___4 (iE (O2 (rows1 v)) (rows1 v)) = some (.nx, iE (O2 (rows1 v)) (rows1 v)) := by kernel_rfl
theorem in5 (v : Int) : exS T_Table___init__ q_Table___init___5 (iE (O2 (rows1 v)) (rows1 v)) = some (.nx, iE (O2 (rows1 v)) (rows1 v)) := by kernel_rfl
theorem in6 (v : Int) : exS T_Table___init__ q_Table___init___6 (iE (O2 (rows1 v)) (rows1 v)) = some (.nx, iE (O2 (rows1 v)) (rows1 v)) := by kernel_rfl
theorem in7 (v : Int) : exSs T_Table___init__ (.cons q_Table___init___7 (.cons q_Table___init___8 (.cons q_Table___init___9 (.cons q_Table___init___10 (.cons q_Table___init___11 .nil))))) (iE (O2 (rows1 v)) (rows1 v)) = some (.nx, iE (O6 (rows1 v)) (rows1 v)) := by kernel_rfl
theorem seqs {T : CT} {s : MS} {r : MSs} {ρ ρ' : Ev} (e : exS T s ρ = some (.nx, ρ')) : exSs T (.cons s r) ρ = exSs T r ρ' := by
  rw [x_scons, e, Option.bind_some, seqK_nx]
theorem init_ok (v : Int) (h : inB v = true) : den_Table___init__ [O0, cols1, rows1 v, .tuple [], .tuple [], .tuple [], .none] = some (.none, [O6 (rows1 v)]) := by
  have hn : T_Table___init__.N.length = 7 := rfl
  have e : exSs T_Table___init__ b_Table___init__ (iE O0 (rows1 v)) = some (.nx, iE (O6 (rows1 v)) (rows1 v)) := by
    unfold b_Table___init__
    rw [seqs (in0 _), seqs (in1 _), seqs (in2 v h), seqs (in3 v), seqs (in4 v), seqs (in5 v), seqs (in6 v), in7 v]
  unfold den_Table___init__ denOf
  simp only [hn, i_ev]
  show ((exSs T_Table___init__ b_Table___init__ (iE O0 (rows1 v))).bind _) = _
  rw [e]
  rfl
theorem table_ok (v : Int) (h : inB v = true) : FC_Table_2.den [cols1, rows1 v, .tuple [], .tuple [], .tuple [], .none] = some (O6 (rows1 v), []) := by
  show mkDen "Table" den_Table___init__ [cols1, rows1 v, .tuple [], .tuple [], .tuple [], .none] = _
  unfold mkDen
  show (den_Table___init__ [O0, cols1, rows1 v, .tuple [], .tuple [], .tuple [], .none]).bind _ = _
  rw [init_ok v h]
  rfl
theorem told (v : Int) : den_Table_rows [O6 (rows1 v)] = some (rows1 v, []) := by kernel_rfl
end Lw
namespace Lw
open Mp PySem PySem.Spec L2
open PyProof.Rows hiding St

/-! ### the random takes -/
def tkB (a b : Int) : Int := if 0 < a then b else (b * 48271 + 11) % 2147483647
def tkA (a n : Int) : Int := if 0 < a then a / n else a
def tkR (a b n : Int) : Int := if 0 < a then a % n else (b * 48271 + 11) % 2147483647 * ((b * 48271 + 11) % 2147483647) % 2147483629 / 64 % n
theorem take_eq (a b n : Int) (h0 : 0 < n) (h1 : n < 2 ^ 64) : den__law_take [.list [.int a, .int b], .int n] = some (.int (tkR a b n), [.list [.int (tkA a n), .int (tkB a b)]]) := by
  have m1 : ∀ x : Int, 0 ≤ x % 2147483647 := fun x => Int.emod_nonneg _ (by decide)
  have m2 : ∀ x : Int, x % 2147483647 < 2147483647 := fun x => Int.emod_lt_of_pos _ (by decide)
  have hb := m1 (b * 48271 + 11)
  have hb' := m2 (b * 48271 + 11)
  have hz : (-18446744073709551616 : Int) < (b * 48271 + 11) % 2147483647 ∧ (b * 48271 + 11) % 2147483647 < 18446744073709551616 := ⟨by omega, by omega⟩
  have h1' : n < 18446744073709551616 := h1
  unfold den__law_take denOf tkR tkA tkB
  by_cases ha : 0 < a
  · simp [T__law_take, b__law_take, q__law_take_0, q__law_take_1, q__law_take_2, ha, h0, h1']
  · simp [T__law_take, b__law_take, q__law_take_0, q__law_take_1, q__law_take_2, ha, h0, h1', hz]
theorem tkR_pos (a b n : Int) (h : 0 < n) : 0 ≤ tkR a b n := by
  unfold tkR
  split <;> exact Int.emod_nonneg _ (by omega)
theorem tkR_lt (a b n : Int) (h : 0 < n) : tkR a b n < n := by
  unfold tkR
  split <;> exact Int.emod_lt_of_pos _ h
theorem pw10 : powD (.int 10) (.int 18) = some (.int 1000000000000000000) := by
  show (if (0 : Int) ≤ 18 ∧ (18 : Int) ≤ 1000000 ∧ (10 : Int).natAbs < 2 ^ 64 then some (PyData.int (10 ^ (18 : Int).toNat)) else none) = _
  rw [if_pos (by decide +kernel), show (10 : Int) ^ (18 : Int).toNat = 1000000000000000000 by decide +kernel]
theorem pst2 (ns : List Int) (k c : Int) (hk2 : (-18446744073709551616 : Int) < k ∧ k < 18446744073709551616) : exS T__law_pool q__law_pool_2 [.da (.list (ns.map .int)), .da (.int k), .da (.int c), .un] =
   some (.nx, [.da (.list (ns.map .int)), .da (.int k), .da (.int c), .da (.int ((c % 2147483629 + 104729 * k * k + 11) * 48271 % 2147483647))]) := by
  simp [q__law_pool_2, hk2]
theorem pst3 (x : D) (k c d : Int) : exS T__law_pool q__law_pool_3 [.da x, .da (.int k), .da (.int c), .da (.int d)] =
   some (.ro (.list [.int (c * (if 1000000000000000000 ≤ c then 1 else 0)), .int d]), [.da x, .da (.int k), .da (.int c), .da (.int d)]) := by
  have hb : ∀ b : Bool, (-18446744073709551616 : Int) < (if b = true then 1 else 0) ∧ (if b = true then 1 else 0 : Int) < 18446744073709551616 := fun b => by cases b <;> decide
  have hb' : ∀ (p : Prop) [Decidable p], (-18446744073709551616 : Int) < (if p then 1 else 0) ∧ (if p then 1 else 0 : Int) < 18446744073709551616 := fun p _ => by split <;> decide
  simp [q__law_pool_3, -d_pow, pw10, hb']
theorem pool_eq (ns : List Int) (k : Nat) (hk0 : k < 1000) : ∃ a b, den__law_pool [.list (ns.map .int), .int k] = some (.list [.int a, .int b], []) := by
  have hk2 : (-18446744073709551616 : Int) < (k : Int) ∧ (k : Int) < 18446744073709551616 := ⟨by omega, by omega⟩
  have s1 : ∃ c : Int, exS T__law_pool q__law_pool_1 [.da (.list (ns.map .int)), .da (.int k), .da (.int 0), .un] = some (.nx, [.da (.list (ns.map .int)), .da (.int k), .da (.int c), .un]) := by
    by_cases hk : (k : Int) < ns.length
    · have hk' : k < ns.length := by omega
      have e : L2.atI (ns.map PyData.int) (k : Int) = some (.int ns[k]) := at_get (by simp [hk'])
      exact ⟨ns[k], by simp [q__law_pool_1, hk, hk', e]⟩
    · have hk' : ¬ k < ns.length := by omega
      exact ⟨0, by simp [q__law_pool_1, hk, hk']⟩
  obtain ⟨c, s1⟩ := s1
  refine ⟨c * (if 1000000000000000000 ≤ c then 1 else 0), (c % 2147483629 + 104729 * k * k + 11) * 48271 % 2147483647, ?_⟩
  have s0 : exS T__law_pool q__law_pool_0 [.da (.list (ns.map .int)), .da (.int k), .un, .un] = some (.nx, [.da (.list (ns.map .int)), .da (.int k), .da (.int 0), .un]) := by simp [q__law_pool_0]
  unfold den__law_pool denOf
  have e4 : T__law_pool.N.length = 4 := rfl
  rw [if_pos ⟨rfl, (by show 2 ≤ 4; decide)⟩, e4]
  simp only [i_ev, i_f, i_n, b__law_pool, x_scons]
  show ((exS T__law_pool q__law_pool_0 [.da (.list (ns.map .int)), .da (.int k), .un, .un]).bind _).bind _ = _
  rw [s0, Option.bind_some, seqK_nx, x_scons, s1, Option.bind_some, seqK_nx, x_scons, pst2 _ _ _ hk2, Option.bind_some, seqK_nx, x_scons, pst3, Option.bind_some, seqK_ro]
  rfl
theorem nat_of {z n : Int} (h0 : 0 ≤ z) (h1 : z < n) : ∃ m : Nat, z = (m : Int) ∧ (m : Int) < n := ⟨z.toNat, by omega, by omega⟩
theorem take_at {T : CT} {fi sl : Nat} (hf : T.fns[fi]? = some (("_law_take" : Str), F__law_take_2)) (ρ : Ev) (e : ME) (a b n : Int) (hp : ρ[sl]? = some (.ow (.list [.int a, .int b]))) (he : ev T e ρ = some (.int n, ρ)) (h0 : 0 < n) (h1 : n < 2 ^ 64) :
    ev T (.fn fi (.cons (.o sl) (.cons (.e e) .nil))) ρ = some (.int (tkR a b n), ρ.set sl (.ow (.list [.int (tkA a n), .int (tkB a b)]))) := by
  simp [hp, he, hf, F__law_take_2, take_eq a b n h0 h1]
theorem pw9 : powD (.int 10) (.int 9) = some (.int 1000000000) := by
  show (if (0 : Int) ≤ 9 ∧ (9 : Int) ≤ 1000000 ∧ (10 : Int).natAbs < 2 ^ 64 then some (PyData.int (10 ^ (9 : Int).toNat)) else none) = _
  rw [if_pos (by decide +kernel), show (10 : Int) ^ (9 : Int).toNat = 1000000000 by decide +kernel]
theorem seq_st {T : CT} {s : MS} {r : MSs} {ρ ρ' : Ev} (e : exS T s ρ = some (.nx, ρ')) : exSs T (.cons s r) ρ = exSs T r ρ' := by
  rw [x_scons, e, Option.bind_some, seqK_nx]
section
variable (s0 s1 s2 s3 s4 s5 s6 : Slot)
theorem tkf : T_law.fns[5]? = some (("_law_take" : Str), F__law_take_2) := rfl
theorem vlf : T_law.fns[2]? = some (("is_value" : Str), F_is_value_1) := rfl
theorem hsf : T_law.fns[4]? = some (("_law_is_house" : Str), F__law_is_house_2) := rfl
theorem tbf : T_law.fns[3]? = some (("Table" : Str), FC_Table_2) := rfl
theorem st0 (ns : List Int) (k : Nat) (hk : k < 1000) : ∃ a b : Int, exS T_law q_law_1_0 [.da (.list (ns.map .int)), .da (.int k), s2, s3, s4, s5, s6] =
    some (.nx, [.da (.list (ns.map .int)), .da (.int k), .ow (.list [.int a, .int b]), s3, s4, s5, s6]) := by
  obtain ⟨a, b, e⟩ := pool_eq ns k hk
  have hf : T_law.fns[6]? = some (("_law_pool" : Str), F__law_pool_2) := rfl
  exact ⟨a, b, by simp [q_law_1_0, hf, F__law_pool_2, e]⟩
theorem st1 (a b : Int) (h : fre s3 = true) : ∃ v a' b' : Int, inB v = true ∧ exS T_law q_law_1_1 [s0, s1, .ow (.list [.int a, .int b]), s3, s4, s5, s6] =
    some (.nx, [s0, s1, .ow (.list [.int a', .int b']), .da (.int v), s4, s5, s6]) := by
  have t1 := take_at tkf [s0, s1, .ow (.list [.int a, .int b]), s3, s4, s5, s6] (.cst (.int 9)) a b 9 (sl := 2) rfl (x_cst _ _ _) (by decide) (by decide)
  have t2 := take_at tkf [s0, s1, .ow (.list [.int (tkA a 9), .int (tkB a b)]), s3, s4, s5, s6] (.prim .add (.cons (.e (.prim .mul (.cons (.e (.cst (.int 2))) (.cons (.e (.prim .pow (.cons (.e (.cst (.int 10))) (.cons (.e (.cst (.int 9))) .nil)))) .nil)))) (.cons (.e (.cst (.int 1))) .nil))) (tkA a 9) (tkB a b) 2000000001 (sl := 2) rfl (by simp [-d_pow, pw9]) (by decide) (by decide)
  obtain ⟨w1, hw1, l1⟩ := nat_of (tkR_pos a b 9 (by decide)) (tkR_lt a b 9 (by decide))
  obtain ⟨w2, hw2, l2⟩ := nat_of (tkR_pos (tkA a 9) (tkB a b) 2000000001 (by decide)) (tkR_lt (tkA a 9) (tkB a b) 2000000001 (by decide))
  generalize hA : tkA (tkA a 9) 2000000001 = A at *
  generalize hB : tkB (tkA a 9) (tkB a b) = B at *
  have t3 := take_at tkf [s0, s1, .ow (.list [.int A, .int B]), s3, s4, s5, s6] (.cst (.int 2)) A B 2 (sl := 2) rfl (x_cst _ _ _) (by decide) (by decide)
  obtain ⟨i, hi, li⟩ := nat_of (tkR_pos A B 2 (by decide)) (tkR_lt A B 2 (by decide))
  rw [hw1] at t1
  rw [hw2] at t2
  rw [hi] at t3
  rcases (by omega : i = 0 ∨ i = 1) with rfl | rfl
  · have e0 : L2.atI ([.int ((w1 : Int) - 4), .int ((w2 : Int) - 1000000000)] : List D) 0 = some (.int ((w1 : Int) - 4)) := rfl
    refine ⟨(w1 : Int) - 4, tkA A 2, tkB A B, ?_, ?_⟩
    · unfold inB
      rw [if_pos (by omega)]
      simp; omega
    · simp [q_law_1_1, -x_fn, -d_pow, pw9, t1, t2, t3, e0, hA, hB]
      cases s3 <;> first | rfl | cases h
  · have e0 : L2.atI ([.int ((w1 : Int) - 4), .int ((w2 : Int) - 1000000000)] : List D) 1 = some (.int ((w2 : Int) - 1000000000)) := rfl
    refine ⟨(w2 : Int) - 1000000000, tkA A 2, tkB A B, ?_, ?_⟩
    · unfold inB
      rw [if_pos (by omega)]
      simp; omega
    · simp [q_law_1_1, -x_fn, -d_pow, pw9, t1, t2, t3, e0, hA, hB]
      cases s3 <;> first | rfl | cases h
theorem st2 (v : Int) (h : fre s4 = true) : exS T_law q_law_1_2 [s0, s1, s2, .da (.int v), s4, s5, s6] = some (.nx, [s0, s1, s2, .da (.int v), .da (.int (v - v / 3 * 3)), s5, s6]) := by
  simp [q_law_1_2]
  cases s4 <;> first | rfl | cases h
def near (v : Int) : Int := if 0 < v then v + -3 else v + 3
theorem st3 (v : Int) (h : fre s5 = true) : exS T_law q_law_1_3 [s0, s1, s2, .da (.int v), s4, s5, s6] = some (.nx, [s0, s1, s2, .da (.int v), s4, .da (.int (near v)), s6]) := by
  by_cases hv : 0 < v
  · have e0 : L2.atI ([.int 3, .int (-3)] : List D) 1 = some (.int (-3)) := rfl
    simp [q_law_1_3, hv, e0, near]
    cases s5 <;> first | rfl | cases h
  · have e0 : L2.atI ([.int 3, .int (-3)] : List D) 0 = some (.int 3) := rfl
    simp [q_law_1_3, hv, e0, near]
    cases s5 <;> first | rfl | cases h
theorem st4 (v : Int) (hv : inB v = true) : exS T_law q_law_1_4 [s0, s1, s2, .da (.int v), .da (.int (v - v / 3 * 3)), .da (.int (near v)), s6] = some (.nx, [s0, s1, s2, .da (.int v), .da (.int (v - v / 3 * 3)), .da (.int (near v)), s6]) := by
  have e1 : (v % 3 = v - v / 3 * 3) := by omega
  have e2 : (near v % 3 = v - v / 3 * 3) := by unfold near; split <;> omega
  simp [q_law_1_4, vlf, hsf, F_is_value_1, F__law_is_house_2, value_int, hv, is_house, e1, e2]
theorem st5 (v : Int) (hv : inB v = true) : exS T_law q_law_1_5 [s0, s1, s2, .da (.int v), s4, s5, s6] = some (.nx, [s0, s1, s2, .da (.int v), s4, s5, s6]) := by
  have hm : T_law.mts[0]? = some (("rows" : Str), [(("Table" : Str), F_Table_rows_1)]) := rfl
  have eT : ev T_law (.mth 0 (.e (.fn 3 (.cons (.e (.lst (.cons (.e (.cst (.str "x"))) .nil))) (.cons (.e (.lst (.cons (.e (.tup (.cons (.e (.var 3)) .nil))) (.cons (.e (.tup (.cons (.e (.cst .none)) .nil))) .nil)))) .nil)))) .nil) [s0, s1, s2, .da (.int v), s4, s5, s6] = some (rows1 v, [s0, s1, s2, .da (.int v), s4, s5, s6]) := by
    have e1 : callFn FC_Table_2 [.v cols1, .v (rows1 v)] [s0, s1, s2, .da (.int v), s4, s5, s6] = some (O6 (rows1 v), [s0, s1, s2, .da (.int v), s4, s5, s6]) := by
      have e := table_ok v hv
      have e' : FC_Table_2.den = mkDen "Table" den_Table___init__ := rfl
      rw [e'] at e
      simp [FC_Table_2, e]
    have e2 : callFn F_Table_rows_1 [.v (O6 (rows1 v))] [s0, s1, s2, .da (.int v), s4, s5, s6] = some (rows1 v, [s0, s1, s2, .da (.int v), s4, s5, s6]) := by
      simp [F_Table_rows_1, told]
    have e0 : ev T_law (.fn 3 (.cons (.e (.lst (.cons (.e (.cst (.str "x"))) .nil))) (.cons (.e (.lst (.cons (.e (.tup (.cons (.e (.var 3)) .nil))) (.cons (.e (.tup (.cons (.e (.cst .none)) .nil))) .nil)))) .nil))) [s0, s1, s2, .da (.int v), s4, s5, s6] = some (O6 (rows1 v), [s0, s1, s2, .da (.int v), s4, s5, s6]) := by
      rw [x_fn]
      show ((callL FC_Table_2 [.v cols1, .v (rows1 v)] [s0, s1, s2, .da (.int v), s4, s5, s6]).map fun r => (frzD r.1, r.2)) = _
      rw [x_callL]
      show ((callFn FC_Table_2 [.v cols1, .v (rows1 v)] [s0, s1, s2, .da (.int v), s4, s5, s6]).map fun r => (frzD r.1, r.2)) = _
      rw [e1]
      rfl
    rw [x_mth, x_e, e0]
    show ((callL F_Table_rows_1 [.v (O6 (rows1 v))] [s0, s1, s2, .da (.int v), s4, s5, s6]).map fun r => (r.1, r.2)) = _
    rw [x_callL]
    show ((callFn F_Table_rows_1 [.v (O6 (rows1 v))] [s0, s1, s2, .da (.int v), s4, s5, s6]).map fun r => (r.1, r.2)) = _
    rw [e2]
    rfl
  have en : neD (rows1 v) (.list [.tuple [.int v], .tuple [.none]]) = some (.bool false) := by
    unfold neD
    rw [if_pos ⟨rfl, rfl⟩]
    show some (PyData.bool (!((decide (v = v) && true) && (true && true)))) = _
    simp
  unfold q_law_1_5
  simp [-x_mth, eT, en]
theorem st6 (v : Int) (h : fre s6 = true) : ∃ s6', fre s6' = true ∧ exS T_law q_law_1_6 [s0, s1, s2, .da (.int v), s4, s5, s6] = some (.nx, [s0, s1, s2, .da (.int v), s4, s5, s6']) := by
  have one : ∀ (d : D) (s : Slot), fre s = true → den_is_value [d] = some (.bool false, []) → ((bindT (.v 6) d [s0, s1, s2, .da (.int v), s4, s5, s]).bind fun ρ2 => exSs T_law q_law_1_6b ρ2) = some (.nx, [s0, s1, s2, .da (.int v), s4, s5, .da d]) := fun d s hs e => by
    rw [b_v, set_fre d rfl hs, Option.bind_some]
    show exSs T_law q_law_1_6b [s0, s1, s2, .da (.int v), s4, s5, .da d] = _
    simp [q_law_1_6b, q_law_1_6_0, vlf, F_is_value_1, e]
  let a : Int := if v < 0 then -v else v
  have ha : 0 ≤ a := by simp only [a]; split <;> omega
  have el : evi T_law (.seq (.lst (.cons (.e (.prim .add (.cons (.e (.prim .add (.cons (.e (.prim .pow (.cons (.e (.cst (.int 10))) (.cons (.e (.cst (.int 9))) .nil)))) (.cons (.e (.cst (.int 1))) .nil)))) (.cons (.e (.prim .abs (.cons (.e (.var 3)) .nil))) .nil)))) (.cons (.e (.prim .sub (.cons (.e (.prim .sub (.cons (.e (.cst (.int 0))) (.cons (.e (.prim .pow (.cons (.e (.cst (.int 10))) (.cons (.e (.cst (.int 9))) .nil)))) .nil)))) (.cons (.e (.cst (.int 1))) .nil)))) (.cons (.e (.cst (.bool true))) (.cons (.e (.cst (.bool false))) (.cons (.e (.cst (.str "1"))) (.cons (.e (.tup (.cons (.e (.var 3)) .nil))) (.cons (.e (.lst (.cons (.e (.var 3)) .nil))) (.cons (.e (.prim .dnew .nil)) (.cons (.e (.cst (.str ""))) .nil))))))))))) [s0, s1, s2, .da (.int v), s4, s5, s6] =
      some ([.int (1000000001 + a), .int (-1000000001), .bool true, .bool false, .str "1", .tuple [.int v], .list [.int v], .dict [], .str ""], [s0, s1, s2, .da (.int v), s4, s5, s6]) := by
    simp [-d_pow, pw9, absD, a]
  have v0 : den_is_value [.int (1000000001 + a)] = some (.bool false, []) := by
    rw [value_int]
    unfold inB
    rw [if_pos (by omega)]
    simp; omega
  have v1 : den_is_value [.int (-1000000001)] = some (.bool false, []) := by
    rw [value_int]
    rfl
  refine ⟨.da (.str ""), rfl, ?_⟩
  unfold q_law_1_6
  rw [x_for, el, Option.bind_some]
  have fc : ∀ (f : D → Ev → Option (Fl × Ev)) (d : D) (r : List D) (ρ ρ' : Ev), f d ρ = some (.nx, ρ') → forLoop f (d :: r) ρ = forLoop f r ρ' := fun f d r ρ ρ' e => by
    show (f d ρ).bind _ = _
    rw [e]
    rfl
  rw [fc _ _ _ _ _ (one _ _ h v0), fc _ _ _ _ _ (one _ _ rfl v1), fc _ _ _ _ _ (one _ _ rfl rfl), fc _ _ _ _ _ (one _ _ rfl rfl), fc _ _ _ _ _ (one _ _ rfl rfl), fc _ _ _ _ _ (one _ _ rfl rfl), fc _ _ _ _ _ (one _ _ rfl rfl), fc _ _ _ _ _ (one _ _ rfl rfl), fc _ _ _ _ _ (one _ _ rfl rfl)]
  rfl
end
/-! ### the loop, the law -/
def InvL (ns : List Int) (ρ : Ev) : Prop := ∃ s1 s2 s3 s4 s5 s6 : Slot, fre s1 = true ∧ fre s3 = true ∧ fre s4 = true ∧ fre s5 = true ∧ fre s6 = true ∧ ρ = [.da (.list (ns.map .int)), s1, s2, s3, s4, s5, s6]
theorem body_ok (ns : List Int) (k : Nat) (hk : k < 1000) {ρ : Ev} (h : InvL ns ρ) : ∃ ρ', ((bindT (.v 1) (.int k) ρ).bind fun ρ2 => exSs T_law q_law_1b ρ2) = some (.nx, ρ') ∧ InvL ns ρ' := by
  obtain ⟨s1, s2, s3, s4, s5, s6, f1, f3, f4, f5, f6, rfl⟩ := h
  rw [b_v, set_fre _ rfl f1, Option.bind_some]
  show ∃ ρ', exSs T_law q_law_1b [.da (.list (ns.map .int)), .da (.int k), s2, s3, s4, s5, s6] = _ ∧ _
  unfold q_law_1b
  obtain ⟨a0, b0, e0⟩ := st0 s2 s3 s4 s5 s6 ns k hk
  obtain ⟨v, a1, b1, hv, e1⟩ := st1 (.da (.list (ns.map .int))) (.da (.int k)) s3 s4 s5 s6 a0 b0 f3
  have e2 := st2 (.da (.list (ns.map .int))) (.da (.int k)) (.ow (.list [.int a1, .int b1])) s4 s5 s6 v f4
  have e3 := st3 (.da (.list (ns.map .int))) (.da (.int k)) (.ow (.list [.int a1, .int b1])) (.da (.int (v - v / 3 * 3))) s5 s6 v f5
  have e4 := st4 (.da (.list (ns.map .int))) (.da (.int k)) (.ow (.list [.int a1, .int b1])) s6 v hv
  have e5 := st5 (.da (.list (ns.map .int))) (.da (.int k)) (.ow (.list [.int a1, .int b1])) (.da (.int (v - v / 3 * 3))) (.da (.int (near v))) s6 v hv
  obtain ⟨s6', f6', e6⟩ := st6 (.da (.list (ns.map .int))) (.da (.int k)) (.ow (.list [.int a1, .int b1])) (.da (.int (v - v / 3 * 3))) (.da (.int (near v))) s6 v f6
  rw [seq_st e0, seq_st e1, seq_st e2, seq_st e3, seq_st e4, seq_st e5, seq_st e6, x_snil]
  exact ⟨_, rfl, _, _, _, _, _, _, rfl, rfl, rfl, rfl, f6', rfl⟩
theorem den_true (ns : List Int) (hn : ns.length ≤ 63) : F_law_1.den [.list (ns.map .int)] = some (.bool true, []) := by
  show den_law [.list (ns.map .int)] = _
  obtain ⟨m, hm, hm0⟩ : ∃ m : Nat, m < 1000 ∧ evi T_law (.rng1 (.prim .max2 (.cons (.e (.cst (.int 1))) (.cons (.e (.prim .min2 (.cons (.e (.prim .len (.cons (.e (.var 0)) .nil))) (.cons (.e (.cst (.int 30))) .nil)))) .nil)))) [.da (.list (ns.map .int)), .un, .un, .un, .un, .un, .un] =
      some (rngD 0 m, [.da (.list (ns.map .int)), .un, .un, .un, .un, .un, .un]) := by
    let z : Int := if (if (30 : Int) < ns.length then 30 else (ns.length : Int)) > 1 then (if (30 : Int) < ns.length then 30 else (ns.length : Int)) else 1
    have hz : 0 ≤ z ∧ z ≤ 40 := by
      simp only [z]
      constructor <;> split <;> (try split) <;> omega
    refine ⟨z.toNat, by omega, ?_⟩
    rw [x_rng1]
    have e : ev T_law (.prim .max2 (.cons (.e (.cst (.int 1))) (.cons (.e (.prim .min2 (.cons (.e (.prim .len (.cons (.e (.var 0)) .nil))) (.cons (.e (.cst (.int 30))) .nil)))) .nil))) [.da (.list (ns.map .int)), .un, .un, .un, .un, .un, .un] =
        some (.int z, [.da (.list (ns.map .int)), .un, .un, .un, .un, .un, .un]) := by
      simp
      rfl
    rw [e, Option.bind_some, rngK_int _ _ hz.1 (by omega)]
  obtain ⟨ρ', e2, hI⟩ := for_inv (f := fun x ρt => (bindT (.v 1) x ρt).bind fun ρ2 => exSs T_law q_law_1b ρ2) (fun _ ρ => InvL ns ρ) (rngD 0 m) [.da (.list (ns.map .int)), .un, .un, .un, .un, .un, .un] 0
    ⟨_, _, _, _, _, _, rfl, rfl, rfl, rfl, rfl, rfl⟩ (fun i d ρ hi hI => by
      have hil : i < m := by
        have := (List.getElem?_eq_some_iff.mp hi).1
        rwa [rng_len] at this
      have hd : d = .int i := by
        simp [rngD, hil] at hi
        exact hi.symm
      subst hd
      exact body_ok ns i (by omega) hI)
  have ef : exS T_law q_law_1 [.da (.list (ns.map .int)), .un, .un, .un, .un, .un, .un] = some (.nx, ρ') := by
    unfold q_law_1
    rw [x_for, hm0, Option.bind_some]
    exact e2
  have e0 : exS T_law q_law_0 [.da (.list (ns.map .int)), .un, .un, .un, .un, .un, .un] = some (.nx, [.da (.list (ns.map .int)), .un, .un, .un, .un, .un, .un]) := by kernel_rfl
  obtain ⟨s1, s2, s3, s4, s5, s6, _, _, _, _, _, rfl⟩ := hI
  have e9 : exS T_law q_law_2 [.da (.list (ns.map .int)), s1, s2, s3, s4, s5, s6] = some (.rt (.bool true), [.da (.list (ns.map .int)), s1, s2, s3, s4, s5, s6]) := by kernel_rfl
  unfold den_law denOf
  have e4 : T_law.N.length = 7 := rfl
  rw [if_pos ⟨rfl, (by show 1 ≤ 7; decide)⟩, e4]
  show ((exSs T_law b_law [.da (.list (ns.map .int)), .un, .un, .un, .un, .un, .un]).bind _) = _
  unfold b_law
  rw [seq_st e0, seq_st ef, x_scons, e9]
  rfl
end Lw
namespace Lw
open Mp PySem PySem.Spec L2
open PyProof.Rows hiding St

theorem all_mk {P : Program} {w : World} {K : PySem.W.Frag} {h : Heap} {mg : Str → Option Value} {fa : Addr} (X : K.In h) (G : h.Ns mainGlobals mg) (hfa : mg "law" = some (.ref fa)) {fhouse_of : Addr} {ochouse_of kVhouse_of dchouse_of pmhouse_of cdhouse_of cthouse_of : Value} {odhouse_of anhouse_of : Option Addr} {slhouse_of : Array (Option Value)} {fis_whole : Addr} {ocis_whole kVis_whole dcis_whole pmis_whole cdis_whole ctis_whole : Value} {odis_whole anis_whole : Option Addr} {slis_whole : Array (Option Value)} {fis_value : Addr} {ocis_value kVis_value dcis_value pmis_value cdis_value ctis_value : Value} {odis_value anis_value : Option Addr} {slis_value : Array (Option Value)} {frank_of : Addr} {ocrank_of kVrank_of dcrank_of pmrank_of cdrank_of ctrank_of : Value} {odrank_of anrank_of : Option Addr} {slrank_of : Array (Option Value)} {franks_of : Addr} {ocranks_of kVranks_of dcranks_of pmranks_of cdranks_of ctranks_of : Value} {odranks_of anranks_of : Option Addr} {slranks_of : Array (Option Value)} {fTable_parts_by : Addr} {ocTable_parts_by kVTable_parts_by dcTable_parts_by pmTable_parts_by cdTable_parts_by ctTable_parts_by : Value} {odTable_parts_by anTable_parts_by : Option Addr} {slTable_parts_by : Array (Option Value)} {C_Table : Addr} {fTable_first_none : Addr} {ocTable_first_none kVTable_first_none dcTable_first_none pmTable_first_none cdTable_first_none ctTable_first_none : Value} {odTable_first_none anTable_first_none : Option Addr} {slTable_first_none : Array (Option Value)} {fTable_look_at_order : Addr} {ocTable_look_at_order kVTable_look_at_order dcTable_look_at_order pmTable_look_at_order cdTable_look_at_order ctTable_look_at_order : Value} {odTable_look_at_order anTable_look_at_order : Option Addr} {slTable_look_at_order : Array (Option Value)} {fnext_of : Addr} {ocnext_of kVnext_of dcnext_of pmnext_of cdnext_of ctnext_of : Value} {odnext_of annext_of : Option Addr} {slnext_of : Array (Option Value)} {ffirst_bad : Addr} {ocfirst_bad kVfirst_bad dcfirst_bad pmfirst_bad cdfirst_bad ctfirst_bad : Value} {odfirst_bad anfirst_bad : Option Addr} {slfirst_bad : Array (Option Value)} {fTable_look_at_there : Addr} {ocTable_look_at_there kVTable_look_at_there dcTable_look_at_there pmTable_look_at_there cdTable_look_at_there ctTable_look_at_there : Value} {odTable_look_at_there anTable_look_at_there : Option Addr} {slTable_look_at_there : Array (Option Value)} {fTable_is_key : Addr} {ocTable_is_key kVTable_is_key dcTable_is_key pmTable_is_key cdTable_is_key ctTable_is_key : Value} {odTable_is_key anTable_is_key : Option Addr} {slTable_is_key : Array (Option Value)} {fTable_look_at_keys : Addr} {ocTable_look_at_keys kVTable_look_at_keys dcTable_look_at_keys pmTable_look_at_keys cdTable_look_at_keys ctTable_look_at_keys : Value} {odTable_look_at_keys anTable_look_at_keys : Option Addr} {slTable_look_at_keys : Array (Option Value)} {fTable_is_row : Addr} {ocTable_is_row kVTable_is_row dcTable_is_row pmTable_is_row cdTable_is_row ctTable_is_row : Value} {odTable_is_row anTable_is_row : Option Addr} {slTable_is_row : Array (Option Value)} {fTable_look_at_rows : Addr} {ocTable_look_at_rows kVTable_look_at_rows dcTable_look_at_rows pmTable_look_at_rows cdTable_look_at_rows ctTable_look_at_rows : Value} {odTable_look_at_rows anTable_look_at_rows : Option Addr} {slTable_look_at_rows : Array (Option Value)} {ffirst_again : Addr} {ocfirst_again kVfirst_again dcfirst_again pmfirst_again cdfirst_again ctfirst_again : Value} {odfirst_again anfirst_again : Option Addr} {slfirst_again : Array (Option Value)} {fis_name : Addr} {ocis_name kVis_name dcis_name pmis_name cdis_name ctis_name : Value} {odis_name anis_name : Option Addr} {slis_name : Array (Option Value)} {fTable_look_at_columns : Addr} {ocTable_look_at_columns kVTable_look_at_columns dcTable_look_at_columns pmTable_look_at_columns cdTable_look_at_columns ctTable_look_at_columns : Value} {odTable_look_at_columns anTable_look_at_columns : Option Addr} {slTable_look_at_columns : Array (Option Value)} {fTable___init__ : Addr} {ocTable___init__ dcTable___init__ pmTable___init__ cdTable___init__ ctTable___init__ : Value} {odTable___init__ anTable___init__ : Option Addr} {slTable___init__ : Array (Option Value)} {DTable___init__ : Addr} {aTable___init___keys_0 : Addr} {ddTable___init___keys_0 : Option Addr} {nTable___init___keys_0 : Nat} {slTable___init___keys_0 : Array (Option Value)} {aTable___init___there_0 : Addr} {ddTable___init___there_0 : Option Addr} {nTable___init___there_0 : Nat} {slTable___init___there_0 : Array (Option Value)} {aTable___init___order_0 : Addr} {ddTable___init___order_0 : Option Addr} {nTable___init___order_0 : Nat} {slTable___init___order_0 : Array (Option Value)} {f_law_is_house : Addr} {oc_law_is_house kV_law_is_house dc_law_is_house pm_law_is_house cd_law_is_house ct_law_is_house : Value} {od_law_is_house an_law_is_house : Option Addr} {sl_law_is_house : Array (Option Value)} {f_law_take : Addr} {oc_law_take kV_law_take dc_law_take pm_law_take cd_law_take ct_law_take : Value} {od_law_take an_law_take : Option Addr} {sl_law_take : Array (Option Value)} {f_law_pool : Addr} {oc_law_pool kV_law_pool dc_law_pool pm_law_pool cd_law_pool ct_law_pool : Value} {od_law_pool an_law_pool : Option Addr} {sl_law_pool : Array (Option Value)} {fTable_rows : Addr} {ocTable_rows kVTable_rows dcTable_rows pmTable_rows cdTable_rows ctTable_rows : Value} {odTable_rows anTable_rows : Option Addr} {slTable_rows : Array (Option Value)} {flaw : Addr} {oclaw kVlaw dclaw pmlaw cdlaw ctlaw : Value} {odlaw anlaw : Option Addr} {sllaw : Array (Option Value)} {tkc0_1 : Tok} {tkc1_1 : Tok} {tkc2_1 : Tok} {tkc3_1 : Tok} {tkc4_1 : Tok} {tkc5_1 : Tok} {tkc6_1 : Tok}
    (a_house_of : PySem.W.nsIn K mainGlobals "house_of" = some (some (.ref fhouse_of)))
    (l_house_of : K.lookup fhouse_of = some ⟨ochouse_of, odhouse_of, .func (PySem.W.fnOf "house_of" "house_of" (defArgs s_house_of) (defBody s_house_of) (defScope s_house_of) .none kVhouse_of dchouse_of pmhouse_of anhouse_of cdhouse_of cthouse_of), slhouse_of⟩)
    (c_house_of : PySem.W.codeIn K cdhouse_of "house_of" = true)
    (k_house_of : PySem.W.keepIn K (.ref fhouse_of) = true)
    (a_is_whole : PySem.W.nsIn K mainGlobals "is_whole" = some (some (.ref fis_whole)))
    (l_is_whole : K.lookup fis_whole = some ⟨ocis_whole, odis_whole, .func (PySem.W.fnOf "is_whole" "is_whole" (defArgs s_is_whole) (defBody s_is_whole) (defScope s_is_whole) .none kVis_whole dcis_whole pmis_whole anis_whole cdis_whole ctis_whole), slis_whole⟩)
    (c_is_whole : PySem.W.codeIn K cdis_whole "is_whole" = true)
    (k_is_whole : PySem.W.keepIn K (.ref fis_whole) = true)
    (a_is_value : PySem.W.nsIn K mainGlobals "is_value" = some (some (.ref fis_value)))
    (l_is_value : K.lookup fis_value = some ⟨ocis_value, odis_value, .func (PySem.W.fnOf "is_value" "is_value" (defArgs s_is_value) (defBody s_is_value) (defScope s_is_value) .none kVis_value dcis_value pmis_value anis_value cdis_value ctis_value), slis_value⟩)
    (c_is_value : PySem.W.codeIn K cdis_value "is_value" = true)
    (k_is_value : PySem.W.keepIn K (.ref fis_value) = true)
    (a_rank_of : PySem.W.nsIn K mainGlobals "rank_of" = some (some (.ref frank_of)))
    (l_rank_of : K.lookup frank_of = some ⟨ocrank_of, odrank_of, .func (PySem.W.fnOf "rank_of" "rank_of" (defArgs s_rank_of) (defBody s_rank_of) (defScope s_rank_of) .none kVrank_of dcrank_of pmrank_of anrank_of cdrank_of ctrank_of), slrank_of⟩)
    (c_rank_of : PySem.W.codeIn K cdrank_of "rank_of" = true)
    (k_rank_of : PySem.W.keepIn K (.ref frank_of) = true)
    (a_ranks_of : PySem.W.nsIn K mainGlobals "ranks_of" = some (some (.ref franks_of)))
    (l_ranks_of : K.lookup franks_of = some ⟨ocranks_of, odranks_of, .func (PySem.W.fnOf "ranks_of" "ranks_of" (defArgs s_ranks_of) (defBody s_ranks_of) (defScope s_ranks_of) .none kVranks_of dcranks_of pmranks_of anranks_of cdranks_of ctranks_of), slranks_of⟩)
    (c_ranks_of : PySem.W.codeIn K cdranks_of "ranks_of" = true)
    (k_ranks_of : PySem.W.keepIn K (.ref franks_of) = true)
    (a_Table : PySem.W.nsIn K mainGlobals "Table" = some (some (.ref C_Table)))
    (a_Table_parts_by : PySem.W.findIn K (.ref C_Table) "parts_by" = some (some (.ref fTable_parts_by)))
    (i_Table_parts_by : PySem.W.isFn K (.ref fTable_parts_by) = true)
    (l_Table_parts_by : K.lookup fTable_parts_by = some ⟨ocTable_parts_by, odTable_parts_by, .func (PySem.W.fnOf "parts_by" "Table.parts_by" (defArgs s_Table_parts_by) (defBody s_Table_parts_by) (defScope s_Table_parts_by) .none kVTable_parts_by dcTable_parts_by pmTable_parts_by anTable_parts_by cdTable_parts_by ctTable_parts_by), slTable_parts_by⟩)
    (c_Table_parts_by : PySem.W.codeIn K cdTable_parts_by "Table.parts_by" = true)
    (k_Table_parts_by : PySem.W.keepIn K (.ref fTable_parts_by) = true)
    (a_Table_first_none : PySem.W.findIn K (.ref C_Table) "first_none" = some (some (.ref fTable_first_none)))
    (i_Table_first_none : PySem.W.isFn K (.ref fTable_first_none) = true)
    (l_Table_first_none : K.lookup fTable_first_none = some ⟨ocTable_first_none, odTable_first_none, .func (PySem.W.fnOf "first_none" "Table.first_none" (defArgs s_Table_first_none) (defBody s_Table_first_none) (defScope s_Table_first_none) .none kVTable_first_none dcTable_first_none pmTable_first_none anTable_first_none cdTable_first_none ctTable_first_none), slTable_first_none⟩)
    (c_Table_first_none : PySem.W.codeIn K cdTable_first_none "Table.first_none" = true)
    (k_Table_first_none : PySem.W.keepIn K (.ref fTable_first_none) = true)
    (a_Table_look_at_order : PySem.W.findIn K (.ref C_Table) "look_at_order" = some (some (.ref fTable_look_at_order)))
    (i_Table_look_at_order : PySem.W.isFn K (.ref fTable_look_at_order) = true)
    (l_Table_look_at_order : K.lookup fTable_look_at_order = some ⟨ocTable_look_at_order, odTable_look_at_order, .func (PySem.W.fnOf "look_at_order" "Table.look_at_order" (defArgs s_Table_look_at_order) (defBody s_Table_look_at_order) (defScope s_Table_look_at_order) .none kVTable_look_at_order dcTable_look_at_order pmTable_look_at_order anTable_look_at_order cdTable_look_at_order ctTable_look_at_order), slTable_look_at_order⟩)
    (c_Table_look_at_order : PySem.W.codeIn K cdTable_look_at_order "Table.look_at_order" = true)
    (k_Table_look_at_order : PySem.W.keepIn K (.ref fTable_look_at_order) = true)
    (a_next_of : PySem.W.nsIn K mainGlobals "next_of" = some (some (.ref fnext_of)))
    (l_next_of : K.lookup fnext_of = some ⟨ocnext_of, odnext_of, .func (PySem.W.fnOf "next_of" "next_of" (defArgs s_next_of) (defBody s_next_of) (defScope s_next_of) .none kVnext_of dcnext_of pmnext_of annext_of cdnext_of ctnext_of), slnext_of⟩)
    (c_next_of : PySem.W.codeIn K cdnext_of "next_of" = true)
    (k_next_of : PySem.W.keepIn K (.ref fnext_of) = true)
    (a_first_bad : PySem.W.nsIn K mainGlobals "first_bad" = some (some (.ref ffirst_bad)))
    (l_first_bad : K.lookup ffirst_bad = some ⟨ocfirst_bad, odfirst_bad, .func (PySem.W.fnOf "first_bad" "first_bad" (defArgs s_first_bad) (defBody s_first_bad) (defScope s_first_bad) .none kVfirst_bad dcfirst_bad pmfirst_bad anfirst_bad cdfirst_bad ctfirst_bad), slfirst_bad⟩)
    (c_first_bad : PySem.W.codeIn K cdfirst_bad "first_bad" = true)
    (k_first_bad : PySem.W.keepIn K (.ref ffirst_bad) = true)
    (a_Table_look_at_there : PySem.W.findIn K (.ref C_Table) "look_at_there" = some (some (.ref fTable_look_at_there)))
    (i_Table_look_at_there : PySem.W.isFn K (.ref fTable_look_at_there) = true)
    (l_Table_look_at_there : K.lookup fTable_look_at_there = some ⟨ocTable_look_at_there, odTable_look_at_there, .func (PySem.W.fnOf "look_at_there" "Table.look_at_there" (defArgs s_Table_look_at_there) (defBody s_Table_look_at_there) (defScope s_Table_look_at_there) .none kVTable_look_at_there dcTable_look_at_there pmTable_look_at_there anTable_look_at_there cdTable_look_at_there ctTable_look_at_there), slTable_look_at_there⟩)
    (c_Table_look_at_there : PySem.W.codeIn K cdTable_look_at_there "Table.look_at_there" = true)
    (k_Table_look_at_there : PySem.W.keepIn K (.ref fTable_look_at_there) = true)
    (t_Table_look_at_there : lamKB K fTable_look_at_there 179 = true)
    (a_Table_is_key : PySem.W.findIn K (.ref C_Table) "is_key" = some (some (.ref fTable_is_key)))
    (i_Table_is_key : PySem.W.isFn K (.ref fTable_is_key) = true)
    (l_Table_is_key : K.lookup fTable_is_key = some ⟨ocTable_is_key, odTable_is_key, .func (PySem.W.fnOf "is_key" "Table.is_key" (defArgs s_Table_is_key) (defBody s_Table_is_key) (defScope s_Table_is_key) .none kVTable_is_key dcTable_is_key pmTable_is_key anTable_is_key cdTable_is_key ctTable_is_key), slTable_is_key⟩)
    (c_Table_is_key : PySem.W.codeIn K cdTable_is_key "Table.is_key" = true)
    (k_Table_is_key : PySem.W.keepIn K (.ref fTable_is_key) = true)
    (a_Table_look_at_keys : PySem.W.findIn K (.ref C_Table) "look_at_keys" = some (some (.ref fTable_look_at_keys)))
    (i_Table_look_at_keys : PySem.W.isFn K (.ref fTable_look_at_keys) = true)
    (l_Table_look_at_keys : K.lookup fTable_look_at_keys = some ⟨ocTable_look_at_keys, odTable_look_at_keys, .func (PySem.W.fnOf "look_at_keys" "Table.look_at_keys" (defArgs s_Table_look_at_keys) (defBody s_Table_look_at_keys) (defScope s_Table_look_at_keys) .none kVTable_look_at_keys dcTable_look_at_keys pmTable_look_at_keys anTable_look_at_keys cdTable_look_at_keys ctTable_look_at_keys), slTable_look_at_keys⟩)
    (c_Table_look_at_keys : PySem.W.codeIn K cdTable_look_at_keys "Table.look_at_keys" = true)
    (k_Table_look_at_keys : PySem.W.keepIn K (.ref fTable_look_at_keys) = true)
    (t_Table_look_at_keys : lamKB K fTable_look_at_keys 172 = true)
    (a_Table_is_row : PySem.W.findIn K (.ref C_Table) "is_row" = some (some (.ref fTable_is_row)))
    (i_Table_is_row : PySem.W.isFn K (.ref fTable_is_row) = true)
    (l_Table_is_row : K.lookup fTable_is_row = some ⟨ocTable_is_row, odTable_is_row, .func (PySem.W.fnOf "is_row" "Table.is_row" (defArgs s_Table_is_row) (defBody s_Table_is_row) (defScope s_Table_is_row) .none kVTable_is_row dcTable_is_row pmTable_is_row anTable_is_row cdTable_is_row ctTable_is_row), slTable_is_row⟩)
    (c_Table_is_row : PySem.W.codeIn K cdTable_is_row "Table.is_row" = true)
    (k_Table_is_row : PySem.W.keepIn K (.ref fTable_is_row) = true)
    (a_Table_look_at_rows : PySem.W.findIn K (.ref C_Table) "look_at_rows" = some (some (.ref fTable_look_at_rows)))
    (i_Table_look_at_rows : PySem.W.isFn K (.ref fTable_look_at_rows) = true)
    (l_Table_look_at_rows : K.lookup fTable_look_at_rows = some ⟨ocTable_look_at_rows, odTable_look_at_rows, .func (PySem.W.fnOf "look_at_rows" "Table.look_at_rows" (defArgs s_Table_look_at_rows) (defBody s_Table_look_at_rows) (defScope s_Table_look_at_rows) .none kVTable_look_at_rows dcTable_look_at_rows pmTable_look_at_rows anTable_look_at_rows cdTable_look_at_rows ctTable_look_at_rows), slTable_look_at_rows⟩)
    (c_Table_look_at_rows : PySem.W.codeIn K cdTable_look_at_rows "Table.look_at_rows" = true)
    (k_Table_look_at_rows : PySem.W.keepIn K (.ref fTable_look_at_rows) = true)
    (t_Table_look_at_rows : lamKB K fTable_look_at_rows 146 = true)
    (a_first_again : PySem.W.nsIn K mainGlobals "first_again" = some (some (.ref ffirst_again)))
    (l_first_again : K.lookup ffirst_again = some ⟨ocfirst_again, odfirst_again, .func (PySem.W.fnOf "first_again" "first_again" (defArgs s_first_again) (defBody s_first_again) (defScope s_first_again) .none kVfirst_again dcfirst_again pmfirst_again anfirst_again cdfirst_again ctfirst_again), slfirst_again⟩)
    (c_first_again : PySem.W.codeIn K cdfirst_again "first_again" = true)
    (k_first_again : PySem.W.keepIn K (.ref ffirst_again) = true)
    (a_is_name : PySem.W.nsIn K mainGlobals "is_name" = some (some (.ref fis_name)))
    (l_is_name : K.lookup fis_name = some ⟨ocis_name, odis_name, .func (PySem.W.fnOf "is_name" "is_name" (defArgs s_is_name) (defBody s_is_name) (defScope s_is_name) .none kVis_name dcis_name pmis_name anis_name cdis_name ctis_name), slis_name⟩)
    (c_is_name : PySem.W.codeIn K cdis_name "is_name" = true)
    (k_is_name : PySem.W.keepIn K (.ref fis_name) = true)
    (a_Table_look_at_columns : PySem.W.findIn K (.ref C_Table) "look_at_columns" = some (some (.ref fTable_look_at_columns)))
    (i_Table_look_at_columns : PySem.W.isFn K (.ref fTable_look_at_columns) = true)
    (l_Table_look_at_columns : K.lookup fTable_look_at_columns = some ⟨ocTable_look_at_columns, odTable_look_at_columns, .func (PySem.W.fnOf "look_at_columns" "Table.look_at_columns" (defArgs s_Table_look_at_columns) (defBody s_Table_look_at_columns) (defScope s_Table_look_at_columns) .none kVTable_look_at_columns dcTable_look_at_columns pmTable_look_at_columns anTable_look_at_columns cdTable_look_at_columns ctTable_look_at_columns), slTable_look_at_columns⟩)
    (c_Table_look_at_columns : PySem.W.codeIn K cdTable_look_at_columns "Table.look_at_columns" = true)
    (k_Table_look_at_columns : PySem.W.keepIn K (.ref fTable_look_at_columns) = true)
    (a_Table___init__ : PySem.W.findIn K (.ref C_Table) "__init__" = some (some (.ref fTable___init__)))
    (i_Table___init__ : PySem.W.isFn K (.ref fTable___init__) = true)
    (l_Table___init__ : K.lookup fTable___init__ = some ⟨ocTable___init__, odTable___init__, .func (PySem.W.fnOf "__init__" "Table.__init__" (defArgs s_Table___init__) (defBody s_Table___init__) (defScope s_Table___init__) .none (.ref DTable___init__) dcTable___init__ pmTable___init__ anTable___init__ cdTable___init__ ctTable___init__), slTable___init__⟩)
    (c_Table___init__ : PySem.W.codeIn K cdTable___init__ "Table.__init__" = true)
    (k_Table___init__ : PySem.W.keepIn K (.ref fTable___init__) = true)
    (d_Table___init___keys : PySem.W.nsIn K DTable___init__ "keys" = some (some (.ref aTable___init___keys_0)))
    (lTable___init___keys_0 : K.lookup aTable___init___keys_0 = some ⟨.type "tuple", ddTable___init___keys_0, .seq #[] nTable___init___keys_0, slTable___init___keys_0⟩)
    (d_Table___init___there : PySem.W.nsIn K DTable___init__ "there" = some (some (.ref aTable___init___there_0)))
    (lTable___init___there_0 : K.lookup aTable___init___there_0 = some ⟨.type "tuple", ddTable___init___there_0, .seq #[] nTable___init___there_0, slTable___init___there_0⟩)
    (d_Table___init___order : PySem.W.nsIn K DTable___init__ "order" = some (some (.ref aTable___init___order_0)))
    (lTable___init___order_0 : K.lookup aTable___init___order_0 = some ⟨.type "tuple", ddTable___init___order_0, .seq #[] nTable___init___order_0, slTable___init___order_0⟩)
    (d_Table___init___house : PySem.W.nsIn K DTable___init__ "house" = some (some (.none)))
    (a__law_is_house : PySem.W.nsIn K mainGlobals "_law_is_house" = some (some (.ref f_law_is_house)))
    (l__law_is_house : K.lookup f_law_is_house = some ⟨oc_law_is_house, od_law_is_house, .func (PySem.W.fnOf "_law_is_house" "_law_is_house" (defArgs s__law_is_house) (defBody s__law_is_house) (defScope s__law_is_house) .none kV_law_is_house dc_law_is_house pm_law_is_house an_law_is_house cd_law_is_house ct_law_is_house), sl_law_is_house⟩)
    (c__law_is_house : PySem.W.codeIn K cd_law_is_house "_law_is_house" = true)
    (k__law_is_house : PySem.W.keepIn K (.ref f_law_is_house) = true)
    (a__law_take : PySem.W.nsIn K mainGlobals "_law_take" = some (some (.ref f_law_take)))
    (l__law_take : K.lookup f_law_take = some ⟨oc_law_take, od_law_take, .func (PySem.W.fnOf "_law_take" "_law_take" (defArgs s__law_take) (defBody s__law_take) (defScope s__law_take) .none kV_law_take dc_law_take pm_law_take an_law_take cd_law_take ct_law_take), sl_law_take⟩)
    (c__law_take : PySem.W.codeIn K cd_law_take "_law_take" = true)
    (k__law_take : PySem.W.keepIn K (.ref f_law_take) = true)
    (a__law_pool : PySem.W.nsIn K mainGlobals "_law_pool" = some (some (.ref f_law_pool)))
    (l__law_pool : K.lookup f_law_pool = some ⟨oc_law_pool, od_law_pool, .func (PySem.W.fnOf "_law_pool" "_law_pool" (defArgs s__law_pool) (defBody s__law_pool) (defScope s__law_pool) .none kV_law_pool dc_law_pool pm_law_pool an_law_pool cd_law_pool ct_law_pool), sl_law_pool⟩)
    (c__law_pool : PySem.W.codeIn K cd_law_pool "_law_pool" = true)
    (k__law_pool : PySem.W.keepIn K (.ref f_law_pool) = true)
    (a_Table_rows : PySem.W.findIn K (.ref C_Table) "rows" = some (some (.ref fTable_rows)))
    (i_Table_rows : PySem.W.isFn K (.ref fTable_rows) = true)
    (l_Table_rows : K.lookup fTable_rows = some ⟨ocTable_rows, odTable_rows, .func (PySem.W.fnOf "rows" "Table.rows" (defArgs s_Table_rows) (defBody s_Table_rows) (defScope s_Table_rows) .none kVTable_rows dcTable_rows pmTable_rows anTable_rows cdTable_rows ctTable_rows), slTable_rows⟩)
    (c_Table_rows : PySem.W.codeIn K cdTable_rows "Table.rows" = true)
    (k_Table_rows : PySem.W.keepIn K (.ref fTable_rows) = true)
    (a_law : PySem.W.nsIn K mainGlobals "law" = some (some (.ref flaw)))
    (l_law : K.lookup flaw = some ⟨oclaw, odlaw, .func (PySem.W.fnOf "law" "law" (defArgs s_law) (defBody s_law) (defScope s_law) .none kVlaw dclaw pmlaw anlaw cdlaw ctlaw), sllaw⟩)
    (c_law : PySem.W.codeIn K cdlaw "law" = true)
    (k_law : PySem.W.keepIn K (.ref flaw) = true)
    (n_HOUSES : PySem.W.nsIn K mainGlobals "HOUSES" = some (some (.int (3) tkc0_1)))
    (n_LETTERS : PySem.W.nsIn K mainGlobals "LETTERS" = some (some (.str "abcdefghijklmnopqrstuvwxyz" tkc1_1)))
    (n_MOST_COLUMNS : PySem.W.nsIn K mainGlobals "MOST_COLUMNS" = some (some (.int (6) tkc2_1)))
    (n_MOST_KEYS : PySem.W.nsIn K mainGlobals "MOST_KEYS" = some (some (.int (4) tkc3_1)))
    (n_MOST_NAME : PySem.W.nsIn K mainGlobals "MOST_NAME" = some (some (.int (8) tkc4_1)))
    (n_MOST_ROWS : PySem.W.nsIn K mainGlobals "MOST_ROWS" = some (some (.int (200) tkc5_1)))
    (n_MOST_VALUE : PySem.W.nsIn K mainGlobals "MOST_VALUE" = some (some (.int (1000000000) tkc6_1)))
    (z_deep : PySem.W.nsIn K mainGlobals "<deep>" = some none)
    (z_here : PySem.W.nsIn K mainGlobals "<here>" = some none)
    (z_lam : PySem.W.nsIn K mainGlobals "<lam>" = some none)
    (z_abs : PySem.W.nsIn K mainGlobals "abs" = some none)
    (z_all : PySem.W.nsIn K mainGlobals "all" = some none)
    (z_bool : PySem.W.nsIn K mainGlobals "bool" = some none)
    (z_enumerate : PySem.W.nsIn K mainGlobals "enumerate" = some none)
    (z_int : PySem.W.nsIn K mainGlobals "int" = some none)
    (z_isinstance : PySem.W.nsIn K mainGlobals "isinstance" = some none)
    (z_len : PySem.W.nsIn K mainGlobals "len" = some none)
    (z_list : PySem.W.nsIn K mainGlobals "list" = some none)
    (z_max : PySem.W.nsIn K mainGlobals "max" = some none)
    (z_min : PySem.W.nsIn K mainGlobals "min" = some none)
    (z_range : PySem.W.nsIn K mainGlobals "range" = some none)
    (z_set : PySem.W.nsIn K mainGlobals "set" = some none)
    (z_str : PySem.W.nsIn K mainGlobals "str" = some none)
    (z_tuple : PySem.W.nsIn K mainGlobals "tuple" = some none)
    (p_Table : plcB K C_Table = true)
    (r_Table : kitRow K C_Table (SIX ++ []) = [some false, some false, some false, some false, some false, some false] ++ [])
    (n_Table : noB K C_Table ["own_rows", "own_columns", "own_keys", "own_there", "own_order", "own_house"] = true)
    (mk_Table : PySem.W.makesIn K C_Table = true)
    (kp_Table : PySem.W.keepIn K (.ref C_Table) = true)
    : ∃ fd : FuncData, (∀ (s : Shared) (u : Value), BindsTo s fd ⟨[u], []⟩ [("_law_script", u)]) ∧ ∀ base : Heap, K.In base → base.Ns mainGlobals mg → (∀ p ∈ TS, base.BuiltinsAt mg p ∧ mainGlobals ≠ p) → OkG P w K mg base 15 fa fd ["_law_script"] (spFn K F_law_1) := by
  have B : ∀ x ∈ blA, mg x = none := (allc (PySem.W.mg_none_of X G z_deep) (allc (PySem.W.mg_none_of X G z_here) (allc (PySem.W.mg_none_of X G z_lam) (allc (PySem.W.mg_none_of X G z_abs) (allc (PySem.W.mg_none_of X G z_all) (allc (PySem.W.mg_none_of X G z_bool) (allc (PySem.W.mg_none_of X G z_enumerate) (allc (PySem.W.mg_none_of X G z_int) (allc (PySem.W.mg_none_of X G z_isinstance) (allc (PySem.W.mg_none_of X G z_len) (allc (PySem.W.mg_none_of X G z_list) (allc (PySem.W.mg_none_of X G z_max) (allc (PySem.W.mg_none_of X G z_min) (allc (PySem.W.mg_none_of X G z_range) (allc (PySem.W.mg_none_of X G z_set) (allc (PySem.W.mg_none_of X G z_str) (allc (PySem.W.mg_none_of X G z_tuple) all0)))))))))))))))))
  have C_HOUSES : ConAt K mg "HOUSES" c_HOUSES := ⟨_, _, PySem.W.mg_of X G n_HOUSES, (rv_int _ _), fun H => (.int _)⟩
  have C_LETTERS : ConAt K mg "LETTERS" c_LETTERS := ⟨_, _, PySem.W.mg_of X G n_LETTERS, (rv_str _ _), fun H => (.str _)⟩
  have C_MOST_COLUMNS : ConAt K mg "MOST_COLUMNS" c_MOST_COLUMNS := ⟨_, _, PySem.W.mg_of X G n_MOST_COLUMNS, (rv_int _ _), fun H => (.int _)⟩
  have C_MOST_KEYS : ConAt K mg "MOST_KEYS" c_MOST_KEYS := ⟨_, _, PySem.W.mg_of X G n_MOST_KEYS, (rv_int _ _), fun H => (.int _)⟩
  have C_MOST_NAME : ConAt K mg "MOST_NAME" c_MOST_NAME := ⟨_, _, PySem.W.mg_of X G n_MOST_NAME, (rv_int _ _), fun H => (.int _)⟩
  have C_MOST_ROWS : ConAt K mg "MOST_ROWS" c_MOST_ROWS := ⟨_, _, PySem.W.mg_of X G n_MOST_ROWS, (rv_int _ _), fun H => (.int _)⟩
  have C_MOST_VALUE : ConAt K mg "MOST_VALUE" c_MOST_VALUE := ⟨_, _, PySem.W.mg_of X G n_MOST_VALUE, (rv_int _ _), fun H => (.int _)⟩
  have cn_Table : ClsN K C_Table "Table" := cls_at a_Table r_Table
  have pc_Table : PlC K C_Table := plc_of p_Table
  have DF : FldG K FL := (allc (fld_of cn_Table (noB_at n_Table "own_rows" (by simp))) (allc (fld_of cn_Table (noB_at n_Table "own_columns" (by simp))) (allc (fld_of cn_Table (noB_at n_Table "own_keys" (by simp))) (allc (fld_of cn_Table (noB_at n_Table "own_there" (by simp))) (allc (fld_of cn_Table (noB_at n_Table "own_order" (by simp))) (allc (fld_of cn_Table (noB_at n_Table "own_house" (by simp))) all0))))))
  have DI : IscG K mg IS := all0
  have A_house_of : FnAt K mg "house_of" s_house_of := ⟨_, _, PySem.W.mg_of X G a_house_of, k_house_of, fun_mk l_house_of c_house_of k_house_of⟩
  have A_is_whole : FnAt K mg "is_whole" s_is_whole := ⟨_, _, PySem.W.mg_of X G a_is_whole, k_is_whole, fun_mk l_is_whole c_is_whole k_is_whole⟩
  have A_is_value : FnAt K mg "is_value" s_is_value := ⟨_, _, PySem.W.mg_of X G a_is_value, k_is_value, fun_mk l_is_value c_is_value k_is_value⟩
  have A_rank_of : FnAt K mg "rank_of" s_rank_of := ⟨_, _, PySem.W.mg_of X G a_rank_of, k_rank_of, fun_mk l_rank_of c_rank_of k_rank_of⟩
  have A_ranks_of : FnAt K mg "ranks_of" s_ranks_of := ⟨_, _, PySem.W.mg_of X G a_ranks_of, k_ranks_of, fun_mk l_ranks_of c_ranks_of k_ranks_of⟩
  have A_Table_parts_by := mth_at (st := s_Table_parts_by) cn_Table pc_Table a_Table_parts_by i_Table_parts_by l_Table_parts_by c_Table_parts_by k_Table_parts_by
  have A_Table_first_none := mth_at (st := s_Table_first_none) cn_Table pc_Table a_Table_first_none i_Table_first_none l_Table_first_none c_Table_first_none k_Table_first_none
  have A_Table_look_at_order := mth_at (st := s_Table_look_at_order) cn_Table pc_Table a_Table_look_at_order i_Table_look_at_order l_Table_look_at_order c_Table_look_at_order k_Table_look_at_order
  have A_next_of : FnAt K mg "next_of" s_next_of := ⟨_, _, PySem.W.mg_of X G a_next_of, k_next_of, fun_mk l_next_of c_next_of k_next_of⟩
  have A_first_bad : FnAt K mg "first_bad" s_first_bad := ⟨_, _, PySem.W.mg_of X G a_first_bad, k_first_bad, fun_mk l_first_bad c_first_bad k_first_bad⟩
  have A_Table_look_at_there := mth_atL (st := s_Table_look_at_there) cn_Table pc_Table a_Table_look_at_there i_Table_look_at_there l_Table_look_at_there c_Table_look_at_there k_Table_look_at_there t_Table_look_at_there
  have A_Table_is_key := mth_at (st := s_Table_is_key) cn_Table pc_Table a_Table_is_key i_Table_is_key l_Table_is_key c_Table_is_key k_Table_is_key
  have A_Table_look_at_keys := mth_atL (st := s_Table_look_at_keys) cn_Table pc_Table a_Table_look_at_keys i_Table_look_at_keys l_Table_look_at_keys c_Table_look_at_keys k_Table_look_at_keys t_Table_look_at_keys
  have A_Table_is_row := mth_at (st := s_Table_is_row) cn_Table pc_Table a_Table_is_row i_Table_is_row l_Table_is_row c_Table_is_row k_Table_is_row
  have A_Table_look_at_rows := mth_atL (st := s_Table_look_at_rows) cn_Table pc_Table a_Table_look_at_rows i_Table_look_at_rows l_Table_look_at_rows c_Table_look_at_rows k_Table_look_at_rows t_Table_look_at_rows
  have A_first_again : FnAt K mg "first_again" s_first_again := ⟨_, _, PySem.W.mg_of X G a_first_again, k_first_again, fun_mk l_first_again c_first_again k_first_again⟩
  have A_is_name : FnAt K mg "is_name" s_is_name := ⟨_, _, PySem.W.mg_of X G a_is_name, k_is_name, fun_mk l_is_name c_is_name k_is_name⟩
  have A_Table_look_at_columns := mth_at (st := s_Table_look_at_columns) cn_Table pc_Table a_Table_look_at_columns i_Table_look_at_columns l_Table_look_at_columns c_Table_look_at_columns k_Table_look_at_columns
  have A__law_is_house : FnAt K mg "_law_is_house" s__law_is_house := ⟨_, _, PySem.W.mg_of X G a__law_is_house, k__law_is_house, fun_mk l__law_is_house c__law_is_house k__law_is_house⟩
  have A__law_take : FnAt K mg "_law_take" s__law_take := ⟨_, _, PySem.W.mg_of X G a__law_take, k__law_take, fun_mk l__law_take c__law_take k__law_take⟩
  have A__law_pool : FnAt K mg "_law_pool" s__law_pool := ⟨_, _, PySem.W.mg_of X G a__law_pool, k__law_pool, fun_mk l__law_pool c__law_pool k__law_pool⟩
  have A_Table_rows := mth_at (st := s_Table_rows) cn_Table pc_Table a_Table_rows i_Table_rows l_Table_rows c_Table_rows k_Table_rows
  have A_law : FnAt K mg "law" s_law := ⟨_, _, PySem.W.mg_of X G a_law, k_law, fun_mk l_law c_law k_law⟩
  obtain ⟨f, fd, hm, kp, Fu⟩ := A_law.ex
  cases hfa.symm.trans hm
  refine ⟨fd, bind1 Fu fun _ _ _ _ _ _ us hl => match us, hl with | [_], _ => rfl, fun base KB _ BA => ?_⟩
  have g_F_house_of_0_value := g_house_of_0_value (P := P) (w := w) (base := base) A_house_of B DF DI C_HOUSES
  have g_F_house_of_1 := g_house_of_1 (P := P) (w := w) (base := base) A_house_of B DF DI C_HOUSES
  have g_F_is_whole_1 := g_is_whole_1 (P := P) (w := w) (base := base) A_is_whole B DF DI
  have g_F_is_value_0_thing := g_is_value_0_thing (P := P) (w := w) (base := base) A_is_value B DF DI C_MOST_VALUE g_F_is_whole_1
  have g_F_is_value_1 := g_is_value_1 (P := P) (w := w) (base := base) A_is_value B DF DI C_MOST_VALUE g_F_is_whole_1
  have g_F_rank_of_1 := g_rank_of_1 (P := P) (w := w) (base := base) A_rank_of B DF DI
  have g_F_ranks_of_1 := g_ranks_of_1 (P := P) (w := w) (base := base) A_ranks_of B DF DI g_F_rank_of_1
  have g_F_Table_parts_by_2 := m_Table_parts_by_2 (P := P) (w := w) (base := base) A_Table_parts_by B DF DI
  have g_F_Table_first_none_2 := m_Table_first_none_2 (P := P) (w := w) (base := base) A_Table_first_none B DF DI
  have g_F_Table_look_at_order_2 := m_Table_look_at_order_2 (P := P) (w := w) (base := base) A_Table_look_at_order B DF DI C_MOST_COLUMNS g_F_ranks_of_1 g_F_Table_parts_by_2 g_F_Table_first_none_2
  have g_F_next_of_1 := g_next_of_1 (P := P) (w := w) (base := base) A_next_of B DF DI
  have h_first_bad_ := h_first_bad (P := P) (w := w) (base := base) A_first_bad B DF DI (fun base => (g_next_of_1 (P := P) (w := w) (base := base) A_next_of B DF DI))
  have g_F_Table_look_at_there_2 := m_Table_look_at_there_2 (P := P) (w := w) (base := base) A_Table_look_at_there B DF DI C_MOST_COLUMNS g_F_Table_parts_by_2 g_F_Table_first_none_2 h_first_bad_ KB BA
  have g_F_Table_is_key_2 := m_Table_is_key_2 (P := P) (w := w) (base := base) A_Table_is_key B DF DI g_F_Table_parts_by_2 g_F_Table_first_none_2
  have g_F_Table_look_at_keys_2 := m_Table_look_at_keys_2 (P := P) (w := w) (base := base) A_Table_look_at_keys B DF DI C_MOST_KEYS g_F_Table_is_key_2 h_first_bad_ KB BA
  have g_F_Table_is_row_2 := m_Table_is_row_2 (P := P) (w := w) (base := base) A_Table_is_row B DF DI g_F_is_value_1
  have g_F_Table_look_at_rows_2 := m_Table_look_at_rows_2 (P := P) (w := w) (base := base) A_Table_look_at_rows B DF DI C_MOST_ROWS g_F_Table_is_row_2 h_first_bad_ KB BA
  have g_F_first_again_1 := g_first_again_1 (P := P) (w := w) (base := base) A_first_again B DF DI g_F_next_of_1
  have g_F_is_name_1 := g_is_name_1 (P := P) (w := w) (base := base) A_is_name B DF DI C_LETTERS C_MOST_NAME
  have g_F_Table_look_at_columns_2 := m_Table_look_at_columns_2 (P := P) (w := w) (base := base) A_Table_look_at_columns B DF DI C_MOST_COLUMNS g_F_first_again_1 g_F_is_name_1 h_first_bad_
  have Fd_Table := funD_mk (st := s_Table___init__) (kws := [("keys", .ref aTable___init___keys_0), ("there", .ref aTable___init___there_0), ("order", .ref aTable___init___order_0), ("house", .non)]) l_Table___init__ c_Table___init__ k_Table___init__ (allc ⟨_, d_Table___init___keys, (rv_ref _)⟩ (allc ⟨_, d_Table___init___there, (rv_ref _)⟩ (allc ⟨_, d_Table___init___order, (rv_ref _)⟩ (allc ⟨_, d_Table___init___house, rv_non⟩ all0))))
  have Fi_Table := funD_fun Fd_Table
  have ok_F_Table___init___3 := i_Table___init___Table___init___3 (P := P) (w := w) (base := base) Fi_Table B DF DI g_F_Table_look_at_order_2 g_F_Table_look_at_there_2 g_F_Table_look_at_keys_2 g_F_Table_look_at_rows_2 g_F_Table_look_at_columns_2
  have g_FC_Table_2 : FnG P w K mg base 14 "Table" FC_Table_2 := ⟨.inr (cls_obj (F1 := F_Table___init___3) (PySem.W.mg_of X G a_Table) ⟨mk_Table, a_Table___init__, i_Table___init__, kp_Table⟩ cn_Table pc_Table ok_F_Table___init___3 (binds_kwo Fd_Table (by simp) rfl rfl rfl (fun H => (.cons (rz_tupK lTable___init___keys_0 (by show 0 ≤ sizeLine; decide) .nil .nil) (.cons (rz_tupK lTable___init___there_0 (by show 0 ≤ sizeLine; decide) .nil .nil) (.cons (rz_tupK lTable___init___order_0 (by show 0 ≤ sizeLine; decide) .nil .nil) (.cons .non .nil))))) fun _ _ _ _ _ _ us ks hl hk => match us, ks, hl, hk with | [_, _, _], [_, _, _, _], _, _ => ⟨_, _, _, _, _, _, rfl, rfl, ⟨_, _, _, _, _, _, rfl, rfl, ⟨_, _, _, _, _, _, rfl, rfl, ⟨_, _, _, _, _, _, rfl, rfl, rfl⟩⟩⟩⟩) rfl rfl rfl rfl rfl rfl rfl rfl rfl rfl)⟩
  have g_F__law_is_house_2 := g__law_is_house_2 (P := P) (w := w) (base := base) A__law_is_house B DF DI g_F_house_of_1
  have g_F__law_take_2 := g__law_take_2 (P := P) (w := w) (base := base) A__law_take B DF DI
  have g_F__law_pool_2 := g__law_pool_2 (P := P) (w := w) (base := base) A__law_pool B DF DI
  have g_F_Table_rows_1 := m_Table_rows_1 (P := P) (w := w) (base := base) A_Table_rows B DF DI
  exact g_law Fu B DF DI C_HOUSES g_F_house_of_0_value g_F_is_value_0_thing g_F_is_value_1 g_FC_Table_2 g_F__law_is_house_2 g_F__law_take_2 g_F__law_pool_2 g_F_Table_rows_1
end Lw
open Mp
open PySem PySem.W PyProof.Rows in
set_option maxRecDepth 100000 in
set_option maxHeartbeats 0 in
theorem PySem.Challenge.cw_groupedplans_k04_values_and_houses_holds : PySem.Challenge.rw_groupedplans_k04_values_and_houses.Holds := by
  w_on; o_law; km_head; (case hw => w_witness2)
  k_fill
  refine Mp.walk (l := PySem.Challenge.rw_groupedplans_k04_values_and_houses) (x := "_law_script") (F := Lw.F_law_1) (k := 15) Lw.TS rfl rfl ⟨rfl, by decide, by decide⟩ rfl rfl Lw.den_true (fun w h Y => ⟨PySem.W.km_in_of Y, PySem.W.km_tabs_of Y⟩) (fun p => ?nT) (fun p => ?cT) (fun p => by decide) ?F
  (case nT => exact List.forall_mem_cons.mpr ⟨by kernel_rfl, List.forall_mem_cons.mpr ⟨by kernel_rfl, List.forall_mem_cons.mpr ⟨by kernel_rfl, fun _ h => nomatch h⟩⟩⟩)
  (case cT => exact List.forall_mem_cons.mpr ⟨Mp.code_of (by kernel_rfl), List.forall_mem_cons.mpr ⟨Mp.code_of (by kernel_rfl), List.forall_mem_cons.mpr ⟨Mp.code_of (by kernel_rfl), fun _ h => nomatch h⟩⟩⟩)
  case F =>
    intro w mg fa h KX G hmg
    refine' Lw.all_mk KX G hmg ?a_house_of ?l_house_of ?c_house_of ?k_house_of ?a_is_whole ?l_is_whole ?c_is_whole ?k_is_whole ?a_is_value ?l_is_value ?c_is_value ?k_is_value ?a_rank_of ?l_rank_of ?c_rank_of ?k_rank_of ?a_ranks_of ?l_ranks_of ?c_ranks_of ?k_ranks_of ?a_Table ?a_Table_parts_by ?i_Table_parts_by ?l_Table_parts_by ?c_Table_parts_by ?k_Table_parts_by ?a_Table_first_none ?i_Table_first_none ?l_Table_first_none ?c_Table_first_none ?k_Table_first_none ?a_Table_look_at_order ?i_Table_look_at_order ?l_Table_look_at_order ?c_Table_look_at_order ?k_Table_look_at_order ?a_next_of ?l_next_of ?c_next_of ?k_next_of ?a_first_bad ?l_first_bad ?c_first_bad ?k_first_bad ?a_Table_look_at_there ?i_Table_look_at_there ?l_Table_look_at_there ?c_Table_look_at_there ?k_Table_look_at_there ?t_Table_look_at_there ?a_Table_is_key ?i_Table_is_key ?l_Table_is_key ?c_Table_is_key ?k_Table_is_key ?a_Table_look_at_keys ?i_Table_look_at_keys ?l_Table_look_at_keys ?c_Table_look_at_keys ?k_Table_look_at_keys ?t_Table_look_at_keys ?a_Table_is_row ?i_Table_is_row ?l_Table_is_row ?c_Table_is_row ?k_Table_is_row ?a_Table_look_at_rows ?i_Table_look_at_rows ?l_Table_look_at_rows ?c_Table_look_at_rows ?k_Table_look_at_rows ?t_Table_look_at_rows ?a_first_again ?l_first_again ?c_first_again ?k_first_again ?a_is_name ?l_is_name ?c_is_name ?k_is_name ?a_Table_look_at_columns ?i_Table_look_at_columns ?l_Table_look_at_columns ?c_Table_look_at_columns ?k_Table_look_at_columns ?a_Table___init__ ?i_Table___init__ ?l_Table___init__ ?c_Table___init__ ?k_Table___init__ ?d_Table___init___keys ?lTable___init___keys_0 ?d_Table___init___there ?lTable___init___there_0 ?d_Table___init___order ?lTable___init___order_0 ?d_Table___init___house ?a__law_is_house ?l__law_is_house ?c__law_is_house ?k__law_is_house ?a__law_take ?l__law_take ?c__law_take ?k__law_take ?a__law_pool ?l__law_pool ?c__law_pool ?k__law_pool ?a_Table_rows ?i_Table_rows ?l_Table_rows ?c_Table_rows ?k_Table_rows ?a_law ?l_law ?c_law ?k_law ?n_HOUSES ?n_LETTERS ?n_MOST_COLUMNS ?n_MOST_KEYS ?n_MOST_NAME ?n_MOST_ROWS ?n_MOST_VALUE ?z_deep ?z_here ?z_lam ?z_abs ?z_all ?z_bool ?z_enumerate ?z_int ?z_isinstance ?z_len ?z_list ?z_max ?z_min ?z_range ?z_set ?z_str ?z_tuple ?p_Table ?r_Table ?n_Table ?mk_Table ?kp_Table
    (case a_house_of => k_is)
    (case l_house_of => k_is)
    (case c_house_of => k_is)
    (case k_house_of => k_is)
    (case a_is_whole => k_is)
    (case l_is_whole => k_is)
    (case c_is_whole => k_is)
    (case k_is_whole => k_is)
    (case a_is_value => k_is)
    (case l_is_value => k_is)
    (case c_is_value => k_is)
    (case k_is_value => k_is)
    (case a_rank_of => k_is)
    (case l_rank_of => k_is)
    (case c_rank_of => k_is)
    (case k_rank_of => k_is)
    (case a_ranks_of => k_is)
    (case l_ranks_of => k_is)
    (case c_ranks_of => k_is)
    (case k_ranks_of => k_is)
    (case a_Table => k_is)
    (case a_Table_parts_by => k_is)
    (case i_Table_parts_by => kernel_rfl)
    (case l_Table_parts_by => k_is)
    (case c_Table_parts_by => k_is)
    (case k_Table_parts_by => k_is)
    (case a_Table_first_none => k_is)
    (case i_Table_first_none => kernel_rfl)
    (case l_Table_first_none => k_is)
    (case c_Table_first_none => k_is)
    (case k_Table_first_none => k_is)
    (case a_Table_look_at_order => k_is)
    (case i_Table_look_at_order => kernel_rfl)
    (case l_Table_look_at_order => k_is)
    (case c_Table_look_at_order => k_is)
    (case k_Table_look_at_order => k_is)
    (case a_next_of => k_is)
    (case l_next_of => k_is)
    (case c_next_of => k_is)
    (case k_next_of => k_is)
    (case a_first_bad => k_is)
    (case l_first_bad => k_is)
    (case c_first_bad => k_is)
    (case k_first_bad => k_is)
    (case a_Table_look_at_there => k_is)
    (case i_Table_look_at_there => kernel_rfl)
    (case l_Table_look_at_there => k_is)
    (case c_Table_look_at_there => k_is)
    (case k_Table_look_at_there => k_is)
    (case t_Table_look_at_there => kernel_rfl)
    (case a_Table_is_key => k_is)
    (case i_Table_is_key => kernel_rfl)
    (case l_Table_is_key => k_is)
    (case c_Table_is_key => k_is)
    (case k_Table_is_key => k_is)
    (case a_Table_look_at_keys => k_is)
    (case i_Table_look_at_keys => kernel_rfl)
    (case l_Table_look_at_keys => k_is)
    (case c_Table_look_at_keys => k_is)
    (case k_Table_look_at_keys => k_is)
    (case t_Table_look_at_keys => kernel_rfl)
    (case a_Table_is_row => k_is)
    (case i_Table_is_row => kernel_rfl)
    (case l_Table_is_row => k_is)
    (case c_Table_is_row => k_is)
    (case k_Table_is_row => k_is)
    (case a_Table_look_at_rows => k_is)
    (case i_Table_look_at_rows => kernel_rfl)
    (case l_Table_look_at_rows => k_is)
    (case c_Table_look_at_rows => k_is)
    (case k_Table_look_at_rows => k_is)
    (case t_Table_look_at_rows => kernel_rfl)
    (case a_first_again => k_is)
    (case l_first_again => k_is)
    (case c_first_again => k_is)
    (case k_first_again => k_is)
    (case a_is_name => k_is)
    (case l_is_name => k_is)
    (case c_is_name => k_is)
    (case k_is_name => k_is)
    (case a_Table_look_at_columns => k_is)
    (case i_Table_look_at_columns => kernel_rfl)
    (case l_Table_look_at_columns => k_is)
    (case c_Table_look_at_columns => k_is)
    (case k_Table_look_at_columns => k_is)
    (case a_Table___init__ => k_is)
    (case i_Table___init__ => kernel_rfl)
    (case l_Table___init__ => k_is)
    (case c_Table___init__ => k_is)
    (case k_Table___init__ => k_is)
    (case d_Table___init___keys => k_is)
    (case lTable___init___keys_0 => k_is)
    (case d_Table___init___there => k_is)
    (case lTable___init___there_0 => k_is)
    (case d_Table___init___order => k_is)
    (case lTable___init___order_0 => k_is)
    (case d_Table___init___house => k_is)
    (case a__law_is_house => k_is)
    (case l__law_is_house => k_is)
    (case c__law_is_house => k_is)
    (case k__law_is_house => k_is)
    (case a__law_take => k_is)
    (case l__law_take => k_is)
    (case c__law_take => k_is)
    (case k__law_take => k_is)
    (case a__law_pool => k_is)
    (case l__law_pool => k_is)
    (case c__law_pool => k_is)
    (case k__law_pool => k_is)
    (case a_Table_rows => k_is)
    (case i_Table_rows => kernel_rfl)
    (case l_Table_rows => k_is)
    (case c_Table_rows => k_is)
    (case k_Table_rows => k_is)
    (case a_law => k_is)
    (case l_law => k_is)
    (case c_law => k_is)
    (case k_law => k_is)
    (case n_HOUSES => k_is)
    (case n_LETTERS => k_is)
    (case n_MOST_COLUMNS => k_is)
    (case n_MOST_KEYS => k_is)
    (case n_MOST_NAME => k_is)
    (case n_MOST_ROWS => k_is)
    (case n_MOST_VALUE => k_is)
    (case z_deep => k_is)
    (case z_here => k_is)
    (case z_lam => k_is)
    (case z_abs => k_is)
    (case z_all => k_is)
    (case z_bool => k_is)
    (case z_enumerate => k_is)
    (case z_int => k_is)
    (case z_isinstance => k_is)
    (case z_len => k_is)
    (case z_list => k_is)
    (case z_max => k_is)
    (case z_min => k_is)
    (case z_range => k_is)
    (case z_set => k_is)
    (case z_str => k_is)
    (case z_tuple => k_is)
    (case p_Table => kernel_rfl)
    (case r_Table => kernel_rfl)
    (case n_Table => kernel_rfl)
    (case mk_Table => kernel_rfl)
    (case kp_Table => k_is)
#print axioms PySem.Challenge.cw_groupedplans_k04_values_and_houses_holds
