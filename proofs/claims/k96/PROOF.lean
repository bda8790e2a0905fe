import PyProof.Rows.All
import Wide.All
import OpenK.AllK
import Wide.FinOn
import HandS.Base
import HandS.Call
import HandS.List
import HandS.Comp
import HandS.Ends
import HandS.Dict
import HandS.Exc
import HandS.ExcOwn
import HandS.TupAny
import HandS.Words
import HandS.WordsList
import HandS.WordsDict
import HandS.WordsExc
import HandS.HeadHook1
import HandS.More
import HandS.Wide
import HandS.IsInst
import HandS.Text
import HandS.Style
import KE.KDictPairs
import HandS.Defaults
import HandS.ExcField
import HandS.HeadHook2
import HandS.Head2
import HandS.HeadEnd
import KE.SortData
import KE.DataMinMax
import HandS.TryMany
import HandS.ExcInit
import HandS.ExcSuper
import KE.KSuper
import HandS.SortRule
import HandS.DictTup
import HandS.ListItems
import HandS.SetTxt0
import HandS.SetFor
import HandS.Strs
import HandS.TupSets
import HandS.RepeatKit
import KE.DataEq
import PySem.Challenge.RW_kilnrow_k96_whole_given_texts_out_of_a_m
set_option Elab.async false
-- Pin1
section
set_option linter.all false
set_option maxRecDepth 100000
set_option maxHeartbeats 2000000
/-! Pin, part 1: Python data as PyData, mutable objects in a list of their own, what a piece of a program means as a Lean function of slots and objects, and how such a meaning is held by the layer's readings. -/
namespace Pin
open PySem PySem.Spec PyProof.Rows L2

abbrev D := PyData
abbrev KF := PySem.W.Frag

/-! ### data in the heap; Z: the addresses that data may not use (objects that change) -/
def LstK (K : KF) (a : Addr) (xs : List V) : Prop :=
  ∃ (o : Obj) (its : Array Value) (n : Nat), K.lookup a = some o ∧ o.cls = .type "list" ∧ o.dict = none ∧ o.data = .seq its n ∧ its.size ≤ sizeLine ∧ Vals xs its.toList
def TupK (K : KF) (a : Addr) (xs : List V) : Prop :=
  ∃ (o : Obj) (its : Array Value) (n : Nat), K.lookup a = some o ∧ o.cls = .type "tuple" ∧ o.data = .seq its n ∧ its.size ≤ sizeLine ∧ Vals xs its.toList ∧ o.dict = none
theorem TupK.sq {K : KF} {H : Hp} {a : Addr} {xs : List V} (h : TupK K a xs) : SqT K H a xs := let ⟨o, its, n, h1, h2, h3, h4, h5, _⟩ := h; .inr ⟨o, its, n, h1, h2, h3, h4, h5⟩
/-- a tuple of ours: the very object is known to have no dict of its own -/
def FT (H : Hp) (a : Addr) (xs : List V) : Prop := ∃ o : Obj, H a = some (.frz o (.tup xs)) ∧ o.dict = none
theorem FT.sq {K : KF} {H : Hp} {a : Addr} {xs : List V} (h : FT H a xs) : SqT K H a xs := let ⟨o, e, _⟩ := h; .inl (.inr ⟨o, e⟩)
mutual
inductive DR (K : KF) (Z : Addr → Prop) (H : Hp) : V → D → Prop
  | non : DR K Z H .non .none
  | bl (b : Bool) : DR K Z H (.bl b) (.bool b)
  | int (i : Int) : DR K Z H (.int i) (.int i)
  | str (x : Str) : PyData.strOk x = true → DR K Z H (.str x) (.str x)
  | lst {a : Addr} {xs : List V} {ds : List D} : ¬ Z a → Rd H a (.lst xs) → DRs K Z H xs ds → DR K Z H (.ref a) (.list ds)
  | lstK {a : Addr} {xs : List V} {ds : List D} : LstK K a xs → DRs K Z H xs ds → DR K Z H (.ref a) (.list ds)
  | tup {a : Addr} {xs : List V} {ds : List D} : ¬ Z a → FT H a xs → DRs K Z H xs ds → DR K Z H (.ref a) (.tuple ds)
  | tupK {a : Addr} {xs : List V} {ds : List D} : TupK K a xs → DRs K Z H xs ds → DR K Z H (.ref a) (.tuple ds)
inductive DRs (K : KF) (Z : Addr → Prop) (H : Hp) : List V → List D → Prop
  | nil : DRs K Z H [] []
  | cons {v : V} {vs : List V} {d : D} {ds : List D} : DR K Z H v d → DRs K Z H vs ds → DRs K Z H (v :: vs) (d :: ds)
end

section
variable {K : KF} {Z Z' : Addr → Prop} {H H' : Hp}
/-- how data stays: every object outside Z stays, and outside Z' -/
theorem Rd.stay {a : Addr} {u : HO} (k : ∀ a o, H a = some o → ¬ Z a → H' a = some o) (hz : ¬ Z a) (r : Rd H a u) : Rd H' a u := by
  rcases r with r | ⟨o, r⟩
  · exact .inl (k _ _ r hz)
  · exact .inr ⟨o, k _ _ r hz⟩
theorem Rd.some {a : Addr} {u : HO} (r : Rd H a u) : ∃ o, H a = some o := by
  rcases r with r | ⟨o, r⟩
  · exact ⟨_, r⟩
  · exact ⟨_, r⟩
theorem FT.stay {a : Addr} {xs : List V} (k : ∀ a o, H a = some o → ¬ Z a → H' a = some o) (hz : ¬ Z a) (r : FT H a xs) : FT H' a xs := let ⟨o, e, d⟩ := r; ⟨o, k _ _ e hz, d⟩
theorem FT.some {a : Addr} {xs : List V} (r : FT H a xs) : ∃ o, H a = some o := let ⟨o, e, _⟩ := r; ⟨_, e⟩
mutual
theorem DR.stay (k : ∀ a o, H a = some o → ¬ Z a → H' a = some o) (z : ∀ a, Z' a → ¬ Z a → H a = none) : ∀ {v : V} {d : D}, DR K Z H v d → DR K Z' H' v d
  | _, _, .non => .non
  | _, _, .bl b => .bl b
  | _, _, .int i => .int i
  | _, _, .str x h => .str x h
  | _, _, .lst (a := a) hz hr hs => .lst (fun h => by obtain ⟨o, e⟩ := Rd.some hr; rw [z a h hz] at e; cases e) (Rd.stay k hz hr) (DRs.stay k z hs)
  | _, _, .lstK hk hs => .lstK hk (DRs.stay k z hs)
  | _, _, .tup (a := a) hz hr hs => .tup (fun h => by obtain ⟨o, e⟩ := FT.some hr; rw [z a h hz] at e; cases e) (FT.stay k hz hr) (DRs.stay k z hs)
  | _, _, .tupK hk hs => .tupK hk (DRs.stay k z hs)
theorem DRs.stay (k : ∀ a o, H a = some o → ¬ Z a → H' a = some o) (z : ∀ a, Z' a → ¬ Z a → H a = none) : ∀ {vs : List V} {ds : List D}, DRs K Z H vs ds → DRs K Z' H' vs ds
  | _, _, .nil => .nil
  | _, _, .cons h t => .cons (DR.stay k z h) (DRs.stay k z t)
end
/-- fewer addresses are forbidden -/
theorem DR.less (z : ∀ a, Z' a → Z a) {v : V} {d : D} (h : DR K Z H v d) : DR K Z' H v d := DR.stay (fun _ _ e _ => e) (fun a h n => absurd (z a h) n) h
theorem DRs.less (z : ∀ a, Z' a → Z a) {v : List V} {d : List D} (h : DRs K Z H v d) : DRs K Z' H v d := DRs.stay (fun _ _ e _ => e) (fun a h n => absurd (z a h) n) h
mutual
theorem DR.dp : ∀ {v : V} {d : D}, DR K Z H v d → Dp K H v d
  | _, _, .non => .non
  | _, _, .bl b => .bl b
  | _, _, .int i => .int i
  | _, _, .str x _ => .str x
  | _, _, .lst _ hr hs => .lst (.inl hr) (DRs.dp hs)
  | _, _, .lstK hk hs => .lst (.inr hk) (DRs.dp hs)
  | _, _, .tup _ hr hs => .tup hr.sq (DRs.dp hs)
  | _, _, .tupK hk hs => .tup hk.sq (DRs.dp hs)
theorem DRs.dp : ∀ {vs : List V} {ds : List D}, DRs K Z H vs ds → DpAll K H vs ds
  | _, _, .nil => .nil
  | _, _, .cons h t => .cons (DR.dp h) (DRs.dp t)
end
mutual
theorem DR.lay : ∀ {v : V} {d : D}, DR K Z H v d → d.canLay0 = true
  | _, _, .non => rfl
  | _, _, .bl b => rfl
  | _, _, .int i => rfl
  | _, _, .str x h => by simpa [PyData.canLay0] using h
  | _, _, .lst _ _ hs => by simpa [PyData.canLay0] using DRs.lay hs
  | _, _, .lstK _ hs => by simpa [PyData.canLay0] using DRs.lay hs
  | _, _, .tup _ _ hs => by simpa [PyData.canLay0] using DRs.lay hs
  | _, _, .tupK _ hs => by simpa [PyData.canLay0] using DRs.lay hs
theorem DRs.lay : ∀ {vs : List V} {ds : List D}, DRs K Z H vs ds → PyData.canLayAll0 ds = true
  | _, _, .nil => by simp [PyData.canLayAll0]
  | _, _, .cons h t => by simp [PyData.canLayAll0, DR.lay h, DRs.lay t]
end
theorem DRs.length : ∀ {vs : List V} {ds : List D}, DRs K Z H vs ds → vs.length = ds.length
  | _, _, .nil => rfl
  | _, _, .cons _ t => by simp [DRs.length t]
theorem DRs.append : ∀ {vs ws : List V} {ds es : List D}, DRs K Z H vs ds → DRs K Z H ws es → DRs K Z H (vs ++ ws) (ds ++ es)
  | _, _, _, _, .nil, h => h
  | _, _, _, _, .cons h t, s => .cons h (DRs.append t s)
theorem DRs.get : ∀ {vs : List V} {ds : List D} {i : Nat} {d : D}, DRs K Z H vs ds → ds[i]? = some d → ∃ v, vs[i]? = some v ∧ DR K Z H v d
  | _, _, _, _, .nil, e => by simp at e
  | _, _, 0, _, .cons h t, e => by simp at e; subst e; exact ⟨_, rfl, h⟩
  | _, _, i + 1, _, .cons h t, e => by
    obtain ⟨v, h1, h2⟩ := DRs.get (i := i) t (by simpa using e)
    exact ⟨v, by simpa using h1, h2⟩
theorem DRs.getV : ∀ {vs : List V} {ds : List D} {i : Nat} {v : V}, DRs K Z H vs ds → vs[i]? = some v → ∃ d, ds[i]? = some d ∧ DR K Z H v d
  | _, _, _, _, .nil, e => by simp at e
  | _, _, 0, _, .cons h t, e => by simp at e; subst e; exact ⟨_, rfl, h⟩
  | _, _, i + 1, _, .cons h t, e => by
    obtain ⟨d, h1, h2⟩ := DRs.getV (i := i) t (by simpa using e)
    exact ⟨d, by simpa using h1, h2⟩
theorem DRs.drop : ∀ {vs : List V} {ds : List D} (n : Nat), DRs K Z H vs ds → DRs K Z H (vs.drop n) (ds.drop n)
  | _, _, 0, r => r
  | _, _, _ + 1, .nil => .nil
  | _, _, n + 1, .cons _ t => DRs.drop n t
theorem DRs.take : ∀ {vs : List V} {ds : List D} (n : Nat), DRs K Z H vs ds → DRs K Z H (vs.take n) (ds.take n)
  | _, _, 0, _ => .nil
  | _, _, _ + 1, .nil => .nil
  | _, _, n + 1, .cons r t => .cons r (DRs.take n t)
end

/-! ### objects that change; values -/
/-- a value: data, or one of the objects that change -/
inductive AV where
  | d (x : D)
  | r (n : Nat)
inductive AObj where
  | lst (xs : List D)
  | dct (kvs : List (Str × D))
  | ins (C : Str) (fs : List (Str × AV))
abbrev AH := List AObj
abbrev Sl := List (Option AV)

section
variable (K : KF) (Z : Addr → Prop) (m : List Addr) (H : Hp)
def Zm (Z : Addr → Prop) (m : List Addr) : Addr → Prop := fun a => Z a ∨ a ∈ m
def AVR : V → AV → Prop
  | v, .d x => DR K (Zm Z m) H v x
  | v, .r n => ∃ a, m[n]? = some a ∧ v = .ref a
def KVR : List (Key × V) → List (Str × D) → Prop := Paired fun p q => p.1 = .inr q.1 ∧ PyData.strOk q.1 = true ∧ DR K (Zm Z m) H p.2 q.2
def FR : List (Str × V) → List (Str × AV) → Prop := Paired fun p q => p.1 = q.1 ∧ AVR K Z m H p.2 q.2
def OR (a : Addr) : AObj → Prop
  | .lst xs => ∃ vs, H a = some (.lst vs) ∧ DRs K (Zm Z m) H vs xs
  | .dct kvs => ∃ ws, H a = some (.dK ws) ∧ KVR K Z m H ws kvs
  | .ins C fs => ∃ dx ws, H a = some (.ins (He.ga K C) dx ws) ∧ FR K Z m H ws fs
structure Rel (hp : AH) : Prop where
  len : m.length = hp.length
  nd : m.Nodup
  off : ∀ a ∈ m, ¬ Z a
  trk : ∀ a, Z a → ∃ o, H a = some o
  obs : ∀ (i : Nat) (a : Addr) (o : AObj), m[i]? = some a → hp[i]? = some o → OR K Z m H a o
/-- slots: an empty one says nothing -/
def SlR (σ : L2.St) (env : Sl) : Prop := Paired (fun (s : Option V) (e : Option AV) => ∀ av, e = some av → ∃ v, s = some v ∧ AVR K Z m H v av) σ env
structure At (σ : L2.St) (env : Sl) (hp : AH) : Prop where
  rel : Rel K Z m H hp
  sl : SlR K Z m H σ env
/-- from one state to a later one -/
structure Go (m' : List Addr) (H' : Hp) : Prop where
  pre : m <+: m'
  new : ∀ a ∈ m', a ∉ m → H a = none
  keep : ∀ a o, H a = some o → a ∉ m → H' a = some o
end

section
variable {K : KF} {Z : Addr → Prop} {m m' m1 m2 : List Addr} {H H' H1 H2 : Hp} {hp hp' : AH} {σ : L2.St} {env : Sl}
theorem Go.refl : Go m H m H := ⟨List.prefix_refl m, fun a h n => absurd h n, fun _ _ e _ => e⟩
theorem Go.trans (a : Go m H m1 H1) (b : Go m1 H1 m2 H2) : Go m H m2 H2 where
  pre := a.pre.trans b.pre
  new := fun x h n => by
    by_cases h1 : x ∈ m1
    · exact a.new x h1 n
    · have e := b.new x h h1
      cases q : H x with
      | none => rfl
      | some o => rw [a.keep x o q n] at e; cases e
  keep := fun x o e n => by
    refine b.keep x o (a.keep x o e n) fun h => ?_
    rw [a.new x h n] at e; cases e
theorem Go.dk (g : Go m H m' H') : ∀ a o, H a = some o → ¬ Zm Z m a → H' a = some o := fun a o e n => g.keep a o e fun h => n (.inr h)
theorem Go.dz (g : Go m H m' H') : ∀ a, Zm Z m' a → ¬ Zm Z m a → H a = none := fun a h n => by
  rcases h with h | h
  · exact absurd (.inl h) n
  · exact g.new a h fun h' => n (.inr h')
theorem DR.go (g : Go m H m' H') {v : V} {d : D} (h : DR K (Zm Z m) H v d) : DR K (Zm Z m') H' v d := DR.stay g.dk g.dz h
theorem DRs.go (g : Go m H m' H') {v : List V} {d : List D} (h : DRs K (Zm Z m) H v d) : DRs K (Zm Z m') H' v d := DRs.stay g.dk g.dz h
theorem pre_get {n : Nat} {a : Addr} (h : m <+: m') (e : m[n]? = some a) : m'[n]? = some a := by
  obtain ⟨r, rfl⟩ := h
  have l : n < m.length := (List.getElem?_eq_some_iff.mp e).1
  rw [List.getElem?_append_left l]; exact e
theorem AVR.go (g : Go m H m' H') {v : V} {a : AV} (h : AVR K Z m H v a) : AVR K Z m' H' v a := by
  cases a with
  | d x => exact DR.go g h
  | r n => obtain ⟨a, e, r⟩ := h; exact ⟨a, pre_get g.pre e, r⟩
theorem Paired.imp {α β : Type} {F G : α → β → Prop} (f : ∀ a b, F a b → G a b) : ∀ {l₁ : List α} {l₂ : List β}, Paired F l₁ l₂ → Paired G l₁ l₂
  | _, _, .nil => .nil
  | _, _, .cons r t => .cons (f _ _ r) (Paired.imp f t)
theorem KVR.go (g : Go m H m' H') {ws : List (Key × V)} {kvs : List (Str × D)} (h : KVR K Z m H ws kvs) : KVR K Z m' H' ws kvs := Paired.imp (fun _ _ h => ⟨h.1, h.2.1, DR.go g h.2.2⟩) h
theorem FR.go (g : Go m H m' H') {ws : List (Str × V)} {fs : List (Str × AV)} (h : FR K Z m H ws fs) : FR K Z m' H' ws fs := Paired.imp (fun _ _ h => ⟨h.1, AVR.go g h.2⟩) h
theorem SlR.go (g : Go m H m' H') (h : SlR K Z m H σ env) : SlR K Z m' H' σ env := Paired.imp (fun _ _ h av e => let ⟨v, e', r⟩ := h av e; ⟨v, e', AVR.go g r⟩) h
/-- an object that stands as it stood -/
theorem OR.go (g : Go m H m' H') {a : Addr} {o : AObj} (e : H' a = H a) (h : OR K Z m H a o) : OR K Z m' H' a o := by
  cases o with
  | lst xs => obtain ⟨vs, e1, r⟩ := h; exact ⟨vs, e.trans e1, DRs.go g r⟩
  | dct kvs => obtain ⟨ws, e1, r⟩ := h; exact ⟨ws, e.trans e1, KVR.go g r⟩
  | ins C fs => obtain ⟨dx, ws, e1, r⟩ := h; exact ⟨dx, ws, e.trans e1, FR.go g r⟩
theorem OR.some {a : Addr} {o : AObj} (h : OR K Z m H a o) : ∃ u, H a = some u := by
  cases o with
  | lst xs => obtain ⟨_, e, _⟩ := h; exact ⟨_, e⟩
  | dct kvs => obtain ⟨_, e, _⟩ := h; exact ⟨_, e⟩
  | ins C fs => obtain ⟨_, _, e, _⟩ := h; exact ⟨_, e⟩
theorem Rel.trkm (r : Rel K Z m H hp) {a : Addr} (h : a ∈ m) : ∃ o, H a = some o := by
  obtain ⟨i, hi, e⟩ := List.getElem_of_mem h
  have hi' : i < hp.length := by rw [← r.len]; exact hi
  exact OR.some (r.obs i a hp[i] (by rw [List.getElem?_eq_getElem hi, e]) (List.getElem?_eq_getElem hi'))
theorem Rel.zm (r : Rel K Z m H hp) {a : Addr} (h : H a = none) : ¬ Zm Z m a := fun z => by
  rcases z with z | z
  · obtain ⟨o, e⟩ := r.trk a z; rw [h] at e; cases e
  · obtain ⟨o, e⟩ := r.trkm z; rw [h] at e; cases e
/-- a new object comes beside -/
theorem Go.fresh (r : Rel K Z m H hp) {p : Addr} {o : HO} (h : H p = none) : Go m H m (upd H p o) := ⟨List.prefix_refl m, fun a h n => absurd h n, fun a u e _ => by rw [upd_ne (ne_of_none e h)]; exact e⟩
theorem Rel.fresh (r : Rel K Z m H hp) {p : Addr} {o : HO} (h : H p = none) : Rel K Z m (upd H p o) hp :=
  ⟨r.len, r.nd, r.off, fun a z => by obtain ⟨u, e⟩ := r.trk a z; exact ⟨u, by rw [upd_ne (ne_of_none e h)]; exact e⟩, fun i a u e1 e2 => by
    have x := r.obs i a u e1 e2
    obtain ⟨w, e3⟩ := OR.some x
    exact OR.go (Go.fresh r h) (by rw [upd_ne (ne_of_none e3 h)]) x⟩
/-- .. and is one of the objects that change from now on -/
theorem Go.alloc (r : Rel K Z m H hp) {p : Addr} {o : HO} (h : H p = none) : Go m H (m ++ [p]) (upd H p o) :=
  ⟨List.prefix_append m _, fun a hm n => by rcases List.mem_append.mp hm with q | q; exact absurd q n; rw [List.mem_singleton.mp q]; exact h, fun a u e _ => by rw [upd_ne (ne_of_none e h)]; exact e⟩
theorem Rel.alloc (r : Rel K Z m H hp) {p : Addr} {o : HO} {ao : AObj} (h : H p = none) (ho : OR K Z (m ++ [p]) (upd H p o) p ao) : Rel K Z (m ++ [p]) (upd H p o) (hp ++ [ao]) := by
  have np : p ∉ m := fun q => r.zm h (.inr q)
  have nz : ¬ Z p := fun q => r.zm h (.inl q)
  refine ⟨by simp [r.len], ?_, fun a hm => ?_, fun a z => by obtain ⟨u, e⟩ := r.trk a z; exact ⟨u, by rw [upd_ne (ne_of_none e h)]; exact e⟩, fun i a u e1 e2 => ?_⟩
  · exact List.nodup_append.mpr ⟨r.nd, List.nodup_cons.mpr ⟨by simp, List.nodup_nil⟩, fun a ha b hb e => np (by rw [← List.mem_singleton.mp hb, ← e]; exact ha)⟩
  · rcases List.mem_append.mp hm with q | q
    · exact r.off a q
    · rw [List.mem_singleton.mp q]; exact nz
  · by_cases hi : i < m.length
    · rw [List.getElem?_append_left hi] at e1
      rw [List.getElem?_append_left (by rw [← r.len]; exact hi)] at e2
      have x := r.obs i a u e1 e2
      obtain ⟨w, e3⟩ := OR.some x
      exact OR.go (Go.alloc r h) (by rw [upd_ne (ne_of_none e3 h)]) x
    · have hl := (List.getElem?_eq_some_iff.mp e1).1
      rw [List.length_append, List.length_singleton] at hl
      have e : i = m.length := by omega
      subst e
      rw [List.getElem?_append_right (Nat.le_refl _), Nat.sub_self] at e1
      rw [r.len, List.getElem?_append_right (Nat.le_refl _), Nat.sub_self] at e2
      simp only [List.getElem?_cons_zero, Option.some.injEq] at e1 e2
      subst e1 e2
      exact ho
/-- an object that changes is changed -/
theorem Go.write (r : Rel K Z m H hp) {a : Addr} {o : HO} (h : a ∈ m) : Go m H m (upd H a o) := ⟨List.prefix_refl m, fun a h n => absurd h n, fun b u e n => by rw [upd_ne (fun q => n (by rw [q]; exact h))]; exact e⟩
theorem Rel.write (r : Rel K Z m H hp) {i : Nat} {a : Addr} {o : HO} {ao : AObj} (e : m[i]? = some a) (ho : OR K Z m (upd H a o) a ao) : Rel K Z m (upd H a o) (hp.set i ao) := by
  have hm : a ∈ m := List.mem_of_getElem? e
  refine ⟨by simp [r.len], r.nd, r.off, fun b z => ?_, fun j b u e1 e2 => ?_⟩
  · obtain ⟨u, q⟩ := r.trk b z
    exact ⟨u, by rw [upd_ne (fun q' => r.off a hm (by rw [← q']; exact z))]; exact q⟩
  · by_cases hj : j = i
    · subst hj
      rw [e] at e1; cases e1
      have hl : j < hp.length := by rw [← r.len]; exact (List.getElem?_eq_some_iff.mp e).1
      rw [List.getElem?_set_self hl] at e2; cases e2
      exact ho
    · have hb : b ≠ a := fun q => by
        subst q
        exact hj ((List.getElem?_inj (List.getElem?_eq_some_iff.mp e1).1 r.nd).mp (e1.trans e.symm))
      rw [List.getElem?_set_ne (fun q => hj q.symm)] at e2
      exact OR.go (Go.write r hm) (upd_ne hb) (r.obs j b u e1 e2)
theorem At.go (g : Go m H m' H') (r : Rel K Z m' H' hp') (a : At K Z m H σ env hp) : At K Z m' H' σ env hp' := ⟨r, SlR.go g a.sl⟩
end

/-! ### outcomes -/
/-- an exception: its class, its fields -/
structure Exn where
  cls : Str
  fs : List (Str × D)
inductive Out (α : Type) where
  | ok (a : α) (h : AH)
  | exc (x : Exn) (h : AH)
  | bad
def Out.bind {α β : Type} (o : Out α) (k : α → AH → Out β) : Out β := match o with
  | .ok a h => k a h
  | .exc x h => .exc x h
  | .bad => .bad
inductive OutS where
  | nx (e : Sl) (h : AH)
  | rt (a : AV) (h : AH)
  | bk (e : Sl) (h : AH)
  | ct (e : Sl) (h : AH)
  | exc (x : Exn) (e : Sl) (h : AH)
  | bad
abbrev Fe := Sl → AH → Out AV
abbrev Ft := Sl → AH → Out Bool
abbrev Fa := Sl → AH → Out (List AV)
abbrev Fs := Sl → AH → OutS

section
variable (K : KF)
def ExR (Z : Addr → Prop) (m : List Addr) (H : Hp) (x : Exn) (cls : Value) (d : Option Addr) : Prop :=
  cls = .ref (He.ga K x.cls) ∧ (x.fs = [] ∨ ∃ dd ws, d = some dd ∧ H dd = some (.xd ws) ∧ Paired (fun p q => p.1 = q.1 ∧ DR K (Zm Z m) H p.2 q.2) ws x.fs)
variable (W : WX) (Z : Addr → Prop) (m : List Addr) (σ : L2.St) (H : Hp)
/-- an outcome is what is wanted -/
def Wp {α : Type} (o : Out α) (R : α → AH → List Addr → Hp → Prop) : Prop := match o with
  | .ok a h => ∀ m' H', Go m H m' H' → Rel K Z m' H' h → R a h m' H'
  | .exc x h => ∀ m' H' cls d, Go m H m' H' → Rel K Z m' H' h → ExR K Z m' H' x cls d → W cls d σ H'
  | .bad => False
def tE (f : Fe) : TE := fun σ H Q => ∃ Z m env hp, At K Z m H σ env hp ∧ Wp K W Z m σ H (f env hp) fun a _ m' H' => ∀ v, AVR K Z m' H' v a → Q v H'
def tT (f : Ft) : TT := fun σ H Q => ∃ Z m env hp, At K Z m H σ env hp ∧ Wp K W Z m σ H (f env hp) fun b _ _ H' => Q b H'
def AVRs (Z : Addr → Prop) (m : List Addr) (H : Hp) : List V → List AV → Prop := Paired (AVR K Z m H)
def tA (f : Fa) : TA := fun σ H Q => ∃ Z m env hp, At K Z m H σ env hp ∧ Wp K W Z m σ H (f env hp) fun as _ m' H' => ∀ vs, AVRs K Z m' H' vs as → Q vs H'
def WpS (o : OutS) (De : Ends) : Prop := match o with
  | .nx e h => ∀ m' H' σ', Go m H m' H' → Rel K Z m' H' h → SlR K Z m' H' σ' e → De.nx σ' H'
  | .rt a h => ∀ m' H' v, Go m H m' H' → Rel K Z m' H' h → AVR K Z m' H' v a → De.rt v H'
  | .bk e h => ∀ m' H' σ', Go m H m' H' → Rel K Z m' H' h → SlR K Z m' H' σ' e → De.bk σ' H'
  | .ct e h => ∀ m' H' σ', Go m H m' H' → Rel K Z m' H' h → SlR K Z m' H' σ' e → De.ct σ' H'
  | .exc x e h => ∀ m' H' σ' cls d, Go m H m' H' → Rel K Z m' H' h → SlR K Z m' H' σ' e → ExR K Z m' H' x cls d → W cls d σ' H'
  | .bad => False
def tS (g : Fs) : TS := fun De σ H => ∃ Z m env hp, At K Z m H σ env hp ∧ WpS K W Z m H (g env hp) De
end

section
variable {K : KF} {W : WX} {Z : Addr → Prop} {m m' m1 : List Addr} {σ : L2.St} {H H1 H' : Hp} {hp : AH} {env : Sl}
theorem Wp.go {α : Type} {o : Out α} {R : α → AH → List Addr → Hp → Prop} (g : Go m H m1 H1) (h : Wp K W Z m σ H o R) : Wp K W Z m1 σ H1 o R := by
  cases o with
  | ok a hp => exact fun m' H' g' r => h m' H' (g.trans g') r
  | exc x hp => exact fun m' H' c d g' r => h m' H' c d (g.trans g') r
  | bad => exact h
theorem Wp.bind {α β : Type} {o : Out α} {k : α → AH → Out β} {R : β → AH → List Addr → Hp → Prop} (h : Wp K W Z m σ H (o.bind k) R) : Wp K W Z m σ H o fun a hp' m1 H1 => Go m H m1 H1 ∧ Rel K Z m1 H1 hp' ∧ Wp K W Z m1 σ H1 (k a hp') R := by
  cases o with
  | ok a hp' => exact fun m1 H1 g r => ⟨g, r, Wp.go (o := k a hp') g h⟩
  | exc x hp' => exact h
  | bad => exact h
theorem Wp.imp {α : Type} {o : Out α} {R R' : α → AH → List Addr → Hp → Prop} (h : Wp K W Z m σ H o R) (f : ∀ a hp' m' H', Go m H m' H' → Rel K Z m' H' hp' → R a hp' m' H' → R' a hp' m' H') : Wp K W Z m σ H o R' := by
  cases o with
  | ok a hp => exact fun m' H' g r => f _ _ _ _ g r (h m' H' g r)
  | exc x hp => exact h
  | bad => exact h
theorem WpS.go {o : OutS} {De : Ends} (g : Go m H m1 H1) (h : WpS K W Z m H o De) : WpS K W Z m1 H1 o De := by
  cases o with
  | nx e hp => exact fun m' H' s g' r => h m' H' s (g.trans g') r
  | rt a hp => exact fun m' H' v g' r => h m' H' v (g.trans g') r
  | bk e hp => exact fun m' H' s g' r => h m' H' s (g.trans g') r
  | ct e hp => exact fun m' H' s g' r => h m' H' s (g.trans g') r
  | exc x e hp => exact fun m' H' s c d g' r => h m' H' s c d (g.trans g') r
  | bad => exact h
end

/-! ### the judgements -/
theorem PE.imp {X : Cx} {e : Expr} {t t' : TE} (h : PE X e t) (f : ∀ σ H Q, t' σ H Q → t σ H Q) : PE X e t' := ⟨fun pins s σ H Q I q => h.run pins s σ H Q I (f σ H Q q)⟩
theorem PT.imp {X : Cx} {e : Expr} {t t' : TT} (h : PT X e t) (f : ∀ σ H Q, t' σ H Q → t σ H Q) : PT X e t' := ⟨fun pins s σ H Q I q => h.run pins s σ H Q I (f σ H Q q)⟩
theorem PW.imp {X : Cx} {e : Expr} {t t' : TT} (h : PW X e t) (f : ∀ σ H Q, t' σ H Q → t σ H Q) : PW X e t' := ⟨fun wh pins s σ H Q I q => h.run wh pins s σ H Q I (f σ H Q q)⟩
theorem PA.imp {X : Cx} {e : List Expr} {t t' : TA} (h : PA X e t) (f : ∀ σ H Q, t' σ H Q → t σ H Q) : PA X e t' := ⟨fun pos pins s σ H Q I q => h.run pos pins s σ H Q I (f σ H Q q)⟩
theorem PS.imp {X : Cx} {e : Stmt} {t t' : TS} (h : PS X e t) (f : ∀ D σ H, t' D σ H → t D σ H) : PS X e t' := ⟨fun pins s σ H D I q => h.run pins s σ H D I (f D σ H q)⟩
theorem PSs.imp {X : Cx} {e : List Stmt} {t t' : TS} (h : PSs X e t) (f : ∀ D σ H, t' D σ H → t D σ H) : PSs X e t' := ⟨fun pins s σ H D I q => h.run pins s σ H D I (f D σ H q)⟩

abbrev CE (X : Cx) (W : WX) (e : Expr) (f : Fe) : Prop := PE X e (tE X.K W f)
abbrev CT (X : Cx) (W : WX) (e : Expr) (f : Ft) : Prop := PT X e (tT X.K W f)
abbrev CW (X : Cx) (W : WX) (e : Expr) (f : Ft) : Prop := PW X e (tT X.K W f)
abbrev CA (X : Cx) (W : WX) (e : List Expr) (f : Fa) : Prop := PA X e (tA X.K W f)
abbrev CS (X : Cx) (W : WX) (e : Stmt) (g : Fs) : Prop := PS X e (tS X.K W g)
abbrev CSs (X : Cx) (W : WX) (e : List Stmt) (g : Fs) : Prop := PSs X e (tS X.K W g)

/-- what stands around: nothing is being handled, room, exceptions are taken -/
structure Ctx (X : Cx) (W : WX) : Prop where
  calm : X.calm = true
  hu : X.A.units + 100 < cLine
  tk : Takes X W
  po : PassesOwn (model X.prog X.w) X.A X.env X.xe
  nd : X.N.Nodup
end Pin
end
-- Pin2
section
set_option linter.all false
set_option maxRecDepth 100000
set_option maxHeartbeats 2000000
/-! Pin, part 2: expressions. -/
namespace Pin
open PySem PySem.Spec PyProof.Rows L2

section
variable {K : KF} {W : WX} {Z : Addr → Prop} {m m' m1 : List Addr} {σ : L2.St} {H H1 H' : Hp} {hp : AH} {env : Sl} {Q : VK}
abbrev Es (K : KF) (W : WX) (Z : Addr → Prop) (m : List Addr) (σ : L2.St) (H : Hp) (o : Out AV) (Q : VK) : Prop := Wp K W Z m σ H o fun a _ m' H' => ∀ v, AVR K Z m' H' v a → Q v H'
theorem Es.ok {a : AV} {v : V} (h : Es K W Z m σ H (.ok a hp) Q) (r : Rel K Z m H hp) (x : AVR K Z m H v a) : Q v H := h m H .refl r v x
theorem Es.fresh {a : AV} {v : V} {p : Addr} {o : HO} (h : Es K W Z m σ H (.ok a hp) Q) (r : Rel K Z m H hp) (hn : H p = none) (x : AVR K Z m (upd H p o) v a) : Q v (upd H p o) := h m _ (Go.fresh r hn) (Rel.fresh r hn) v x
theorem new_tup {p : Addr} {o : Obj} {vs : List V} {ds : List D} (r : Rel K Z m H hp) (hd : o.dict = none) (hn : H p = none) (h : DRs K (Zm Z m) H vs ds) : AVR K Z m (upd H p (.frz o (.tup vs))) (.ref p) (.d (.tuple ds)) :=
  DR.tup (r.zm hn) ⟨o, upd_same, hd⟩ (DRs.go (Go.fresh r hn) h)
theorem new_lst {p : Addr} {vs : List V} {ds : List D} (r : Rel K Z m H hp) (hn : H p = none) (h : DRs K (Zm Z m) H vs ds) : AVR K Z m (upd H p (.lst vs)) (.ref p) (.d (.list ds)) :=
  DR.lst (r.zm hn) (.inl upd_same) (DRs.go (Go.fresh r hn) h)
theorem Paired.get {α β : Type} {F : α → β → Prop} : ∀ {l₁ : List α} {l₂ : List β} {i : Nat} {b : β}, Paired F l₁ l₂ → l₂[i]? = some b → ∃ a, l₁[i]? = some a ∧ F a b
  | _, _, _, _, .nil, e => by simp at e
  | _, _, 0, _, .cons r t, e => by simp at e; subst e; exact ⟨_, rfl, r⟩
  | _, _, i + 1, _, .cons r t, e => by
    obtain ⟨a, h1, h2⟩ := Paired.get (i := i) t (by simpa using e)
    exact ⟨a, by simpa using h1, h2⟩
theorem Paired.getL {α β : Type} {F : α → β → Prop} : ∀ {l₁ : List α} {l₂ : List β} {i : Nat} {a : α}, Paired F l₁ l₂ → l₁[i]? = some a → ∃ b, l₂[i]? = some b ∧ F a b
  | _, _, _, _, .nil, e => by simp at e
  | _, _, 0, _, .cons r t, e => by simp at e; subst e; exact ⟨_, rfl, r⟩
  | _, _, i + 1, _, .cons r t, e => by
    obtain ⟨a, h1, h2⟩ := Paired.getL (i := i) t (by simpa using e)
    exact ⟨a, by simpa using h1, h2⟩
theorem Rel.obj (r : Rel K Z m H hp) {n : Nat} {a : Addr} {o : AObj} (e : m[n]? = some a) (eo : hp[n]? = some o) : OR K Z m H a o := r.obs n a o e eo
end

/-! ### names, constants -/
def cF (d : D) : Fe := fun _ hp => .ok (.d d) hp
def vF (i : Nat) : Fe := fun env hp => match env[i]? with
  | some (some a) => .ok a hp
  | _ => .bad
section
variable {X : Cx} {W : WX} {pos : Pos}
theorem tC_of {K : KF} {W : WX} {d : D} {v : V} (h : ∀ Z H, DR K Z H v d) : ∀ σ H Q, tE K W (cF d) σ H Q → tC v σ H Q := fun σ H Q ⟨Z, m, env, hp, a, h1⟩ => Es.ok h1 a.rel (h _ _)
theorem ce_int {i : Int} {j} : CE X W (.Constant (.int i) j pos) (cF (.int i)) := PE.imp pe_int (tC_of fun _ _ => .int i)
theorem ce_bl {b : Bool} {j} : CE X W (.Constant (.bool b) j pos) (cF (.bool b)) := PE.imp pe_bl (tC_of fun _ _ => .bl b)
theorem ce_non {j} : CE X W (.Constant .none j pos) (cF .none) := PE.imp pe_non (tC_of fun _ _ => .non)
theorem ce_str {x : Str} {j} (h : PyData.strOk x = true := by decide +kernel) : CE X W (.Constant (.str x) j pos) (cF (.str x)) := PE.imp pe_str (tC_of fun _ _ => .str x h)
theorem ce_var (i : Nat) {x : Str} (hN : X.N[i]? = some x := by rfl) (hv : Vis X.env.scope x := by first | exact Or.inl rfl | exact Or.inr (Or.inl rfl) | exact Or.inr (Or.inr rfl)) (hd : (x == ("__debug__" : Str)) = false := by decide)
    (hcd : (x == ("__classdict__" : Str)) = false := by decide) : CE X W (.Name x pos) (vF i) := PE.imp (pv i hN hv hd hcd) fun σ H Q ⟨Z, m, env, hp, a, h1⟩ => by
  unfold vF at h1
  cases e : env[i]? with
  | none => rw [e] at h1; exact h1.elim
  | some o =>
    rw [e] at h1
    cases o with
    | none => exact h1.elim
    | some av =>
      obtain ⟨s, e1, f⟩ := Paired.get a.sl e
      obtain ⟨v, e2, r⟩ := f av rfl
      exact ⟨v, by rw [e1, e2], Es.ok h1 a.rel r⟩
/-- a module's constant that is data: a tuple that the top has written -/
def DataK (K : KF) (u : Value) (d : D) : Prop := ∃ v, RelV v u ∧ ∀ Z H, DR K Z H v d
theorem ce_glob {x : Str} {u : Value} {d : D} (hg : Gl X x) (hm : X.mg x = some u) (h : DataK X.K u d) (hd : (x == ("__debug__" : Str)) = false := by decide) : CE X W (.Name x pos) (cF d) := by
  obtain ⟨v, r, k⟩ := h
  exact PE.imp (pe_glob hg hm r hd) (tC_of k)
end

/-! ### argument lists, displays -/
def nilF : Fa := fun _ hp => .ok [] hp
def consF (f : Fe) (g : Fa) : Fa := fun env hp => (f env hp).bind fun a h1 => (g env h1).bind fun as h2 => .ok (a :: as) h2
/-- all of them data -/
def dats : List AV → Option (List D)
  | [] => some []
  | .d x :: r => (dats r).map (x :: ·)
  | .r _ :: _ => none
def tupF (g : Fa) : Fe := fun env hp => (g env hp).bind fun as h1 => match dats as with
  | some ds => .ok (.d (.tuple ds)) h1
  | none => .bad
def lstF (g : Fa) : Fe := fun env hp => (g env hp).bind fun as h1 => match dats as with
  | some ds => .ok (.d (.list ds)) h1
  | none => .bad
section
variable {X : Cx} {W : WX} {pos : Pos} {e : Expr} {es : List Expr} {f : Fe} {g : Fa}
theorem ca_nil : CA X W [] nilF := PA.imp pa_nil fun σ H Q ⟨Z, m, env, hp, a, h1⟩ => h1 m H .refl a.rel [] .nil
theorem ca_cons (he : CE X W e f) (hr : CA X W es g) (hs : starEach (e :: es) X.env = (false, eval e X.env) :: starEach es X.env := by rfl) : CA X W (e :: es) (consF f g) :=
  PA.imp (pa_cons he hr hs) fun σ H Q ⟨Z, m, env, hp, a, h1⟩ => ⟨Z, m, env, hp, a, (Wp.bind h1).imp fun x hp1 m1 H1 g1 r1 ⟨_, _, h2⟩ v rv => ⟨Z, m1, env, hp1, a.go g1 r1, (Wp.bind h2).imp fun xs hp2 m2 H2 g2 r2 ⟨_, _, h3⟩ vs rvs =>
    h3 m2 H2 .refl r2 (v :: vs) (.cons (rv.go g2) rvs)⟩⟩
theorem dats_rel {K : KF} {Z : Addr → Prop} {m : List Addr} {H : Hp} : ∀ {vs : List V} {as : List AV} {ds : List D}, AVRs K Z m H vs as → dats as = some ds → DRs K (Zm Z m) H vs ds
  | _, _, _, .nil, e => by cases e; exact .nil
  | _, .d x :: r, _, .cons h t, e => by
    cases q : dats r with
    | none => simp [dats, q] at e
    | some ds =>
      simp [dats, q] at e; subst e
      exact .cons h (dats_rel t q)
  | _, .r _ :: _, _, .cons h t, e => by simp [dats] at e
theorem dats_len : ∀ {as : List AV} {ds : List D}, dats as = some ds → ds.length = as.length
  | [], _, e => by cases e; rfl
  | .d x :: r, _, e => by
    cases q : dats r with
    | none => simp [dats, q] at e
    | some ds =>
      simp [dats, q] at e; subst e
      simp [dats_len q]
  | .r _ :: _, _, e => by simp [dats] at e
theorem AVRs.length {K : KF} {Z : Addr → Prop} {m : List Addr} {H : Hp} {vs : List V} {as : List AV} (h : AVRs K Z m H vs as) : vs.length = as.length := Paired.length h
/-- a display has few items: the list of arguments is as long as the text's -/
def Few (n : Nat) (g : Fa) : Prop := ∀ env hp as h, g env hp = .ok as h → as.length ≤ n
theorem few_nil : Few 0 nilF := fun env hp as h e => by cases e; exact Nat.le_refl _
theorem few_cons {n : Nat} (h : Few n g) : Few (n + 1) (consF f g) := fun env hp as h1 e => by
  unfold consF at e
  cases q : f env hp with
  | ok a h2 =>
    rw [q] at e
    cases q2 : g env h2 with
    | ok bs h3 =>
      simp only [Out.bind, q2] at e
      cases e
      have := h env h2 bs _ q2
      simp; omega
    | exc x h3 => simp [Out.bind, q2] at e
    | bad => simp [Out.bind, q2] at e
  | exc x h2 => rw [q] at e; simp [Out.bind] at e
  | bad => rw [q] at e; simp [Out.bind] at e
theorem Wp.eq {α : Type} {K : KF} {W : WX} {Z : Addr → Prop} {m : List Addr} {σ : L2.St} {H : Hp} {o : Out α} {R : α → AH → List Addr → Hp → Prop} (h : Wp K W Z m σ H o R) : Wp K W Z m σ H o fun a hp m' H' => o = .ok a hp ∧ R a hp m' H' := by
  cases o with
  | ok a hp => exact fun m' H' g r => ⟨rfl, h m' H' g r⟩
  | exc x hp => exact h
  | bad => exact h
theorem few_size {n : Nat} (hn : n ≤ 1000) : n ≤ sizeLine := Nat.le_trans hn (by decide)
/-- a tuple, its object known -/
def tTupZ (t : TA) : TE := fun σ H Q => t σ H fun xs H1 => xs.length ≤ sizeLine ∧ ∀ p (o : Obj), o.dict = none → H1 p = none → Q (.ref p) (upd H1 p (.frz o (.tup xs)))
theorem pe_tupZ {x1} {t : TA} (h : PA X es t) : PE X (.Tuple es x1 pos) (tTupZ t) := by
  refine ⟨fun pins s σ H Q I hq => ?_⟩
  refine wpAny_Tuple_spliced (thn (h.run pos pins s σ H _ I hq) fun us s1 ⟨xs, H1, I1, r, z, q⟩ => ⟨by rw [← r.length]; exact z, ?_⟩)
  have hf : H1 s1.heap.objs.size = none := I1.hok.fresh (Nat.le_refl _)
  refine ⟨.ref s1.heap.objs.size, upd H1 s1.heap.objs.size (.frz { cls := .type "tuple", data := .seq us.toArray } (.tup xs)), I1.laid (t' := s1.toks) (fun b u e => Heap.get?_push_of_some _ e) (Nat.le_refl _) ?_, rfl, q _ _ rfl hf⟩
  exact ⟨Heap.get?_push_size _ rfl, z, us, r, ⟨_, Heap.get?_push_size _ rfl, rfl, _, rfl⟩⟩
theorem ce_tup {k : Nat} {n : Nat} (h : CA X W es g) (hf : Few n g) (hn : n ≤ 1000 := by decide) : CE X W (.Tuple es k pos) (tupF g) :=
  PE.imp (pe_tupZ h) fun σ H Q ⟨Z, m, env, hp, a, h1⟩ => ⟨Z, m, env, hp, a, (Wp.eq (Wp.bind h1)).imp fun as hp1 m1 H1 g1 r1 ⟨e0, _, _, h2⟩ vs rv => by
    cases q : dats as with
    | none => rw [q] at h2; exact h2.elim
    | some ds =>
      rw [q] at h2
      have hl : vs.length ≤ n := by rw [AVRs.length rv]; exact hf _ _ _ _ e0
      exact ⟨few_size (Nat.le_trans hl hn), fun p o hd hp' => Es.fresh h2 r1 hp' (new_tup r1 hd hp' (dats_rel rv q))⟩⟩
theorem ce_lst {n : Nat} (h : CA X W es g) (hf : Few n g) (hn : n ≤ 1000 := by decide) : CE X W (.List es pos) (lstF g) :=
  PE.imp (pe_lst h) fun σ H Q ⟨Z, m, env, hp, a, h1⟩ => ⟨Z, m, env, hp, a, (Wp.eq (Wp.bind h1)).imp fun as hp1 m1 H1 g1 r1 ⟨e0, _, _, h2⟩ vs rv => by
    cases q : dats as with
    | none => rw [q] at h2; exact h2.elim
    | some ds =>
      rw [q] at h2
      have hl : vs.length ≤ n := by rw [AVRs.length rv]; exact hf _ _ _ _ e0
      exact ⟨few_size (Nat.le_trans hl hn), fun p hp' => Es.fresh h2 r1 hp' (new_lst r1 hp' (dats_rel rv q))⟩⟩
end

/-! ### operators by values -/
def bF (c : AV → AV → AH → Out AV) (f g : Fe) : Fe := fun env hp => (f env hp).bind fun a h1 => (g env h1).bind fun b h2 => c a b h2
def RS (K : KF) (r : R2) (c : AV → AV → AH → Out AV) : Prop := ∀ (W : WX) (Z : Addr → Prop) (m : List Addr) (σ : L2.St) (H : Hp) (hp : AH) (x y : V) (a b : AV) (Q : VK), Rel K Z m H hp → AVR K Z m H x a → AVR K Z m H y b → Es K W Z m σ H (c a b hp) Q → r x y H Q
section
variable {X : Cx} {W : WX} {pos : Pos} {e a b : Expr} {f g : Fe} {r : R2} {c : AV → AV → AH → Out AV}
theorem tOp_of {K : KF} (hs : RS K r c) : ∀ σ H Q, tE K W (bF c f g) σ H Q → tOp r (tE K W f) (tE K W g) σ H Q := fun σ H Q ⟨Z, m, env, hp, a, h1⟩ =>
  ⟨Z, m, env, hp, a, (Wp.bind h1).imp fun x hp1 m1 H1 g1 r1 ⟨_, _, h2⟩ v rv => ⟨Z, m1, env, hp1, a.go g1 r1, (Wp.bind h2).imp fun y hp2 m2 H2 g2 r2 ⟨_, _, h3⟩ u ru => hs W Z m2 σ H2 hp2 v u x y Q r2 (rv.go g2) ru h3⟩⟩
theorem ce_op {op : Operator} (ho : OpR X (binaryOp op) r) (hs : RS X.K r c) (ha : CE X W a f) (hb : CE X W b g) : CE X W (.BinOp a op b pos) (bF c f g) := PE.imp (pe_op ho ha hb) (tOp_of hs)
theorem ce_cmp {op : CmpOp} (ho : OpR X (compareOp op) r) (hs : RS X.K r c) (ha : CE X W a f) (hb : CE X W b g) (hm : behindInMarks op b = false := by first | exact nomark _ | rfl) : CE X W (.Compare a [op] [b] pos) (bF c f g) := PE.imp (pe_cmpR ho ha hb hm) (tOp_of hs)
/-- a value's truth, bools alone -/
def tstF (f : Fe) : Ft := fun env hp => (f env hp).bind fun a h1 => match a with
  | .d (.bool b) => .ok b h1
  | _ => .bad
theorem tB_of {K : KF} : ∀ σ H Q, tT K W (tstF f) σ H Q → tB (tE K W f) σ H Q := fun σ H Q ⟨Z, m, env, hp, a, h1⟩ =>
  ⟨Z, m, env, hp, a, (Wp.bind h1).imp fun x hp1 m1 H1 g1 r1 ⟨_, _, h2⟩ v rv => by
    cases x with
    | r n => exact h2.elim
    | d x =>
      cases x with
      | bool b =>
        cases rv
        exact ⟨b, rfl, h2 m1 H1 .refl r1⟩
      | _ => exact h2.elim⟩
theorem ct_cmp {op : CmpOp} (ho : OpR X (compareOp op) r) (hs : RS X.K r c) (ha : CE X W a f) (hb : CE X W b g) (hm : behindInMarks op b = false := by first | exact nomark _ | rfl) : CT X W (.Compare a [op] [b] pos) (tstF (bF c f g)) :=
  PT.imp (pt_cmpR ho ha hb hm) fun σ H Q h => by
    obtain ⟨Z, m, env, hp, at1, h1⟩ := tB_of (K := X.K) σ H Q h
    exact tOp_of hs σ H _ ⟨Z, m, env, hp, at1, h1⟩
theorem ct_val (h : CE X W e f) (he : ∀ whole, isTrue e X.env whole = (do let v ← whole; standAt e.pos; holding [v] (truthy v)) := by intro _; rfl) : CT X W e (tstF f) := PT.imp (pt_val h he) tB_of
end

/-! #### and, or, not, if -/
def andT (f g : Ft) : Ft := fun env hp => (f env hp).bind fun b h1 => if b then g env h1 else .ok false h1
def orT (f g : Ft) : Ft := fun env hp => (f env hp).bind fun b h1 => if b then .ok true h1 else g env h1
def notT (f : Ft) : Ft := fun env hp => (f env hp).bind fun b h1 => .ok (!b) h1
def andF (f g : Fe) : Fe := fun env hp => (f env hp).bind fun a h1 => match a with
  | .d (.bool true) => g env h1
  | .d (.bool false) => .ok (.d (.bool false)) h1
  | _ => .bad
def orF (f g : Fe) : Fe := fun env hp => (f env hp).bind fun a h1 => match a with
  | .d (.bool false) => g env h1
  | .d (.bool true) => .ok (.d (.bool true)) h1
  | _ => .bad
def notF (f : Fe) : Fe := fun env hp => (f env hp).bind fun a h1 => match a with
  | .d (.bool b) => .ok (.d (.bool !b)) h1
  | _ => .bad
def ifF (c : Ft) (f g : Fe) : Fe := fun env hp => (c env hp).bind fun b h1 => if b then f env h1 else g env h1
section
variable {X : Cx} {W : WX} {pos : Pos} {e a b c : Expr} {rest : List Expr} {f g : Fe} {t u : Ft}
theorem cw_and1 (ha : CT X W a t) : CW X W (.BoolOp .And [a] pos) t := pw_and1 ha
theorem cw_or1 (ha : CT X W a t) : CW X W (.BoolOp .Or [a] pos) t := pw_or1 ha
theorem cw_and (ha : CT X W a t) (hb : CW X W (.BoolOp .And (b :: rest) pos) u) : CW X W (.BoolOp .And (a :: b :: rest) pos) (andT t u) :=
  PW.imp (pw_and ha hb) fun σ H Q ⟨Z, m, env, hp, a, h1⟩ => ⟨Z, m, env, hp, a, (Wp.bind h1).imp fun x hp1 m1 H1 g1 r1 ⟨_, _, h2⟩ => by
    cases x with
    | true => exact ⟨Z, m1, env, hp1, a.go g1 r1, h2⟩
    | false => exact h2 m1 H1 .refl r1⟩
theorem cw_or (ha : CT X W a t) (hb : CW X W (.BoolOp .Or (b :: rest) pos) u) : CW X W (.BoolOp .Or (a :: b :: rest) pos) (orT t u) :=
  PW.imp (pw_or ha hb) fun σ H Q ⟨Z, m, env, hp, a, h1⟩ => ⟨Z, m, env, hp, a, (Wp.bind h1).imp fun x hp1 m1 H1 g1 r1 ⟨_, _, h2⟩ => by
    cases x with
    | true => exact h2 m1 H1 .refl r1
    | false => exact ⟨Z, m1, env, hp1, a.go g1 r1, h2⟩⟩
theorem ct_w (h : CW X W e t) : CT X W e t := PW.pt h
theorem ct_not (ha : CT X W a t) : CT X W (.UnaryOp .Not a pos) (notT t) :=
  PT.imp (pt_not ha) fun σ H Q ⟨Z, m, env, hp, a, h1⟩ => ⟨Z, m, env, hp, a, (Wp.bind h1).imp fun x hp1 m1 H1 g1 r1 ⟨_, _, h2⟩ => h2 m1 H1 .refl r1⟩
theorem ce_one {op} (h : CE X W a f) : CE X W (.BoolOp op [a] pos) f := pe_one h
theorem ce_and (ha : CE X W a f) (hb : CE X W (.BoolOp .And (b :: rest) pos) g) : CE X W (.BoolOp .And (a :: b :: rest) pos) (andF f g) :=
  PE.imp (pe_and ha hb) fun σ H Q ⟨Z, m, env, hp, a, h1⟩ => ⟨Z, m, env, hp, a, (Wp.bind h1).imp fun x hp1 m1 H1 g1 r1 ⟨_, _, h2⟩ v rv => by
    cases x with
    | r n => exact h2.elim
    | d x =>
      cases x with
      | bool b =>
        cases rv
        refine ⟨b, rfl, ?_⟩
        cases b with
        | true => exact ⟨Z, m1, env, hp1, a.go g1 r1, h2⟩
        | false => exact Es.ok h2 r1 (DR.bl _)
      | _ => exact h2.elim⟩
theorem ce_or (ha : CE X W a f) (hb : CE X W (.BoolOp .Or (b :: rest) pos) g) : CE X W (.BoolOp .Or (a :: b :: rest) pos) (orF f g) :=
  PE.imp (pe_or ha hb) fun σ H Q ⟨Z, m, env, hp, a, h1⟩ => ⟨Z, m, env, hp, a, (Wp.bind h1).imp fun x hp1 m1 H1 g1 r1 ⟨_, _, h2⟩ v rv => by
    cases x with
    | r n => exact h2.elim
    | d x =>
      cases x with
      | bool b =>
        cases rv
        refine ⟨b, rfl, ?_⟩
        cases b with
        | false => exact ⟨Z, m1, env, hp1, a.go g1 r1, h2⟩
        | true => exact Es.ok h2 r1 (DR.bl _)
      | _ => exact h2.elim⟩
theorem ce_not (ha : CE X W a f) : CE X W (.UnaryOp .Not a pos) (notF f) :=
  PE.imp (pe_not ha) fun σ H Q ⟨Z, m, env, hp, a, h1⟩ => ⟨Z, m, env, hp, a, (Wp.bind h1).imp fun x hp1 m1 H1 g1 r1 ⟨_, _, h2⟩ v rv => by
    cases x with
    | r n => exact h2.elim
    | d x =>
      cases x with
      | bool b =>
        cases rv
        exact ⟨b, rfl, Es.ok h2 r1 (DR.bl _)⟩
      | _ => exact h2.elim⟩
theorem ce_if (hc : CT X W c t) (ha : CE X W a f) (hb : CE X W b g) : CE X W (.IfExp c a b pos) (ifF t f g) :=
  PE.imp (pe_ifExp hc ha hb) fun σ H Q ⟨Z, m, env, hp, a, h1⟩ => ⟨Z, m, env, hp, a, (Wp.bind h1).imp fun x hp1 m1 H1 g1 r1 ⟨_, _, h2⟩ => by
    cases x with
    | true => exact ⟨Z, m1, env, hp1, a.go g1 r1, h2⟩
    | false => exact ⟨Z, m1, env, hp1, a.go g1 r1, h2⟩⟩
end
end Pin
end
-- Pin3
section
set_option linter.all false
set_option maxRecDepth 100000
set_option maxHeartbeats 2000000
/-! Pin, part 3: operators, subscripts, built-in functions, by values. -/
namespace Pin
open PySem PySem.Spec PyProof.Rows L2

/-! ### sequences -/
/-- a list, written or one that changes -/
def lsOf : AV → AH → Option (List D)
  | .d (.list xs), _ => some xs
  | .r n, hp => match hp[n]? with
    | some (.lst xs) => some xs
    | _ => none
  | _, _ => none
def tpOf : AV → Option (List D)
  | .d (.tuple xs) => some xs
  | _ => none
def sqOf (a : AV) (hp : AH) : Option (List D) := match tpOf a with
  | some xs => some xs
  | none => lsOf a hp
def dcOf : AV → AH → Option (List (Str × D))
  | .r n, hp => match hp[n]? with
    | some (.dct kvs) => some kvs
    | _ => none
  | _, _ => none
section
variable {K : KF} {W : WX} {Z : Addr → Prop} {m m' m1 : List Addr} {σ : L2.St} {H H1 H' : Hp} {hp : AH} {env : Sl} {Q : VK} {v : V} {a : AV}
theorem lsOf_rel (r : Rel K Z m H hp) (h : AVR K Z m H v a) {xs : List D} (e : lsOf a hp = some xs) : ∃ p vs, v = .ref p ∧ SqL K H p vs ∧ DRs K (Zm Z m) H vs xs := by
  cases a with
  | d x =>
    cases x with
    | list ys =>
      cases e
      cases h with
      | lst _ hr hs => exact ⟨_, _, rfl, .inl hr, hs⟩
      | lstK hk hs => exact ⟨_, _, rfl, .inr hk, hs⟩
    | _ => cases e
  | r n =>
    obtain ⟨p, ep, rfl⟩ := h
    simp only [lsOf] at e
    split at e
    · cases e
      rename_i xs eo
      obtain ⟨vs, e1, hs⟩ := r.obj ep eo
      exact ⟨p, vs, rfl, SqL.of e1, hs⟩
    · cases e
theorem tpOf_rel (h : AVR K Z m H v a) {xs : List D} (e : tpOf a = some xs) : ∃ p vs, v = .ref p ∧ SqT K H p vs ∧ DRs K (Zm Z m) H vs xs := by
  cases a with
  | d x =>
    cases x with
    | tuple ys =>
      cases e
      cases h with
      | tup _ hr hs => exact ⟨_, _, rfl, hr.sq, hs⟩
      | tupK hk hs => exact ⟨_, _, rfl, hk.sq, hs⟩
    | _ => cases e
  | r n => cases e
theorem sqOf_rel (r : Rel K Z m H hp) (h : AVR K Z m H v a) {xs : List D} (e : sqOf a hp = some xs) : ∃ p vs, v = .ref p ∧ (SqL K H p vs ∨ SqT K H p vs) ∧ DRs K (Zm Z m) H vs xs := by
  unfold sqOf at e
  cases q : tpOf a with
  | some ys =>
    rw [q] at e; cases e
    obtain ⟨p, vs, h1, h2, h3⟩ := tpOf_rel h q
    exact ⟨p, vs, h1, .inr h2, h3⟩
  | none =>
    rw [q] at e
    obtain ⟨p, vs, h1, h2, h3⟩ := lsOf_rel r h e
    exact ⟨p, vs, h1, .inl h2, h3⟩
theorem dcOf_rel (r : Rel K Z m H hp) (h : AVR K Z m H v a) {kvs : List (Str × D)} (e : dcOf a hp = some kvs) : ∃ n p ws, a = .r n ∧ m[n]? = some p ∧ hp[n]? = some (.dct kvs) ∧ v = .ref p ∧ H p = some (.dK ws) ∧ KVR K Z m H ws kvs := by
  cases a with
  | d x => cases x <;> cases e
  | r n =>
    obtain ⟨p, ep, rfl⟩ := h
    simp only [dcOf] at e
    split at e
    · cases e
      rename_i xs eo
      obtain ⟨ws, e1, hs⟩ := r.obj ep eo
      exact ⟨n, p, ws, rfl, ep, eo, rfl, e1, hs⟩
    · cases e
end

/-! ### dicts with text keys -/
def getD (kvs : List (Str × D)) (k : Str) : Option D := (kvs.find? fun kv => decide (kv.1 = k)).map (·.2)
def putD (kvs : List (Str × D)) (k : Str) (v : D) : List (Str × D) :=
  if (kvs.any fun kv => decide (kv.1 = k)) = true then kvs.map (fun kv => if kv.1 = k then (kv.1, v) else kv) else kvs ++ [(k, v)]
def delD (kvs : List (Str × D)) (k : Str) : List (Str × D) := kvs.filter fun kv => decide (kv.1 ≠ k)
section
variable {K : KF} {Z : Addr → Prop} {m : List Addr} {H : Hp}
theorem inr_iff {a b : Str} : (Sum.inr a : Key) = Sum.inr b ↔ a = b := ⟨fun h => Sum.inr.inj h, fun h => by rw [h]⟩
theorem KVR.get {k : Str} : ∀ {ws : List (Key × V)} {kvs : List (Str × D)}, KVR K Z m H ws kvs → (∀ d, getD kvs k = some d → ∃ v, valV ws (.inr k : Key) = some v ∧ DR K (Zm Z m) H v d) ∧ (getD kvs k = none → valV ws (.inr k : Key) = none)
  | _, _, .nil => ⟨fun d e => (by cases e), fun _ => rfl⟩
  | _, _, .cons (a := p) (b := q) ⟨h1, h2, h3⟩ t => by
    have ih := KVR.get (k := k) t
    by_cases e : q.1 = k
    · have e' : p.1 = (Sum.inr k : Key) := by rw [h1, e]
      have g : ∀ l, getD (q :: l) k = some q.2 := fun l => by simp only [getD, List.find?_cons, e, decide_true, Option.map_some]
      rw [valV_pos e']
      refine ⟨fun d hd => ?_, fun hd => ?_⟩
      · rw [g] at hd; cases hd; exact ⟨_, rfl, h3⟩
      · rw [g] at hd; cases hd
    · have e' : ¬ p.1 = (Sum.inr k : Key) := by rw [h1, inr_iff]; exact e
      have g : ∀ l, getD (q :: l) k = getD l k := fun l => by simp only [getD, List.find?_cons, decide_eq_false e]
      rw [valV_neg e', g]
      exact ih
theorem KVR.isSome {k : Str} {ws : List (Key × V)} {kvs : List (Str × D)} (h : KVR K Z m H ws kvs) : (valV ws (.inr k : Key)).isSome = (getD kvs k).isSome := by
  obtain ⟨h1, h2⟩ := KVR.get (k := k) h
  cases e : getD kvs k with
  | none => rw [h2 e]; rfl
  | some d => obtain ⟨v, e', _⟩ := h1 d e; rw [e']; rfl
theorem KVR.length {ws : List (Key × V)} {kvs : List (Str × D)} (h : KVR K Z m H ws kvs) : ws.length = kvs.length := Paired.length h
theorem KVR.any {k : Str} : ∀ {ws : List (Key × V)} {kvs : List (Str × D)}, KVR K Z m H ws kvs → (ws.any fun kv => decide (kv.1 = (.inr k : Key))) = kvs.any fun kv => decide (kv.1 = k)
  | _, _, .nil => rfl
  | _, _, .cons (a := p) (b := q) ⟨h1, _, _⟩ t => by
    rw [List.any_cons, List.any_cons, KVR.any t, h1]
    congr 1
    exact decide_eq_decide.mpr inr_iff
theorem KVR.map {k : Str} {v : V} {d : D} (hd : DR K (Zm Z m) H v d) : ∀ {ws : List (Key × V)} {kvs : List (Str × D)}, KVR K Z m H ws kvs →
    KVR K Z m H (ws.map fun kv => if kv.1 = (.inr k : Key) then (kv.1, v) else kv) (kvs.map fun kv => if kv.1 = k then (kv.1, d) else kv)
  | _, _, .nil => .nil
  | _, _, .cons (a := p) (b := q) ⟨h1, h2, h3⟩ t => by
    rw [List.map_cons, List.map_cons]
    refine .cons ?_ (KVR.map hd t)
    by_cases e : q.1 = k
    · rw [if_pos (by rw [h1, inr_iff]; exact e), if_pos e]; exact ⟨h1, h2, hd⟩
    · rw [if_neg (by rw [h1, inr_iff]; exact e), if_neg e]; exact ⟨h1, h2, h3⟩
theorem Paired.app {α β : Type} {F : α → β → Prop} : ∀ {a b : List α} {c d : List β}, Paired F a c → Paired F b d → Paired F (a ++ b) (c ++ d)
  | _, _, _, _, .nil, h => h
  | _, _, _, _, .cons r t, h => .cons r (Paired.app t h)
theorem KVR.put {k : Str} {v : V} {d : D} (hk : PyData.strOk k = true) (hd : DR K (Zm Z m) H v d) {ws : List (Key × V)} {kvs : List (Str × D)} (h : KVR K Z m H ws kvs) : KVR K Z m H (putK ws (.inr k : Key) v) (putD kvs k d) := by
  unfold putK putD
  rw [KVR.any h]
  by_cases e : (kvs.any fun kv => decide (kv.1 = k)) = true
  · rw [if_pos e, if_pos e]; exact KVR.map hd h
  · rw [if_neg e, if_neg e]; exact Paired.app h (.cons ⟨rfl, hk, hd⟩ .nil)
theorem KVR.del {k : Str} : ∀ {ws : List (Key × V)} {kvs : List (Str × D)}, KVR K Z m H ws kvs → KVR K Z m H (dropK ws (.inr k : Key)) (delD kvs k)
  | _, _, .nil => .nil
  | _, _, .cons (a := p) (b := q) ⟨h1, h2, h3⟩ t => by
    have ih := KVR.del (k := k) t
    unfold dropK delD at ih ⊢
    by_cases e : q.1 = k
    · rw [List.filter_cons_of_neg (by rw [h1]; simp [e]), List.filter_cons_of_neg (by simp [e])]; exact ih
    · rw [List.filter_cons_of_pos (by rw [h1]; simp [e]), List.filter_cons_of_pos (by simp [e])]; exact .cons ⟨h1, h2, h3⟩ ih
end

/-! ### the readings of my own -/
def rS (K : KF) (c : AV → AV → AH → Out AV) : R2 := fun x y H Q => ∃ (W : WX) (Z : Addr → Prop) (m : List Addr) (σ : L2.St) (hp : AH) (a b : AV), Rel K Z m H hp ∧ AVR K Z m H x a ∧ AVR K Z m H y b ∧ Es K W Z m σ H (c a b hp) Q
theorem rs_rS {K : KF} {c : AV → AV → AH → Out AV} : RS K (rS K c) c := fun W Z m σ H hp x y a b Q r rx ry h => ⟨W, Z, m, σ, hp, a, b, r, rx, ry, h⟩
abbrev OpV (X : Cx) (f : Value → Value → Sem Value) (c : AV → AV → AH → Out AV) : Prop := OpR X f (rS X.K c)
theorem OpV.of {X : Cx} {f : Value → Value → Sem Value} {r : R2} {c : AV → AV → AH → Out AV} (h : OpR X f r) (hs : RS X.K r c) : OpV X f c := fun pins s σ H x y v u Q I rx ry ⟨W, Z, m, σ', hp, a, b, r1, ra, rb, q⟩ =>
  h pins s σ H x y v u Q I rx ry (hs W Z m σ' H hp x y a b Q r1 ra rb q)

/-! ### ints -/
def bigLen : Nat := 1000000
def addV (a b : AV) (hp : AH) : Out AV := match a, b with
  | .d (.int i), .d (.int j) => .ok (.d (.int (i + j))) hp
  | .d (.str x), .d (.str y) => if x.length + y.length ≤ bigLen then .ok (.d (.str (x ++ y))) hp else .bad
  | .d (.tuple xs), .d (.tuple ys) => if xs.length + ys.length ≤ bigLen then .ok (.d (.tuple (xs ++ ys))) hp else .bad
  | a, b => match lsOf a hp, lsOf b hp with
    | some xs, some ys => if xs.length + ys.length ≤ bigLen then .ok (.d (.list (xs ++ ys))) hp else .bad
    | _, _ => .bad
def subV (a b : AV) (hp : AH) : Out AV := match a, b with
  | .d (.int i), .d (.int j) => .ok (.d (.int (i - j))) hp
  | _, _ => .bad
def mulV (a b : AV) (hp : AH) : Out AV := match a, b with
  | .d (.int i), .d (.int j) => if i.natAbs.log2 + j.natAbs.log2 < 1000000 then .ok (.d (.int (i * j))) hp else .bad
  | _, _ => .bad
def fdivV (a b : AV) (hp : AH) : Out AV := match a, b with
  | .d (.int i), .d (.int j) => if 0 < j ∧ j.natAbs.log2 < 9000 then .ok (.d (.int (i / j))) hp else .bad
  | _, _ => .bad
def modV (a b : AV) (hp : AH) : Out AV := match a, b with
  | .d (.int i), .d (.int j) => if 0 < j then .ok (.d (.int (i % j))) hp else .bad
  | _, _ => .bad
def powV (a b : AV) (hp : AH) : Out AV := match a, b with
  | .d (.int i), .d (.int j) => if 0 ≤ j ∧ j ≤ 1000 ∧ i.natAbs < 2 ^ 64 then .ok (.d (.int (i ^ j.toNat))) hp else .bad
  | _, _ => .bad
section
variable {X : Cx}
/-- list + list, written ones too -/
def rCatL (K : KF) : R2 := fun x y H Q => ∃ l b xs zs, x = .ref l ∧ y = .ref b ∧ SqL K H l xs ∧ SqL K H b zs ∧ xs.length + zs.length ≤ sizeLine ∧ ∀ p, H p = none → Q (.ref p) (upd H p (.lst (xs ++ zs)))
theorem op_catL : OpR X (binaryOp .Add) (rCatL X.K) := by
  intro pins s σ H x y v u Q I rx ry h
  obtain ⟨l, b, xs, zs, rfl, rfl, hH, hB, hz, q⟩ := h
  cases rx
  cases ry
  obtain ⟨its, r, ⟨⟨cls, dd, data, sl⟩, n, ho, hc, hdd, hd⟩, _⟩ := I.list hH
  obtain ⟨its2, r2, ⟨⟨cls2, dd2, data2, sl2⟩, n2, ho2, hc2, hdd2, hd2⟩, _⟩ := I.list hB
  simp only at hc hd hc2 hd2
  subst hc hd hc2 hd2
  have e : its.toArray ++ its2.toArray = (its ++ its2).toArray := by simp
  have hl := r.length
  have hl2 := r2.length
  refine concat_meets ⟨_, ho, rfl⟩ ⟨_, ho2, rfl⟩ noFill_list_add seq_list_add PySem.F.slot_list_add PySem.F.entry_list_add (PySem.F.args_list_add_2 _ _) (list_addW l b its.toArray its2.toArray n n2 dd dd2 sl sl2 (by rw [List.size_toArray, List.size_toArray]; omega)) ⟨ho, ho2, ?_⟩
  rw [e]
  exact ⟨.ref _, _, I.lnew (t' := s.toks) (r.append r2) (by rw [List.length_append]; exact hz), rfl, q _ I.fresh⟩
/-- tuple + tuple, the new object known -/
def rCatZ (K : KF) : R2 := fun x y H Q => ∃ a b xs ys, x = .ref a ∧ y = .ref b ∧ SqT K H a xs ∧ SqT K H b ys ∧ xs.length + ys.length ≤ sizeLine ∧
  (xs = [] → Q (.ref b) H) ∧ (xs ≠ [] → ys = [] → Q (.ref a) H) ∧ (xs ≠ [] → ys ≠ [] → ∀ p (o : Obj), o.dict = none → H p = none → Q (.ref p) (upd H p (.frz o (.tup (xs ++ ys)))))
theorem op_catZ : OpR X (binaryOp .Add) (rCatZ X.K) := by
  intro pins s σ H x y v u Q I rx ry h
  obtain ⟨a, b, xs, ys, rfl, rfl, ha, hb, hz, q0, q1, q2⟩ := h
  by_cases hx : xs = []
  · subst hx
    exact op_catA pins s σ H _ _ v u Q I rx ry ⟨a, b, [], ys, rfl, rfl, ha, hb, hz, q0, fun h => absurd rfl h, fun h => absurd rfl h⟩
  · cases rx
    cases ry
    obtain ⟨its, r1, p1, _⟩ := I.tuple ha
    obtain ⟨its2, r2, p2, _⟩ := I.tuple hb
    refine HT.cat_tup p1 p2 (fun z => hx (r1.nil_iff.mp z)) (fun z => ⟨.ref a, H, I, rfl, q1 hx (r2.nil_iff.mp z)⟩) (fun z => ?_) (by rw [← r1.length, ← r2.length]; exact hz)
    refine ⟨.ref s.heap.objs.size, _, I.laid (t' := s.toks) (o := .frz { cls := .type "tuple", data := .seq (its ++ its2).toArray } (.tup (xs ++ ys))) (fun b ob q => Heap.get?_push_of_some _ q) (Nat.le_refl _) ?_, rfl, q2 hx (fun w => z (r2.nil_iff.mpr w)) _ _ rfl (I.hok.fresh (Nat.le_refl _))⟩
    exact ⟨Heap.get?_push_size _ rfl, by rw [List.length_append]; exact hz, _, r1.append r2, IsTup.new _ _⟩
def rAddStr : R2 := fun x y H Q => ∃ i j, x = .str i ∧ y = .str j ∧ i.length + j.length ≤ sizeLine ∧ Q (.str (i ++ j)) H
def rAddAll (K : KF) : R2 := fun x y H Q => (rI0 fun i j => .int (i + j)) x y H Q ∨ rAddStr x y H Q ∨ rCatZ K x y H Q ∨ rCatL K x y H Q
theorem op_addAll : OpR X (binaryOp .Add) (rAddAll X.K) := OpR.or op_add (OpR.or op_add_str (OpR.or op_catZ op_catL))
theorem big_size {n : Nat} (h : n ≤ bigLen) : n ≤ sizeLine := Nat.le_trans h (by unfold bigLen; rw [sizeLine_eq]; decide)
theorem strOk_app {x y : Str} (h1 : PyData.strOk x = true) (h2 : PyData.strOk y = true) : PyData.strOk (x ++ y) = true := by
  have e : (x ++ y).cps = x.cps ++ y.cps := rfl
  unfold PyData.strOk at *
  rw [e, Array.all_append, h1, h2]; rfl
theorem rs_add {K : KF} : RS K (rAddAll K) addV := fun W Z m σ H hp x y a b Q r rx ry h => by
  unfold addV at h
  split at h
  · cases rx; cases ry
    exact .inl ⟨_, _, rfl, rfl, Es.ok h r (.int _)⟩
  · cases rx with
    | str _ hx =>
      cases ry with
      | str _ hy =>
        split at h
        · rename_i hl
          exact .inr (.inl ⟨_, _, rfl, rfl, big_size hl, Es.ok h r (.str _ (strOk_app hx hy))⟩)
        · exact h.elim
  · rename_i xs ys
    split at h
    · rename_i hl
      obtain ⟨p, vs, rfl, h1, h2⟩ := tpOf_rel rx (xs := xs) rfl
      obtain ⟨q, ws, rfl, h3, h4⟩ := tpOf_rel ry (xs := ys) rfl
      refine .inr (.inr (.inl ⟨p, q, vs, ws, rfl, rfl, h1, h3, by rw [h2.length, h4.length]; exact big_size hl, fun e => ?_, fun _ e => ?_, fun _ _ d o ho hd => Es.fresh h r hd (new_tup r ho hd (h2.append h4))⟩))
      · subst e
        cases h2
        exact Es.ok h r ry
      · subst e
        cases h4
        rw [List.append_nil] at h
        exact Es.ok h r rx
    · exact h.elim
  · split at h
    · rename_i xs ys e1 e2
      split at h
      · rename_i hl
        obtain ⟨p, vs, rfl, h1, h2⟩ := lsOf_rel r rx e1
        obtain ⟨q, ws, rfl, h3, h4⟩ := lsOf_rel r ry e2
        exact .inr (.inr (.inr ⟨p, q, vs, ws, rfl, rfl, h1, h3, by rw [h2.length, h4.length]; exact big_size hl, fun d hd => Es.fresh h r hd (new_lst r hd (h2.append h4))⟩))
      · exact h.elim
    · exact h.elim
theorem ov_add : OpV X (binaryOp .Add) addV := OpV.of op_addAll rs_add
theorem ov_sub : OpV X (binaryOp .Sub) subV := OpV.of op_sub fun W Z m σ H hp x y a b Q r rx ry h => by
  unfold subV at h
  split at h
  · cases rx; cases ry
    exact ⟨_, _, rfl, rfl, Es.ok h r (.int _)⟩
  · exact h.elim
theorem ov_mul : OpV X (binaryOp .Mult) mulV := OpV.of op_mulW fun W Z m σ H hp x y a b Q r rx ry h => by
  unfold mulV at h
  split at h
  · cases rx; cases ry
    split at h
    · rename_i hc
      exact ⟨_, _, rfl, rfl, hc, Es.ok h r (.int _)⟩
    · exact h.elim
  · exact h.elim
theorem ov_fdiv : OpV X (binaryOp .FloorDiv) fdivV := OpV.of op_fdivW fun W Z m σ H hp x y a b Q r rx ry h => by
  unfold fdivV at h
  split at h
  · cases rx; cases ry
    split at h
    · rename_i hc
      exact ⟨_, _, rfl, rfl, hc, Es.ok h r (.int _)⟩
    · exact h.elim
  · exact h.elim
theorem ov_mod : OpV X (binaryOp .Mod) modV := OpV.of op_mod fun W Z m σ H hp x y a b Q r rx ry h => by
  unfold modV at h
  split at h
  · cases rx; cases ry
    split at h
    · rename_i hc
      exact ⟨_, _, rfl, rfl, hc, Es.ok h r (.int _)⟩
    · exact h.elim
  · exact h.elim
theorem ov_pow : OpV X (binaryOp .Pow) powV := OpV.of op_pow fun W Z m σ H hp x y a b Q r rx ry h => by
  unfold powV at h
  split at h
  · cases rx; cases ry
    split at h
    · rename_i hc
      exact ⟨_, _, rfl, rfl, ⟨hc.1, by omega, hc.2.2⟩, Es.ok h r (.int _)⟩
    · exact h.elim
  · exact h.elim
end

/-! ### comparisons -/
def iCmp (p : Int → Int → Bool) (a b : AV) (hp : AH) : Out AV := match a, b with
  | .d (.int i), .d (.int j) => .ok (.d (.bool (p i j))) hp
  | _, _ => .bad
abbrev ltV := iCmp fun i j => decide (i < j)
abbrev leV := iCmp fun i j => decide (i ≤ j)
abbrev gtV := iCmp fun i j => decide (j < i)
abbrev geV := iCmp fun i j => decide (j ≤ i)
def eqV (a b : AV) (hp : AH) : Out AV := match a, b with
  | .d x, .d y => if min x.depth y.depth ≤ 64 then .ok (.d (.bool (PyData.eqv x y))) hp else .bad
  | _, _ => .bad
def neV (a b : AV) (hp : AH) : Out AV := match a, b with
  | .d x, .d y => if min x.depth y.depth ≤ 64 then .ok (.d (.bool !(PyData.eqv x y))) hp else .bad
  | _, _ => .bad
def inV (a b : AV) (hp : AH) : Out AV := match a with
  | .d x => match sqOf b hp with
    | some ys => if min (PyData.depthAll ys) x.depth ≤ 64 then .ok (.d (.bool (ys.any fun y => PyData.eqv y x))) hp else .bad
    | none => match x, dcOf b hp with
      | .str k, some kvs => .ok (.d (.bool (getD kvs k).isSome)) hp
      | _, _ => .bad
  | _ => .bad
def niV (a b : AV) (hp : AH) : Out AV := match a with
  | .d x => match sqOf b hp with
    | some ys => if min (PyData.depthAll ys) x.depth ≤ 64 then .ok (.d (.bool !(ys.any fun y => PyData.eqv y x))) hp else .bad
    | none => match x, dcOf b hp with
      | .str k, some kvs => .ok (.d (.bool !(getD kvs k).isSome)) hp
      | _, _ => .bad
  | _ => .bad
/-- is None -/
def isNone : AV → Bool
  | .d .none => true
  | _ => false
def isV (a b : AV) (hp : AH) : Out AV := match b with
  | .d .none => .ok (.d (.bool (isNone a))) hp
  | _ => .bad
def isntV (a b : AV) (hp : AH) : Out AV := match b with
  | .d .none => .ok (.d (.bool !(isNone a))) hp
  | _ => .bad
section
variable {X : Cx} {W : WX}
theorem ov_icmp {op : CmpOp} {p : Int → Int → Bool} (h : OpR X (compareOp op) (rI0 fun i j => .bl (p i j))) : OpV X (compareOp op) (iCmp p) := OpV.of h fun W Z m σ H hp x y a b Q r rx ry h => by
  unfold iCmp at h
  split at h
  · cases rx; cases ry
    exact ⟨_, _, rfl, rfl, Es.ok h r (.bl _)⟩
  · exact h.elim
theorem ov_lt : OpV X (compareOp .Lt) ltV := ov_icmp op_lt
theorem ov_le : OpV X (compareOp .LtE) leV := ov_icmp op_le
theorem ov_gt : OpV X (compareOp .Gt) gtV := ov_icmp op_gt
theorem ov_ge : OpV X (compareOp .GtE) geV := ov_icmp op_ge
theorem ov_eq (hu : X.A.units + 100 < cLine) : OpV X (compareOp .Eq) eqV := fun pins s σ H x y v u Q I rx ry ⟨W, Z, m, σ', hp, a, b, r, ra, rb, h⟩ => by
  unfold eqV at h
  split at h
  · rename_i d e
    split at h
    · rename_i hd
      obtain ⟨as, r1⟩ := Dp.reads I d x v (DR.dp ra) rx
      obtain ⟨bs, r2⟩ := Dp.reads I e y u (DR.dp rb) ry
      exact SeqAt.compareEq_reads r1 r2 (DR.lay ra) (DR.lay rb) (by omega) ⟨.bl _, H, I, rfl, Es.ok h r (.bl _)⟩
    · exact h.elim
  · exact h.elim
theorem ov_ne (hu : X.A.units + 100 < cLine) : OpV X (compareOp .NotEq) neV := fun pins s σ H x y v u Q I rx ry ⟨W, Z, m, σ', hp, a, b, r, ra, rb, h⟩ => by
  unfold neV at h
  split at h
  · rename_i d e
    split at h
    · rename_i hd
      obtain ⟨as, r1⟩ := Dp.reads I d x v (DR.dp ra) rx
      obtain ⟨bs, r2⟩ := Dp.reads I e y u (DR.dp rb) ry
      exact SeqAt.compareNe_reads r1 r2 (DR.lay ra) (DR.lay rb) (by omega) ⟨.bl _, H, I, rfl, Es.ok h r (.bl _)⟩
    · exact h.elim
  · exact h.elim
theorem ov_in (hu : X.A.units + 100 < cLine) : OpV X (compareOp .In) inV := fun pins s σ H x y v u Q I rx ry ⟨W, Z, m, σ', hp, a, b, r, ra, rb, h⟩ => by
  unfold inV at h
  split at h
  · rename_i d
    obtain ⟨as, r1⟩ := Dp.reads I d x v (DR.dp ra) rx
    split at h
    · rename_i ys e
      split at h
      · rename_i hd
        obtain ⟨p, vs, rfl, hq, hs⟩ := sqOf_rel r rb e
        rcases hq with hq | hq
        · obtain ⟨bs, r2⟩ := Dp.reads I (.list ys) _ u (.lst hq (DRs.dp hs)) ry
          exact SeqAt.in_list_reads r2 r1 (DRs.lay hs) (DR.lay ra) (by omega) ⟨.bl _, H, I, rfl, Es.ok h r (.bl _)⟩
        · obtain ⟨bs, r2⟩ := Dp.reads I (.tuple ys) _ u (.tup hq (DRs.dp hs)) ry
          exact SeqAt.in_tuple_reads r2 r1 (DRs.lay hs) (DR.lay ra) (by omega) ⟨.bl _, H, I, rfl, Es.ok h r (.bl _)⟩
      · exact h.elim
    · split at h
      · rename_i k kvs e
        obtain ⟨n, p, ws, rfl, em, eo, rfl, e1, hk⟩ := dcOf_rel r rb e
        cases ra
        obtain rfl : u = Value.ref p := ry
        have g : DGet H p (.str k) (valV ws (.inr k : Key)) := DGet.k (k := .inr k) e1
        exact d_in (by omega) I g rx fun s3 I3 => ⟨.bl _, H, I3, rfl, by rw [hk.isSome]; exact Es.ok h r (.bl _)⟩
      · exact h.elim
  · exact h.elim
theorem ov_ni (hu : X.A.units + 100 < cLine) : OpV X (compareOp .NotIn) niV := fun pins s σ H x y v u Q I rx ry ⟨W, Z, m, σ', hp, a, b, r, ra, rb, h⟩ => by
  unfold niV at h
  split at h
  · rename_i d
    obtain ⟨as, r1⟩ := Dp.reads I d x v (DR.dp ra) rx
    split at h
    · rename_i ys e
      split at h
      · rename_i hd
        obtain ⟨p, vs, rfl, hq, hs⟩ := sqOf_rel r rb e
        rcases hq with hq | hq
        · obtain ⟨bs, r2⟩ := Dp.reads I (.list ys) _ u (.lst hq (DRs.dp hs)) ry
          exact SeqAt.notIn_list_reads r2 r1 (DRs.lay hs) (DR.lay ra) (by omega) ⟨.bl _, H, I, rfl, Es.ok h r (.bl _)⟩
        · obtain ⟨bs, r2⟩ := Dp.reads I (.tuple ys) _ u (.tup hq (DRs.dp hs)) ry
          exact SeqAt.notIn_tuple_reads r2 r1 (DRs.lay hs) (DR.lay ra) (by omega) ⟨.bl _, H, I, rfl, Es.ok h r (.bl _)⟩
      · exact h.elim
    · split at h
      · rename_i k kvs e
        obtain ⟨n, p, ws, rfl, em, eo, rfl, e1, hk⟩ := dcOf_rel r rb e
        cases ra
        obtain rfl : u = Value.ref p := ry
        have g : DGet H p (.str k) (valV ws (.inr k : Key)) := DGet.k (k := .inr k) e1
        exact d_notIn (by omega) I g rx fun s3 I3 => ⟨.bl _, H, I3, rfl, by rw [hk.isSome]; exact Es.ok h r (.bl _)⟩
      · exact h.elim
  · exact h.elim
theorem isNone_eq {K : KF} {Z : Addr → Prop} {m : List Addr} {H : Hp} {v : V} {a : AV} (h : AVR K Z m H v a) : decide (v = .non) = isNone a := by
  cases a with
  | r n => obtain ⟨p, _, rfl⟩ := h; rfl
  | d x => cases h <;> rfl
theorem ov_is : OpV X (compareOp .Is) isV := OpV.of op_isN fun W Z m σ H hp x y a b Q r rx ry h => by
  unfold isV at h
  split at h
  · cases ry
    refine ⟨rfl, ?_⟩
    rw [isNone_eq rx]
    exact Es.ok h r (.bl _)
  · exact h.elim
theorem ov_isnt : OpV X (compareOp .IsNot) isntV := OpV.of op_notN fun W Z m σ H hp x y a b Q r rx ry h => by
  unfold isntV at h
  split at h
  · cases ry
    refine ⟨rfl, ?_⟩
    rw [isNone_eq rx]
    exact Es.ok h r (.bl _)
  · exact h.elim
end

/-! ### subscripts -/
def ixV (a b : AV) (hp : AH) : Out AV := match b with
  | .d (.int i) => match sqOf a hp with
    | some xs => match atI xs i with
      | some d => .ok (.d d) hp
      | none => .bad
    | none => .bad
  | .d (.str k) => match dcOf a hp with
    | some kvs => match getD kvs k with
      | some d => .ok (.d d) hp
      | none => .bad
    | none => .bad
  | _ => .bad
def rDG : R2 := fun x y H Q => ∃ a v, x = .ref a ∧ DGet H a y (some v) ∧ Q v H
section
variable {X : Cx}
theorem ix_dget (hu : X.A.units + 1 < cLine) : IxR X rDG := by
  intro value slice pins s σ H x y v u Q I rx ry h hs
  obtain ⟨a, z, rfl, g, q⟩ := h
  obtain rfl : v = Value.ref a := rx
  exact tail_any (dict_typeIs I g) PySem.F.slot_dict_getitem.lookup (d_getItem hu I g ry fun w' s3 I3 rw' => ⟨z, H, I3, rw', q⟩) hs
theorem atI_rel {K : KF} {Z : Addr → Prop} {H : Hp} {vs : List V} {ds : List D} {i : Int} {d : D} (h : DRs K Z H vs ds) (e : atI ds i = some d) : ∃ v, atI vs i = some v ∧ DR K Z H v d := by
  unfold atI at *
  rw [h.length]
  cases q : ixN ds.length i with
  | none => rw [q] at e; cases e
  | some j =>
    rw [q] at e
    obtain ⟨v, e1, r⟩ := h.get (i := j) e
    exact ⟨v, e1, r⟩
theorem rs_ix {K : KF} : RS K (fun x y H Q => rIxL K x y H Q ∨ rIxT K x y H Q ∨ rDG x y H Q) ixV := fun W Z m σ H hp x y a b Q r rx ry h => by
  unfold ixV at h
  split at h
  · cases ry
    split at h
    · rename_i xs e
      split at h
      · rename_i d e1
        obtain ⟨p, vs, rfl, hq, hs⟩ := sqOf_rel r rx e
        obtain ⟨v, e2, rv⟩ := atI_rel hs e1
        rcases hq with hq | hq
        · exact .inl ⟨p, vs, _, v, rfl, rfl, hq, e2, Es.ok h r rv⟩
        · exact .inr (.inl ⟨p, vs, _, v, rfl, rfl, hq, e2, Es.ok h r rv⟩)
      · exact h.elim
    · exact h.elim
  · rename_i k
    cases ry
    split at h
    · rename_i kvs e
      split at h
      · rename_i d e1
        obtain ⟨n, p, ws, rfl, em, eo, rfl, e2, hk⟩ := dcOf_rel r rx e
        obtain ⟨v, e3, rv⟩ := (KVR.get (k := k) hk).1 d e1
        have g : DGet H p (.str k) (some v) := by rw [← e3]; exact DGet.k (k := .inr k) e2
        exact .inr (.inr ⟨p, v, rfl, g, Es.ok h r rv⟩)
      · exact h.elim
    · exact h.elim
  · exact h.elim
theorem ce_ix {W : WX} {pos : Pos} {a b : Expr} {f g : Fe} (hu : X.A.units + 100 < cLine) (ha : CE X W a f) (hb : CE X W b g) (hs : PlainIx b := by exact fun _ _ => rfl) : CE X W (.Subscript a b pos) (bF ixV f g) :=
  PE.imp (pe_ix (IxR.or ix_list (IxR.or ix_tup (ix_dget (by omega)))) ha hb hs) (tOp_of rs_ix)
end

/-! ### slices -/
def cutD (xs : List D) (lo hi : Option Int) : List D := (xs.drop (HT.sIx xs.length 0 lo)).take (HT.sIx xs.length xs.length hi - HT.sIx xs.length 0 lo)
abbrev Fo := Sl → AH → Out (Option Int)
def noO : Fo := fun _ hp => .ok none hp
def smO (f : Fe) : Fo := fun env hp => (f env hp).bind fun a h1 => match a with
  | .d (.int i) => .ok (some i) h1
  | _ => .bad
def cutV' (a : AV) (lo hi : Option Int) (hp : AH) : Out AV := match a with
  | .d (.tuple xs) => .ok (.d (.tuple (cutD xs lo hi))) hp
  | a => match lsOf a hp with
    | some xs => .ok (.d (.list (cutD xs lo hi))) hp
    | none => .bad
def slF (f : Fe) (g h : Fo) : Fe := fun env hp => (f env hp).bind fun a h1 => (g env h1).bind fun lo h2 => (h env h2).bind fun hi h3 => cutV' a lo hi h3
section
variable {X : Cx} {W : WX} {pos p2 : Pos}
def tO (K : KF) (W : WX) (f : Fo) : TO := fun σ H Q => ∃ Z m env hp, At K Z m H σ env hp ∧ Wp K W Z m σ H (f env hp) fun o _ _ H' => Q o H'
abbrev CO (X : Cx) (W : WX) (e : Option Expr) (f : Fo) : Prop := PO X e (tO X.K W f)
theorem PO.imp {e : Option Expr} {t t' : TO} (h : PO X e t) (f : ∀ σ H Q, t' σ H Q → t σ H Q) : PO X e t' := ⟨fun pins s σ H Q I q => h.run pins s σ H Q I (f σ H Q q)⟩
theorem co_none : CO X W none noO := PO.imp po_none fun σ H Q ⟨Z, m, env, hp, a, h1⟩ => h1 m H .refl a.rel
theorem co_some {e : Expr} {f : Fe} (h : CE X W e f) : CO X W (some e) (smO f) := PO.imp (po_some h) fun σ H Q ⟨Z, m, env, hp, a, h1⟩ =>
  ⟨Z, m, env, hp, a, (Wp.bind h1).imp fun x hp1 m1 H1 g1 r1 ⟨_, _, h2⟩ v rv => by
    cases x with
    | r n => exact h2.elim
    | d x =>
      cases x with
      | int i =>
        cases rv
        exact ⟨i, rfl, h2 m1 H1 .refl r1⟩
      | _ => exact h2.elim⟩
/-- t[lo:hi], the new object known -/
def rSlZ (K : KF) : V → Option Int → Option Int → Hp → VK → Prop := fun x lo hi H Q => ∃ a xs, x = .ref a ∧ SqT K H a xs ∧
  (HT.sIx xs.length 0 lo = 0 ∧ HT.sIx xs.length xs.length hi = xs.length → Q (.ref a) H) ∧ (¬ (HT.sIx xs.length 0 lo = 0 ∧ HT.sIx xs.length xs.length hi = xs.length) → ∀ p (o : Obj), o.dict = none → H p = none → Q (.ref p) (upd H p (.frz o (.tup (cutV xs lo hi)))))
theorem sl_tupZ : L2.SlR X (rSlZ X.K) := by
  intro pins s σ H x v vl vu lo hi sl Q I rx hs pl pu h
  obtain ⟨a, xs, rfl, hx, q1, q2⟩ := h
  by_cases hw : HT.sIx xs.length 0 lo = 0 ∧ HT.sIx xs.length xs.length hi = xs.length
  · exact sl_tupA pins s σ H _ v vl vu lo hi sl Q I rx hs pl pu ⟨a, xs, rfl, hx, q1, fun n => absurd hw n⟩
  · cases rx
    obtain ⟨its, r, ht, hz⟩ := I.tuple hx
    have hlen : its.toArray.size = xs.length := by rw [List.size_toArray]; exact r.length.symm
    refine ⟨"tuple", _, PyProof.Rows.slot_tuple_getitem.lookup, ht.typeIs, ?_⟩
    refine HT.getItem_tuple_cut ht hs pl pu (by rw [hlen]; exact hw) ?_ (by rw [hlen]; exact hz)
    rw [hlen]
    refine ⟨.ref s.heap.objs.size, _, I.laid (t' := s.toks) (o := .frz { cls := .type "tuple", data := .seq ((its.drop (HT.sIx xs.length 0 lo)).take (HT.sIx xs.length xs.length hi - HT.sIx xs.length 0 lo)).toArray } (.tup (cutV xs lo hi))) (fun b ob q => Heap.get?_push_of_some _ q) (Nat.le_refl _) ?_, rfl, q2 hw _ _ rfl (I.hok.fresh (Nat.le_refl _))⟩
    exact ⟨Heap.get?_push_size _ rfl, Nat.le_trans (cutV_length xs lo hi) hz, _, (r.drop (HT.sIx xs.length 0 lo)).take (HT.sIx xs.length xs.length hi - HT.sIx xs.length 0 lo), IsTup.new _ _⟩
theorem cut_rel {K : KF} {Z : Addr → Prop} {H : Hp} {vs : List V} {ds : List D} (lo hi : Option Int) (h : DRs K Z H vs ds) : DRs K Z H (cutV vs lo hi) (cutD ds lo hi) := by
  unfold cutV cutD
  rw [h.length]
  exact DRs.take _ (DRs.drop _ h)
theorem cutD_whole {ds : List D} {lo hi : Option Int} (h : HT.sIx ds.length 0 lo = 0 ∧ HT.sIx ds.length ds.length hi = ds.length) : cutD ds lo hi = ds := by
  unfold cutD
  rw [h.1, h.2]
  simp
theorem ce_sl {e : Expr} {lo hi : Option Expr} {f : Fe} {g k : Fo} (he : CE X W e f) (hl : CO X W lo g) (hh : CO X W hi k) : CE X W (.Subscript e (.Slice lo hi none p2) pos) (slF f g k) :=
  PE.imp (pe_slice (SlR.or sl_tupZ sl_list) he hl hh) fun σ H Q ⟨Z, m, env, hp, a, h1⟩ => ⟨Z, m, env, hp, a, (Wp.bind h1).imp fun x hp1 m1 H1 g1 r1 ⟨_, _, h2⟩ v rv =>
    ⟨Z, m1, env, hp1, a.go g1 r1, (Wp.bind h2).imp fun l hp2 m2 H2 g2 r2 ⟨_, _, h3⟩ => ⟨Z, m2, env, hp2, a.go (g1.trans g2) r2, (Wp.bind h3).imp fun u hp3 m3 H3 g3 r3 ⟨_, _, h4⟩ => by
      have rv' := rv.go (g2.trans g3)
      unfold cutV' at h4
      split at h4
      · obtain ⟨p, vs, rfl, hq, hs⟩ := tpOf_rel rv' rfl
        refine .inl ⟨p, vs, rfl, hq, fun hw => ?_, fun _ q o ho hn => Es.fresh h4 r3 hn (new_tup r3 ho hn (cut_rel l u hs))⟩
        rw [hs.length] at hw
        rw [cutD_whole hw] at h4
        exact Es.ok h4 r3 rv'
      · split at h4
        · rename_i xs e
          obtain ⟨p, vs, rfl, hq, hs⟩ := lsOf_rel r3 rv' e
          exact .inr ⟨p, vs, rfl, hq, fun q hn => Es.fresh h4 r3 hn (new_lst r3 hn (cut_rel l u hs))⟩
        · exact h4.elim⟩⟩⟩
end
end Pin
end
-- Pin4
section
set_option linter.all false
set_option maxRecDepth 100000
set_option maxHeartbeats 2000000
/-! Pin, part 4: calls of built-in functions, of defs, of methods; instances; attributes; new lists and dicts. -/
namespace Pin
open PySem PySem.Spec PyProof.Rows L2

/-! ### built-in functions by values -/
def callF (c : List AV → AH → Out AV) (g : Fa) : Fe := fun env hp => (g env hp).bind fun as h1 => c as h1
def RC (K : KF) (r : List V → Hp → VK → Prop) (c : List AV → AH → Out AV) : Prop := ∀ (W : WX) (Z : Addr → Prop) (m : List Addr) (σ : L2.St) (H : Hp) (hp : AH) (vs : List V) (as : List AV) (Q : VK), Rel K Z m H hp → AVRs K Z m H vs as → Es K W Z m σ H (c as hp) Q → r vs H Q
section
variable {X : Cx} {W : WX} {pos p : Pos} {x : Str} {e : Expr} {es : List Expr} {g : Fa} {r : List V → Hp → VK → Prop} {c : List AV → AH → Out AV} {id T : String}
theorem tCB_of {K : KF} (hs : RC K r c) : ∀ σ H Q, tE K W (callF c g) σ H Q → tCB r (tA K W g) σ H Q := fun σ H Q ⟨Z, m, env, hp, a, h1⟩ =>
  ⟨Z, m, env, hp, a, (Wp.bind h1).imp fun as hp1 m1 H1 g1 r1 ⟨_, _, h2⟩ vs rv => hs W Z m1 σ H1 hp1 vs as Q r1 rv h2⟩
theorem ce_callB (hc : CallR X (.builtin id) r) (hs : RC X.K r c) (hg : Gl X x) (hm : X.mg x = none) (hv : bootBuiltins x = some (.builtin id)) (ha : CA X W (e :: es) g) (hn : x ≠ "__name__" := by decide) (hdb : (x == ("__debug__" : Str)) = false := by decide)
    (he : starEach (e :: es) X.env = (false, eval e X.env) :: starEach es X.env := by rfl) (hpl : (backTo pos (starEach es X.env)).any (·.1) = false := by rfl) : CE X W (.Call (.Name x p) (e :: es) [] pos) (callF c g) := PE.imp (pe_callB hc hg hm hv ha hn hdb he hpl) (tCB_of hs)
theorem ce_callTy (hc : CallR X (.type T) r) (hs : RC X.K r c) (hg : Gl X x) (hm : X.mg x = none) (hv : bootBuiltins x = some (.type T)) (ha : CA X W (e :: es) g) (hn : x ≠ "__name__" := by decide) (hdb : (x == ("__debug__" : Str)) = false := by decide)
    (he : starEach (e :: es) X.env = (false, eval e X.env) :: starEach es X.env := by rfl) (hpl : (backTo pos (starEach es X.env)).any (·.1) = false := by rfl) : CE X W (.Call (.Name x p) (e :: es) [] pos) (callF c g) := PE.imp (pe_callTy hc hg hm hv ha hn hdb he hpl) (tCB_of hs)
end

def lenC (as : List AV) (hp : AH) : Out AV := match as with
  | [a] => match sqOf a hp with
    | some xs => .ok (.d (.int xs.length)) hp
    | none => match a with
      | .d (.str x) => if x.length ≤ bigLen then .ok (.d (.int x.length)) hp else .bad
      | a => match dcOf a hp with
        | some kvs => .ok (.d (.int kvs.length)) hp
        | none => .bad
  | _ => .bad
def absC (as : List AV) (hp : AH) : Out AV := match as with
  | [.d (.int i)] => .ok (.d (.int (if i < 0 then -i else i))) hp
  | _ => .bad
def intC (as : List AV) (hp : AH) : Out AV := match as with
  | [.d (.int i)] => .ok (.d (.int i)) hp
  | [.d (.bool b)] => .ok (.d (.int (if b then 1 else 0))) hp
  | _ => .bad
def tupleC (as : List AV) (hp : AH) : Out AV := match as with
  | [a] => match sqOf a hp with
    | some xs => .ok (.d (.tuple xs)) hp
    | none => .bad
  | _ => .bad
def listC (as : List AV) (hp : AH) : Out AV := match as with
  | [a] => match sqOf a hp with
    | some xs => .ok (.d (.list xs)) hp
    | none => .bad
  | _ => .bad
def bools : List D → Option (List Bool)
  | [] => some []
  | .bool b :: r => (bools r).map (b :: ·)
  | _ :: _ => none
def allC (as : List AV) (hp : AH) : Out AV := match as with
  | [a] => match lsOf a hp with
    | some xs => match bools xs with
      | some bs => .ok (.d (.bool (bs.all id))) hp
      | none => .bad
    | none => .bad
  | _ => .bad
def anyC (as : List AV) (hp : AH) : Out AV := match as with
  | [a] => match lsOf a hp with
    | some xs => match bools xs with
      | some bs => .ok (.d (.bool (bs.any id))) hp
      | none => .bad
    | none => .bad
  | _ => .bad
section
variable {K : KF} {Z : Addr → Prop} {m : List Addr} {H : Hp}
theorem AVRs.one {vs : List V} {a : AV} (h : AVRs K Z m H vs [a]) : ∃ v, vs = [v] ∧ AVR K Z m H v a := by
  cases h with
  | cons r t => cases t; exact ⟨_, rfl, r⟩
theorem bools_rel : ∀ {vs : List V} {ds : List D} {bs : List Bool}, DRs K Z H vs ds → bools ds = some bs → vs = bs.map V.bl
  | _, _, _, .nil, e => by cases e; rfl
  | _, .bool b :: r, _, .cons h t, e => by
    cases q : bools r with
    | none => simp [bools, q] at e
    | some ds =>
      simp [bools, q] at e; subst e
      cases h
      rw [bools_rel t q]; rfl
  | _, .none :: r, _, .cons h t, e => by simp [bools] at e
  | _, .int _ :: r, _, .cons h t, e => by simp [bools] at e
  | _, .str _ :: r, _, .cons h t, e => by simp [bools] at e
  | _, .list _ :: r, _, .cons h t, e => by simp [bools] at e
  | _, .tuple _ :: r, _, .cons h t, e => by simp [bools] at e
  | _, .dict _ :: r, _, .cons h t, e => by simp [bools] at e
end
section
variable {X : Cx} {W : WX}
theorem cr_len : CallR X (.builtin "len") (fun xs H Q => (∃ p ys, xs = [.ref p] ∧ (SqL X.K H p ys ∨ SqT X.K H p ys) ∧ Q (.int ys.length) H) ∨ (∃ z, xs = [.str z] ∧ z.length ≤ sizeLine ∧ Q (.int z.length) H) ∨ (∃ a kvs, xs = [V.ref a] ∧ H a = some (.dK kvs) ∧ Q (.int kvs.length) H)) :=
  CallR.or call_len_seq (CallR.or call_len_str call_lenD)
theorem rc_len {K : KF} : RC K (fun xs H Q => (∃ p ys, xs = [.ref p] ∧ (SqL K H p ys ∨ SqT K H p ys) ∧ Q (.int ys.length) H) ∨ (∃ z, xs = [.str z] ∧ z.length ≤ sizeLine ∧ Q (.int z.length) H) ∨ (∃ a kvs, xs = [V.ref a] ∧ H a = some (.dK kvs) ∧ Q (.int kvs.length) H)) lenC :=
  fun W Z m σ H hp vs as Q r rv h => by
    unfold lenC at h
    split at h
    · rename_i a
      obtain ⟨v, rfl, ra⟩ := AVRs.one rv
      split at h
      · rename_i xs e
        obtain ⟨p, vs, rfl, hq, hs⟩ := sqOf_rel r ra e
        exact .inl ⟨p, vs, rfl, hq, by rw [hs.length]; exact Es.ok h r (.int _)⟩
      · split at h
        · cases ra with
          | str _ hx =>
            split at h
            · rename_i hl
              exact .inr (.inl ⟨_, rfl, big_size hl, Es.ok h r (.int _)⟩)
            · exact h.elim
        · split at h
          · rename_i kvs e
            obtain ⟨n, p, ws, rfl, em, eo, rfl, e2, hk⟩ := dcOf_rel r ra e
            exact .inr (.inr ⟨p, ws, rfl, e2, by rw [hk.length]; exact Es.ok h r (.int _)⟩)
          · exact h.elim
    · exact h.elim
theorem rc_abs {K : KF} : RC K (fun xs H Q => ∃ i, xs = [.int i] ∧ Q (.int (if i < 0 then -i else i)) H) absC := fun W Z m σ H hp vs as Q r rv h => by
  unfold absC at h
  split at h
  · obtain ⟨v, rfl, ra⟩ := AVRs.one rv
    cases ra
    exact ⟨_, rfl, Es.ok h r (.int _)⟩
  · exact h.elim
theorem rc_int {K : KF} : RC K (fun xs H Q => (∃ i, xs = [.int i] ∧ Q (.int i) H) ∨ ∃ k, xs = [.bl k] ∧ Q (.int (if k then 1 else 0)) H) intC := fun W Z m σ H hp vs as Q r rv h => by
  unfold intC at h
  split at h
  · obtain ⟨v, rfl, ra⟩ := AVRs.one rv
    cases ra
    exact .inl ⟨_, rfl, Es.ok h r (.int _)⟩
  · obtain ⟨v, rfl, ra⟩ := AVRs.one rv
    cases ra
    exact .inr ⟨_, rfl, Es.ok h r (.int _)⟩
  · exact h.elim
/-- tuple(x), the new object known -/
theorem call_tupleZ : CallR X (.type "tuple") (fun xs H Q => ∃ p ys, xs = [.ref p] ∧ ((SqL X.K H p ys ∧ ∀ l (o : Obj), o.dict = none → H l = none → Q (.ref l) (upd H l (.frz o (.tup ys)))) ∨ (SqT X.K H p ys ∧ Q (.ref p) H))) := by
  intro pins s σ H xs us Q I r h
  obtain ⟨p, ys, rfl, h⟩ := h
  rcases h with ⟨hq, q⟩ | ⟨hq, q⟩
  · obtain ⟨u, rfl, rx⟩ := vals1 r
    cases rx
    obtain ⟨its, r', pl, hz⟩ := I.list hq
    have hlen := r'.length
    refine call_tuple_list pl.isList (fun h' kp => ?_) (by simp only [List.size_toArray] <;> omega)
    have I1 : Inv X pins σ H { s with heap := h' } := I.kept (t' := s.toks) kp
    have I2 : Inv X pins σ (upd H h'.objs.size (.frz { cls := .type "tuple", data := .seq its.toArray } (.tup ys))) { s with heap := h'.push { cls := .type "tuple", data := .seq its.toArray } } :=
      I1.laid (t' := s.toks) (fun b o e => Heap.get?_push_of_some _ e) (Nat.le_refl _) (show ObjOk X.prog X.w _ _ _ (.frz { cls := .type "tuple", data := .seq its.toArray } (.tup ys)) from ⟨Heap.get?_push_size _ rfl, hz, its, r', IsTup.new _ _⟩)
    exact ⟨.ref h'.objs.size, _, I2, rfl, q _ _ rfl (I1.hok.fresh (Nat.le_refl _))⟩
  · exact call_tuple_of pins s σ H _ us Q I r ⟨p, ys, rfl, .inr ⟨hq, q⟩⟩
theorem rc_tuple {K : KF} : RC K (fun xs H Q => ∃ p ys, xs = [.ref p] ∧ ((SqL K H p ys ∧ ∀ l (o : Obj), o.dict = none → H l = none → Q (.ref l) (upd H l (.frz o (.tup ys)))) ∨ (SqT K H p ys ∧ Q (.ref p) H))) tupleC := fun W Z m σ H hp vs as Q r rv h => by
  unfold tupleC at h
  split at h
  · rename_i a
    obtain ⟨v, rfl, ra⟩ := AVRs.one rv
    unfold sqOf at h
    split at h
    · rename_i xs e
      split at e
      · rename_i ys e1
        cases e
        cases a with
        | r n => cases e1
        | d x =>
          cases x with
          | tuple zs =>
            cases e1
            obtain ⟨p, vs, rfl, hq, hs⟩ := tpOf_rel ra rfl
            exact ⟨p, vs, rfl, .inr ⟨hq, Es.ok h r ra⟩⟩
          | _ => cases e1
      · obtain ⟨p, vs, rfl, hq, hs⟩ := lsOf_rel r ra e
        exact ⟨p, vs, rfl, .inl ⟨hq, fun l o ho hl => Es.fresh h r hl (new_tup r ho hl hs)⟩⟩
    · exact h.elim
  · exact h.elim
theorem rc_list {K : KF} : RC K (fun xs H Q => ∃ p ys, xs = [.ref p] ∧ (SqL K H p ys ∨ SqT K H p ys) ∧ ∀ l, H l = none → Q (.ref l) (upd H l (.lst ys))) listC := fun W Z m σ H hp vs as Q r rv h => by
  unfold listC at h
  split at h
  · rename_i a
    obtain ⟨v, rfl, ra⟩ := AVRs.one rv
    split at h
    · rename_i xs e
      obtain ⟨p, vs, rfl, hq, hs⟩ := sqOf_rel r ra e
      exact ⟨p, vs, rfl, hq, fun l hl => Es.fresh h r hl (new_lst r hl hs)⟩
    · exact h.elim
  · exact h.elim
theorem rc_all {K : KF} : RC K (rAll K) allC := fun W Z m σ H hp vs as Q r rv h => by
  unfold allC at h
  split at h
  · obtain ⟨v, rfl, ra⟩ := AVRs.one rv
    split at h
    · rename_i xs e
      split at h
      · rename_i bs e2
        obtain ⟨p, vs, rfl, hq, hs⟩ := lsOf_rel r ra e
        have := bools_rel hs e2
        subst this
        exact ⟨p, bs, rfl, hq, Es.ok h r (.bl _)⟩
      · exact h.elim
    · exact h.elim
  · exact h.elim
theorem rc_any {K : KF} : RC K (rAny K) anyC := fun W Z m σ H hp vs as Q r rv h => by
  unfold anyC at h
  split at h
  · obtain ⟨v, rfl, ra⟩ := AVRs.one rv
    split at h
    · rename_i xs e
      split at h
      · rename_i bs e2
        obtain ⟨p, vs, rfl, hq, hs⟩ := lsOf_rel r ra e
        have := bools_rel hs e2
        subst this
        exact ⟨p, bs, rfl, hq, Es.ok h r (.bl _)⟩
      · exact h.elim
    · exact h.elim
  · exact h.elim
end

/-! ### isinstance(x, T), T a written name of a built-in type -/
def tyName : D → String
  | .none => "NoneType"
  | .bool _ => "bool"
  | .int _ => "int"
  | .str _ => "str"
  | .list _ => "list"
  | .tuple _ => "tuple"
  | .dict _ => "dict"
def isiF (T : String) (f : Fe) : Fe := fun env hp => (f env hp).bind fun a h1 => match a with
  | .d x => match kitB (tyName x) T with
    | some b => .ok (.d (.bool b)) h1
    | none => .bad
  | _ => .bad
section
variable {X : Cx} {W : WX} {pos p p2 : Pos} {e : Expr} {f : Fe} {T : String} {y : Str}
theorem ty_of {K : KF} {Z : Addr → Prop} {H : Hp} {v : V} {d : D} (h : DR K Z H v d) : TyX K H v (.type (tyName d)) := by
  cases h with
  | non => exact .base .non
  | bl b => exact .base (.bl b)
  | int i => exact .base (.int i)
  | str x _ => exact .base (.str x)
  | lst _ hr _ =>
    rcases hr with hr | ⟨o, hr⟩
    · exact .base (.lst hr)
    · exact .base (.frz hr)
  | lstK hk _ => obtain ⟨o, _, _, h1, h2, _⟩ := hk; exact .kList h1 h2
  | tup _ hr _ => obtain ⟨o, e, _⟩ := hr; exact .fTuple e
  | tupK hk _ => obtain ⟨o, _, _, h1, h2, _⟩ := hk; exact .kTuple h1 h2
theorem ce_isi (hm : X.mg "isinstance" = none) (hmT : X.mg y = none) (hvT : bootBuiltins y = some (.type T)) (he : CE X W e f) (hg : Gl X "isinstance" := by rfl) (hgT : Gl X y := by rfl) (hnT : y ≠ "__name__" := by decide) (hdT : (y == ("__debug__" : Str)) = false := by decide)
    (hst : starEach [e, .Name y p2] X.env = (false, eval e X.env) :: starEach [.Name y p2] X.env := by rfl) (hs2 : starEach [.Name y p2] X.env = (false, eval (.Name y p2) X.env) :: starEach [] X.env := by rfl) (hpl : (backTo pos (starEach [.Name y p2] X.env)).any (·.1) = false := by rfl) :
    CE X W (.Call (.Name "isinstance" p) [e, .Name y p2] [] pos) (isiF T f) :=
  PE.imp (pe_callB call_isi hg hm PyProof.Rows.boot_isinstance (pa_cons he (pa_cons (pe_bltn (v := .ty T) hgT hmT hvT rfl hnT hdT) pa_nil hs2) hst) (by decide) (by decide) hst hpl) fun σ H Q ⟨Z, m, env, hp, a, h1⟩ =>
    ⟨Z, m, env, hp, a, (Wp.bind h1).imp fun x hp1 m1 H1 g1 r1 ⟨_, _, h2⟩ v rv => by
      show rIsi X.K [v, .ty T] H1 Q
      cases x with
      | r n => exact h2.elim
      | d x =>
        simp only at h2
        split at h2
        · rename_i b e
          exact ⟨v, .ty T, _, _, b, rfl, .ty T, ty_of rv, kit_ty e, Es.ok h2 r1 (.bl b)⟩
        · exact h2.elim⟩
end

/-! ### defs -/
/-- a def's meaning at the right number of arguments -/
def arF (n : Nat) (F : List AV → AH → Out AV) (as : List AV) (hp : AH) : Out AV := if as.length = n then F as hp else .bad
/-- a def's promise by its meaning -/
def spF (K : KF) (n : Nat) (F : List AV → AH → Out AV) : Sp := fun vs H Q E => ∃ Z m hp as, Rel K Z m H hp ∧ AVRs K Z m H vs as ∧ Es K (fun c d _ H => E c d H) Z m [] H (arF n F as hp) Q
theorem spF_len {K : KF} {n : Nat} {F : List AV → AH → Out AV} {vs : List V} {H : Hp} {Q : VK} {E : XK} (h : spF K n F vs H Q E) : vs.length = n := by
  obtain ⟨Z, m, hp, as, _, rv, q⟩ := h
  unfold arF at q
  split at q
  · rename_i e; rw [AVRs.length rv, e]
  · exact q.elim
structure Fn (P : Program) (w : World) (K : KF) (mg : Str → Option Value) (base : Heap) (k : Nat) (f : Addr) (n : Nat) (F : List AV → AH → Out AV) : Prop where
  ex : ∃ fd ps, FnOk P w K mg base (L2.CX P w) k f fd ps (spF K n F) ∧ Binds K fd ps []
  kp : PySem.W.keepIn K (.ref f) = true
/-- a def of the module by its name -/
def Gf (P : Program) (w : World) (K : KF) (mg : Str → Option Value) (base : Heap) (k : Nat) (x : Str) (n : Nat) (F : List AV → AH → Out AV) : Prop := ∃ f, mg x = some (.ref f) ∧ Fn P w K mg base k f n F
/-- a method of the class at C -/
def Mf (P : Program) (w : World) (K : KF) (mg : Str → Option Value) (base : Heap) (k : Nat) (C : Str) (mn : Str) (n : Nat) (F : List AV → AH → Out AV) : Prop := ∃ f, Meth K (He.ga K C) mn f ∧ Fn P w K mg base k f n F
/-- a class that may be made -/
def Nf (P : Program) (w : World) (K : KF) (mg : Str → Option Value) (base : Heap) (k : Nat) (x : Str) (C : Str) (n : Nat) (F : List AV → AH → Out AV) : Prop := ∃ f, mg x = some (.ref (He.ga K C)) ∧ Mk K (He.ga K C) f ∧ Fn P w K mg base k f n F
theorem Fn.mono {P : Program} {w : World} {K : KF} {mg : Str → Option Value} {base : Heap} {j k : Nat} {f : Addr} {n : Nat} {F : List AV → AH → Out AV} (h : Fn P w K mg base j f n F) (l : j ≤ k) : Fn P w K mg base k f n F :=
  ⟨let ⟨fd, ps, a, b⟩ := h.ex; ⟨fd, ps, a.mono l, b⟩, h.kp⟩
theorem Es.wish {K : KF} {W W' : WX} {Z : Addr → Prop} {m : List Addr} {σ σ' : L2.St} {H : Hp} {o : Out AV} {Q : VK} (h : Es K W Z m σ H o Q) (f : ∀ c d H', W c d σ H' → W' c d σ' H') : Es K W' Z m σ' H o Q := by
  cases o with
  | ok a hp => exact h
  | exc x hp => exact fun m' H' c d g r e => f c d H' (h m' H' c d g r e)
  | bad => exact h
def methF (C : Str) (mn : Str) (n : Nat) (F : List AV → AH → Out AV) (fo : Fe) (g : Fa) : Fe := fun env hp => (fo env hp).bind fun a h1 => match a with
  | .r i => match h1[i]? with
    | some (.ins C' fs) => if C' = C ∧ (fs.lookup mn).isNone = true then (g env h1).bind fun as h2 => arF n F (.r i :: as) h2 else .bad
    | _ => .bad
  | _ => .bad
def makeF (C : Str) (n : Nat) (F : List AV → AH → Out AV) (g : Fa) : Fe := fun env hp => (g env hp).bind fun as h1 => (arF n F (.r h1.length :: as) (h1 ++ [.ins C []])).bind fun v h2 => match v with
  | .d .none => .ok (.r h1.length) h2
  | _ => .bad
section
variable {K : KF} {Z : Addr → Prop} {m : List Addr} {H : Hp}
theorem FR.look {f : Str} : ∀ {ws : List (Str × V)} {fs : List (Str × AV)}, FR K Z m H ws fs → (∀ a, fs.lookup f = some a → ∃ v, ws.lookup f = some v ∧ AVR K Z m H v a) ∧ (fs.lookup f = none → ws.lookup f = none)
  | _, _, .nil => ⟨fun a e => (by cases e), fun _ => rfl⟩
  | _, _, .cons (a := (p1, p2)) (b := (q1, q2)) ⟨h1, h2⟩ t => by
    have ih := FR.look (f := f) t
    simp only at h1
    subst h1
    by_cases e : (f == p1) = true
    · simp only [List.lookup, e]
      exact ⟨fun a ha => by cases ha; exact ⟨_, rfl, h2⟩, fun ha => by cases ha⟩
    · have e' : (f == p1) = false := by simpa using e
      simp only [List.lookup, e']
      exact ih
end
section
variable {X : Cx} {W : WX} {pos p apos : Pos} {x mn : Str} {e o : Expr} {es : List Expr} {g : Fa} {fo : Fe} {k n : Nat} {f C : Addr} {F : List AV → AH → Out AV}
theorem ce_call (G : Gf X.prog X.w X.K X.mg X.base k x n F) (hr : Room k X.A) (c : Ctx X W) (hg : Gl X x) (ha : CA X W (e :: es) g) (hdb : (x == ("__debug__" : Str)) = false := by decide)
    (he : starEach (e :: es) X.env = (false, eval e X.env) :: starEach es X.env := by rfl) (hpl : (backTo pos (starEach es X.env)).any (·.1) = false := by rfl) : CE X W (.Call (.Name x p) (e :: es) [] pos) (callF (arF n F) g) := by
  obtain ⟨f, hm, ⟨⟨fd, ps, FO, hb⟩, kp⟩⟩ := G
  refine PE.imp (pe_callS FO hr hg hm kp hb (passAt c.tk) ha hdb he hpl) fun σ H Q ⟨Z, m, env, hp, a, h1⟩ => ⟨Z, m, env, hp, a, (Wp.bind h1).imp fun as hp1 m1 H1 g1 r1 ⟨_, _, h2⟩ vs rv => ?_⟩
  exact ⟨Z, m1, hp1, as, r1, rv, Es.wish h2 fun c d H' q => q⟩
theorem pe_callS0 {CX : CXT} {fd : FuncData} {ps : List Str} {sp : Sp} {E : L2.St → XK} (FO : FnOk X.prog X.w X.K X.mg X.base CX k f fd ps sp) (hr : Room k X.A) (hg : Gl X x) (hm : X.mg x = some (.ref f)) (hk : PySem.W.keepIn X.K (.ref f) = true) (hb : Binds X.K fd ps []) (hx : ∀ σ, PassesAt CX X σ (E σ))
    (hdb : (x == ("__debug__" : Str)) = false := by decide) : PE X (.Call (.Name x p) [] [] pos) (tCallS sp E tNil) := by
  refine ⟨fun pins s σ H Q I h => ?_⟩
  refine wpAny_Call_Name_kw (ld_glob I hg hm ?_ hdb)
  exact PySem.W.callWith_K0 I.kIn hk (run_fnS (us := []) FO hr hb (hx σ) I .nil h)
theorem ce_call0 (G : Gf X.prog X.w X.K X.mg X.base k x n F) (hr : Room k X.A) (c : Ctx X W) (hg : Gl X x) (hdb : (x == ("__debug__" : Str)) = false := by decide) : CE X W (.Call (.Name x p) [] [] pos) (callF (arF n F) nilF) := by
  obtain ⟨f, hm, ⟨⟨fd, ps, FO, hb⟩, kp⟩⟩ := G
  refine PE.imp (pe_callS0 FO hr hg hm kp hb (passAt c.tk) hdb) fun σ H Q ⟨Z, m, env, hp, a, h1⟩ => ?_
  exact ⟨Z, m, hp, [], a.rel, .nil, Es.wish h1 fun c d H' q => q⟩
/-- o.m(e, ..), the wish at the caller's slots -/
def tMethW (C : Addr) (m : Str) (sp : Sp) (E : L2.St → XK) (ta : TE) (t : TA) : TE := fun σ H Q => ta σ H fun x H1 => ∃ a dx fs, x = .ref a ∧ H1 a = some (.ins C dx fs) ∧ fs.lookup m = none ∧ t σ H1 fun vs H2 => sp (x :: vs) H2 Q (E σ)
theorem pe_methW {pl : Sem Bool} {ta : TE} {t : TA} {CX : CXT} {fd : FuncData} {ps : List Str} {sp : Sp} {E : L2.St → XK} (he : PE X o ta) (c : Cls X.K C) (hm : Meth X.K C mn f) (FO : FnOk X.prog X.w X.K X.mg X.base CX k f fd ps sp) (hr : Room k X.A) (hb : Binds X.K fd ps []) (hx : ∀ σ, PassesAt CX X σ (E σ)) (ha : PA X (e :: es) t)
    (hst : starEach (e :: es) X.env = (false, eval e X.env) :: starEach es X.env := by rfl) (hpl : (backTo pos (starEach es X.env)).any (·.1) = false := by rfl)
    (ht : eval (.Call (.Attribute o mn apos) (e :: es) [] pos) X.env = (do
      let ov ← eval o X.env
      standAt apos.atName
      let (f, first) ← holding [ov] (getMethod ov mn pl)
      callWith pos f first (backTo pos (starEach (e :: es) X.env)) (backToKw pos (keywordEach [] X.env))) := by rfl) :
    PE X (.Call (.Attribute o mn apos) (e :: es) [] pos) (tMethW C mn sp E ta t) := by
  refine ⟨fun pins s σ H Q I h => ?_⟩
  refine PySem.W.methodCall_KW (pl := pl) (thn (he.run pins s σ H _ I h) fun u s1 ⟨x, H1, I1, rx, a, dx, fs, ex, ea, l, q⟩ => ?_) ht
  subst ex
  obtain rfl : u = Value.ref a := rx
  refine getmeth_ok I1 ea c hm l ?_
  refine PySem.W.callWith_K (first := [.ref a]) (h₀ := X.base) I.ok.mod.kin hm.kp (thn (ha.run pos pins s1 σ H1 _ I1 q) fun us s2 ⟨vs, H2, I2, r, q2⟩ => ⟨I2.kIn, ?_⟩) hst hpl
  exact run_fnS (us := .ref a :: us) (vs := .ref a :: vs) FO hr hb (hx σ) I2 (.cons rfl r) q2
theorem pe_methW0 {pl : Sem Bool} {ta : TE} {CX : CXT} {fd : FuncData} {ps : List Str} {sp : Sp} {E : L2.St → XK} (he : PE X o ta) (c : Cls X.K C) (hm : Meth X.K C mn f) (FO : FnOk X.prog X.w X.K X.mg X.base CX k f fd ps sp) (hr : Room k X.A) (hb : Binds X.K fd ps []) (hx : ∀ σ, PassesAt CX X σ (E σ))
    (ht : eval (.Call (.Attribute o mn apos) [] [] pos) X.env = (do
      let ov ← eval o X.env
      standAt apos.atName
      let (f, first) ← holding [ov] (getMethod ov mn pl)
      callWith pos f first (backTo pos (starEach [] X.env)) (backToKw pos (keywordEach [] X.env))) := by rfl) :
    PE X (.Call (.Attribute o mn apos) [] [] pos) (tMethW C mn sp E ta tNil) := by
  refine ⟨fun pins s σ H Q I h => ?_⟩
  refine PySem.W.methodCall_KW (pl := pl) (thn (he.run pins s σ H _ I h) fun u s1 ⟨x, H1, I1, rx, a, dx, fs, ex, ea, l, q⟩ => ?_) ht
  subst ex
  obtain rfl : u = Value.ref a := rx
  refine getmeth_ok I1 ea c hm l ?_
  exact PySem.W.callWith_K0 (first := [.ref a]) I1.kIn hm.kp (run_fnS (us := [.ref a]) (vs := [.ref a]) FO hr hb (hx σ) I1 (.cons rfl .nil) q)
theorem tMeth_of {K : KF} {C : Str} : ∀ σ H Q, tE K W (methF C mn n F fo g) σ H Q → tMethW (He.ga K C) mn (spF K n F) (WE W) (tE K W fo) (tA K W g) σ H Q := fun σ H Q ⟨Z, m, env, hp, a, h1⟩ =>
  ⟨Z, m, env, hp, a, (Wp.bind h1).imp fun x hp1 m1 H1 g1 r1 ⟨_, _, h2⟩ v rv => by
    cases x with
    | d x => exact h2.elim
    | r i =>
      obtain ⟨b, eb, rfl⟩ := rv
      simp only at h2
      split at h2
      · rename_i C' fs eo
        split at h2
        · rename_i hc
          obtain ⟨rfl, hl⟩ := hc
          obtain ⟨dx, ws, e1, hf⟩ := r1.obj eb eo
          refine ⟨b, dx, ws, rfl, e1, (FR.look hf).2 (by simpa using hl), Z, m1, env, hp1, a.go g1 r1, (Wp.bind h2).imp fun as hp2 m2 H2 g2 r2 ⟨_, _, h3⟩ vs rvs => ?_⟩
          exact ⟨Z, m2, hp2, .r i :: as, r2, .cons ⟨b, pre_get g2.pre eb, rfl⟩ rvs, Es.wish h3 fun c d H' q => q⟩
        · exact h2.elim
      · exact h2.elim⟩
theorem ce_meth {pl : Sem Bool} {C : Str} (M : Mf X.prog X.w X.K X.mg X.base k C mn n F) (hr : Room k X.A) (c : Ctx X W) (cl : Cls X.K (He.ga X.K C)) (ho : CE X W o fo) (ha : CA X W (e :: es) g)
    (hst : starEach (e :: es) X.env = (false, eval e X.env) :: starEach es X.env := by rfl) (hpl : (backTo pos (starEach es X.env)).any (·.1) = false := by rfl)
    (ht : eval (.Call (.Attribute o mn apos) (e :: es) [] pos) X.env = (do
      let ov ← eval o X.env
      standAt apos.atName
      let (f, first) ← holding [ov] (getMethod ov mn pl)
      callWith pos f first (backTo pos (starEach (e :: es) X.env)) (backToKw pos (keywordEach [] X.env))) := by rfl) : CE X W (.Call (.Attribute o mn apos) (e :: es) [] pos) (methF C mn n F fo g) := by
  obtain ⟨f, hm, ⟨⟨fd, ps, FO, hb⟩, kp⟩⟩ := M
  exact PE.imp (pe_methW ho cl hm FO hr hb (passAt c.tk) ha hst hpl ht) tMeth_of
theorem ce_meth0 {pl : Sem Bool} {C : Str} (M : Mf X.prog X.w X.K X.mg X.base k C mn n F) (hr : Room k X.A) (c : Ctx X W) (cl : Cls X.K (He.ga X.K C)) (ho : CE X W o fo)
    (ht : eval (.Call (.Attribute o mn apos) [] [] pos) X.env = (do
      let ov ← eval o X.env
      standAt apos.atName
      let (f, first) ← holding [ov] (getMethod ov mn pl)
      callWith pos f first (backTo pos (starEach [] X.env)) (backToKw pos (keywordEach [] X.env))) := by rfl) : CE X W (.Call (.Attribute o mn apos) [] [] pos) (methF C mn n F fo nilF) := by
  obtain ⟨f, hm, ⟨⟨fd, ps, FO, hb⟩, kp⟩⟩ := M
  refine PE.imp (pe_methW0 ho cl hm FO hr hb (passAt c.tk) ht) fun σ H Q h => ?_
  obtain ⟨Z, m, env, hp, a, h1⟩ := tMeth_of (g := nilF) σ H Q h
  refine ⟨Z, m, env, hp, a, h1.imp fun x hp1 m1 H1 g1 r1 q v rv => ?_⟩
  obtain ⟨b, dx, fs, e1, e2, e3, Z', m', env', hp', a', q'⟩ := q v rv
  exact ⟨b, dx, fs, e1, e2, e3, q' m' H1 .refl a'.rel [] .nil⟩
/-- C(e, ..), the wish at the caller's slots -/
def tMakeW (C : Addr) (sp : Sp) (E : L2.St → XK) (t : TA) : TE := fun σ H Q => t σ H fun vs H1 => ∀ x dx, H1 x = none → H1 dx = none → dx ≠ x →
  sp (.ref x :: vs) (upd (upd H1 dx (.own x)) x (.ins C dx [])) (fun v H2 => v = .non ∧ Q (.ref x) H2) (E σ)
theorem run_makeW {pins : List (Addr × Obj)} {σ : L2.St} {H : Hp} {s : Shared} {Q : VK} {us : List Value} {vs : List V} {CX : CXT} {fd : FuncData} {ps : List Str} {sp : Sp} {E : L2.St → XK} (M : Mk X.K C f) (FO : FnOk X.prog X.w X.K X.mg X.base CX k f fd ps sp) (hr : Room (k + 1) X.A) (hb : Binds X.K fd ps [])
    (hx : PassesAt CX X σ (E σ)) (I : Inv X pins σ H s) (r : Vals vs us)
    (h : ∀ x dx, H x = none → H dx = none → dx ≠ x → sp (.ref x :: vs) (upd (upd H dx (.own x)) x (.ins C dx [])) (fun v H2 => v = .non ∧ Q (.ref x) H2) (E σ)) :
    wpAny (model X.prog X.w) X.A (call (.ref C) us) (EP X pins σ Q) X.xe s := by
  have hq := h (s.heap.objs.size + 1) s.heap.objs.size (I.hok.fresh (Nat.le_succ _)) (I.hok.fresh (Nat.le_refl _)) (Nat.ne_of_lt (Nat.lt_succ_self _))
  have I2 := Inv.made (C := C) I
  have r2 : Vals (V.ref (s.heap.objs.size + 1) :: vs) (Value.ref (s.heap.objs.size + 1) :: us) := .cons rfl r
  have hl : (Value.ref (s.heap.objs.size + 1) :: us ++ []).length = ps.length := by
    have e := r2.length
    rw [F_len FO hq] at e
    rw [List.append_nil]
    exact e.symm
  have b := hb _ (Value.ref (s.heap.objs.size + 1) :: us) I2.kIn hl
  rw [List.append_nil] at b
  refine wpAny_call (make_map (f := f) I.kIn M.makes M.init (beq_iff_eq.mp M.fn) (codeAny_mono (FO.run _ X.stack _ _ ⟨Value.ref (s.heap.objs.size + 1) :: us, []⟩ (Value.ref (s.heap.objs.size + 1) :: us) _ _ (E σ) (hr.make C us [])
    (I2.env0.make C us []) b r2 hq) fun r s' hq' => ?_))
  cases r with
  | error e => exact hx pins _ _ e s' I2 hq'
  | ok fl =>
    cases fl with
    | ret u =>
      obtain ⟨v, H', I3, rv, ev, q3⟩ := I2.after hq'
      subst ev
      exact ⟨rv, ⟨V.ref (s.heap.objs.size + 1), H', I3, rfl, q3⟩⟩
    | next => exact False.elim hq'
    | brk => exact False.elim hq'
    | cont => exact False.elim hq'
where F_len {CX : CXT} {fd : FuncData} {ps : List Str} {sp : Sp} {vs : List V} {H : Hp} {Q : VK} {E : XK} (FO : FnOk X.prog X.w X.K X.mg X.base CX k f fd ps sp) (h : sp vs H Q E) : vs.length = ps.length := FO.len _ _ _ _ h
theorem ce_make {C : Str} (N : Nf X.prog X.w X.K X.mg X.base k x C n F) (hr : Room (k + 1) X.A) (c : Ctx X W) (hg : Gl X x) (ha : CA X W (e :: es) g) (hdb : (x == ("__debug__" : Str)) = false := by decide)
    (he : starEach (e :: es) X.env = (false, eval e X.env) :: starEach es X.env := by rfl) (hpl : (backTo pos (starEach es X.env)).any (·.1) = false := by rfl) : CE X W (.Call (.Name x p) (e :: es) [] pos) (makeF C n F g) := by
  obtain ⟨f, hm, M, ⟨⟨fd, ps, FO, hb⟩, kp⟩⟩ := N
  have P1 : PE X (.Call (.Name x p) (e :: es) [] pos) (tMakeW (He.ga X.K C) (spF X.K n F) (WE W) (tA X.K W g)) := by
    refine ⟨fun pins s σ H Q I h => ?_⟩
    refine wpAny_Call_Name_kw (ld_glob I hg hm ?_ hdb)
    refine PySem.W.callWith_K (h₀ := X.base) I.ok.mod.kin M.kp (thn (ha.run pos pins s σ H _ I h) fun us s1 ⟨vs, H1, I1, r, q⟩ => ⟨I1.kIn, ?_⟩) he hpl
    exact run_makeW M FO hr hb (passAt c.tk σ) I1 r q
  refine PE.imp P1 fun σ H Q ⟨Z, m, env, hp, a, h1⟩ => ⟨Z, m, env, hp, a, (Wp.bind h1).imp fun as hp1 m1 H1 g1 r1 ⟨_, _, h2⟩ vs rv y dx hy hdx hne => ?_⟩
  have r2 : Rel X.K Z m1 (upd H1 dx (.own y)) hp1 := r1.fresh hdx
  have hy2 : (upd H1 dx (HO.own y)) y = none := by rw [upd_ne (Ne.symm hne)]; exact hy
  have g2 := (Go.fresh r1 (o := .own y) hdx).trans (Go.alloc r2 (o := .ins (He.ga X.K C) dx []) hy2)
  have r3 : Rel X.K Z (m1 ++ [y]) (upd (upd H1 dx (.own y)) y (.ins (He.ga X.K C) dx [])) (hp1 ++ [.ins C []]) := r2.alloc hy2 ⟨dx, [], upd_same, .nil⟩
  have hmy : (m1 ++ [y])[hp1.length]? = some y := by rw [← r1.len]; simp
  have h3 := Wp.bind (Wp.go g2 h2)
  refine ⟨Z, m1 ++ [y], hp1 ++ [.ins C []], .r hp1.length :: as, r3, .cons ⟨y, hmy, rfl⟩ (Paired.imp (fun _ _ q => AVR.go g2 q) rv), Es.wish (h3.imp fun v hp4 m4 H4 g4 r4 ⟨_, _, h4⟩ u ru => ?_) fun c d H' q => q⟩
  cases v with
  | r n => exact h4.elim
  | d v =>
    cases v with
    | none =>
      cases ru
      exact ⟨rfl, Es.ok h4 r4 ⟨y, pre_get g4.pre hmy, rfl⟩⟩
    | _ => exact h4.elim
end

/-! ### attributes -/
def fldF (C : Str) (f : Str) (fo : Fe) : Fe := fun env hp => (fo env hp).bind fun a h1 => match a with
  | .r i => match h1[i]? with
    | some (.ins C' fs) => if C' = C then match fs.lookup f with
      | some v => .ok v h1
      | none => .bad else .bad
    | _ => .bad
  | _ => .bad
section
variable {X : Cx} {W : WX} {pos : Pos} {f : Str} {e : Expr} {fo : Fe} {C : Str}
theorem ce_fld (cl : Cls X.K (He.ga X.K C)) (hn : NoAttr X.K (He.ga X.K C) f) (he : CE X W e fo) (hb : attributeBase e f X.env (eval e X.env) = eval e X.env := by rfl) : CE X W (.Attribute e f pos) (fldF C f fo) :=
  PE.imp (pe_fld he hb) fun σ H Q ⟨Z, m, env, hp, a, h1⟩ => ⟨Z, m, env, hp, a, (Wp.bind h1).imp fun x hp1 m1 H1 g1 r1 ⟨_, _, h2⟩ v rv => by
    cases x with
    | d x => exact h2.elim
    | r i =>
      obtain ⟨b, eb, rfl⟩ := rv
      simp only at h2
      split at h2
      · rename_i C' fs eo
        split at h2
        · rename_i hc
          subst hc
          split at h2
          · rename_i av el
            obtain ⟨dx, ws, e1, hf⟩ := r1.obj eb eo
            obtain ⟨w, e2, rw'⟩ := (FR.look hf).1 av el
            exact ⟨b, _, dx, ws, w, rfl, e1, cl, hn, e2, Es.ok h2 r1 rw'⟩
          · exact h2.elim
        · exact h2.elim
      · exact h2.elim⟩
end

/-! ### new lists and dicts, before they have a name -/
abbrev Fnew := Sl → AH → Out AObj
def NR (K : KF) (Z : Addr → Prop) (m : List Addr) (H : Hp) : AObj → HO → Prop
  | .lst xs, ho => ∃ vs, ho = .lst vs ∧ DRs K (Zm Z m) H vs xs
  | .dct kvs, ho => ∃ ws, ho = .dK ws ∧ KVR K Z m H ws kvs
  | .ins _ _, _ => False
def tN (K : KF) (W : WX) (f : Fnew) : TE := fun σ H Q => ∃ Z m env hp, At K Z m H σ env hp ∧ Wp K W Z m σ H (f env hp) fun o hp' m' H' => Rel K Z m' H' hp' ∧ ∀ p ho, H' p = none → NR K Z m' H' o ho → Q (.ref p) (upd H' p ho)
abbrev CN (X : Cx) (W : WX) (e : Expr) (f : Fnew) : Prop := PE X e (tN X.K W f)
theorem NR.or {K : KF} {Z : Addr → Prop} {m : List Addr} {H : Hp} {hp : AH} {o : AObj} {ho : HO} {p : Addr} (r : Rel K Z m H hp) (hn : H p = none) (h : NR K Z m H o ho) : OR K Z (m ++ [p]) (upd H p ho) p o := by
  have g := Go.alloc r (o := ho) hn
  cases o with
  | lst xs => obtain ⟨vs, rfl, hs⟩ := h; exact ⟨vs, upd_same, DRs.go g hs⟩
  | dct kvs => obtain ⟨ws, rfl, hs⟩ := h; exact ⟨ws, upd_same, KVR.go g hs⟩
  | ins C fs => exact h.elim
end Pin
end
-- Pin5
section
set_option linter.all false
set_option maxRecDepth 100000
set_option maxHeartbeats 2000000
/-! Pin, part 5: new containers, targets, statements, loops. -/
namespace Pin
open PySem PySem.Spec PyProof.Rows L2

/-! ### a new container is given a place, or is data from now on -/
def allocF (f : Fnew) : Fe := fun env hp => (f env hp).bind fun o h1 => .ok (.r h1.length) (h1 ++ [o])
def frzF (f : Fnew) : Fe := fun env hp => (f env hp).bind fun o h1 => match o with
  | .lst xs => .ok (.d (.list xs)) h1
  | _ => .bad
section
variable {X : Cx} {W : WX} {pos p : Pos} {e a b : Expr} {es : List Expr} {f : Fnew} {g : Fa} {fe ge : Fe}
theorem ce_alloc (h : CN X W e f) : CE X W e (allocF f) := PE.imp h fun σ H Q ⟨Z, m, env, hp, a, h1⟩ => ⟨Z, m, env, hp, a, (Wp.bind h1).imp fun o hp1 m1 H1 g1 r1 ⟨_, _, h2⟩ => ⟨r1, fun q ho hn nr =>
  h2 (m1 ++ [q]) _ (Go.alloc r1 hn) (Rel.alloc r1 hn (NR.or r1 hn nr)) _ ⟨q, by rw [← r1.len]; simp, rfl⟩⟩⟩
theorem ce_frz (h : CN X W e f) : CE X W e (frzF f) := PE.imp h fun σ H Q ⟨Z, m, env, hp, a, h1⟩ => ⟨Z, m, env, hp, a, (Wp.bind h1).imp fun o hp1 m1 H1 g1 r1 ⟨_, _, h2⟩ => ⟨r1, fun q ho hn nr => by
  cases o with
  | lst xs =>
    obtain ⟨vs, rfl, hs⟩ := nr
    exact Es.fresh h2 r1 hn (new_lst r1 hn hs)
  | _ => exact h2.elim⟩⟩
def lstN (g : Fa) : Fnew := fun env hp => (g env hp).bind fun as h1 => match dats as with
  | some ds => .ok (.lst ds) h1
  | none => .bad
def dct0N : Fnew := fun _ hp => .ok (.dct []) hp
theorem cn_lst {n : Nat} (h : CA X W es g) (hf : Few n g) (hn : n ≤ 1000 := by decide) : CN X W (.List es pos) (lstN g) :=
  PE.imp (pe_lst h) fun σ H Q ⟨Z, m, env, hp, a, h1⟩ => ⟨Z, m, env, hp, a, (Wp.eq (Wp.bind h1)).imp fun as hp1 m1 H1 g1 r1 ⟨e0, _, _, h2⟩ vs rv => by
    cases q : dats as with
    | none => rw [q] at h2; exact h2.elim
    | some ds =>
      rw [q] at h2
      have hl : vs.length ≤ n := by rw [AVRs.length rv]; exact hf _ _ _ _ e0
      exact ⟨few_size (Nat.le_trans hl hn), fun p hp' => (h2 m1 H1 .refl r1).2 p _ hp' ⟨vs, rfl, dats_rel rv q⟩⟩⟩
theorem cn_dct0 : CN X W (.Dict [] [] pos) dct0N := PE.imp pe_dnewK fun σ H Q ⟨Z, m, env, hp, a, h1⟩ p hp' => (h1 m H .refl a.rel).2 p _ hp' ⟨[], rfl, .nil⟩
/-- d[k] of a dict that is made on the way -/
def ixN (f : Fnew) (ge : Fe) : Fe := fun env hp => (f env hp).bind fun o h1 => match o with
  | .dct kvs => (ge env h1).bind fun k h2 => match k with
    | .d (.str k) => match getD kvs k with
      | some d => .ok (.d d) h2
      | none => .bad
    | _ => .bad
  | _ => .bad
theorem ce_ixN (hu : X.A.units + 100 < cLine) (ha : CN X W a f) (hb : CE X W b ge) (hs : NoSl b := by exact fun _ _ => rfl) : CE X W (.Subscript a b pos) (ixN f ge) :=
  PE.imp (pe_dget (by omega) ha hb hs) fun σ H Q ⟨Z, m, env, hp, a, h1⟩ => ⟨Z, m, env, hp, a, (Wp.bind h1).imp fun o hp1 m1 H1 g1 r1 ⟨_, _, h2⟩ => ⟨r1, fun q ho hn nr => by
    cases o with
    | dct kvs =>
      obtain ⟨ws, rfl, hk⟩ := nr
      have gq := Go.fresh r1 (o := .dK ws) hn
      have rq := Rel.fresh r1 (o := .dK ws) hn
      have nq : q ∉ m1 := fun z => r1.zm hn (.inr z)
      refine ⟨Z, m1, env, hp1, a.go (g1.trans gq) rq, (Wp.bind (Wp.go gq h2)).imp fun k hp2 m2 H2 g2 r2 ⟨_, _, h3⟩ v rv => ?_⟩
      cases k with
      | r n => exact h3.elim
      | d k =>
        cases k with
        | str k =>
          cases rv
          simp only at h3
          split at h3
          · rename_i d e1
            obtain ⟨w, e2, rw'⟩ := (KVR.get (k := k) (hk.go (gq.trans g2))).1 d e1
            have eq2 : H2 q = some (.dK ws) := g2.keep q _ upd_same nq
            exact ⟨q, w, rfl, by rw [← e2]; exact DGet.k (k := .inr k) eq2, Es.ok h3 r2 rw'⟩
          · exact h3.elim
        | _ => exact h3.elim
    | _ => exact h2.elim⟩⟩
end

/-! ### an object hidden for a while -/
def hide (H : Hp) (p : Addr) : Hp := fun b => if b = p then none else H b
def ZP (Z : Addr → Prop) (p : Addr) : Addr → Prop := fun a => Z a ∨ a = p
section
variable {K : KF} {Z : Addr → Prop} {m m' : List Addr} {H H' : Hp} {hp : AH} {p : Addr} {o : HO}
theorem hide_ne {a : Addr} (h : a ≠ p) : hide H p a = H a := by unfold hide; rw [if_neg h]
theorem hide_same : hide H p p = none := by unfold hide; rw [if_pos rfl]
theorem upd_hide : upd (hide H p) p o = upd H p o := by
  funext b; unfold upd hide
  by_cases h : b = p
  · rw [if_pos h, if_pos h]
  · rw [if_neg h, if_neg h, if_neg h]
theorem DR.hide {v : V} {d : D} (h : DR K (Zm (ZP Z p) m) H v d) : DR K (Zm Z m) (hide H p) v d :=
  DR.stay (fun a o e n => by rw [hide_ne (fun q => n (.inl (.inr q)))]; exact e) (fun a z n => by rcases z with z | z; exact absurd (.inl (.inl z)) n; exact absurd (.inr z) n) h
theorem DRs.hide {v : List V} {d : List D} (h : DRs K (Zm (ZP Z p) m) H v d) : DRs K (Zm Z m) (hide H p) v d :=
  DRs.stay (fun a o e n => by rw [hide_ne (fun q => n (.inl (.inr q)))]; exact e) (fun a z n => by rcases z with z | z; exact absurd (.inl (.inl z)) n; exact absurd (.inr z) n) h
theorem AVR.hide {v : V} {a : AV} (h : AVR K (ZP Z p) m H v a) : AVR K Z m (hide H p) v a := by
  cases a with
  | d x => exact DR.hide h
  | r n => exact h
theorem Rel.hide (r : Rel K (ZP Z p) m H hp) (hz : ¬ Z p) : Rel K Z m (Pin.hide H p) hp :=
  ⟨r.len, r.nd, fun a h z => r.off a h (.inl z), fun a z => by obtain ⟨o, e⟩ := r.trk a (.inl z); exact ⟨o, by rw [hide_ne (fun q => hz (by rw [← q]; exact z))]; exact e⟩, fun i a o e1 e2 => by
    have hne : a ≠ p := fun q => r.off a (List.mem_of_getElem? e1) (.inr q)
    have x := r.obs i a o e1 e2
    cases o with
    | lst xs => obtain ⟨vs, e, h⟩ := x; exact ⟨vs, by rw [hide_ne hne]; exact e, DRs.hide h⟩
    | dct kvs => obtain ⟨vs, e, h⟩ := x; exact ⟨vs, by rw [hide_ne hne]; exact e, Paired.imp (fun _ _ q => ⟨q.1, q.2.1, DR.hide q.2.2⟩) h⟩
    | ins C fs => obtain ⟨dx, vs, e, h⟩ := x; exact ⟨dx, vs, by rw [hide_ne hne]; exact e, Paired.imp (fun _ _ q => ⟨q.1, AVR.hide q.2⟩) h⟩⟩
theorem Go.hide (g : Go m (upd H p o) m' H') (hn : H p = none) : Go m H m' (Pin.hide H' p) :=
  ⟨g.pre, fun a h n => by
    have e := g.new a h n
    by_cases q : a = p
    · rw [q]; exact hn
    · rw [upd_ne q] at e; exact e, fun a u e n => by
    have ne := ne_of_none e hn
    rw [hide_ne ne]
    exact g.keep a u (by rw [upd_ne ne]; exact e) n⟩
theorem Go.unmore (g : Go m (upd H p o) m' H') (hn : H p = none) : Go m H m' H' :=
  ⟨g.pre, fun a h n => by
    have e := g.new a h n
    by_cases q : a = p
    · rw [q]; exact hn
    · rw [upd_ne q] at e; exact e, fun a u e n => g.keep a u (by rw [upd_ne (ne_of_none e hn)]; exact e) n⟩
theorem zp_less {a : Addr} (h : Zm Z m a) : Zm (ZP Z p) m a := h.elim (fun z => .inl (.inl z)) .inr
theorem AVR.less {v : V} {a : AV} (h : AVR K (ZP Z p) m H v a) : AVR K Z m H v a := by
  cases a with
  | d x => exact DR.less (fun _ => zp_less) h
  | r n => exact h
theorem Rel.less (r : Rel K (ZP Z p) m H hp) : Rel K Z m H hp :=
  ⟨r.len, r.nd, fun a h z => r.off a h (.inl z), fun a z => r.trk a (.inl z), fun i a o e1 e2 => by
    have x := r.obs i a o e1 e2
    cases o with
    | lst xs => obtain ⟨vs, e, h⟩ := x; exact ⟨vs, e, DRs.less (fun _ => zp_less) h⟩
    | dct kvs => obtain ⟨vs, e, h⟩ := x; exact ⟨vs, e, Paired.imp (fun _ _ q => ⟨q.1, q.2.1, DR.less (fun _ => zp_less) q.2.2⟩) h⟩
    | ins C fs => obtain ⟨dx, vs, e, h⟩ := x; exact ⟨dx, vs, e, Paired.imp (fun _ _ q => ⟨q.1, AVR.less q.2⟩) h⟩⟩
theorem ExR.less {x : Exn} {c : Value} {d : Option Addr} (h : ExR K (ZP Z p) m H x c d) : ExR K Z m H x c d :=
  ⟨h.1, h.2.imp id fun ⟨dd, ws, e, e2, q⟩ => ⟨dd, ws, e, e2, Paired.imp (fun _ _ q => ⟨q.1, DR.less (fun _ => zp_less) q.2⟩) q⟩⟩
theorem SlR.less {σ : L2.St} {env : Sl} (h : SlR K (ZP Z p) m H σ env) : SlR K Z m H σ env := Paired.imp (fun _ _ q av e => let ⟨v, e', r⟩ := q av e; ⟨v, e', AVR.less r⟩) h
theorem DR.more {v : V} {d : D} (hn : H p = none) (h : DR K (Zm Z m) H v d) : DR K (Zm (ZP Z p) m) (upd H p o) v d :=
  DR.stay (fun a u e n => by rw [upd_ne (ne_of_none e hn)]; exact e) (fun a z n => by
    rcases z with (z | z) | z
    · exact absurd (.inl z) n
    · rw [z]; exact hn
    · exact absurd (.inr z) n) h
theorem DRs.more {v : List V} {d : List D} (hn : H p = none) (h : DRs K (Zm Z m) H v d) : DRs K (Zm (ZP Z p) m) (upd H p o) v d :=
  DRs.stay (fun a u e n => by rw [upd_ne (ne_of_none e hn)]; exact e) (fun a z n => by
    rcases z with (z | z) | z
    · exact absurd (.inl z) n
    · rw [z]; exact hn
    · exact absurd (.inr z) n) h
theorem AVR.more {v : V} {a : AV} (hn : H p = none) (h : AVR K Z m H v a) : AVR K (ZP Z p) m (upd H p o) v a := by
  cases a with
  | d x => exact DR.more hn h
  | r n => exact h
theorem Rel.more (r : Rel K Z m H hp) (hn : H p = none) : Rel K (ZP Z p) m (upd H p o) hp :=
  ⟨r.len, r.nd, fun a h z => by
    rcases z with z | z
    · exact r.off a h z
    · rw [z] at h; exact r.zm hn (.inr h), fun a z => by
    rcases z with z | z
    · obtain ⟨u, e⟩ := r.trk a z; exact ⟨u, by rw [upd_ne (ne_of_none e hn)]; exact e⟩
    · rw [z]; exact ⟨_, upd_same⟩, fun i a u e1 e2 => by
    have x := r.obs i a u e1 e2
    obtain ⟨w, e3⟩ := OR.some x
    have hne := ne_of_none e3 hn
    cases u with
    | lst xs => obtain ⟨vs, e, h⟩ := x; exact ⟨vs, by rw [upd_ne hne]; exact e, DRs.more hn h⟩
    | dct kvs => obtain ⟨vs, e, h⟩ := x; exact ⟨vs, by rw [upd_ne hne]; exact e, Paired.imp (fun _ _ q => ⟨q.1, q.2.1, DR.more hn q.2.2⟩) h⟩
    | ins C fs => obtain ⟨dx, vs, e, h⟩ := x; exact ⟨dx, vs, by rw [upd_ne hne]; exact e, Paired.imp (fun _ _ q => ⟨q.1, AVR.more hn q.2⟩) h⟩⟩
theorem SlR.more {σ : L2.St} {env : Sl} (hn : H p = none) (h : SlR K Z m H σ env) : SlR K (ZP Z p) m (upd H p o) σ env := Paired.imp (fun _ _ q av e => let ⟨v, e', r⟩ := q av e; ⟨v, e', AVR.more hn r⟩) h
end

/-! ### {k: e, ..} with written keys -/
def pairsF : List (Str × Fe) → Sl → AH → Out (List (Str × D))
  | [], _, hp => .ok [] hp
  | (k, f) :: r, env, hp => (f env hp).bind fun a h1 => match a with
    | .d d => (pairsF r env h1).bind fun ds h2 => .ok ((k, d) :: ds) h2
    | _ => .bad
def mergeD (kvs : List (Str × D)) : List (Str × D) := kvs.foldl (fun acc kv => putD acc kv.1 kv.2) []
def dispN (l : List (Str × Fe)) : Fnew := fun env hp => (pairsF l env hp).bind fun kvs h1 => .ok (.dct (mergeD kvs)) h1
/-- the pairs of a display -/
inductive CP (X : Cx) (W : WX) : List (Option Expr) → List Expr → List (Str × Fe) → Prop where
  | nil : CP X W [] [] []
  | cons {k : Str} {j : Nat} {kp : Pos} {v : Expr} {ks : List (Option Expr)} {vs : List Expr} {f : Fe} {l : List (Str × Fe)} : PyData.strOk k = true → CE X W v f → CP X W ks vs l → CP X W (some (.Constant (.str k) j kp) :: ks) (v :: vs) ((k, f) :: l)
section
variable {X : Cx} {W : WX} {pos : Pos}
theorem pps_of : ∀ {ks : List (Option Expr)} {vs : List Expr} {l : List (Str × Fe)}, CP X W ks vs l → PPs X pos ks vs (l.map fun q => (tC (.str q.1), tE X.K W q.2))
  | _, _, _, .nil => pps_nil
  | _, _, _, .cons _ h t => pps_cons pe_str h (pps_of t)
theorem pairs_rel {K : KF} {Z : Addr → Prop} : ∀ {l : List (Str × Fe)} {m : List Addr} {σ : L2.St} {H : Hp} {env : Sl} {hp : AH} {R : List (Str × D) → AH → List Addr → Hp → Prop} {Qp : List (V × V) → Hp → Prop}, (∀ q ∈ l, PyData.strOk q.1 = true) → At K Z m H σ env hp → Wp K W Z m σ H (pairsF l env hp) R →
    (∀ kvs ws hp' m' H', Go m H m' H' → Rel K Z m' H' hp' → KVR K Z m' H' ws kvs → kvs.length = l.length → R kvs hp' m' H' → Qp (ws.map fun kv => (kV kv.1, kv.2)) H') → tPairs (l.map fun q => (tC (.str q.1), tE K W q.2)) σ H Qp
  | [], m, σ, H, env, hp, R, Qp, _, at1, h, f => f [] [] hp m H .refl at1.rel .nil rfl (h m H .refl at1.rel)
  | (k, fe) :: l, m, σ, H, env, hp, R, Qp, hk, at1, h, f => by
    refine ⟨Z, m, env, hp, at1, (Wp.bind h).imp fun a hp1 m1 H1 g1 r1 ⟨_, _, h2⟩ v rv => ?_⟩
    cases a with
    | r n => exact h2.elim
    | d d =>
      refine pairs_rel (l := l) (fun q hq => hk q (List.mem_cons_of_mem _ hq)) (at1.go g1 r1) (Wp.bind h2) fun kvs ws hp2 m2 H2 g2 r2 kr hl ⟨_, _, q⟩ => ?_
      exact f ((k, d) :: kvs) ((.inr k, v) :: ws) hp2 m2 H2 (g1.trans g2) r2 (.cons ⟨rfl, hk _ List.mem_cons_self, DR.go g2 rv⟩ kr) (by simp [hl]) (q m2 H2 .refl r2)
theorem merge_rel {K : KF} {Z : Addr → Prop} {m : List Addr} {H : Hp} : ∀ {ws : List (Key × V)} {kvs : List (Str × D)} {w0 : List (Key × V)} {k0 : List (Str × D)}, KVR K Z m H ws kvs → KVR K Z m H w0 k0 → KVR K Z m H (mergeK w0 ws) (kvs.foldl (fun acc kv => putD acc kv.1 kv.2) k0)
  | _, _, _, _, .nil, h => h
  | _, _, _, _, .cons (a := p) (b := q) ⟨h1, h2, h3⟩ t, h => by
    rw [List.foldl_cons]
    show KVR K Z m H (mergeK (putK _ p.1 p.2) _) _
    rw [h1]
    exact merge_rel t (KVR.put h2 h3 h)
theorem CP.len : ∀ {ks : List (Option Expr)} {vs : List Expr} {l : List (Str × Fe)}, CP X W ks vs l → ks.length = l.length ∧ vs.length = l.length ∧ ks.all (·.isSome) = true ∧ ∀ q ∈ l, PyData.strOk q.1 = true
  | _, _, _, .nil => ⟨rfl, rfl, rfl, fun _ h => by cases h⟩
  | _, _, _, .cons h0 _ t => by
    obtain ⟨a, b, c, d⟩ := CP.len t
    refine ⟨by simp [a], by simp [b], by simp [c], fun q hq => ?_⟩
    rcases List.mem_cons.mp hq with e | hq
    · rw [e]; exact h0
    · exact d q hq
theorem cn_disp {ks : List (Option Expr)} {vs : List Expr} {l : List (Str × Fe)} (h : CP X W ks vs l) (h0 : ks ≠ [] := by exact fun h => nomatch h) (h15 : ks.length ≤ 15 := by decide) : CN X W (.Dict ks vs pos) (dispN l) := by
  obtain ⟨l1, l2, l3, l4⟩ := CP.len h
  refine PE.imp (pe_disp (pps_of h) l3 (by rw [l1, l2]) h0 h15) fun σ H Q ⟨Z, m, env, hp, a, h1⟩ p hn => ?_
  have r1 := a.rel.more (p := p) (o := .dK []) hn
  have nz : ¬ Z p := fun z => a.rel.zm hn (.inl z)
  have key := Wp.bind h1
  refine pairs_rel (K := X.K) (Z := ZP Z p) (W := W) (m := m) (env := env) (hp := hp) (R := fun kvs hp' m' H' => Rel X.K Z m' (hide H' p) hp' ∧ ∀ q ho, hide H' p q = none → NR X.K Z m' (hide H' p) (.dct (mergeD kvs)) ho → Q (.ref q) (upd (hide H' p) q ho)) l4 ⟨r1, SlR.more hn a.sl⟩ ?_ ?_
  · cases hpr : pairsF l env hp with
    | ok kvs hp' =>
      rw [hpr] at key
      intro m' H' g r
      have g' := Go.hide g hn
      have r' := r.hide nz
      obtain ⟨_, _, q⟩ := key m' _ g' r'
      obtain ⟨q1, q2⟩ := q m' _ .refl r'
      exact ⟨r', q2⟩
    | exc x hp' =>
      have h1e := h1
      unfold dispN at h1e
      rw [hpr] at h1e
      intro m' H' c d g r ex
      exact h1e m' H' c d (Go.unmore g hn) (Rel.less r) (ExR.less ex)
    | bad => rw [hpr] at key; exact key
  · intro kvs ws hp' m' H' g r kr hl ⟨r', q⟩
    have nm : p ∉ m := fun z => a.rel.zm hn (.inr z)
    have e1 : H' p = some (.dK []) := g.keep p _ upd_same nm
    have hl' : ws.length ≤ 15 := by rw [KVR.length kr, hl, ← l1]; exact h15
    have nr : NR X.K Z m' (hide H' p) (.dct (mergeD kvs)) (.dK (mergeK [] ws)) := ⟨_, rfl, merge_rel (Paired.imp (fun _ _ q => ⟨q.1, q.2.1, DR.hide q.2.2⟩) kr) .nil⟩
    have fin := q p _ hide_same nr
    rw [upd_hide] at fin
    exact ⟨e1, ws, rfl, hl', fin⟩
end
end Pin
end
-- Pin6
section
set_option linter.all false
set_option maxRecDepth 100000
set_option maxHeartbeats 2000000
/-! Pin, part 6: targets, statements, loops, methods of lists and dicts. -/
namespace Pin
open PySem PySem.Spec PyProof.Rows L2

/-! ### targets -/
abbrev Bt := AV → Sl → AH → Option (Sl × AH)
def bindAll : List Bt → List AV → Sl → AH → Option (Sl × AH)
  | [], [], env, hp => some (env, hp)
  | b :: bs, a :: as, env, hp => match b a env hp with
    | some (e1, h1) => bindAll bs as e1 h1
    | none => none
  | _, _, _, _ => none
def nmB (i : Nat) : Bt := fun a env hp => some (env.set i (some a), hp)
def tpB (bs : List Bt) : Bt := fun a env hp => match a with
  | .d (.tuple ds) => if ds.length = bs.length then bindAll bs (ds.map AV.d) env hp else none
  | _ => none
section
variable {K : KF} {Z : Addr → Prop} {m : List Addr} {H : Hp} {σ : L2.St} {env : Sl}
def tG (K : KF) (b : Bt) : TG := fun v σ H Q => ∃ Z m env hp a env' hp', At K Z m H σ env hp ∧ AVR K Z m H v a ∧ b a env hp = some (env', hp') ∧ ∀ m' H' σ', Go m H m' H' → Rel K Z m' H' hp' → SlR K Z m' H' σ' env' → Q σ' H'
def tGs (K : KF) (bs : List Bt) : TGs := fun vs σ H Q => ∃ Z m env hp as env' hp', At K Z m H σ env hp ∧ AVRs K Z m H vs as ∧ bindAll bs as env hp = some (env', hp') ∧ ∀ m' H' σ', Go m H m' H' → Rel K Z m' H' hp' → SlR K Z m' H' σ' env' → Q σ' H'
abbrev CG (X : Cx) (e : Expr) (b : Bt) : Prop := PG X e (tG X.K b)
abbrev CGs (X : Cx) (es : List Expr) (bs : List Bt) : Prop := PGs X es (tGs X.K bs)
theorem PG.imp {X : Cx} {e : Expr} {t t' : TG} (h : PG X e t) (f : ∀ v σ H Q, t' v σ H Q → t v σ H Q) : PG X e t' := ⟨fun pins s σ H v u Q I r q => h.run pins s σ H v u Q I r (f v σ H Q q)⟩
theorem PGs.imp {X : Cx} {es : List Expr} {t t' : TGs} (h : PGs X es t) (f : ∀ v σ H Q, t' v σ H Q → t v σ H Q) : PGs X es t' := ⟨fun pins s σ H v u Q I r q => h.run pins s σ H v u Q I r (f v σ H Q q)⟩
theorem Paired.set {α β : Type} {F : α → β → Prop} {a : α} {b : β} (h : F a b) : ∀ {l₁ : List α} {l₂ : List β} (i : Nat), Paired F l₁ l₂ → Paired F (l₁.set i a) (l₂.set i b)
  | _, _, _, .nil => .nil
  | _, _, 0, .cons _ t => .cons h t
  | _, _, i + 1, .cons r t => .cons r (Paired.set h i t)
theorem SlR.set {v : V} {a : AV} (i : Nat) (h : SlR K Z m H σ env) (r : AVR K Z m H v a) : SlR K Z m H (σ.set i (some v)) (env.set i (some a)) :=
  Paired.set (fun av e => by cases e; exact ⟨v, rfl, r⟩) i h
theorem DRs.avrs : ∀ {vs : List V} {ds : List D}, DRs K (Zm Z m) H vs ds → AVRs K Z m H vs (ds.map AV.d)
  | _, _, .nil => .nil
  | _, _, .cons h t => .cons h (DRs.avrs t)
end
section
variable {X : Cx} {W : WX} {pos : Pos} {e : Expr} {es : List Expr} {b : Bt} {bs : List Bt}
theorem cg_name (i : Nat) {x : Str} (hN : X.N.Nodup) (hi : X.N[i]? = some x := by rfl) (hx : Loc X.env.scope x := by first | exact Or.inl rfl | exact Or.inr rfl) (hf : X.fn x = true ∨ X.env.scope.names.lookup x = some .local := by first | exact .inl rfl | exact .inr rfl | assumption) : CG X (.Name x pos) (nmB i) :=
  PG.imp (pg_name hN hi hx hf) fun v σ H Q ⟨Z, m, env, hp, a, env', hp', at1, r, e, f⟩ => by
    cases e
    exact f m H _ .refl at1.rel (at1.sl.set i r)
theorem cgs_nil : CGs X [] [] := PGs.imp pgs_nil fun vs σ H Q ⟨Z, m, env, hp, as, env', hp', at1, r, e, f⟩ => by
  cases r with
  | nil =>
    cases e
    exact ⟨rfl, f m H _ .refl at1.rel at1.sl⟩
  | cons _ _ => cases e
theorem cgs_cons (h1 : CG X e b) (h2 : CGs X es bs) (hs : (assignEach (e :: es) X.env).map (·.2) = assign e X.env :: (assignEach es X.env).map (·.2) := by rfl) : CGs X (e :: es) (b :: bs) :=
  PGs.imp (pgs_cons h1 h2 hs) fun vs σ H Q ⟨Z, m, env, hp, as, env', hp', at1, r, e, f⟩ => by
    match vs, as, r, e with
    | _, _, .nil, e => cases e
    | _, _, .cons (a := v) (b := a) (l₁ := vs) (l₂ := as) r rs, e =>
      simp only [bindAll] at e
      cases q : b a env hp with
      | none => rw [q] at e; cases e
      | some p =>
        obtain ⟨e1, hp1⟩ := p
        rw [q] at e
        exact ⟨v, vs, rfl, Z, m, env, hp, a, e1, hp1, at1, r, q, fun m1 H1 σ1 g1 r1 s1 => ⟨Z, m1, e1, hp1, as, env', hp', ⟨r1, s1⟩, Paired.imp (fun _ _ z => AVR.go g1 z) rs, e, fun m2 H2 σ2 g2 r2 s2 => f m2 H2 σ2 (g1.trans g2) r2 s2⟩⟩
theorem cg_tup {k n : Nat} (hc : X.calm = true) (h : CGs X es bs) (hn : (assignEach es X.env).length = bs.length := by rfl) (hst : (assignEach es X.env).findIdx? (·.1) = none := by rfl) : CG X (.Tuple es k pos) (tpB bs) :=
  PG.imp (pg_tup hc h hn hst) fun v σ H Q ⟨Z, m, env, hp, a, env', hp', at1, r, e, f⟩ => by
    unfold tpB at e
    split at e
    · rename_i ds
      split at e
      · rename_i hl
        obtain ⟨p, vs, rfl, hq, hs⟩ := tpOf_rel r rfl
        exact ⟨p, vs, rfl, hq, by rw [hs.length, hl], Z, m, env, hp, _, env', hp', at1, DRs.avrs hs, e, f⟩
      · cases e
    · cases e
end

/-! ### statements -/
def Out.toS {α : Type} (o : Out α) (env : Sl) (k : α → AH → OutS) : OutS := match o with
  | .ok a h => k a h
  | .exc x h => .exc x env h
  | .bad => .bad
def nxS : Fs := fun env hp => .nx env hp
def seqS (f g : Fs) : Fs := fun env hp => match f env hp with
  | .nx e h => g e h
  | o => o
def exprS (f : Fe) : Fs := fun env hp => (f env hp).toS env fun _ h => .nx env h
def retS (f : Fe) : Fs := fun env hp => (f env hp).toS env fun a h => .rt a h
def retN : Fs := fun _ hp => .rt (.d .none) hp
def ifS (c : Ft) (f g : Fs) : Fs := fun env hp => (c env hp).toS env fun b h => if b then f env h else g env h
def setS (i : Nat) (f : Fe) : Fs := fun env hp => (f env hp).toS env fun a h => .nx (env.set i (some a)) h
def asgS (b : Bt) (f : Fe) : Fs := fun env hp => (f env hp).toS env fun a h => match b a env h with
  | some (e, h') => .nx e h'
  | none => .bad
def parS (bs : List Bt) (g : Fa) : Fs := fun env hp => (g env hp).toS env fun as h => match bindAll bs as env h with
  | some (e, h') => .nx e h'
  | none => .bad
def brkS : Fs := fun env hp => .bk env hp
def cntS : Fs := fun env hp => .ct env hp
section
variable {K : KF} {W : WX} {Z : Addr → Prop} {m : List Addr} {H : Hp} {σ : L2.St} {env : Sl} {hp : AH}
theorem WpS.toS {α : Type} {o : Out α} {k : α → AH → OutS} {De : Ends} (a : At K Z m H σ env hp) (h : WpS K W Z m H (o.toS env k) De) : Wp K W Z m σ H o fun x hp' m' H' => Go m H m' H' ∧ Rel K Z m' H' hp' ∧ WpS K W Z m' H' (k x hp') De := by
  cases o with
  | ok x hp' => exact fun m' H' g r => ⟨g, r, WpS.go g h⟩
  | exc x hp' => exact fun m' H' c d g r ex => h m' H' σ c d g r (a.sl.go g) ex
  | bad => exact h
end
section
variable {X : Cx} {W : WX} {pos : Pos} {st : Stmt} {rest : List Stmt} {e c tg : Expr} {es : List Expr} {f : Fe} {t : Ft} {g k : Fs} {ga : Fa} {b : Bt} {bs : List Bt}
theorem css_nil : CSs X W [] nxS := PSs.imp pss_nil fun De σ H ⟨Z, m, env, hp, a, h⟩ => h m H σ .refl a.rel a.sl
theorem css_one (h : CS X W st g) : CSs X W [st] g := pss_one h
theorem css_cons (h : CS X W st g) (hr : CSs X W rest k) : CSs X W (st :: rest) (seqS g k) := PSs.imp (pss_cons h hr) fun De σ H ⟨Z, m, env, hp, a, h⟩ => by
  refine ⟨Z, m, env, hp, a, ?_⟩
  unfold seqS at h
  cases q : g env hp with
  | nx e h1 => rw [q] at h; exact fun m' H' σ' g' r s => ⟨Z, m', e, h1, ⟨r, s⟩, WpS.go g' h⟩
  | rt a h1 => rw [q] at h; exact h
  | bk e h1 => rw [q] at h; exact h
  | ct e h1 => rw [q] at h; exact h
  | exc x e h1 => rw [q] at h; exact h
  | bad => rw [q] at h; exact h
theorem cs_pass : CS X W (.Pass pos) nxS := PS.imp ps_pass fun De σ H ⟨Z, m, env, hp, a, h⟩ => h m H σ .refl a.rel a.sl
theorem cs_doc {x : Str} {j : Nat} {pos' : Pos} : CS X W (.Expr (.Constant (.str x) j pos) pos') nxS := PS.imp ps_doc fun De σ H ⟨Z, m, env, hp, a, h⟩ => h m H σ .refl a.rel a.sl
theorem cs_brk : CS X W (.Break pos) brkS := PS.imp ps_break fun De σ H ⟨Z, m, env, hp, a, h⟩ => h m H σ .refl a.rel a.sl
theorem cs_cnt : CS X W (.Continue pos) cntS := PS.imp ps_continue fun De σ H ⟨Z, m, env, hp, a, h⟩ => h m H σ .refl a.rel a.sl
theorem cs_expr (h : CE X W e f) (hs : swapsWith e none pos.line X.env = pure false := by rfl) : CS X W (.Expr e pos) (exprS f) := PS.imp (ps_expr h hs) fun De σ H ⟨Z, m, env, hp, a, h⟩ => ⟨Z, m, env, hp, a, (WpS.toS a h).imp fun x hp1 m1 H1 g1 r1 ⟨_, _, h2⟩ v rv => h2 m1 H1 σ .refl r1 (a.sl.go g1)⟩
theorem cs_ret (h : CE X W e f) : CS X W (.Return (some e) pos) (retS f) := PS.imp (ps_ret h) fun De σ H ⟨Z, m, env, hp, a, h⟩ => ⟨Z, m, env, hp, a, (WpS.toS a h).imp fun x hp1 m1 H1 g1 r1 ⟨_, _, h2⟩ v rv => h2 m1 H1 v .refl r1 rv⟩
theorem cs_retN : CS X W (.Return none pos) retN := PS.imp ps_retN fun De σ H ⟨Z, m, env, hp, a, h⟩ => h m H .non .refl a.rel DR.non
theorem cs_if {s1 s2 : List Stmt} (hc : CT X W c t) (h1 : CSs X W s1 g) (h2 : CSs X W s2 k) : CS X W (.If c s1 s2 pos) (ifS t g k) := PS.imp (ps_if hc h1 h2) fun De σ H ⟨Z, m, env, hp, a, h⟩ =>
  ⟨Z, m, env, hp, a, (WpS.toS a h).imp fun x hp1 m1 H1 g1 r1 ⟨_, _, h2⟩ => by
    cases x with
    | true => exact ⟨Z, m1, env, hp1, a.go g1 r1, h2⟩
    | false => exact ⟨Z, m1, env, hp1, a.go g1 r1, h2⟩⟩
theorem cs_set (i : Nat) {x : Str} {pos' : Pos} (c : Ctx X W) (he : CE X W e f) (hi : X.N[i]? = some x := by rfl) (hx : Loc X.env.scope x := by first | exact Or.inl rfl | exact Or.inr rfl) (hs : swapsWith e (some (.Name x pos')) pos.line X.env = pure false := by rfl)
    (hf : X.fn x = true ∨ X.env.scope.names.lookup x = some .local := by first | exact .inl rfl | exact .inr rfl | assumption) : CS X W (.Assign [.Name x pos'] e pos) (setS i f) :=
  PS.imp (ps_set c.nd hi hx he hs hf) fun De σ H ⟨Z, m, env, hp, a, h⟩ => ⟨Z, m, env, hp, a, (WpS.toS a h).imp fun x hp1 m1 H1 g1 r1 ⟨_, _, h2⟩ v rv => h2 m1 H1 _ .refl r1 ((a.sl.go g1).set i rv)⟩
theorem cs_asg (he : CE X W e f) (hg : CG X tg b) (hs : swapsWithSole [tg] e pos.line X.env = pure false := by rfl) (hw : swappedStores [tg] e X.env = pure none := by rfl)
    (h1 : (assignEach [tg] X.env).map (·.2) = [assign tg X.env] := by rfl) : CS X W (.Assign [tg] e pos) (asgS b f) :=
  PS.imp (ps_asg he hg hs hw h1) fun De σ H ⟨Z, m, env, hp, a, h⟩ => ⟨Z, m, env, hp, a, (WpS.toS a h).imp fun x hp1 m1 H1 g1 r1 ⟨_, _, h2⟩ v rv => by
    split at h2
    · rename_i e2 hp2 q
      exact ⟨Z, m1, env, hp1, x, e2, hp2, a.go g1 r1, rv, q, fun m' H' σ' g' r' s' => h2 m' H' σ' g' r' s'⟩
    · exact h2.elim⟩
/-- a, b, .. = (x, y, ..), stored one after the other -/
theorem cs_par {ts : List Expr} {k1 k2 n : Nat} {p1 p2 : Pos} (cx : Ctx X W) (ha : CA X W es ga) (hg : CGs X ts bs) (hf : Few n ga) (hnn : n ≤ 1000 := by decide) (hn : (assignEach ts X.env).length = bs.length := by rfl) (hst : (assignEach ts X.env).findIdx? (·.1) = none := by rfl)
    (hs : swapsWithSole [.Tuple ts k1 p1] (.Tuple es k2 p2) pos.line X.env = pure false := by rfl) (hw : swappedStores [.Tuple ts k1 p1] (.Tuple es k2 p2) X.env = pure none := by rfl)
    (h1 : (assignEach [.Tuple ts k1 p1] X.env).map (·.2) = [assign (.Tuple ts k1 p1) X.env] := by rfl) (hlen : es.length = bs.length := by rfl) : CS X W (.Assign [.Tuple ts k1 p1] (.Tuple es k2 p2) pos) (parS bs ga) :=
  PS.imp (ps_asg (pe_tup ha) (pg_tup cx.calm hg hn hst) hs hw h1) fun De σ H ⟨Z, m, env, hp, a, h⟩ => ⟨Z, m, env, hp, a, (Wp.eq (WpS.toS a h)).imp fun as hp1 m1 H1 g1 r1 ⟨e0, _, _, h2⟩ vs rv => by
    have hl : as.length ≤ n := hf _ _ _ _ e0
    refine ⟨few_size (by rw [AVRs.length rv]; exact Nat.le_trans hl hnn), fun p hp' => ?_⟩
    split at h2
    · rename_i e2 hp2 q
      have gq := Go.fresh r1 (o := .tup vs) hp'
      refine ⟨p, vs, rfl, .inl (.inl upd_same), ?_, Z, m1, env, hp1, as, e2, hp2, a.go (g1.trans gq) (Rel.fresh r1 hp'), Paired.imp (fun _ _ z => AVR.go gq z) rv, q, fun m' H' σ' g' r' s' => h2 m' H' σ' (gq.trans g') r' s'⟩
      rw [AVRs.length rv]
      exact bind_len q
    · exact h2.elim⟩
where bind_len : ∀ {bs : List Bt} {as : List AV} {env : Sl} {hp : AH} {r : Sl × AH}, bindAll bs as env hp = some r → as.length = bs.length
  | [], [], _, _, _, _ => rfl
  | [], _ :: _, _, _, _, e => by cases e
  | _ :: _, [], _, _, _, e => by cases e
  | b :: bs, a :: as, env, hp, r, e => by
    simp only [bindAll] at e
    cases q : b a env hp with
    | none => rw [q] at e; cases e
    | some p => rw [q] at e; simp [bind_len e]
/-- a, b = x, y with plain local names -/
theorem cs_par2 (i j : Nat) {x y : Str} {a b : Expr} {ga : Fa} {px py pt p2 : Pos} {kt k2} (cx : Ctx X W) (ha : CA X W [a, b] ga) (hi : X.N[i]? = some x := by rfl) (hj : X.N[j]? = some y := by rfl) (hij : i ≠ j := by decide)
    (hx : X.env.scope.names.lookup x = some .local := by rfl) (hy : X.env.scope.names.lookup y = some .local := by rfl)
    (hw : swappedStores [.Tuple [.Name x px, .Name y py] kt pt] (.Tuple [a, b] k2 p2) X.env = pure (some [x, y]) := by rfl)
    (hs : swapsWithSole [.Tuple [.Name x px, .Name y py] kt pt] (.Tuple [a, b] k2 p2) pos.line X.env = pure false := by rfl) : CS X W (.Assign [.Tuple [.Name x px, .Name y py] kt pt] (.Tuple [a, b] k2 p2) pos) (parS [nmB i, nmB j] ga) :=
  PS.imp (ps_par cx.calm cx.nd hi hj hij hx hy ha hw hs) fun De σ H ⟨Z, m, env, hp, a, h⟩ => ⟨Z, m, env, hp, a, (WpS.toS a h).imp fun as hp1 m1 H1 g1 r1 ⟨_, _, h2⟩ vs rv => by
    split at h2
    · rename_i e2 hp2 q
      match as, rv, q with
      | [a1, a2], .cons r1' (.cons r2' .nil), q =>
        cases q
        exact ⟨_, _, rfl, h2 m1 H1 _ .refl r1 (((a.sl.go g1).set i r1').set j r2')⟩
      | [], .nil, q => cases q
      | [_], .cons _ .nil, q => simp [bindAll, nmB] at q
      | _ :: _ :: _ :: _, .cons _ (.cons _ (.cons _ _)), q => simp [bindAll, nmB] at q
    · exact h2.elim⟩
theorem cs_par3 (i j l : Nat) {x y z : Str} {a b d : Expr} {ga : Fa} {px py pz pt p2 : Pos} {kt k2} (cx : Ctx X W) (ha : CA X W [a, b, d] ga) (hi : X.N[i]? = some x := by rfl) (hj : X.N[j]? = some y := by rfl) (hl : X.N[l]? = some z := by rfl) (hij : i ≠ j := by decide) (hil : i ≠ l := by decide) (hjl : j ≠ l := by decide)
    (hx : X.env.scope.names.lookup x = some .local := by rfl) (hy : X.env.scope.names.lookup y = some .local := by rfl) (hz : X.env.scope.names.lookup z = some .local := by rfl)
    (hw : swappedStores [.Tuple [.Name x px, .Name y py, .Name z pz] kt pt] (.Tuple [a, b, d] k2 p2) X.env = pure (some [x, y, z]) := by rfl)
    (hs : swapsWithSole [.Tuple [.Name x px, .Name y py, .Name z pz] kt pt] (.Tuple [a, b, d] k2 p2) pos.line X.env = pure false := by rfl) : CS X W (.Assign [.Tuple [.Name x px, .Name y py, .Name z pz] kt pt] (.Tuple [a, b, d] k2 p2) pos) (parS [nmB i, nmB j, nmB l] ga) :=
  PS.imp (ps_par3 cx.calm cx.nd hi hj hl hij hil hjl hx hy hz ha hw hs) fun De σ H ⟨Z, m, env, hp, a, h⟩ => ⟨Z, m, env, hp, a, (WpS.toS a h).imp fun as hp1 m1 H1 g1 r1 ⟨_, _, h2⟩ vs rv => by
    split at h2
    · rename_i e2 hp2 q
      match as, rv, q with
      | [a1, a2, a3], .cons r1' (.cons r2' (.cons r3' .nil)), q =>
        cases q
        exact ⟨_, _, _, rfl, h2 m1 H1 _ .refl r1 ((((a.sl.go g1).set i r1').set j r2').set l r3')⟩
      | [], .nil, q => cases q
      | [_], .cons _ .nil, q => simp [bindAll, nmB] at q
      | [_, _], .cons _ (.cons _ .nil), q => simp [bindAll, nmB] at q
      | _ :: _ :: _ :: _ :: _, .cons _ (.cons _ (.cons _ (.cons _ _))), q => simp [bindAll, nmB] at q
    · exact h2.elim⟩
end

/-! ### what a for walks: items that are there from the start -/
abbrev Fi := Sl → AH → Out (List D)
/-- at whatever later state the items are ds -/
def Walks (K : KF) (Z : Addr → Prop) (m : List Addr) (H : Hp) (J : It) (ds : List D) : Prop := ∀ (Z' : Addr → Prop) m' H' hp', (∀ a, Z' a → ¬ Z a → H a = none) → Go m H m' H' → Rel K Z' m' H' hp' → ∀ i, (∀ d, ds[i]? = some d → J.go i H' ∧ ∀ x H2, J.yld i H' x H2 → H2 = H' ∧ DR K (Zm Z' m') H' x d) ∧ (ds.length ≤ i → J.stop i H')
theorem Go.dzz {Z Z' : Addr → Prop} {m m' : List Addr} {H H' : Hp} (hz : ∀ a, Z' a → ¬ Z a → H a = none) (g : Go m H m' H') : ∀ a, Zm Z' m' a → ¬ Zm Z m a → H a = none := fun a h n => by
  rcases h with h | h
  · exact hz a h fun z => n (.inl z)
  · exact g.new a h fun h' => n (.inr h')
def tI (K : KF) (W : WX) (f : Fi) : TI := fun σ H R => ∃ Z m env hp, At K Z m H σ env hp ∧ Wp K W Z m σ H (f env hp) fun ds _ m' H' => ∀ J, Walks K Z m' H' J ds → R J H'
abbrev CI (X : Cx) (W : WX) (tg e : Expr) (f : Fi) : Prop := PI X tg e (tI X.K W f)
theorem PI.imp {X : Cx} {tg e : Expr} {t t' : TI} (h : PI X tg e t) (f : ∀ σ H R, t' σ H R → t σ H R) : PI X tg e t' := ⟨fun pins s σ H R I q => h.run pins s σ H R I (f σ H R q)⟩
/-- over a list or a tuple -/
def iSeq (K : KF) (tl : TE) : TI := fun σ H R => tl σ H fun x H1 => ∃ a, x = .ref a ∧ (((∃ xs, SqL K H1 a xs) ∧ R (Itl K a) H1) ∨ ((∃ xs, SqT K H1 a xs) ∧ R (Itt K a) H1))
theorem pi_seq {X : Cx} {tg l : Expr} {tl : TE} (hl : PE X l tl) : PI X tg l (iSeq X.K tl) := by
  refine ⟨fun pins s σ H R I h => ?_⟩
  refine thn (hl.run pins s σ H _ I h) fun v s1 ⟨x, H1, I1, r1, q1⟩ => ?_
  obtain ⟨a, e, q1⟩ := q1
  subst e
  cases r1
  rcases q1 with ⟨⟨xs, hq⟩, q⟩ | ⟨⟨xs, hq⟩, q⟩
  · obtain ⟨its, rv, p, hz⟩ := I1.list hq
    refine wpAny_pyIter_list p.isList ?_
    refine ⟨s1.heap.objs.size, [s1.heap.objs.size], _, _, H1, rfl, I1.kept (t' := s1.toks) fun b o e => Heap.get?_push_of_some _ e, turn_list a _, ⟨_, Heap.get?_push_size _ rfl, rfl, rfl⟩, fun b hb => ?_, q⟩
    have e : b = s1.heap.objs.size := by simpa using hb
    subst e
    exact I1.fpOk (Nat.le_refl _) (I1.hok.fresh (Nat.le_refl _))
  · obtain ⟨its, rv, p, hz⟩ := I1.tuple hq
    refine wpAny_pyIter_tuple (show s1.heap.IsTuple a its.toArray from p) ?_
    refine ⟨s1.heap.objs.size, [s1.heap.objs.size], _, _, H1, rfl, I1.kept (t' := s1.toks) fun b o e => Heap.get?_push_of_some _ e, turn_tuple a _, ⟨_, Heap.get?_push_size _ rfl, rfl, rfl⟩, fun b hb => ?_, q⟩
    have e : b = s1.heap.objs.size := by simpa using hb
    subst e
    exact I1.fpOk (Nat.le_refl _) (I1.hok.fresh (Nat.le_refl _))
/-- the items of data -/
def itF (f : Fe) : Fi := fun env hp => (f env hp).bind fun a h1 => match a with
  | .d (.list xs) => .ok xs h1
  | .d (.tuple xs) => .ok xs h1
  | _ => .bad
def rgF (f : Fe) : Fi := fun env hp => (f env hp).bind fun a h1 => match a with
  | .d (.int n) => if -1000000 < n ∧ n < 1000000 then .ok ((List.range n.toNat).map fun (i : Nat) => PyData.int (i : Int)) h1 else .bad
  | _ => .bad
section
variable {X : Cx} {W : WX} {tg e : Expr} {f : Fe}
theorem walks_list {K : KF} {Z : Addr → Prop} {m : List Addr} {H : Hp} {a : Addr} {vs : List V} {ds : List D} (hq : ∀ m' H', Go m H m' H' → SqL K H' a vs) (hu : ∀ H' (xs ys : List V), SqL K H' a xs → SqL K H' a ys → True) (hs : DRs K (Zm Z m) H vs ds) : Walks K Z m H (Itl K a) ds := fun Z' m' H' hp' hz g r i =>
  ⟨fun d e => by
    obtain ⟨v, e1, rv⟩ := hs.get e
    exact ⟨⟨vs, v, hq m' H' g, e1⟩, fun x H2 ⟨e2, y⟩ => by
      have := y vs (hq m' H' g)
      rw [e1] at this; cases this
      exact ⟨e2, DR.stay g.dk (Go.dzz hz g) rv⟩⟩, fun h => ⟨vs, hq m' H' g, by rw [hs.length]; exact h⟩⟩
theorem walks_tup {K : KF} {Z : Addr → Prop} {m : List Addr} {H : Hp} {a : Addr} {vs : List V} {ds : List D} (hq : ∀ m' H', Go m H m' H' → SqT K H' a vs) (hs : DRs K (Zm Z m) H vs ds) : Walks K Z m H (Itt K a) ds := fun Z' m' H' hp' hz g r i =>
  ⟨fun d e => by
    obtain ⟨v, e1, rv⟩ := hs.get e
    exact ⟨⟨vs, v, hq m' H' g, e1⟩, fun x H2 ⟨e2, y⟩ => by
      have := y vs (hq m' H' g)
      rw [e1] at this; cases this
      exact ⟨e2, DR.stay g.dk (Go.dzz hz g) rv⟩⟩, fun h => ⟨vs, hq m' H' g, by rw [hs.length]; exact h⟩⟩
theorem ci_seq (h : CE X W e f) : CI X W tg e (itF f) := PI.imp (pi_seq h) fun σ H R ⟨Z, m, env, hp, a, h1⟩ => ⟨Z, m, env, hp, a, (Wp.bind h1).imp fun x hp1 m1 H1 g1 r1 ⟨_, _, h2⟩ v rv => by
  cases x with
  | r n => exact h2.elim
  | d x =>
    cases x with
    | list ds =>
      cases rv with
      | lst hz hr hs =>
        rename_i b vs
        exact ⟨b, rfl, .inl ⟨⟨vs, .inl hr⟩, h2 m1 H1 .refl r1 _ (walks_list (fun m' H' g => .inl (Rd.stay g.dk hz hr)) (fun _ _ _ _ _ => trivial) hs)⟩⟩
      | lstK hk hs =>
        rename_i b vs
        exact ⟨b, rfl, .inl ⟨⟨vs, .inr hk⟩, h2 m1 H1 .refl r1 _ (walks_list (fun m' H' g => .inr hk) (fun _ _ _ _ _ => trivial) hs)⟩⟩
    | tuple ds =>
      cases rv with
      | tup hz hr hs =>
        rename_i b vs
        exact ⟨b, rfl, .inr ⟨⟨vs, hr.sq⟩, h2 m1 H1 .refl r1 _ (walks_tup (fun m' H' g => (FT.stay g.dk hz hr).sq) hs)⟩⟩
      | tupK hk hs =>
        rename_i b vs
        exact ⟨b, rfl, .inr ⟨⟨vs, hk.sq⟩, h2 m1 H1 .refl r1 _ (walks_tup (fun m' H' g => hk.sq) hs)⟩⟩
    | _ => exact h2.elim⟩
theorem ci_range {p pos : Pos} (hm : X.mg "range" = none) (h : CE X W e f) (hg : Gl X "range" := by rfl) (hs : starEach [e] X.env = [(false, eval e X.env)] := by rfl) : CI X W tg (.Call (.Name "range" p) [e] [] pos) (rgF f) :=
  PI.imp (pi_range1 hg hm (pa_cons h pa_nil (by rw [hs]; rfl)) hs) fun σ H R ⟨Z, m, env, hp, a, h1⟩ => ⟨Z, m, env, hp, a, (Wp.bind h1).imp fun x hp1 m1 H1 g1 r1 ⟨_, _, h2⟩ v rv => by
    cases x with
    | r n => exact h2.elim
    | d x =>
      cases x with
      | int n =>
        cases rv
        simp only at h2
        split at h2
        · rename_i hn
          refine ⟨n, rfl, by omega, by omega, h2 m1 H1 .refl r1 _ fun Z' m' H' hp' hz g r i => ⟨fun d e => ?_, fun hl => ?_⟩⟩
          · rw [List.getElem?_map] at e
            obtain ⟨j, e1, e2⟩ := Option.map_eq_some_iff.mp e
            obtain ⟨hl, e3⟩ := List.getElem?_eq_some_iff.mp e1
            rw [List.getElem_range] at e3
            subst e3 e2
            rw [List.length_range] at hl
            exact ⟨hl, fun x H2 ⟨e4, e5⟩ => ⟨e4, by subst e5; rw [Int.zero_add]; exact .int _⟩⟩
          · rw [List.length_map, List.length_range] at hl
            exact hl
        · exact h2.elim
      | _ => exact h2.elim⟩
end
end Pin
end
-- Pin7
section
set_option linter.all false
set_option maxRecDepth 100000
set_option maxHeartbeats 2000000
/-! Pin, part 7: for, while, comprehensions; methods of lists and dicts; dict(x); stores. -/
namespace Pin
open PySem PySem.Spec PyProof.Rows L2

/-! ### for -/
def forD (b : Bt) (body : Fs) : List D → Sl → AH → OutS
  | [], env, hp => .nx env hp
  | d :: ds, env, hp => match b (.d d) env hp with
    | none => .bad
    | some (e1, h1) => match body e1 h1 with
      | .nx e h => forD b body ds e h
      | .ct e h => forD b body ds e h
      | .bk e h => .nx e h
      | o => o
def forS (it : Fi) (b : Bt) (body : Fs) : Fs := fun env hp => (it env hp).toS env fun ds h => forD b body ds env h
section
variable {X : Cx} {W : WX} {pos : Pos} {tg iter : Expr} {st : List Stmt} {f : Fi} {b : Bt} {g : Fs}
theorem cs_for (cx : Ctx X W) (hi : CI X W tg iter f) (hg : CG X tg b) (hb : CSs X W st g) (hs : ∀ x, foldedSetIterable iter X.env x = pure x := by intro _; rfl) : CS X W (.For tg iter st [] pos) (forS f b g) :=
  PS.imp (ps_for cx.po cx.calm hi hg hb hs) fun De σ H ⟨Z, m, env, hp, a, h⟩ => ⟨Z, m, env, hp, a, (WpS.toS a h).imp fun ds hp1 m1 H1 g1 r1 ⟨_, _, h2⟩ J wk => by
    refine ⟨fun i k σ' H' => k + i = ds.length ∧ ∃ m' env' hp', Go m1 H1 m' H' ∧ At X.K Z m' H' σ' env' hp' ∧ WpS X.K W Z m' H' (forD b g (ds.drop i) env' hp') De, ⟨ds.length, by omega, m1, env, hp1, .refl, a.go g1 r1, h2⟩, ?_⟩
    rintro i k σ' H' ⟨hk, m', env', hp', g', a', h'⟩
    obtain ⟨w1, w2⟩ := wk Z m' H' hp' (fun a h n => absurd h n) g' a'.rel i
    cases e : ds[i]? with
    | none =>
      have hl := List.getElem?_eq_none_iff.mp e
      rw [List.drop_eq_nil_of_le hl] at h'
      exact .inl ⟨w2 hl, h' m' H' σ' .refl a'.rel a'.sl⟩
    | some d =>
      obtain ⟨hl, e'⟩ := List.getElem?_eq_some_iff.mp e
      have ed : ds.drop i = d :: ds.drop (i + 1) := by rw [List.drop_eq_getElem_cons hl, e']
      rw [ed] at h'
      obtain ⟨go, yld⟩ := w1 d e
      refine .inr ⟨go, fun σ2 H2 => ∃ m2 env2 hp2, Go m1 H1 m2 H2 ∧ At X.K Z m2 H2 σ2 env2 hp2 ∧ WpS X.K W Z m2 H2 (forD b g (ds.drop (i + 1)) env2 hp2) De, fun σ2 H2 ⟨m2, env2, hp2, q⟩ => ⟨k - 1, by omega, by omega, m2, env2, hp2, q⟩, fun x H2 y => ?_⟩
      obtain ⟨rfl, rx⟩ := yld x H2 y
      simp only [forD] at h'
      cases q : b (.d d) env' hp' with
      | none => rw [q] at h'; exact h'.elim
      | some p =>
        obtain ⟨e1, hp1'⟩ := p
        rw [q] at h'
        refine ⟨Z, m', env', hp', .d d, e1, hp1', a', rx, q, fun m2 H2 σ2 g2 r2 s2 => ⟨Z, m2, e1, hp1', ⟨r2, s2⟩, ?_⟩⟩
        simp only at h'
        cases q2 : g e1 hp1' with
        | nx e3 h3 => rw [q2] at h'; exact fun m3 H3 σ3 g3 r3 s3 => ⟨m3, e3, h3, g'.trans (g2.trans g3), ⟨r3, s3⟩, WpS.go (g2.trans g3) h'⟩
        | ct e3 h3 => rw [q2] at h'; exact fun m3 H3 σ3 g3 r3 s3 => ⟨m3, e3, h3, g'.trans (g2.trans g3), ⟨r3, s3⟩, WpS.go (g2.trans g3) h'⟩
        | bk e3 h3 => rw [q2] at h'; exact fun m3 H3 σ3 g3 r3 s3 => h' m3 H3 σ3 (g2.trans g3) r3 s3
        | rt v h3 => rw [q2] at h'; exact fun m3 H3 v3 g3 r3 x3 => h' m3 H3 v3 (g2.trans g3) r3 x3
        | exc x e3 h3 => rw [q2] at h'; exact fun m3 H3 σ3 c3 d3 g3 r3 s3 ex => h' m3 H3 σ3 c3 d3 (g2.trans g3) r3 s3 ex
        | bad => rw [q2] at h'; exact h'.elim⟩
/-- a list that has a name and may change while it is walked -/
def forL (n : Nat) (b : Bt) (body : Fs) : Nat → Nat → Sl → AH → OutS
  | 0, _, _, _ => .bad
  | k + 1, i, env, hp => match hp[n]? with
    | some (.lst ds) => match ds[i]? with
      | none => .nx env hp
      | some d => match b (.d d) env hp with
        | none => .bad
        | some (e1, h1) => match body e1 h1 with
          | .nx e h => forL n b body k (i + 1) e h
          | .ct e h => forL n b body k (i + 1) e h
          | .bk e h => .nx e h
          | o => o
    | _ => .bad
def forR (fu : Nat) (f : Fe) (b : Bt) (body : Fs) : Fs := fun env hp => (f env hp).toS env fun a h => match a with
  | .r n => forL n b body fu 0 env h
  | _ => .bad
theorem cs_forR (fu : Nat) {f : Fe} (cx : Ctx X W) (hi : CE X W iter f) (hg : CG X tg b) (hb : CSs X W st g) (hs : ∀ x, foldedSetIterable iter X.env x = pure x := by intro _; rfl) : CS X W (.For tg iter st [] pos) (forR fu f b g) :=
  PS.imp (ps_for cx.po cx.calm (pi_list hi) hg hb hs) fun De σ H ⟨Z, m, env, hp, a, h⟩ => ⟨Z, m, env, hp, a, (WpS.toS a h).imp fun x hp1 m1 H1 g1 r1 ⟨_, _, h2⟩ v rv => by
    cases x with
    | d x => exact h2.elim
    | r n =>
      obtain ⟨p, ep, rfl⟩ := rv
      simp only at h2
      have lk : ∀ {m' : List Addr} {H' : Hp} {hp' : AH} {ds : List D}, Go m1 H1 m' H' → Rel X.K Z m' H' hp' → hp'[n]? = some (.lst ds) → ∃ vs, H' p = some (.lst vs) ∧ DRs X.K (Zm Z m') H' vs ds := fun {m' H' hp' ds} g' r' e => r'.obj (pre_get g'.pre ep) e
      have first : ∃ xs, SqL X.K H1 p xs := by
        cases fu with
        | zero => exact h2.elim
        | succ k =>
          simp only [forL] at h2
          split at h2
          · rename_i ds e
            obtain ⟨vs, e1, _⟩ := lk .refl r1 e
            exact ⟨vs, SqL.of e1⟩
          · exact h2.elim
      refine ⟨p, rfl, first, ?_⟩
      refine ⟨fun i k σ' H' => ∃ m' env' hp', Go m1 H1 m' H' ∧ At X.K Z m' H' σ' env' hp' ∧ WpS X.K W Z m' H' (forL n b g k i env' hp') De, ⟨fu, m1, env, hp1, .refl, a.go g1 r1, h2⟩, ?_⟩
      rintro i k σ' H' ⟨m', env', hp', g', a', h'⟩
      cases k with
      | zero => exact h'.elim
      | succ k =>
        simp only [forL] at h'
        split at h'
        · rename_i ds eo
          obtain ⟨vs, e1, hs⟩ := lk g' a'.rel eo
          split at h'
          · rename_i e
            have hl := List.getElem?_eq_none_iff.mp e
            exact .inl ⟨⟨vs, SqL.of e1, by rw [hs.length]; exact hl⟩, h' m' H' σ' .refl a'.rel a'.sl⟩
          · rename_i d e
            obtain ⟨w, e2, rw'⟩ := hs.get e
            refine .inr ⟨⟨vs, w, SqL.of e1, e2⟩, fun σ2 H2 => ∃ m2 env2 hp2, Go m1 H1 m2 H2 ∧ At X.K Z m2 H2 σ2 env2 hp2 ∧ WpS X.K W Z m2 H2 (forL n b g k (i + 1) env2 hp2) De, fun σ2 H2 ⟨m2, env2, hp2, q⟩ => ⟨k, by omega, m2, env2, hp2, q⟩, fun x H2 y => ?_⟩
            obtain ⟨rfl, y2⟩ := y
            have e3 := y2 vs (SqL.of e1)
            rw [e2] at e3; cases e3
            split at h'
            · exact h'.elim
            · rename_i e1' hp1' q
              refine ⟨Z, m', env', hp', .d d, e1', hp1', a', rw', q, fun m2 H2 σ2 g2 r2 s2 => ⟨Z, m2, e1', hp1', ⟨r2, s2⟩, ?_⟩⟩
              cases q2 : g e1' hp1' with
              | nx e3 h3 => rw [q2] at h'; exact fun m3 H3 σ3 g3 r3 s3 => ⟨m3, e3, h3, g'.trans (g2.trans g3), ⟨r3, s3⟩, WpS.go (g2.trans g3) h'⟩
              | ct e3 h3 => rw [q2] at h'; exact fun m3 H3 σ3 g3 r3 s3 => ⟨m3, e3, h3, g'.trans (g2.trans g3), ⟨r3, s3⟩, WpS.go (g2.trans g3) h'⟩
              | bk e3 h3 => rw [q2] at h'; exact fun m3 H3 σ3 g3 r3 s3 => h' m3 H3 σ3 (g2.trans g3) r3 s3
              | rt v h3 => rw [q2] at h'; exact fun m3 H3 v3 g3 r3 x3 => h' m3 H3 v3 (g2.trans g3) r3 x3
              | exc x e3 h3 => rw [q2] at h'; exact fun m3 H3 σ3 c3 d3 g3 r3 s3 ex => h' m3 H3 σ3 c3 d3 (g2.trans g3) r3 s3 ex
              | bad => rw [q2] at h'; exact h'.elim
        · exact h'.elim⟩

/-! ### while -/
def whileD (c : Ft) (body : Fs) : Nat → Sl → AH → OutS
  | 0, _, _ => .bad
  | k + 1, env, hp => (c env hp).toS env fun t h => if t then match body env h with
      | .nx e h => whileD c body k e h
      | .ct e h => whileD c body k e h
      | .bk e h => .nx e h
      | o => o
    else .nx env h
theorem cs_while (fu : Nat) {c : Expr} {t : Ft} (cx : Ctx X W) (hc : CT X W c t) (hb : CSs X W st g) : CS X W (.While c st [] pos) (whileD t g fu) :=
  PS.imp (ps_while cx.po hc hb) fun De σ H ⟨Z, m, env, hp, a, h⟩ => by
    refine ⟨fun k σ' H' => ∃ m' env' hp', Go m H m' H' ∧ At X.K Z m' H' σ' env' hp' ∧ WpS X.K W Z m' H' (whileD t g k env' hp') De, ⟨fu, m, env, hp, .refl, a, h⟩, ?_⟩
    rintro k σ' H' ⟨m', env', hp', g', a', h'⟩
    cases k with
    | zero => exact h'.elim
    | succ k =>
      simp only [whileD] at h'
      refine ⟨Z, m', env', hp', a', (WpS.toS a' h').imp fun x hp2 m2 H2 g2 r2 ⟨_, _, h2⟩ => ?_⟩
      cases x with
      | false => exact h2 m2 H2 σ' .refl r2 (a'.sl.go g2)
      | true =>
        refine ⟨fun σ3 H3 => ∃ m3 env3 hp3, Go m H m3 H3 ∧ At X.K Z m3 H3 σ3 env3 hp3 ∧ WpS X.K W Z m3 H3 (whileD t g k env3 hp3) De, fun σ3 H3 q => ⟨k, by omega, q⟩, Z, m2, env', hp2, a'.go g2 r2, ?_⟩
        simp only [if_true] at h2
        cases q2 : g env' hp2 with
        | nx e3 h3 => rw [q2] at h2; exact fun m3 H3 σ3 g3 r3 s3 => ⟨m3, e3, h3, g'.trans (g2.trans g3), ⟨r3, s3⟩, WpS.go g3 h2⟩
        | ct e3 h3 => rw [q2] at h2; exact fun m3 H3 σ3 g3 r3 s3 => ⟨m3, e3, h3, g'.trans (g2.trans g3), ⟨r3, s3⟩, WpS.go g3 h2⟩
        | bk e3 h3 => rw [q2] at h2; exact h2
        | rt v h3 => rw [q2] at h2; exact h2
        | exc x e3 h3 => rw [q2] at h2; exact h2
        | bad => rw [q2] at h2; exact h2.elim
end
end Pin
end
-- Pin8
section
set_option linter.all false
set_option maxRecDepth 100000
set_option maxHeartbeats 2000000
/-! Pin, part 8: comprehensions. -/
namespace Pin
open PySem PySem.Spec PyProof.Rows L2

/-! ### targets that set no other slots -/
def Outside (own : List Nat) (σ σ' : L2.St) : Prop := σ'.length = σ.length ∧ ∀ j, j ∉ own → σ'[j]? = σ[j]?
theorem Outside.refl {own : List Nat} {σ : L2.St} : Outside own σ σ := ⟨rfl, fun _ _ => rfl⟩
theorem Outside.trans {own : List Nat} {a b c : L2.St} (h : Outside own a b) (k : Outside own b c) : Outside own a c := ⟨k.1.trans h.1, fun j n => (k.2 j n).trans (h.2 j n)⟩
theorem Outside.set {own : List Nat} {σ : L2.St} {i : Nat} {v : Option V} (h : i ∈ own) : Outside own σ (σ.set i v) := ⟨by simp, fun j n => by rw [List.getElem?_set_ne (fun e => n (by rw [← e]; exact h))]⟩
theorem wipe_get (σ : L2.St) (j : Nat) : ∀ own : List Nat, (wipe σ own)[j]? = if j ∈ own then (if j < σ.length then some none else none) else σ[j]?
  | [] => by simp [wipe]
  | v :: vs => by
    unfold wipe
    by_cases e : v = j
    · subst e
      rw [List.getElem?_set, if_pos rfl, wipe_length, if_pos List.mem_cons_self]
    · rw [List.getElem?_set_ne e, wipe_get σ j vs]
      by_cases h : j ∈ vs
      · rw [if_pos h, if_pos (List.mem_cons_of_mem _ h)]
      · rw [if_neg h, if_neg (by simp only [List.mem_cons, not_or]; exact ⟨fun q => e q.symm, h⟩)]
theorem Outside.wipe {own : List Nat} {σ σ' : L2.St} (h : Outside own σ σ') : L2.wipe σ' own = L2.wipe σ own := by
  refine List.ext_getElem? fun j => ?_
  rw [wipe_get, wipe_get, h.1]
  by_cases e : j ∈ own
  · rw [if_pos e, if_pos e]
  · rw [if_neg e, if_neg e, h.2 j e]
theorem wipe_wipe (σ : L2.St) (own : List Nat) : L2.wipe (L2.wipe σ own) own = L2.wipe σ own := by
  refine List.ext_getElem? fun j => ?_
  rw [wipe_get, wipe_get, wipe_length]
  by_cases e : j ∈ own
  · rw [if_pos e, if_pos e]
  · rw [if_neg e, if_neg e]
def tGo (K : KF) (own : List Nat) (b : Bt) : TG := fun v σ H Q => ∃ Z m env hp a env' hp', At K Z m H σ env hp ∧ AVR K Z m H v a ∧ b a env hp = some (env', hp') ∧ ∀ m' H' σ', Go m H m' H' → Rel K Z m' H' hp' → SlR K Z m' H' σ' env' → Outside own σ σ' → Q σ' H'
def tGos (K : KF) (own : List Nat) (bs : List Bt) : TGs := fun vs σ H Q => ∃ Z m env hp as env' hp', At K Z m H σ env hp ∧ AVRs K Z m H vs as ∧ bindAll bs as env hp = some (env', hp') ∧ ∀ m' H' σ', Go m H m' H' → Rel K Z m' H' hp' → SlR K Z m' H' σ' env' → Outside own σ σ' → Q σ' H'
abbrev CGo (X : Cx) (own : List Nat) (e : Expr) (b : Bt) : Prop := PG X e (tGo X.K own b)
abbrev CGos (X : Cx) (own : List Nat) (es : List Expr) (bs : List Bt) : Prop := PGs X es (tGos X.K own bs)
section
variable {X : Cx} {W : WX} {pos : Pos} {e : Expr} {es : List Expr} {b : Bt} {bs : List Bt} {own : List Nat}
theorem cgo_name (i : Nat) {x : Str} (hN : X.N.Nodup) (hi : X.N[i]? = some x := by rfl) (hm : i ∈ own := by decide) (hx : Loc X.env.scope x := by first | exact Or.inl rfl | exact Or.inr rfl) (hf : X.fn x = true ∨ X.env.scope.names.lookup x = some .local := by first | exact .inl rfl | exact .inr rfl | assumption) : CGo X own (.Name x pos) (nmB i) :=
  PG.imp (pg_name hN hi hx hf) fun v σ H Q ⟨Z, m, env, hp, a, env', hp', at1, r, e, f⟩ => by
    cases e
    exact f m H _ .refl at1.rel (at1.sl.set i r) (Outside.set hm)
theorem cgos_nil : CGos X own [] [] := PGs.imp pgs_nil fun vs σ H Q ⟨Z, m, env, hp, as, env', hp', at1, r, e, f⟩ => by
  cases r with
  | nil =>
    cases e
    exact ⟨rfl, f m H _ .refl at1.rel at1.sl .refl⟩
  | cons _ _ => cases e
theorem cgos_cons (h1 : CGo X own e b) (h2 : CGos X own es bs) (hs : (assignEach (e :: es) X.env).map (·.2) = assign e X.env :: (assignEach es X.env).map (·.2) := by rfl) : CGos X own (e :: es) (b :: bs) :=
  PGs.imp (pgs_cons h1 h2 hs) fun vs σ H Q ⟨Z, m, env, hp, as, env', hp', at1, r, e, f⟩ => by
    match vs, as, r, e with
    | _, _, .nil, e => cases e
    | _, _, .cons (a := v) (b := a) (l₁ := vs) (l₂ := as) r rs, e =>
      simp only [bindAll] at e
      cases q : b a env hp with
      | none => rw [q] at e; cases e
      | some p =>
        obtain ⟨e1, hp1⟩ := p
        rw [q] at e
        exact ⟨v, vs, rfl, Z, m, env, hp, a, e1, hp1, at1, r, q, fun m1 H1 σ1 g1 r1 s1 o1 => ⟨Z, m1, e1, hp1, as, env', hp', ⟨r1, s1⟩, Paired.imp (fun _ _ z => AVR.go g1 z) rs, e, fun m2 H2 σ2 g2 r2 s2 o2 => f m2 H2 σ2 (g1.trans g2) r2 s2 (o1.trans o2)⟩⟩
theorem cgo_tup {k : Nat} (hc : X.calm = true) (h : CGos X own es bs) (hn : (assignEach es X.env).length = bs.length := by rfl) (hst : (assignEach es X.env).findIdx? (·.1) = none := by rfl) : CGo X own (.Tuple es k pos) (tpB bs) :=
  PG.imp (pg_tup hc h hn hst) fun v σ H Q ⟨Z, m, env, hp, a, env', hp', at1, r, e, f⟩ => by
    unfold tpB at e
    split at e
    · rename_i ds
      split at e
      · rename_i hl
        obtain ⟨p, vs, rfl, hq, hs⟩ := tpOf_rel r rfl
        exact ⟨p, vs, rfl, hq, by rw [hs.length, hl], Z, m, env, hp, _, env', hp', at1, DRs.avrs hs, e, f⟩
      · cases e
    · cases e
end

/-! ### [elt for tg in iter if c] -/
def wipeE (env : Sl) : List Nat → Sl
  | [] => env
  | v :: vs => (wipeE env vs).set v none
def compD (b : Bt) (c : Ft) (elt : Fe) (env : Sl) : List D → AH → Out (List D)
  | [], hp => .ok [] hp
  | d :: ds, hp => match b (.d d) env hp with
    | none => .bad
    | some (e1, h1) => match c e1 h1 with
      | .ok true h2 => match elt e1 h2 with
        | .ok (.d x) h3 => match compD b c elt env ds h3 with
          | .ok xs h4 => .ok (x :: xs) h4
          | _ => .bad
        | _ => .bad
      | .ok false h2 => compD b c elt env ds h2
      | _ => .bad
def compN (it : Fi) (b : Bt) (c : Ft) (elt : Fe) (own : List Nat) : Fnew := fun env hp => (it env hp).bind fun ds h1 => if ds.length ≤ bigLen then match compD b c elt (wipeE env own) ds h1 with
    | .ok xs h2 => .ok (.lst xs) h2
    | _ => .bad else .bad
def yesT : Ft := fun _ hp => .ok true hp
abbrev W0 : WX := fun _ _ _ _ => False
section
variable {K : KF} {Z : Addr → Prop} {m : List Addr} {H : Hp} {σ : L2.St} {env : Sl}
theorem SlR.wipe (h : SlR K Z m H σ env) : ∀ own : List Nat, SlR K Z m H (L2.wipe σ own) (wipeE env own)
  | [] => h
  | v :: vs => Paired.set (fun av e => by cases e) v (SlR.wipe h vs)
end
/-- the context of a comprehension's block -/
theorem Ctx.blk {X : Cx} {W : WX} (c : Ctx X W) (s : Shared) (H : Hp) (scope : Scope) (cenv : Env) (fp : List Addr) : Ctx (X.blk s H scope cenv fp) W0 := ⟨c.calm, c.hu, takes0, PassesOwn.never, c.nd⟩
abbrev CTs (X : Cx) (W : WX) (e : List Expr) (t : Ft) : Prop := PTs X e (tT X.K W t)
section
variable {X : Cx} {W : WX} {pos : Pos}
theorem PTs.imp {es : List Expr} {t t' : TT} (h : PTs X es t) (f : ∀ σ H Q, t' σ H Q → t σ H Q) : PTs X es t' := ⟨fun pins s σ H Q I q => h.run pins s σ H Q I (f σ H Q q)⟩
theorem cts_nil : CTs X W [] yesT := PTs.imp pts_nil fun σ H Q ⟨Z, m, env, hp, a, h⟩ => h m H .refl a.rel
theorem cts_one {c : Expr} {t : Ft} (h : CT X W c t) : CTs X W [c] t := pts_one h
theorem hide_upd {H : Hp} {p : Addr} {o : HO} (h : H p = none) : hide (upd H p o) p = H := by
  funext b; unfold hide upd
  by_cases e : b = p
  · rw [if_pos e, e, h]
  · rw [if_neg e, if_neg e]
theorem upd_of_hide {H : Hp} {p : Addr} {o : HO} (h : H p = some o) : upd (hide H p) p o = H := by
  funext b; unfold hide upd
  by_cases e : b = p
  · rw [if_pos e, e, h]
  · rw [if_neg e]
    show (if b = p then none else H b) = H b
    rw [if_neg e]
theorem hide_upd' {H : Hp} {p : Addr} {o : HO} : hide (upd H p o) p = hide H p := by
  funext b; unfold hide upd
  by_cases e : b = p
  · rw [if_pos e, if_pos e]
  · rw [if_neg e, if_neg e, if_neg e]
theorem tLc_of {K : KF} {W : WX} {it : Fi} {b : Bt} {c : Ft} {elt : Fe} {own : List Nat} : ∀ σ H Q, tN K W (compN it b c elt own) σ H Q → tLc (tI K W it) (tGo K own b) (tT K W0 c) (tE K W0 elt) own σ H Q := fun σ H Q ⟨Z, m, env, hp, a, h1⟩ =>
  ⟨Z, m, env, hp, a, (Wp.bind h1).imp fun ds hp1 m1 H1 g1 r1 ⟨_, _, h2⟩ J wk Dn hD => by
    split at h2
    · rename_i hlen
      have nD : ¬ Z Dn := fun z => r1.zm hD (.inl z)
      -- what is left to do gives the end
      let Fin : List D → AH → Prop := fun xs hpF => ∀ mF HF, Go m1 H1 mF HF → Rel K Z mF HF hpF → ∀ p ho, HF p = none → NR K Z mF HF (.lst xs) ho → Q (.ref p) (upd HF p ho)
      have hfin : ∀ xs hpF, compD b c elt (wipeE env own) ds hp1 = .ok xs hpF → Fin xs hpF := fun xs hpF e mF HF g r => by
        rw [e] at h2
        exact (h2 mF HF g r).2
      have hok : ∃ xs hpF, compD b c elt (wipeE env own) ds hp1 = .ok xs hpF := by
        cases e : compD b c elt (wipeE env own) ds hp1 with
        | ok xs hpF => exact ⟨xs, hpF, rfl⟩
        | exc x h => rw [e] at h2; exact h2.elim
        | bad => rw [e] at h2; exact h2.elim
      have sl1 := (a.sl.go g1).wipe own
      refine ⟨fun i k H' => k + i = ds.length ∧ ∃ m' hp' acc accV, Go m1 H1 m' (hide H' Dn) ∧ Rel K Z m' (hide H' Dn) hp' ∧ H' Dn = some (.lst accV) ∧ DRs K (Zm Z m') (hide H' Dn) accV acc ∧ acc.length ≤ i ∧
        (∃ xs hpF, compD b c elt (wipeE env own) (ds.drop i) hp' = .ok xs hpF) ∧ ∀ xs hpF, compD b c elt (wipeE env own) (ds.drop i) hp' = .ok xs hpF → Fin (acc ++ xs) hpF,
        ⟨ds.length, by omega, m1, hp1, [], [], by rw [hide_upd hD]; exact .refl, by rw [hide_upd hD]; exact r1, upd_same, .nil, Nat.le_refl _, hok, hfin⟩, ?_⟩
      rintro i k H' ⟨hk, m', hp', acc, accV, g', r', eD, hacc, hla, ⟨xs0, hpF0, ec⟩, hF⟩
      have hn : (hide H' Dn) Dn = none := hide_same
      have eH : upd (hide H' Dn) Dn (.lst accV) = H' := upd_of_hide eD
      have nm : Dn ∉ m' := fun z => r'.zm hn (.inr z)
      have rZ : Rel K (ZP Z Dn) m' H' hp' := by rw [← eH]; exact r'.more hn
      have gH : Go m' (hide H' Dn) m' H' := by have := Go.fresh r' (o := .lst accV) hn; rw [eH] at this; exact this
      obtain ⟨w1, w2⟩ := wk (ZP Z Dn) m' H' hp' (fun x z n => by rcases z with z | z; exact absurd z n; rw [z]; exact hD) (g'.trans gH) rZ i
      cases e : ds[i]? with
      | none =>
        have hl := List.getElem?_eq_none_iff.mp e
        rw [List.drop_eq_nil_of_le hl] at hF
        have fin := hF [] hp' rfl m' (hide H' Dn) g' r' Dn (.lst accV) hn ⟨accV, rfl, by rw [List.append_nil]; exact hacc⟩
        rw [eH] at fin
        exact .inl ⟨w2 hl, fin⟩
      | some d =>
        obtain ⟨hl, e'⟩ := List.getElem?_eq_some_iff.mp e
        have ed : ds.drop i = d :: ds.drop (i + 1) := by rw [List.drop_eq_getElem_cons hl, e']
        obtain ⟨go, yld⟩ := w1 d e
        let N : Hp → Prop := fun H2 => ∃ m' hp' acc accV, Go m1 H1 m' (hide H2 Dn) ∧ Rel K Z m' (hide H2 Dn) hp' ∧ H2 Dn = some (.lst accV) ∧ DRs K (Zm Z m') (hide H2 Dn) accV acc ∧ acc.length ≤ i + 1 ∧
          (∃ xs hpF, compD b c elt (wipeE env own) (ds.drop (i + 1)) hp' = .ok xs hpF) ∧ ∀ xs hpF, compD b c elt (wipeE env own) (ds.drop (i + 1)) hp' = .ok xs hpF → Fin (acc ++ xs) hpF
        refine .inr ⟨go, N, fun H2 q => ⟨k - 1, by omega, by omega, q⟩, fun x H2 y => ?_⟩
        obtain ⟨rfl, rx⟩ := yld x H2 y
        rw [ed] at ec hF
        simp only [compD] at ec hF
        cases q : b (.d d) (wipeE env own) hp' with
        | none => rw [q] at ec; cases ec
        | some p =>
          obtain ⟨e1, h1'⟩ := p
          rw [q] at ec hF
          simp only at ec hF
          have slD : SlR K (ZP Z Dn) m' H2 (L2.wipe σ own) (wipeE env own) := by
            have := SlR.more (o := .lst accV) hn (sl1.go g')
            rw [eH] at this
            exact this
          refine ⟨ZP Z Dn, m', wipeE env own, hp', .d d, e1, h1', ⟨rZ, slD⟩, rx, q, fun m2 H3 σ2 g2 r2 s2 o2 => ⟨by rw [o2.wipe, wipe_wipe], ?_⟩⟩
          -- the test
          refine ⟨ZP Z Dn, m2, e1, h1', ⟨r2, s2⟩, ?_⟩
          cases qc : c e1 h1' with
          | bad => rw [qc] at ec; cases ec
          | exc x h => rw [qc] at ec; cases ec
          | ok t hp2 =>
            rw [qc] at ec hF
            intro m3 H4 g3 r3
            have gA : Go m' (hide H2 Dn) m3 (hide H4 Dn) := by
              have z := g2.trans g3
              rw [← eH] at z
              exact Go.hide z hn
            have eD4 : H4 Dn = some (.lst accV) := (g2.trans g3).keep Dn _ eD nm
            have rH4 := r3.hide nD
            cases t with
            | false =>
              simp only at ec hF
              exact ⟨m3, hp2, acc, accV, g'.trans gA, rH4, eD4, hacc.go gA, by omega, ⟨xs0, hpF0, ec⟩, hF⟩
            | true =>
              simp only [if_true]
              simp only at ec hF
              refine ⟨ZP Z Dn, m3, e1, hp2, ⟨r3, s2.go g3⟩, ?_⟩
              cases qe : elt e1 hp2 with
              | bad => rw [qe] at ec; cases ec
              | exc x h => rw [qe] at ec; cases ec
              | ok v hp3 =>
                rw [qe] at ec hF
                cases v with
                | r n => cases ec
                | d v =>
                  intro m4 H5 g4 r4 w rw'
                  simp only at ec hF
                  have nm3 : Dn ∉ m3 := fun z => r3.off Dn z (.inr rfl)
                  have eD5 : H5 Dn = some (.lst accV) := g4.keep Dn _ eD4 nm3
                  have gB : Go m3 (hide H4 Dn) m4 (hide H5 Dn) := by
                    have z := g4
                    rw [← upd_of_hide eD4] at z
                    exact Go.hide z hide_same
                  have hl2 : accV.length < sizeLine := by rw [hacc.length]; exact Nat.lt_of_lt_of_le (show acc.length < bigLen + 1 by omega) (by unfold bigLen; rw [sizeLine_eq]; decide)
                  refine ⟨accV, eD5, hl2, ?_⟩
                  cases qr : compD b c elt (wipeE env own) (ds.drop (i + 1)) hp3 with
                  | bad => rw [qr] at ec; cases ec
                  | exc x h => rw [qr] at ec; cases ec
                  | ok ys hpE =>
                    rw [qr] at ec hF
                    refine ⟨m4, hp3, acc ++ [v], accV ++ [w], ?_, ?_, upd_same, ?_, by rw [List.length_append, List.length_singleton]; omega, ⟨ys, hpE, qr⟩, fun zs hpZ ez => ?_⟩
                    · rw [hide_upd']; exact g'.trans (gA.trans gB)
                    · rw [hide_upd']; exact r4.hide nD
                    · rw [hide_upd']
                      exact DRs.append (hacc.go (gA.trans gB)) (.cons (AVR.hide (a := .d v) rw') .nil)
                    · rw [qr] at ez; cases ez
                      have := hF (v :: ys) hpE rfl
                      rw [List.append_assoc]
                      exact this
    · exact h2.elim⟩
end
end Pin
end
-- Pin9
section
set_option linter.all false
set_option maxRecDepth 100000
set_option maxHeartbeats 2000000
/-! Pin, part 9: comprehensions as rules; methods of lists and dicts; dict(x); stores. -/
namespace Pin
open PySem PySem.Spec PyProof.Rows L2

section
variable {X : Cx} {W : WX} {pos spos : Pos} {elt tg iter : Expr} {ifs : List Expr} {scope : Scope} {own : List (Str × Nat)} {it : Fi} {b : Bt} {c : Ft} {f : Fe}
/-- [elt for tg in iter if ..] -/
theorem cn_comp (cx : Ctx X W) (hi : CI X W tg iter it) (own : List (Str × Nat)) (ok : blkC X.N X.env.scope scope own = true)
    (hg : ∀ (s : Shared) (H : Hp) (C : Addr) (cl : List (Str × Addr)) (fp : List Addr), CGo (X.blk s H scope (compEnvC scope cl C X.env) fp) (own.map (·.2)) tg b)
    (ht : ∀ (s : Shared) (H : Hp) (C : Addr) (cl : List (Str × Addr)) (fp : List Addr), CTs (X.blk s H scope (compEnvC scope cl C X.env) fp) W0 ifs c)
    (he : ∀ (s : Shared) (H : Hp) (C : Addr) (cl : List (Str × Addr)) (fp : List Addr), CE (X.blk s H scope (compEnvC scope cl C X.env) fp) W0 elt f) (hs : ∀ x, foldedSetIterable iter X.env x = pure x := by intro _; rfl) :
    CN X W (.ListComp elt [⟨tg, iter, ifs, 0⟩] scope pos) (compN it b c f (own.map (·.2))) := PE.imp (pe_lc cx.calm cx.nd hi (blkOk_by ok) hg ht he hs) tLc_of
/-- y = [..], y a plain local -/
theorem cs_setLc (cx : Ctx X W) (i : Nat) {y : Str} {py : Pos} {k : Fe} (hk : k = allocF (compN it b c f (own.map (·.2))) ∨ k = frzF (compN it b c f (own.map (·.2)))) (hi : CI X W tg iter it) (ok : blkC X.N X.env.scope scope own = true)
    (hg : ∀ (s : Shared) (H : Hp) (C : Addr) (cl : List (Str × Addr)) (fp : List Addr), CGo (X.blk s H scope (compEnvC scope cl C X.env) fp) (own.map (·.2)) tg b)
    (ht : ∀ (s : Shared) (H : Hp) (C : Addr) (cl : List (Str × Addr)) (fp : List Addr), CTs (X.blk s H scope (compEnvC scope cl C X.env) fp) W0 ifs c)
    (he : ∀ (s : Shared) (H : Hp) (C : Addr) (cl : List (Str × Addr)) (fp : List Addr), CE (X.blk s H scope (compEnvC scope cl C X.env) fp) W0 elt f)
    (hy : X.N[i]? = some y := by rfl) (hyl : X.env.scope.names.lookup y = some .local := by rfl) (hsw : swapsWith (.ListComp elt [⟨tg, iter, ifs, 0⟩] scope pos) (some (.Name y py)) spos.line X.env = pure true := by rfl) (hs : ∀ x, foldedSetIterable iter X.env x = pure x := by intro _; rfl) :
    CS X W (.Assign [.Name y py] (.ListComp elt [⟨tg, iter, ifs, 0⟩] scope pos) spos) (setS i k) :=
  PS.imp (ps_setLc cx.calm cx.nd hy hyl hsw hi (blkOk_by ok) hg ht he hs) fun De σ H ⟨Z, m, env, hp, a, h⟩ => by
    have hh := WpS.toS a h
    refine tLc_of (it := it) (b := b) (c := c) (elt := f) σ H _ ⟨Z, m, env, hp, a, ?_⟩
    rcases hk with rfl | rfl
    · refine (Wp.bind hh).imp fun o hp1 m1 H1 g1 r1 ⟨_, _, h2⟩ => ⟨r1, fun q ho hn nr => ?_⟩
      obtain ⟨g3, _, h3⟩ := h2 (m1 ++ [q]) _ (Go.alloc r1 hn) (Rel.alloc r1 hn (NR.or r1 hn nr))
      exact h3 _ _ _ .refl (Rel.alloc r1 hn (NR.or r1 hn nr)) ((a.sl.go (g1.trans (Go.alloc r1 hn))).set i ⟨q, by rw [← r1.len]; simp, rfl⟩)
    · refine (Wp.bind hh).imp fun o hp1 m1 H1 g1 r1 ⟨_, _, h2⟩ => ⟨r1, fun q ho hn nr => ?_⟩
      cases o with
      | lst xs =>
        obtain ⟨vs, rfl, hs⟩ := nr
        obtain ⟨g3, _, h3⟩ := h2 m1 _ (Go.fresh r1 hn) (Rel.fresh r1 hn)
        exact h3 _ _ _ .refl (Rel.fresh r1 hn) ((a.sl.go (g1.trans (Go.fresh r1 hn))).set i (new_lst r1 hn hs))
      | _ => exact h2.elim
end

/-! ### methods of lists that have a place -/
def appF (fo fe : Fe) : Fe := fun env hp => (fo env hp).bind fun a h1 => match a with
  | .r n => match h1[n]? with
    | some (.lst _) => (fe env h1).bind fun v h2 => match v, h2[n]? with
      | .d x, some (.lst xs) => if xs.length < bigLen then .ok (.d .none) (h2.set n (.lst (xs ++ [x]))) else .bad
      | _, _ => .bad
    | _ => .bad
  | _ => .bad
def popF (fo : Fe) : Fe := fun env hp => (fo env hp).bind fun a h1 => match a with
  | .r n => match h1[n]? with
    | some (.lst xs) => match xs[xs.length - 1]? with
      | some x => .ok (.d x) (h1.set n (.lst xs.dropLast))
      | none => .bad
    | _ => .bad
  | _ => .bad
def extF (fo : Fe) (fn : Fnew) : Fe := fun env hp => (fo env hp).bind fun a h1 => match a with
  | .r n => match h1[n]? with
    | some (.lst _) => (fn env h1).bind fun o h2 => match o, h2[n]? with
      | .lst ys, some (.lst xs) => if xs.length + ys.length ≤ bigLen then .ok (.d .none) (h2.set n (.lst (xs ++ ys))) else .bad
      | _, _ => .bad
    | _ => .bad
  | _ => .bad
section
variable {X : Cx} {W : WX} {apos cpos : Pos} {o e : Expr} {es : List Expr} {fo fe : Fe} {fn : Fnew}
theorem lt_big {n : Nat} (h : n < bigLen) : n < sizeLine := Nat.lt_of_lt_of_le h (by unfold bigLen; rw [sizeLine_eq]; decide)
theorem ce_append (ho : CE X W o fo) (he : CE X W e fe) (hbase : attributeBase o "append" X.env (eval o X.env) = eval o X.env := by rfl)
    (hfew : ((backTo cpos (starEach [e] X.env)).all (fun x => !x.1) && (backToKw cpos (keywordEach [] X.env)).all (fun x => x.1.isSome)
      && decide (([e] : List Expr).length + ([] : List Keyword).length + (if ([] : List Keyword).isEmpty then 0 else 1) < 30)) = true := by rfl)
    (hline : (apos.endLine == cpos.line) = true := by rfl) (hs : starEach [e] X.env = (false, eval e X.env) :: starEach [] X.env := by rfl) (hplain : (backTo cpos (starEach [] X.env)).any (·.1) = false := by rfl) :
    CE X W (.Call (.Attribute o "append" apos) [e] [] cpos) (appF fo fe) :=
  PE.imp (pe_bm PySem.F.plainAttrs_list PySem.F.slot_list_append PySem.F.type_list_append mt_append ho (pa_cons he pa_nil hs) hbase hfew hline hs hplain) fun σ H Q ⟨Z, m, env, hp, a, h1⟩ =>
    ⟨Z, m, env, hp, a, (Wp.bind h1).imp fun x hp1 m1 H1 g1 r1 ⟨_, _, h2⟩ v rv => by
      cases x with
      | d x => exact h2.elim
      | r n =>
        obtain ⟨p, ep, rfl⟩ := rv
        simp only at h2
        split at h2
        · rename_i xs0 eo
          obtain ⟨vs0, e0, _⟩ := r1.obj ep eo
          refine ⟨.inl ⟨rfl, vs0, SqL.of e0⟩, Z, m1, env, hp1, a.go g1 r1, (Wp.bind h2).imp fun y hp2 m2 H2 g2 r2 ⟨_, _, h3⟩ w rw' => ?_⟩
          split at h3
          · rename_i x xs eo2 _
            split at h3
            · rename_i hl
              have ep2 := pre_get g2.pre ep
              obtain ⟨vs, e1, hvs⟩ := r2.obj ep2 eo2
              have hm : p ∈ m2 := List.mem_of_getElem? ep2
              have g3 := Go.write (o := .lst (vs ++ [w])) r2 hm
              refine ⟨p, vs, w, rfl, rfl, e1, by rw [hvs.length]; exact lt_big hl, h3 m2 _ g3 (r2.write ep2 ⟨vs ++ [w], upd_same, (hvs.go g3).append (.cons (DR.go g3 rw') .nil)⟩) _ DR.non⟩
            · exact h3.elim
          · exact h3.elim
        · exact h2.elim⟩
theorem ce_pop (ho : CE X W o fo) (hbase : attributeBase o "pop" X.env (eval o X.env) = eval o X.env := by rfl) (hline : (apos.endLine == cpos.line) = true := by rfl) :
    CE X W (.Call (.Attribute o "pop" apos) [] [] cpos) (popF fo) :=
  PE.imp (pe_bm0 PySem.F.plainAttrs_list PySem.F.slot_list_pop PySem.F.type_list_pop mt_pop ho hbase hline) fun σ H Q ⟨Z, m, env, hp, a, h1⟩ =>
    ⟨Z, m, env, hp, a, (Wp.bind h1).imp fun x hp1 m1 H1 g1 r1 ⟨_, _, h2⟩ v rv => by
      cases x with
      | d x => exact h2.elim
      | r n =>
        obtain ⟨p, ep, rfl⟩ := rv
        simp only at h2
        split at h2
        · rename_i xs eo
          obtain ⟨vs, e1, hvs⟩ := r1.obj ep eo
          split at h2
          · rename_i x ex
            obtain ⟨w, e2, rw'⟩ := hvs.get ex
            have hm : p ∈ m1 := List.mem_of_getElem? ep
            have g3 := Go.write (o := .lst vs.dropLast) r1 hm
            have hd : DRs X.K (Zm Z m1) H1 vs.dropLast xs.dropLast := by rw [List.dropLast_eq_take, List.dropLast_eq_take, hvs.length]; exact hvs.take _
            refine ⟨.inl ⟨rfl, vs, SqL.of e1⟩, p, vs, w, rfl, rfl, e1, by rw [hvs.length]; exact e2, h2 m1 _ g3 (r1.write ep ⟨vs.dropLast, upd_same, hd.go g3⟩) _ (DR.go g3 rw')⟩
          · exact h2.elim
        · exact h2.elim⟩
theorem ce_extend (ho : CE X W o fo) (he : CN X W e fn) (hbase : attributeBase o "extend" X.env (eval o X.env) = eval o X.env := by rfl)
    (hfew : ((backTo cpos (starEach [e] X.env)).all (fun x => !x.1) && (backToKw cpos (keywordEach [] X.env)).all (fun x => x.1.isSome)
      && decide (([e] : List Expr).length + ([] : List Keyword).length + (if ([] : List Keyword).isEmpty then 0 else 1) < 30)) = true := by rfl)
    (hline : (apos.endLine == cpos.line) = true := by rfl) (hs : starEach [e] X.env = (false, eval e X.env) :: starEach [] X.env := by rfl) (hplain : (backTo cpos (starEach [] X.env)).any (·.1) = false := by rfl) :
    CE X W (.Call (.Attribute o "extend" apos) [e] [] cpos) (extF fo fn) :=
  PE.imp (pe_bm PySem.F.plainAttrs_list PySem.F.slot_list_extend PySem.F.type_list_extend mt_extend ho (pa_cons he pa_nil hs) hbase hfew hline hs hplain) fun σ H Q ⟨Z, m, env, hp, a, h1⟩ =>
    ⟨Z, m, env, hp, a, (Wp.bind h1).imp fun x hp1 m1 H1 g1 r1 ⟨_, _, h2⟩ v rv => by
      cases x with
      | d x => exact h2.elim
      | r n =>
        obtain ⟨p, ep, rfl⟩ := rv
        simp only at h2
        split at h2
        · rename_i xs0 eo
          obtain ⟨vs0, e0, _⟩ := r1.obj ep eo
          refine ⟨.inl ⟨rfl, vs0, SqL.of e0⟩, Z, m1, env, hp1, a.go g1 r1, (Wp.bind h2).imp fun y hp2 m2 H2 g2 r2 ⟨_, _, h3⟩ => ⟨r2, fun q ho hn nr => ?_⟩⟩
          split at h3
          · rename_i ys xs eo2 _
            split at h3
            · rename_i hl
              obtain ⟨ws, rfl, hws⟩ := nr
              have ep2 := pre_get g2.pre ep
              obtain ⟨vs, e1, hvs⟩ := r2.obj ep2 eo2
              have hm : p ∈ m2 := List.mem_of_getElem? ep2
              have rq := Rel.fresh (o := .lst ws) r2 hn
              have gq := Go.fresh (o := .lst ws) r2 hn
              have g3 := Go.write (o := .lst (vs ++ ws)) rq hm
              have e1' : (upd H2 q (.lst ws)) p = some (.lst vs) := by rw [upd_ne (ne_of_none e1 hn)]; exact e1
              refine ⟨p, q, vs, ws, rfl, rfl, e1', upd_same, by rw [hvs.length, hws.length]; exact big_size hl, h3 m2 _ (gq.trans g3) (rq.write ep2 ⟨vs ++ ws, upd_same, (hvs.go (gq.trans g3)).append (hws.go (gq.trans g3))⟩) _ DR.non⟩
            · exact h3.elim
          · exact h3.elim
        · exact h2.elim⟩
end

/-! ### methods of dicts -/
def dgetF (fo fk : Fe) : Fe := fun env hp => (fo env hp).bind fun a h1 => match dcOf a h1 with
  | some _ => (fk env h1).bind fun k h2 => match k, dcOf a h2 with
    | .d (.str k), some kvs => .ok (.d ((getD kvs k).getD .none)) h2
    | _, _ => .bad
  | none => .bad
def dpopF (fo fk fd : Fe) : Fe := fun env hp => (fo env hp).bind fun a h1 => match a with
  | .r n => match dcOf (.r n) h1 with
    | some _ => (fk env h1).bind fun k h2 => (fd env h2).bind fun z h3 => match k, dcOf (.r n) h3 with
      | .d (.str k), some kvs => match getD kvs k with
        | some v => .ok (.d v) (h3.set n (.dct (delD kvs k)))
        | none => .ok z h3
      | _, _ => .bad
    | none => .bad
  | _ => .bad
section
variable {X : Cx} {W : WX} {apos cpos : Pos} {o e d : Expr} {fo fk fd : Fe}
theorem ce_dget (hu : X.A.units + 100 < cLine) (ho : CE X W o fo) (he : CE X W e fk) (m : M1 X o "get" apos e cpos := by exact ⟨rfl, rfl, rfl, rfl⟩) : CE X W (.Call (.Attribute o "get" apos) [e] [] cpos) (dgetF fo fk) :=
  PE.imp (pe_dget1 (by omega) ho he m) fun σ H Q ⟨Z, m, env, hp, a, h1⟩ => ⟨Z, m, env, hp, a, (Wp.bind h1).imp fun x hp1 m1 H1 g1 r1 ⟨_, _, h2⟩ v rv => by
    split at h2
    · rename_i kvs0 e0
      obtain ⟨n, p, ws0, rfl, em, eo, rfl, e1, _⟩ := dcOf_rel r1 rv e0
      refine ⟨p, rfl, .inl ⟨ws0, .inl e1⟩, Z, m1, env, hp1, a.go g1 r1, (Wp.bind h2).imp fun k hp2 m2 H2 g2 r2 ⟨_, _, h3⟩ y ry => ?_⟩
      split at h3
      · rename_i k kvs e2 _
        cases ry
        obtain ⟨n', p', ws, en, em', eo', ev, e3, hk⟩ := dcOf_rel r2 (rv.go g2) e2
        cases ev
        refine ⟨valV ws (.inr k : Key), DGet.k (k := .inr k) e3, ?_⟩
        obtain ⟨k1, k2⟩ := KVR.get (k := k) hk
        cases q : getD kvs k with
        | none => rw [q] at h3; rw [k2 q]; exact Es.ok h3 r2 DR.non
        | some d =>
          rw [q] at h3
          obtain ⟨w, e4, rw'⟩ := k1 d q
          rw [e4]
          exact Es.ok h3 r2 rw'
      · exact h3.elim
    · exact h2.elim⟩
theorem ce_dpop (ho : CE X W o fo) (he : CE X W e fk) (hd : CE X W d fd) (m : M2 X o "pop" apos e d cpos := by exact ⟨rfl, rfl, rfl, rfl⟩) : CE X W (.Call (.Attribute o "pop" apos) [e, d] [] cpos) (dpopF fo fk fd) :=
  PE.imp (pe_dpop2 ho he hd m) fun σ H Q ⟨Z, m, env, hp, a, h1⟩ => ⟨Z, m, env, hp, a, (Wp.bind h1).imp fun x hp1 m1 H1 g1 r1 ⟨_, _, h2⟩ v rv => by
    cases x with
    | d x => exact h2.elim
    | r n =>
      simp only at h2
      split at h2
      · rename_i kvs0 e0
        obtain ⟨n', p, ws0, en, em, eo, rfl, e1, _⟩ := dcOf_rel r1 rv e0
        cases en
        refine ⟨p, rfl, .inl ⟨ws0, .inl e1⟩, Z, m1, env, hp1, a.go g1 r1, (Wp.bind h2).imp fun k hp2 m2 H2 g2 r2 ⟨_, _, h3⟩ y ry => ⟨Z, m2, env, hp2, a.go (g1.trans g2) r2, (Wp.bind h3).imp fun z hp3 m3 H3 g3 r3 ⟨_, _, h4⟩ u ru => ?_⟩⟩
        split at h4
        · rename_i k kvs e2 _ _
          cases ry
          obtain ⟨n', p', ws, en, em', eo', ev, e3, hk⟩ := dcOf_rel r3 (rv.go (g2.trans g3)) e2
          cases en
          cases ev
          refine ⟨ws, .inr k, e3, rfl, ?_⟩
          obtain ⟨k1, k2⟩ := KVR.get (k := k) hk
          cases q : getD kvs k with
          | none =>
            rw [q] at h4
            rw [k2 q]
            exact ⟨(fun v e => by cases e), (fun _ => Es.ok h4 r3 ru)⟩
          | some d =>
            rw [q] at h4
            obtain ⟨w, e4, rw'⟩ := k1 d q
            rw [e4]
            have hm : p ∈ m3 := List.mem_of_getElem? em'
            have g4 := Go.write (o := .dK (dropK ws (.inr k : Key))) r3 hm
            refine ⟨(fun v e => ?_), (fun e => by cases e)⟩
            cases e
            exact h4 m3 _ g4 (r3.write em' ⟨_, upd_same, (KVR.del hk).go g4⟩) _ (DR.go g4 rw')
        · exact h4.elim
      · exact h2.elim⟩
end

/-! ### d[k] = v; o.f = v -/
def dputS (fd fk fv : Fe) : Fs := fun env hp => ((fv env hp).bind fun v h1 => (fd env h1).bind fun a h2 => (fk env h2).bind fun k h3 => match v, a, k with
    | .d v, .r n, .d (.str k) => match dcOf (.r n) h3 with
      | some kvs => if kvs.length < bigLen then .ok () (h3.set n (.dct (putD kvs k v))) else .bad
      | none => .bad
    | _, _, _ => .bad).toS env fun _ h => .nx env h
def putA (f : Str) (v : AV) : List (Str × AV) → List (Str × AV)
  | [] => [(f, v)]
  | (g, x) :: r => if g = f then (g, v) :: r else (g, x) :: putA f v r
def fputS (C : Str) (f : Str) (fo fv : Fe) : Fs := fun env hp => ((fv env hp).bind fun v h1 => (fo env h1).bind fun a h2 => match a with
    | .r n => match h2[n]? with
      | some (.ins C' fs) => if C' = C ∧ fs.length < 900 then .ok () (h2.set n (.ins C (putA f v fs))) else .bad
      | _ => .bad
    | _ => .bad).toS env fun _ h => .nx env h
section
variable {K : KF} {Z : Addr → Prop} {m : List Addr} {H : Hp}
theorem FR.put {f : Str} {v : V} {a : AV} (r : AVR K Z m H v a) : ∀ {ws : List (Str × V)} {fs : List (Str × AV)}, FR K Z m H ws fs → FR K Z m H (putF f v ws) (putA f a fs)
  | _, _, .nil => .cons ⟨rfl, r⟩ .nil
  | _, _, .cons (a := (p1, p2)) (b := (q1, q2)) ⟨h1, h2⟩ t => by
    simp only at h1
    subst h1
    by_cases e : p1 = f
    · simp only [putF, putA, if_pos e]; exact .cons ⟨rfl, r⟩ t
    · simp only [putF, putA, if_neg e]; exact .cons ⟨rfl, h2⟩ (FR.put r t)
theorem FR.length {ws : List (Str × V)} {fs : List (Str × AV)} (h : FR K Z m H ws fs) : ws.length = fs.length := Paired.length h
end
section
variable {X : Cx} {W : WX} {pos pos' : Pos} {o i value : Expr} {fd fk fv fo : Fe} {C : Str} {f : Str}
theorem cs_dput (cx : Ctx X W) (ho : CE X W o fd) (hi : CE X W i fk) (hv : CE X W value fv) (hs : swapsWith value (some (.Subscript o i pos')) pos.line X.env = pure false := by rfl) : CS X W (.Assign [.Subscript o i pos'] value pos) (dputS fd fk fv) :=
  PS.imp (ps_dput (by have := cx.hu; omega) ho hi hv hs) fun De σ H ⟨Z, m, env, hp, a, h⟩ => ⟨Z, m, env, hp, a, (Wp.bind (WpS.toS a h)).imp fun v hp1 m1 H1 g1 r1 ⟨_, _, h1⟩ x rx =>
    ⟨Z, m1, env, hp1, a.go g1 r1, (Wp.bind h1).imp fun d hp2 m2 H2 g2 r2 ⟨_, _, h2⟩ y ry => ⟨Z, m2, env, hp2, a.go (g1.trans g2) r2, (Wp.bind h2).imp fun k hp3 m3 H3 g3 r3 ⟨_, _, h3⟩ z rz => by
      split at h3
      · rename_i v n k _ _ _
        split at h3
        · rename_i kvs e
          split at h3
          · rename_i hl
            obtain ⟨n', p, ws, en, em, eo, rfl, e1, hk⟩ := dcOf_rel r3 (ry.go g3) e
            cases en
            cases rz with
            | str _ hk0 =>
              have hm : p ∈ m3 := List.mem_of_getElem? em
              have g4 := Go.write (o := .dK (putK ws (.inr k : Key) x)) r3 hm
              have r4 := r3.write em (ao := .dct (putD kvs k v)) ⟨_, upd_same, KVR.put hk0 (DR.go (g2.trans (g3.trans g4)) rx) (hk.go g4)⟩
              refine ⟨p, _, rfl, DPut.k (k := .inr k) e1 (by rw [hk.length]; exact lt_big hl), ?_⟩
              obtain ⟨_, _, q⟩ := h3 m3 _ g4 r4
              exact q m3 _ σ .refl r4 (a.sl.go (g1.trans (g2.trans (g3.trans g4))))
          · exact h3.elim
        · exact h3.elim
      · exact h3.elim⟩⟩⟩
theorem cs_fput (cl : Cls X.K (He.ga X.K C)) (hn : NoAttr X.K (He.ga X.K C) f) (ho : CE X W o fo) (hv : CE X W value fv) (hs : swapsWith value (some (.Attribute o f pos')) pos.line X.env = pure false := by rfl) : CS X W (.Assign [.Attribute o f pos'] value pos) (fputS C f fo fv) :=
  PS.imp (ps_fld ho hv hs) fun De σ H ⟨Z, m, env, hp, a, h⟩ => ⟨Z, m, env, hp, a, (Wp.bind (WpS.toS a h)).imp fun v hp1 m1 H1 g1 r1 ⟨_, _, h1⟩ x rx =>
    ⟨Z, m1, env, hp1, a.go g1 r1, (Wp.bind h1).imp fun d hp2 m2 H2 g2 r2 ⟨_, _, h2⟩ y ry => by
      cases d with
      | d d => exact h2.elim
      | r n =>
        obtain ⟨p, ep, rfl⟩ := ry
        simp only at h2
        split at h2
        · rename_i C' fs eo
          split at h2
          · rename_i hc
            obtain ⟨rfl, hl⟩ := hc
            obtain ⟨dx, ws, e1, hf⟩ := r2.obj ep eo
            have hm : p ∈ m2 := List.mem_of_getElem? ep
            have g3 := Go.write (o := .ins (He.ga X.K C') dx (putF f x ws)) r2 hm
            have r3 := r2.write ep (ao := .ins C' (putA f v fs)) ⟨dx, _, upd_same, FR.put (rx.go (g2.trans g3)) (hf.go g3)⟩
            refine ⟨p, _, dx, ws, rfl, e1, cl, hn, by rw [hf.length]; omega, ?_⟩
            obtain ⟨_, _, q⟩ := h2 m2 _ g3 r3
            exact q m2 _ σ .refl r3 (a.sl.go (g1.trans (g2.trans g3)))
          · exact h2.elim
        · exact h2.elim⟩⟩
end

/-! ### o.f as one of several targets -/
def fldB (C : Str) (f : Str) (i : Nat) : Bt := fun v env hp => match env[i]? with
  | some (some (.r n)) => match hp[n]? with
    | some (.ins C' fs) => if C' = C ∧ fs.length < 900 then some (env, hp.set n (.ins C (putA f v fs))) else none
    | _ => none
  | _ => none
section
variable {X : Cx} {W : WX} {pos p1 : Pos} {C : Str} {f x : Str}
theorem cg_fld (i : Nat) (cl : Cls X.K (He.ga X.K C)) (hn : NoAttr X.K (He.ga X.K C) f) (hN : X.N[i]? = some x := by rfl) (hv : Vis X.env.scope x := by first | exact Or.inl rfl | exact Or.inr (Or.inl rfl) | exact Or.inr (Or.inr rfl)) (hd : (x == ("__debug__" : Str)) = false := by decide)
    (hcd : (x == ("__classdict__" : Str)) = false := by decide) : CG X (.Attribute (.Name x p1) f pos) (fldB C f i) := by
  refine ⟨fun pins s σ H v u Q I r ⟨Z, m, env, hp, a, env', hp', at1, ra, e, fin⟩ => ?_⟩
  unfold fldB at e
  split at e
  · rename_i n en
    split at e
    · rename_i C' fs eo
      split at e
      · rename_i hc
        obtain ⟨rfl, hl⟩ := hc
        cases e
        obtain ⟨s0, es, fs0⟩ := Paired.get at1.sl en
        obtain ⟨w, es2, p, ep, rfl⟩ := fs0 _ rfl
        obtain ⟨dx, ws, e1, hf⟩ := at1.rel.obj ep eo
        have hm : p ∈ m := List.mem_of_getElem? ep
        have g3 := Go.write (o := .ins (He.ga X.K C') dx (putF f v ws)) at1.rel hm
        have r3 := at1.rel.write ep (ao := .ins C' (putA f a fs)) ⟨dx, _, upd_same, FR.put (ra.go g3) (hf.go g3)⟩
        have hP : PE X (.Name x p1) (tVar i) := pv i hN hv hd hcd
        have run := hP.run pins s σ H (fun v H1 => v = .ref p ∧ H1 = H) I ⟨.ref p, by rw [es, es2], rfl, rfl⟩
        rw [show assign (.Attribute (.Name x p1) f pos) X.env u = (do
          let ov ← holding [u] (eval (.Name x p1) X.env)
          standAt pos.atName
          holding [u, ov] (setAttr ov f u)
          release [u, ov] []) from rfl]
        refine wpAny_bind (wpAny_holding (thn run fun ov s1 ⟨y, H1, I1, ry, ey, eH⟩ => ?_))
        subst ey eH
        obtain rfl : ov = Value.ref p := ry
        refine wpAny_bind (wpAny_standAt (wpAny_bind (wpAny_holding (setattr_ok I1 e1 cl hn (by rw [hf.length]; omega) r fun s3 I3 => ?_))))
        exact wpAny_release ⟨σ, _, I3, fin m _ σ g3 r3 (at1.sl.go g3)⟩
      · cases e
    · cases e
  · cases e
end
end Pin
end
-- Pin10
section
set_option linter.all false
set_option maxRecDepth 100000
set_option maxHeartbeats 2000000
/-! Pin, part 10: a def's meaning out of its body's. -/
namespace Pin
open PySem PySem.Spec PyProof.Rows L2

/-! ### what a def leaves behind -/
def avB (n : Nat) : AV → Bool
  | .d _ => true
  | .r i => decide (i < n)
/-- the objects of before name none of the new ones -/
def closedB (n : Nat) (h : AH) : Bool := h.all fun o => match o with
  | .ins _ fs => fs.all fun q => avB n q.2
  | _ => true
def trimH (h : AH) (n : Nat) : AH := if closedB n (h.take n) then h.take n else h
/-- an answer that is a new list is data from now on -/
def trimA (a : AV) (h : AH) (n : Nat) : Out AV := if closedB n (h.take n) && decide (n ≤ h.length) then
    match a with
    | .d x => .ok (.d x) (h.take n)
    | .r i => if i < n then .ok (.r i) (h.take n) else match h[i]? with
      | some (.lst xs) => .ok (.d (.list xs)) (h.take n)
      | _ => .ok (.r i) h
  else .ok a h
def startE (N : Nat) (as : List AV) : Sl := as.map some ++ List.replicate (N - as.length) none
/-- the meaning of a def with N names whose body means g -/
def fnF (N : Nat) (g : Fs) (as : List AV) (hp : AH) : Out AV := match g (startE N as) hp with
  | .nx _ h => trimA (.d .none) h hp.length
  | .rt a h => trimA a h hp.length
  | .exc x _ h => .exc x (if closedB hp.length (h.take hp.length) && decide (hp.length ≤ h.length) then h.take hp.length else h)
  | _ => .bad
section
variable {K : KF} {Z : Addr → Prop} {m m' : List Addr} {H H' : Hp} {hp h : AH}
theorem Paired.mono {α β : Type} {F G : α → β → Prop} : ∀ {l₁ : List α} {l₂ : List β}, (∀ a b, b ∈ l₂ → F a b → G a b) → Paired F l₁ l₂ → Paired G l₁ l₂
  | _, _, _, .nil => .nil
  | _, _, f, .cons r t => .cons (f _ _ List.mem_cons_self r) (Paired.mono (fun a b hb => f a b (List.mem_cons_of_mem _ hb)) t)
theorem pre_take (r : Rel K Z m H hp) (g : Go m H m' H') : m'.take hp.length = m := by
  obtain ⟨t, rfl⟩ := g.pre
  rw [← r.len, List.take_left']
  rfl
theorem zm_pre (g : m <+: m') {a : Addr} (h : Zm Z m a) : Zm Z m' a := h.elim .inl fun q => .inr (g.subset q)
theorem Rel.trim (r : Rel K Z m H hp) (g : Go m H m' H') (r' : Rel K Z m' H' h) (hl : hp.length ≤ h.length) (hc : closedB hp.length (h.take hp.length) = true) : Rel K Z m H' (h.take hp.length) := by
  have less : ∀ {v : V} {d : D}, DR K (Zm Z m') H' v d → DR K (Zm Z m) H' v d := fun q => DR.less (fun a z => zm_pre g.pre z) q
  refine ⟨by rw [List.length_take, r.len]; omega, r.nd, r.off, r'.trk, fun i a o e1 e2 => ?_⟩
  have hi : i < hp.length := by rw [← r.len]; exact (List.getElem?_eq_some_iff.mp e1).1
  rw [List.getElem?_take_of_lt hi] at e2
  have x := r'.obs i a o (pre_get g.pre e1) e2
  have ho : o ∈ h.take hp.length := List.mem_of_getElem? (by rw [List.getElem?_take_of_lt hi]; exact e2)
  have hcl := List.all_eq_true.mp hc o ho
  cases o with
  | lst xs => obtain ⟨vs, e, q⟩ := x; exact ⟨vs, e, DRs.less (fun a z => zm_pre g.pre z) q⟩
  | dct kvs => obtain ⟨ws, e, q⟩ := x; exact ⟨ws, e, Paired.imp (fun _ _ q => ⟨q.1, q.2.1, less q.2.2⟩) q⟩
  | ins C fs =>
    obtain ⟨dx, ws, e, q⟩ := x
    refine ⟨dx, ws, e, Paired.mono (fun p q hq z => ⟨z.1, ?_⟩) q⟩
    have hq2 := List.all_eq_true.mp hcl q hq
    obtain ⟨f, a⟩ := q
    cases a with
    | d x => exact less z.2
    | r j =>
      obtain ⟨b, e3, e4⟩ := z.2
      have hj : j < hp.length := of_decide_eq_true hq2
      refine ⟨b, ?_, e4⟩
      obtain ⟨t, rfl⟩ := g.pre
      rw [List.getElem?_append_left (by rw [r.len]; exact hj)] at e3
      exact e3
theorem Go.trim (g : Go m H m' H') : Go m H m H' := ⟨List.prefix_refl m, fun a h n => absurd h n, g.keep⟩
theorem trim_ok {W : WX} {σ : L2.St} {a : AV} {v : V} {Q : VK} (r : Rel K Z m H hp) (h1 : Es K W Z m σ H (trimA a h hp.length) Q) (g : Go m H m' H') (r' : Rel K Z m' H' h) (x : AVR K Z m' H' v a) : Q v H' := by
  unfold trimA at h1
  split at h1
  · rename_i hc
    obtain ⟨c1, c2⟩ := Bool.and_eq_true_iff.mp hc
    have rt := r.trim g r' (of_decide_eq_true c2) c1
    cases a with
    | d d => exact h1 m H' g.trim rt v (DR.less (fun a z => zm_pre g.pre z) x)
    | r i =>
      simp only at h1
      split at h1
      · rename_i hi
        obtain ⟨b, e3, e4⟩ := x
        refine h1 m H' g.trim rt v ⟨b, ?_, e4⟩
        obtain ⟨t, rfl⟩ := g.pre
        rw [List.getElem?_append_left (by rw [r.len]; exact hi)] at e3
        exact e3
      · rename_i hi
        split at h1
        · rename_i xs eo
          obtain ⟨b, e3, rfl⟩ := x
          obtain ⟨vs, e5, hvs⟩ := r'.obj e3 eo
          refine h1 m H' g.trim rt _ (DR.lst (fun z => ?_) (.inl e5) (DRs.less (fun a z => zm_pre g.pre z) hvs))
          rcases z with z | z
          · exact r'.off b (List.mem_of_getElem? e3) z
          · obtain ⟨j, hj, ej⟩ := List.getElem_of_mem z
            have e6 : m'[j]? = some b := pre_get g.pre (by rw [List.getElem?_eq_getElem hj, ej])
            have : j = i := (List.getElem?_inj (List.getElem?_eq_some_iff.mp e6).1 r'.nd).mp (e6.trans e3.symm)
            rw [r.len] at hj
            omega
        · exact h1 m' H' g r' v x
  · exact h1 m' H' g r' v x
theorem startE_rel {vs : List V} {as : List AV} {N : List Str} (h : AVRs K Z m H vs as) : SlR K Z m H (L2.start N vs) (startE N.length as) := by
  unfold L2.start startE
  rw [AVRs.length h]
  refine Paired.app ?_ ?_
  · induction h with
    | nil => exact .nil
    | cons r _ ih => exact .cons (fun av e => by cases e; exact ⟨_, rfl, r⟩) ih
  · generalize N.length - as.length = n
    induction n with
    | zero => exact .nil
    | succ n ih => exact .cons (fun av e => by cases e) ih
end
/-- a def's promise out of its body's meaning -/
theorem fn_ok {P : Program} {w : World} {K : KF} {mg : Str → Option Value} {base : Heap} {x qual : Str} {params : Arguments} {body : List Stmt} {scope : Scope} {kws : List (Str × V)} {f : Addr} {fd : FuncData} {N ps : List Str} {k : Nat} {g : Fs}
    (F : FunD K x qual params body scope [] kws f fd) (S : FnScope N ps scope) (hb : Binds K fd ps [])
    (h : ∀ (cdv : Value) (A : Around) (outer : List Env) (s : Shared) (H : Hp) (E : XK), Ctx (cxOf (L2.CX P w) P w K mg base N qual scope f cdv A outer s H E) (fun c d _ H => E c d H) → Room k (A.deeper (envOfC qual scope s.heap.objs.size f cdv)) →
      CSs (cxOf (L2.CX P w) P w K mg base N qual scope f cdv A outer s H E) (fun c d _ H => E c d H) body g) : Fn P w K mg base (k + 1) f ps.length (fnF N.length g) := by
  refine ⟨⟨fd, ps, F.ok S (fun vs H Q E h => spF_len h) (fun cdv A outer s H vs Q E hr hsp => ?_), hb⟩, F.kp⟩
  obtain ⟨Z, m, hp, as, r, rv, hq⟩ := hsp
  unfold arF at hq
  by_cases e0 : as.length = ps.length
  rotate_left
  · rw [if_neg e0] at hq; exact hq.elim
  rw [if_pos e0] at hq
  let X := cxOf (L2.CX P w) P w K mg base N qual scope f cdv A outer s H E
  have cx : Ctx X (fun c d _ H => E c d H) := ⟨rfl, by have := hr.un; show (A.deeper (envOfC qual scope s.heap.objs.size f cdv)).units + 100 < cLine; omega, takes_of rfl rfl rfl rfl, passes_of rfl, S.nd⟩
  refine ⟨_, h cdv A outer s H E cx hr, Z, m, startE N.length as, hp, ⟨r, startE_rel rv⟩, ?_⟩
  unfold fnF at hq
  cases q : g (startE N.length as) hp with
  | nx e h2 => rw [q] at hq; exact fun m' H' σ' g' r' s' => trim_ok r hq g' r' DR.non
  | rt a h2 => rw [q] at hq; exact fun m' H' v g' r' x' => trim_ok r hq g' r' x'
  | bk e h2 => rw [q] at hq; exact hq.elim
  | ct e h2 => rw [q] at hq; exact hq.elim
  | bad => rw [q] at hq; exact hq.elim
  | exc x e h2 =>
    rw [q] at hq
    intro m' H' σ' c d g' r' s' ex
    simp only at hq
    split at hq
    · rename_i hc
      obtain ⟨c1, c2⟩ := Bool.and_eq_true_iff.mp hc
      exact hq m H' c d g'.trim (r.trim g' r' (of_decide_eq_true c2) c1) ⟨ex.1, ex.2.imp id fun ⟨dd, ws, e, e2, q⟩ => ⟨dd, ws, e, e2, Paired.imp (fun _ _ q => ⟨q.1, DR.less (fun a z => zm_pre g'.pre z) q.2⟩) q⟩⟩
    · exact hq m' H' c d g' r' ex
/-- a def of which nothing is told -/
theorem fn_bad {P : Program} {w : World} {K : KF} {mg : Str → Option Value} {base : Heap} {x qual : Str} {params : Arguments} {body : List Stmt} {scope : Scope} {kws : List (Str × V)} {f : Addr} {fd : FuncData} {N ps : List Str} {k : Nat}
    (F : FunD K x qual params body scope [] kws f fd) (S : FnScope N ps scope) (hb : Binds K fd ps []) : Fn P w K mg base (k + 1) f ps.length (fun _ _ => .bad) :=
  fn_ok (g := fun _ _ => .bad) F S hb fun cdv A outer s H E cx hr => ⟨fun pins s σ H De I q => let ⟨_, _, _, _, _, h⟩ := q; h.elim⟩
end Pin
end
-- Pin11
section
set_option linter.all false
set_option maxRecDepth 100000
set_option maxHeartbeats 2000000
/-! Pin, part 11: what the head tells, by names. -/
namespace Pin
open PySem PySem.Spec PyProof.Rows L2

/-! ### written data -/
mutual
def datB (K : KF) : D → Value → Bool
  | .none, u => match u with
    | .none => true
    | _ => false
  | .bool b, u => match u with
    | .bool c => b == c
    | _ => false
  | .int i, u => match u with
    | .int j _ => decide (i = j)
    | _ => false
  | .str x, u => match u with
    | .str y _ => decide (x = y) && PyData.strOk x
    | _ => false
  | .tuple ds, u => match u with
    | .ref a => match K.lookup a with
      | some ⟨.type c, none, .seq its _, _⟩ => decide (c = "tuple") && (decide (its.size ≤ sizeLine) && datsB K ds its.toList)
      | _ => false
    | _ => false
  | .list ds, u => match u with
    | .ref a => match K.lookup a with
      | some ⟨.type c, none, .seq its _, _⟩ => decide (c = "list") && (decide (its.size ≤ sizeLine) && datsB K ds its.toList)
      | _ => false
    | _ => false
  | _, _ => false
def datsB (K : KF) : List D → List Value → Bool
  | [], [] => true
  | d :: ds, u :: us => datB K d u && datsB K ds us
  | _, _ => false
end
def DataKs (K : KF) (us : List Value) (ds : List D) : Prop := ∃ vs, Vals vs us ∧ ∀ Z H, DRs K Z H vs ds
mutual
theorem datB_ok {K : KF} : ∀ {d : D} {u : Value}, datB K d u = true → DataK K u d
  | .none, u, h => by
    unfold datB at h
    split at h
    · exact ⟨.non, rfl, fun _ _ => .non⟩
    · cases h
  | .bool b, u, h => by
    unfold datB at h
    split at h
    · rename_i c
      have e : b = c := eq_of_beq h
      subst e
      exact ⟨.bl b, rfl, fun _ _ => .bl b⟩
    · cases h
  | .int i, u, h => by
    unfold datB at h
    split at h
    · rename_i c t
      have e : i = c := of_decide_eq_true h
      subst e
      exact ⟨.int i, ⟨t, rfl⟩, fun _ _ => .int i⟩
    · cases h
  | .str x, u, h => by
    unfold datB at h
    split at h
    · rename_i c t
      obtain ⟨e, hx⟩ := Bool.and_eq_true_iff.mp h
      have e := of_decide_eq_true e
      subst e
      exact ⟨.str x, ⟨t, rfl⟩, fun _ _ => .str x hx⟩
    · cases h
  | .tuple ds, u, h => by
    unfold datB at h
    split at h
    · rename_i a
      split at h
      · rename_i c its n sl e
        obtain ⟨h1, h⟩ := Bool.and_eq_true_iff.mp h
        obtain ⟨h2, h3⟩ := Bool.and_eq_true_iff.mp h
        obtain ⟨vs, r, f⟩ := datsB_ok h3
        exact ⟨.ref a, rfl, fun Z H => .tupK ⟨_, its, n, e, congrArg Value.type (of_decide_eq_true h1), rfl, of_decide_eq_true h2, r, rfl⟩ (f Z H)⟩
      · cases h
    · cases h
  | .list ds, u, h => by
    unfold datB at h
    split at h
    · rename_i a
      split at h
      · rename_i c its n sl e
        obtain ⟨h1, h⟩ := Bool.and_eq_true_iff.mp h
        obtain ⟨h2, h3⟩ := Bool.and_eq_true_iff.mp h
        obtain ⟨vs, r, f⟩ := datsB_ok h3
        exact ⟨.ref a, rfl, fun Z H => .lstK ⟨_, its, n, e, congrArg Value.type (of_decide_eq_true h1), rfl, rfl, of_decide_eq_true h2, r⟩ (f Z H)⟩
      · cases h
    · cases h
  | .dict _, u, h => by simp [datB] at h
theorem datsB_ok {K : KF} : ∀ {ds : List D} {us : List Value}, datsB K ds us = true → DataKs K us ds
  | [], [], _ => ⟨[], .nil, fun _ _ => .nil⟩
  | d :: ds, u :: us, h => by
    unfold datsB at h
    obtain ⟨h1, h2⟩ := Bool.and_eq_true_iff.mp h
    obtain ⟨v, r, f⟩ := datB_ok h1
    obtain ⟨vs, rs, fs⟩ := datsB_ok h2
    exact ⟨v :: vs, .cons r rs, fun Z H => .cons (f Z H) (fs Z H)⟩
  | [], _ :: _, h => by simp [datsB] at h
  | _ :: _, [], h => by simp [datsB] at h
end

/-! ### further facts -/
def exBase : List Value := [.type "Exception", .type "BaseException", .type "object"]
inductive Xa where
  | dat (x : Str) (d : D)
  | exE (x : Str)
  | xf (x f : Str)
  | typ (x : Str) (T : String)
def Xa.ok (K : KF) : Xa → Bool
  | .dat x d => match PySem.W.nsIn K mainGlobals x with
    | some (some u) => datB K d u
    | _ => false
  | .exE x => PySem.W.excIn K (He.ga K x) exBase "Exception.__new__" && (PySem.W.keepIn K (.ref (He.ga K x)) && (decide (PySem.W.subIn K (.ref (He.ga K x)) (.type "BaseException") = some true) && decide (PySem.W.typeIn K (.ref (He.ga K x)) = some (.type "type"))))
  | .xf x f => xfB K (He.ga K x) && He.eqO (PySem.W.findIn K (.ref (He.ga K x)) f) (some none)
  | .typ x T => He.eqO (PySem.W.nsIn K mainGlobals x) (some (some (.type T)))
section
variable {K : KF} {h : Heap} {mg : Str → Option Value}
theorem dat_ok (X : K.In h) (G : h.Ns mainGlobals mg) {x : Str} {d : D} (c : (Xa.dat x d).ok K = true) : ∃ u, mg x = some u ∧ DataK K u d := by
  have c2 : (match PySem.W.nsIn K mainGlobals x with
    | some (some u) => datB K d u
    | _ => false) = true := c
  cases e : PySem.W.nsIn K mainGlobals x with
  | none => rw [e] at c2; cases c2
  | some o =>
    rw [e] at c2
    cases o with
    | none => cases c2
    | some u => exact ⟨u, PySem.W.mg_of X G e, datB_ok c2⟩
theorem exE_ok {x : Str} (c : (Xa.exE x).ok K = true) : PySem.W.excIn K (He.ga K x) exBase "Exception.__new__" = true ∧ PySem.W.keepIn K (.ref (He.ga K x)) = true ∧ PySem.W.subIn K (.ref (He.ga K x)) (.type "BaseException") = some true ∧
    PySem.W.typeIn K (.ref (He.ga K x)) = some (.type "type") := by
  obtain ⟨c1, c⟩ := He.ba c
  obtain ⟨c2, c⟩ := He.ba c
  obtain ⟨c3, c4⟩ := He.ba c
  exact ⟨c1, c2, of_decide_eq_true c3, of_decide_eq_true c4⟩
theorem xf_ok {x f : Str} (c : (Xa.xf x f).ok K = true) : XfC K (He.ga K x) ∧ PySem.W.findIn K (.ref (He.ga K x)) f = some none := by
  obtain ⟨c1, c2⟩ := He.ba c
  exact ⟨xfB_ok c1, He.eqO_ok c2⟩
theorem typ_ok (X : K.In h) (G : h.Ns mainGlobals mg) {x : Str} {T : String} (c : (Xa.typ x T).ok K = true) : mg x = some (.type T) := PySem.W.mg_of X G (He.eqO_ok c)
end

/-! ### the Hook -/
abbrev AlX : Type := Bool × He.AlD
def obsX (xa : List Xa) (fa : List He.Fa) (fn : List He.DefD) (K : KF) : AlX := (xa.all fun x => x.ok K, He.obsD fa fn K)
def valX (fn : List He.DefD) : AlX := (true, He.valD fn)
def SaysX (xa : List Xa) (fa : List He.Fa) (fn : List He.DefD) (K : KF) : Prop := obsX xa fa fn K = valX fn
def obsXG (n : Nat) (xa : List Xa) (fa : List He.Fa) (fn : List He.DefD) (g : Addr → Option Obj) : AlX := obsX xa fa fn (He.frG g (He.asD g n))
def hookX (n : Nat) (xa : List Xa) (fa : List He.Fa) (fn : List He.DefD) : PySem.W.Hook where
  α := AlX
  obs := fun s => obsXG n xa fa fn s.heap.get?
  val := fun _ => valX fn
  says := fun _ h => ∃ K : PySem.W.Frag, K.In h ∧ SaysX xa fa fn K
  of := fun _ _ e => ⟨_, He.frG_in, e⟩
  keeps := fun _ _ _ ⟨K, hK, c⟩ k => ⟨K, PySem.W.Frag.In.keeps hK k, c⟩
theorem obsXG_eq {n : Nat} {xa : List Xa} {fa : List He.Fa} {fn : List He.DefD} {g : Addr → Option Obj} {s : Shared} (h : ∀ a, g a = s.heap.get? a) : obsXG n xa fa fn g = (hookX n xa fa fn).obs s := by
  have e : g = s.heap.get? := funext h
  rw [e] <;> rfl
section
variable {xa : List Xa} {fa : List He.Fa} {fn : List He.DefD} {K : KF}
theorem SaysX.d (c : SaysX xa fa fn K) : He.SaysD fa fn K := congrArg (fun z : AlX => z.2) c
theorem SaysX.x (c : SaysX xa fa fn K) (i : Nat) {f : Xa} (h : xa[i]? = some f := by rfl) : f.ok K = true :=
  List.all_eq_true.mp (show (xa.all fun x => x.ok K) = true from congrArg (fun z : AlX => z.1) c) f (List.mem_of_getElem? h)
theorem SaysX.xm (c : SaysX xa fa fn K) {f : Xa} (h : f ∈ xa) : f.ok K = true :=
  List.all_eq_true.mp (show (xa.all fun x => x.ok K) = true from congrArg (fun z : AlX => z.1) c) f h
end
end Pin
end
-- Pin12
section
set_option linter.all false
set_option maxRecDepth 100000
set_option maxHeartbeats 2000000
/-! Pin, part 12: sorted, set, min, dict(x), combinations: what they mean (the order of data, sorting by it). -/
namespace Pin
open PySem PySem.Spec PyProof.Rows L2

/-! ### the order of data (dataLt: Python's < of alike data) -/
/-- x is put behind all that are not greater -/
def insD (x : D) : List D → List D
  | [] => [x]
  | y :: ys => if PySem.W.dataLt x y then x :: y :: ys else y :: insD x ys
/-- a stable sort -/
def isortD (xs : List D) : List D := xs.foldl (fun acc x => insD x acc) []
def strsD : List D → Option (List Str)
  | [] => some []
  | .str x :: r => (strsD r).map (x :: ·)
  | _ => none
def keyB : D → Bool
  | .tuple (_ :: _) => true
  | _ => false
def plainB : D → Bool
  | .none => false
  | .tuple _ => false
  | _ => true
def alikeB (xs : List D) : Bool := xs.all fun x => xs.all fun y => PySem.W.alike x y
/-- what sorted serves here: alike data, all tuples that are not empty, or no tuples -/
def canSort (xs : List D) : Bool := decide (xs.length ≤ 500) && (alikeB xs && (((xs.all keyB) || (xs.all plainB)) && decide (PyData.depthAll xs ≤ 30)))
def sortO (xs : List D) : Option (List D) := if canSort xs then some (isortD xs) else none
def sortC (as : List AV) (hp : AH) : Out AV := match as with
  | [a] => match lsOf a hp with
    | some xs => match sortO xs with
      | some ys => .ok (.d (.list ys)) hp
      | none => .bad
    | none => .bad
  | _ => .bad
/-- the texts of a list, each once, in order -/
def uniqS : List Str → List Str
  | [] => []
  | x :: r => if x ∈ r then uniqS r else x :: uniqS r
def setF (k : List Str → AV) (f : Fe) : Fe := fun env hp => (f env hp).bind fun a h1 => match lsOf a h1 with
  | some xs => match strsD xs with
    | some ss => if ss.length ≤ 20 then .ok (k (uniqS ss)) h1 else .bad
    | none => .bad
  | none => .bad
/-- sorted(set(xs)); len(set(xs)) -/
def sortSetF (f : Fe) : Fe := setF (fun ss => .d (.list (isortD (ss.map .str)))) f
def lenSetF (f : Fe) : Fe := setF (fun ss => .d (.int ss.length)) f
/-- sorted(d.items()) -/
def sortItF (f : Fe) : Fe := fun env hp => (f env hp).bind fun a h1 => match dcOf a h1 with
  | some kvs => match sortO (kvs.map fun kv => .tuple [.str kv.1, kv.2]) with
    | some ys => .ok (.d (.list ys)) h1
    | none => .bad
  | none => .bad
/-- min(xs): the first of those that none is less than -/
def minC (as : List AV) (hp : AH) : Out AV := match as with
  | [a] => match lsOf a hp with
    | some (x :: r) => if decide (r.length ≤ 500) && (alikeB (x :: r) && ((x :: r).all plainB || (x :: r).all keyB) && decide (PyData.depthAll (x :: r) ≤ 30)) then .ok (.d (PySem.W.minD x r)) hp else .bad
    | _ => .bad
  | _ => .bad
/-- dict(x), x a tuple of pairs -/
def pairD : List D → Option (List (Str × D))
  | [] => some []
  | .tuple [.str k, v] :: r => (pairD r).map ((k, v) :: ·)
  | _ => none
def dictN (f : Fe) : Fnew := fun env hp => (f env hp).bind fun a h1 => match a with
  | .d (.tuple xs) => match pairD xs with
    | some kvs => if kvs.length ≤ 500 then .ok (.dct (mergeD kvs)) h1 else .bad
    | none => .bad
  | _ => .bad
/-- combinations(xs, r): the sublists of r items, by their places -/
def combD : Nat → List D → List (List D)
  | 0, _ => [[]]
  | _ + 1, [] => []
  | r + 1, x :: xs => (combD r xs).map (x :: ·) ++ combD (r + 1) xs
def combI (f g : Fe) : Fi := fun env hp => (f env hp).bind fun a h1 => (g env h1).bind fun b h2 => match a, b with
  | .d (.tuple xs), .d (.int r) => if 0 ≤ r ∧ r ≤ 8 ∧ xs.length ≤ 8 then .ok ((combD r.toNat xs).map .tuple) h2 else .bad
  | _, _ => .bad
end Pin
end
-- PinDict
section
set_option linter.all false
set_option maxRecDepth 100000
set_option maxHeartbeats 2000000
/-! Pin: dict(x), x a tuple of pairs. -/
namespace Pin
open PySem PySem.Spec PyProof.Rows L2

theorem tup_pairs {X : Cx} {pins : List (Addr × Obj)} {σ : L2.St} {H : Hp} {s : Shared} (I : Inv X pins σ H s) : ∀ {ps : List Addr} {kvs : List (Key × V)}, Paired (fun p kv => SqT X.K H p [kV kv.1, kv.2]) ps kvs →
    ∃ (ws : List (Value × Value)) (rs : List (Key × Value)), KV kvs rs ∧ ws.length = ps.length ∧ rs.length = ps.length ∧
      ∀ (j : Nat) (k v : Value), ws[j]? = some (k, v) → ∃ b y, ps[j]? = some b ∧ PairAt s.heap b k v ∧ rs[j]? = some (y, v) ∧ keyIs y k = true
  | _, _, .nil => ⟨[], [], .nil, rfl, rfl, fun j k v e => by simp at e⟩
  | _, _, .cons (a := p) (b := kv) h t => by
    obtain ⟨ws, rs, r, hl, hr, hp⟩ := tup_pairs I t
    obtain ⟨its, rv, ht, _⟩ := I.tuple h
    obtain ⟨u, y, ei, ru, ry⟩ := vals2 rv
    subst ei
    refine ⟨(u, y) :: ws, (kv.1, y) :: rs, .cons ⟨rfl, ry⟩ r, by simp [hl], by simp [hr], fun j k v e => ?_⟩
    cases j with
    | zero =>
      have e' : (u, y) = (k, v) := Option.some.inj e
      cases e'
      exact ⟨p, kv.1, rfl, .inl ht, rfl, kV_is (P := X.prog) (w := X.w) ru⟩
    | succ j =>
      obtain ⟨b, z, e1, e2, e3, e4⟩ := hp j k v (by simpa using e)
      exact ⟨b, z, by simpa using e1, e2, by simpa using e3, e4⟩
theorem call_dictT {X : Cx} (hcalm : X.calm = true) : CallR X (.type "dict") (fun xs H Q => ∃ (a : Addr) (ps : List Addr) (kvs : List (Key × V)), xs = [.ref a] ∧ (FT H a (ps.map V.ref) ∨ TupK X.K a (ps.map V.ref)) ∧ ps.length ≤ sizeLine ∧ Paired (fun p kv => SqT X.K H p [kV kv.1, kv.2]) ps kvs ∧
    ∀ p, H p = none → Q (.ref p) (upd H p (.dK (mergeK [] kvs)))) := by
  intro pins s σ H xs us Q I r q
  obtain ⟨a, ps, kvs, rfl, hq, hz, hp, q⟩ := q
  obtain ⟨u, rfl, rx⟩ := vals1 r
  cases rx
  obtain ⟨ws, rs, rel, hl, hr, hpr⟩ := tup_pairs I hp
  have seq : PlainSeq "tuple" s.heap a (ps.map Value.ref).toArray := by
    rcases hq with ⟨o, e, hd⟩ | ⟨o, its, n, e, hc, hdat, _, hv, hd⟩
    · obtain ⟨e1, _, its, rv, o', e2, hc, n, hdat⟩ := (show ObjOk X.prog X.w H s.heap a (.frz o (.tup (ps.map V.ref))) from I.hok a _ e)
      rw [e1] at e2; cases e2
      have ei := refs_at rv
      subst ei
      exact ⟨o, n, e1, hc, hd, hdat⟩
    · have ei := refs_at hv
      exact ⟨o, n, I.kIn a o e, hc, hd, by rw [hdat, ← ei]⟩
  have items : PairItems s.heap (ps.map Value.ref).toArray (fun j => (ps[j]?).getD 0) ws := by
    refine ⟨by simp [hl], fun j k v e => ?_⟩
    obtain ⟨b, y, e1, e2, _⟩ := hpr j k v e
    refine ⟨by simp [e1], by show PairAt s.heap ((ps[j]?).getD 0) k v; rw [e1]; exact e2⟩
  refine PySem.call_dict_pairs (knd := mixKind X.prog X.w) (kvs := rs) (PairArg.tuple a (ps.map Value.ref).toArray (fun j => (ps[j]?).getD 0) ws) (I.ok.hd hcalm) ⟨seq, items⟩ ⟨by rw [hr, hl], fun j k v e => ?_⟩ (by rw [hl]; exact hz) fun h' tk hd' k => ?_
  · obtain ⟨b, y, _, _, e3, e4⟩ := hpr j k v e
    exact ⟨y, e3, e4⟩
  · have hm : (s.heap.objs.size == sysModules) = false := beq_eq_false_iff_ne.mpr (Nat.ne_of_gt I.big)
    have hlen : (mergeK [] kvs).length ≤ sizeLine := by
      refine Nat.le_trans (length_mergeK kvs []) ?_
      rw [List.length_nil, Nat.zero_add, rel.length, hr]
      exact hz
    exact ⟨.ref s.heap.objs.size, upd H s.heap.objs.size (.dK (mergeK [] kvs)), I.laid (t' := tk) (fun b o e => k b o (by simp) e) (Nat.le_refl _) (show ObjOk X.prog X.w _ _ _ (.dK (mergeK [] kvs)) from ⟨hlen, hm, merged [] rs, KV.merge rel .nil, hd'⟩), rfl, q _ (I.hok.fresh (Nat.le_refl _))⟩
theorem pairD_rel {K : KF} {Z : Addr → Prop} {m : List Addr} {H : Hp} : ∀ {vs : List V} {ds : List D} {kvs : List (Str × D)}, DRs K (Zm Z m) H vs ds → pairD ds = some kvs →
    ∃ (ps : List Addr) (ws : List (Key × V)), vs = ps.map V.ref ∧ Paired (fun p kv => SqT K H p [kV kv.1, kv.2]) ps ws ∧ KVR K Z m H ws kvs ∧ ps.length = kvs.length
  | _, _, _, .nil, e => by cases e; exact ⟨[], [], rfl, .nil, .nil, rfl⟩
  | _, _, _, .cons (v := v) (d := d) (ds := r0) h t, e => by
    unfold pairD at e
    split at e
    · cases ‹_ :: _ = []›
    · rename_i k x r heq
      obtain ⟨e1, e2⟩ := List.cons.inj heq
      rw [← e2] at e
      subst e1
      cases q : pairD r0 with
      | none => rw [q] at e; cases e
      | some kvs' =>
        rw [q] at e; cases e
        obtain ⟨ps, ws, rfl, hp, hk, hl⟩ := pairD_rel t q
        have key : ∃ p, v = .ref p ∧ ∃ y, SqT K H p [.str k, y] ∧ PyData.strOk k = true ∧ DR K (Zm Z m) H y x := by
          cases h with
          | tup hz hr hs =>
            cases hs with
            | cons h1 h2 =>
              cases h2 with
              | cons h3 h4 =>
                cases h4
                cases h1 with
                | str _ ho => exact ⟨_, rfl, _, hr.sq, ho, h3⟩
          | tupK hk hs =>
            cases hs with
            | cons h1 h2 =>
              cases h2 with
              | cons h3 h4 =>
                cases h4
                cases h1 with
                | str _ ho => exact ⟨_, rfl, _, hk.sq, ho, h3⟩
        obtain ⟨p, rfl, y, h1, h2, h3⟩ := key
        exact ⟨p :: ps, (.inr k, y) :: ws, rfl, .cons h1 hp, .cons ⟨rfl, h2, h3⟩ hk, by simp [hl]⟩
    · cases e
theorem cn_dict {X : Cx} {W : WX} {pos p1 : Pos} {e : Expr} {f : Fe} (c : Ctx X W) (m1 : X.mg "dict" = none) (h : CE X W e f) (hg : Gl X "dict" := by rfl) (he : starEach [e] X.env = (false, eval e X.env) :: starEach [] X.env := by rfl) (hpl : (backTo pos (starEach [] X.env)).any (·.1) = false := by rfl) :
    CN X W (.Call (.Name "dict" p1) [e] [] pos) (dictN f) :=
  PE.imp (pe_callTy (call_dictT c.calm) hg m1 boot_dict (pa_cons h pa_nil he) (by decide) (by decide) he hpl) fun σ H Q ⟨Z, m, env, hp, a, h1⟩ => ⟨Z, m, env, hp, a, (Wp.bind h1).imp fun x hp1 m1 H1 g1 r1 ⟨_, _, h2⟩ v rv => by
    cases x with
    | r n => exact h2.elim
    | d x =>
      cases x with
      | tuple ds =>
        simp only at h2
        split at h2
        · rename_i kvs e1
          split at h2
          · rename_i hl
            have key : ∃ p vs, v = .ref p ∧ (FT H1 p vs ∨ TupK X.K p vs) ∧ DRs X.K (Zm Z m1) H1 vs ds := by
              cases rv with
              | tup hz hr hs => exact ⟨_, _, rfl, .inl hr, hs⟩
              | tupK hk hs => exact ⟨_, _, rfl, .inr hk, hs⟩
            obtain ⟨p, vs, rfl, hq, hs⟩ := key
            obtain ⟨ps, ws, rfl, hp', hk, hlen⟩ := pairD_rel hs e1
            refine ⟨p, ps, ws, rfl, hq, by rw [hlen, sizeLine_eq]; omega, hp', fun q hn => ?_⟩
            exact (h2 m1 H1 .refl r1).2 q _ hn ⟨_, rfl, merge_rel hk .nil⟩
          · exact h2.elim
        · exact h2.elim
      | _ => exact h2.elim⟩
end Pin
end
-- PinExc
section
set_option linter.all false
set_option maxRecDepth 100000
set_option maxHeartbeats 2000000
/-! Pin: raise, try. -/
namespace Pin
open PySem PySem.Spec PyProof.Rows L2

/-- what is known of an exception class over Exception without an __init__ of its own -/
structure XcC (K : KF) (mg : Str → Option Value) (x : Str) : Prop where
  m : mg x = some (.ref (He.ga K x))
  q : PySem.W.excIn K (He.ga K x) exBase "Exception.__new__" = true
  kp : PySem.W.keepIn K (.ref (He.ga K x)) = true
  sb : PySem.W.subIn K (.ref (He.ga K x)) (.type "BaseException") = some true
  ty : PySem.W.typeIn K (.ref (He.ga K x)) = some (.type "type")
def raiseS (C : Str) : Fs := fun env hp => .exc ⟨C, []⟩ env hp
section
variable {X : Cx} {W : WX} {pos p p1 : Pos} {C : Str}
theorem pmk_own0 (x : XcC X.K X.mg C) (hg : Gl X C) (hdb : (C == ("__debug__" : Str)) = false := by decide) : PMk X (.Call (.Name C p) [] [] p1) (fun _ H Q => Q (.ref (He.ga X.K C)) none H) := by
  intro pins s σ H Q I h
  refine wpAny_Call_Name_kw (ld_glob I hg x.m ?_ hdb)
  refine PySem.W.callWith_K0 I.kIn x.kp ?_
  show wpAny _ _ (call (.ref (He.ga X.K C)) []) _ _ _
  obtain ⟨bm, N, nm, qn, bs, hdct, sn, sub, ab, col, dd, k0, k1, k2, k3, k5, mN, hC, hN, hni, T⟩ := exc_obj I.kIn x.q
  refine wpAny_call_exc_subT F.excBase_Exception T hC hN hni (fun h' e hm => ?_) (Nat.zero_le _)
  exact mk_of I hm (raises_own x.sb x.ty) h (I.hok.gone hm.new)
theorem cs_raise0 (c : Ctx X W) (x : XcC X.K X.mg C) (hg : Gl X C := by rfl) (hdb : (C == ("__debug__" : Str)) = false := by decide) : CS X W (.Raise (some (.Call (.Name C p) [] [] p1)) none pos) (raiseS C) :=
  PS.imp (ps_raise c.calm c.tk (pmk_own0 x hg hdb)) fun De σ H ⟨Z, m, env, hp, a, h⟩ => h m H σ _ _ .refl a.rel a.sl ⟨rfl, .inl rfl⟩
end

/-! ### try: .. except A as n: .. except B: .. -/
def wTwo (K : KF) (c1 c2 : Value) (i : Nat) (ts1 ts2 : Addr → Value → Option Addr → TS) (Wout : WX) (De : Ends) : WX := fun cls d σ H =>
  ∃ b, PySem.W.exmOne K cls c1 = some b ∧
    (b = true → ∀ a, H a = none → ts1 a cls d { nx := fun σ' H' => De.nx (σ'.set i none) H', rt := De.rt, bk := fun σ' H' => De.bk (σ'.set i none) H', ct := fun σ' H' => De.ct (σ'.set i none) H' } (σ.set i (some (.ref a))) H) ∧
    (b = false → ∃ b2, PySem.W.exmOne K cls c2 = some b2 ∧ (b2 = true → ∀ a, H a = none → ts2 a cls d De σ H) ∧ (b2 = false → Wout cls d σ H))
section
variable {X : Cx} {x1 x2 n : Str} {c1 c2 : Value} {i : Nat} {body su1 su2 : List Stmt} {s1 s2 : Stmt} {np1 np2 pos pos1 pos2 : Pos} {tb : WX → TS} {ts1 ts2 : Addr → Value → Option Addr → TS} {Wout : WX}
theorem ps_try_two (hs : X.stack = X.env :: X.outer) (hf : X.env.frame = some X.env.locals) (hN : X.N.Nodup) (hi : X.N[i]? = some n) (hln : X.env.kindOf n = some .local) (hc1 : Names X x1 c1) (hc2 : Names X x2 c2) (tk : Takes X Wout)
    (hb : ∀ (W : WX) (pn : List (Addr × Obj)) (xe : Value → Shared → Prop), Takes (X.tr pn xe) W → PassesOwn (model X.prog X.w) X.A X.env xe → PSs (X.tr pn xe) body (tb W))
    (hu1 : ∀ (a : Addr) (oe : Obj) (cls : Value) (d : Option Addr) (pn : List (Addr × Obj)), Zc cls d oe → (∃ vs, oe.data = .fields vs) → PSs (X.suite a ((a, oe) :: pn)) (s1 :: su1) (ts1 a cls d))
    (hu2 : ∀ (a : Addr) (oe : Obj) (cls : Value) (d : Option Addr) (pn : List (Addr × Obj)), Zc cls d oe → (∃ vs, oe.data = .fields vs) → PSs (X.suite a ((a, oe) :: pn)) (s2 :: su2) (ts2 a cls d)) :
    PS X (.Try body [.ExceptHandler (some (.Name x1 np1)) (some n) (s1 :: su1) pos1, .ExceptHandler (some (.Name x2 np2)) none (s2 :: su2) pos2] [] [] pos) (fun De σ H => tb (wTwo X.K c1 c2 i ts1 ts2 Wout De) De σ H) := by
  refine ⟨fun pins s σ H De I h => ?_⟩
  have ok := I.ok
  have hfr : X.A.frames = some (X.env :: X.outer) := by rw [ok.frames, hs]
  have hloc : Loc X.env.scope n := .inl hln
  refine wpAny_Try_except ?_
  refine wpAny_mono ((hb (wTwo X.K c1 c2 i ts1 ts2 Wout De) (X.pn ++ pins) (fun e s₁ => wpAny (model X.prog X.w) X.A (noteFrame e X.env) (fun _ s₂ => wpAny (model X.prog X.w) X.A (setFlight e none) (fun _ s₃ =>
    wpAny (model X.prog X.w) X.A (handleBy e X.env [.ExceptHandler (some (.Name x1 np1)) (some n) (s1 :: su1) pos1, .ExceptHandler (some (.Name x2 np2)) none (s2 :: su2) pos2]) (SP X pins De) X.xe s₃) X.xe s₂) X.xe s₁)
    (fun u s' xx => ?_) PassesOwn.looking).run [] s σ H De (I.toTry _) h) (fun f s1 hsp => ?_) (fun e s1 he => he)
  · obtain ⟨a, B, sI, pins', σ', H', cls, d, rfl, J', nb, up, sky, na, os, ag, b, hb1, hyes, hno⟩ := xx
    have J : Inv X pins σ' H' sI := J'.ofTry ok
    have sky' : Sky B (X.env :: X.outer) a (Zc cls d) X.env.locals s'.heap := by rw [← hs]; exact sky
    show wpAny (model X.prog X.w) X.A (noteFrame (.ref a) X.env) _ _ _
    refine Sky.land Zc.steady hfr hf sky' fun h3 fl3 up3 => ?_
    have J3 : Inv X pins σ' H' { s' with heap := h3 } := J.landed nb fl3.1 (up.trans up3) os ag
    obtain ⟨oe3, vs3, he3, hz3, hd3⟩ := fl3.there
    have notFr : ∀ {h : Heap} {o : Obj} {vs : Array Value}, h.FunFrames B (X.env :: X.outer) → h.get? a = some o → o.data = .fields vs → a ∉ frs (X.env :: X.outer) := fun {h o vs} ff e dd hm => by
      obtain ⟨_, o', e', hnf⟩ := ff.mem hm
      rw [e] at e'; cases e'
      exact hnf _ dd
    have nfr := notFr fl3.2.2.1 he3 hd3
    have nL : a ≠ X.env.locals := fun z => nfr (List.mem_filterMap.mpr ⟨X.env, List.mem_cons_self, by rw [hf, z]⟩)
    have nF : a ∉ X.fs := fun hm => by
      obtain ⟨e, he, q⟩ := List.mem_filterMap.mp hm
      exact nfr (List.mem_filterMap.mpr ⟨e, List.mem_cons_of_mem _ he, q⟩)
    have S3 := J3.suite he3 hd3 na nL nF
    have LT : PySem.W.Looks (model X.prog X.w) h3 (typeOf (.ref a)) cls := fun A Q E s k q => wpAny_typeOf_ref (k _ _ he3) (by rw [hz3.1]; exact q)
    have test : ∀ {x : Str} {c : Value} {np : Pos} {Q : Value → Shared → Prop} {E : Value → Shared → Prop}, Names X x c → Q c { s' with heap := h3 } → wpAny (model X.prog X.w) (X.A.mark (some (.ref a))) (eval (.Name x np) X.env) Q E { s' with heap := h3 } := fun {x c np Q E} hc q => by
      obtain ⟨hg, hdbg, hm | ⟨hm, hv, hnn⟩⟩ := hc
      · exact ld_glob (X := X.suite a ((a, oe3) :: (X.pn ++ pins))) S3 hg hm q hdbg
      · exact ld_blt (X := X.suite a ((a, oe3) :: (X.pn ++ pins))) S3 hg hm hv q hnn hdbg
    refine wpAny_handleBy_cons (codeAny_handlers_test ?_) (by intro q; cases q)
    have LM := PySem.W.exm_one (M := model X.prog X.w) (J3.kIn) LT hb1
    refine test hc1 (LM.here ?_)
    cases b with
    | true =>
      refine codeAny_handlers_suite_as ?_
      refine HandSPX.lands_againZ fl3 fun h4 fl4 up4 => ?_
      have J4 : Inv X pins σ' H' { s' with heap := h4 } := J.landed nb fl4.1 ((up.trans up3).trans up4) os ag
      obtain ⟨oe4, vs4, he4, hz4, hd4⟩ := fl4.there
      have S4 := J4.suite he4 hd4 na nL nF
      refine store_ok (X := X.suite a ((a, oe4) :: (X.pn ++ pins))) (v := .ref a) S4 hN hi hloc rfl (fun s5 S5 => ?_) (.inr hln)
      refine wpAny_mono ((hu1 a oe4 cls d (X.pn ++ pins) hz4 ⟨_, hd4⟩).run [] s5 _ H' _ S5 (hyes rfl a na)) (fun f s6 hsp => ?_) (fun _ _ z => False.elim z)
      have end_ : ∀ {σ6 : L2.St} {H6 : Hp} {Q : Shared → Prop}, Inv (X.suite a ((a, oe4) :: (X.pn ++ pins))) [] σ6 H6 s6 → (∀ s7, Inv X pins (σ6.set i none) H6 s7 → Q s7) →
          wpAny (model X.prog X.w) X.A (do bindName X.env n .none; unbindBehindTheSuite X.env n pos1) (fun _ s7 => Q s7) X.xe s6 := fun {σ6 H6 Q} S6 hq => gone_ok (S6.unsuite ok) hN hi hln hq
      cases f with
      | next =>
        obtain ⟨σ6, H6, S6, q6⟩ := hsp
        exact end_ S6 fun s7 J7 => ⟨_, _, J7, q6⟩
      | brk =>
        obtain ⟨σ6, H6, S6, q6⟩ := hsp
        exact end_ S6 fun s7 J7 => ⟨_, _, J7, q6⟩
      | cont =>
        obtain ⟨σ6, H6, S6, q6⟩ := hsp
        exact end_ S6 fun s7 J7 => ⟨_, _, J7, q6⟩
      | ret u =>
        obtain ⟨v6, σ6, H6, S6, r6, q6⟩ := hsp
        exact end_ S6 fun s7 J7 => ⟨_, _, _, J7, r6, q6⟩
    | false =>
      obtain ⟨b2, hb2, hyes2, hno2⟩ := hno rfl
      show wpAny _ X.A (handleBy (.ref a) X.env [.ExceptHandler (some (.Name x2 np2)) none (s2 :: su2) pos2]) _ _ _
      refine wpAny_handleBy_cons (codeAny_handlers_test ?_) (by intro q; cases q)
      have LM2 := PySem.W.exm_one (M := model X.prog X.w) (J3.kIn) LT hb2
      refine test hc2 (LM2.here ?_)
      cases b2 with
      | true =>
        refine codeAny_handlers_suite ?_
        refine HandSPX.lands_againZ fl3 fun h4 fl4 up4 => ?_
        have J4 : Inv X pins σ' H' { s' with heap := h4 } := J.landed nb fl4.1 ((up.trans up3).trans up4) os ag
        obtain ⟨oe4, vs4, he4, hz4, hd4⟩ := fl4.there
        have S4 := J4.suite he4 hd4 na nL nF
        refine wpAny_mono ((hu2 a oe4 cls d (X.pn ++ pins) hz4 ⟨_, hd4⟩).run [] _ _ H' _ S4 (hyes2 rfl a na)) (fun f s6 hsp => ?_) (fun _ _ z => False.elim z)
        cases f with
        | next =>
          obtain ⟨σ6, H6, S6, q6⟩ := hsp
          exact ⟨_, _, S6.unsuite ok, q6⟩
        | brk =>
          obtain ⟨σ6, H6, S6, q6⟩ := hsp
          exact ⟨_, _, S6.unsuite ok, q6⟩
        | cont =>
          obtain ⟨σ6, H6, S6, q6⟩ := hsp
          exact ⟨_, _, S6.unsuite ok, q6⟩
        | ret u =>
          obtain ⟨v6, σ6, H6, S6, r6, q6⟩ := hsp
          exact ⟨_, _, _, S6.unsuite ok, r6, q6⟩
      | false =>
        show wpAny _ X.A (handleBy (.ref a) X.env []) _ _ _
        refine wpAny_handleBy_nil ?_
        obtain ⟨k1, k2, k3, oe, vs, T, oT, ts', he, hz, hd, h1, hr⟩ := id fl3
        unfold PySem.passOn
        refine wpAny_bind (wpAny_field he hd h1 ?_)
        rw [if_neg (show ¬ ((Value.ref T == Value.none) = true) from by simp)]
        have fin : wpAny (model X.prog X.w) X.A (setFlight (.ref a) X.env.frame) (fun _ s4 => wpAny (model X.prog X.w) X.A (throw (.ref a) : Sem Flow) (SP X pins De) X.xe s4) X.xe { s' with heap := h3 } := by
          rw [hf]
          refine HandSPX.setFlight_upZ fl3 fun h4 hh4 up4 => wpAny_throw (tk _ _ ?_)
          exact ⟨a, B, sI, pins, σ', H', cls, d, rfl, J, nb, (up.trans up3).trans up4, .inr (.inr (by rw [hs]; exact hh4)), na, os, ag, hno2 rfl⟩
        first
          | exact wpAny_bind (wpAny_pure (wpAny_bind fin))
          | exact wpAny_bind fin
  · cases f with
    | next =>
      obtain ⟨σ', H', J', q⟩ := hsp
      exact wpAny_execs_nil ⟨σ', H', J'.ofTry ok, q⟩
    | brk =>
      obtain ⟨σ', H', J', q⟩ := hsp
      exact ⟨σ', H', J'.ofTry ok, q⟩
    | cont =>
      obtain ⟨σ', H', J', q⟩ := hsp
      exact ⟨σ', H', J'.ofTry ok, q⟩
    | ret u =>
      obtain ⟨v, σ', H', J', r, q⟩ := hsp
      exact ⟨v, σ', H', J'.ofTry ok, r, q⟩
end

/-- try: .. except C1 as n: return (t, n.f) except C2: .. -/
def tryX (body : Fs) (C1 : Str) (i : Nat) (t f C2 : Str) (g2 : Fs) : Fs := fun env hp => match body env hp with
  | .exc x e h => if x.cls = C1 then (match x.fs.lookup f with
      | some d => if i < e.length then .rt (.d (.tuple [.str t, d])) h else .bad
      | none => .bad)
    else if x.cls = C2 then g2 e h else .bad
  | o => o
section
variable {X : Cx} {W : WX} {C1 C2 n t f : Str} {i : Nat} {body su2 : List Stmt} {s2 : Stmt} {j k : Nat} {np1 np2 pos pos1 pos2 p1 p2 p3 p4 p5 : Pos} {g g2 : Fs}
theorem fields_look {K : KF} {Z : Addr → Prop} {m : List Addr} {H : Hp} : ∀ {ws : List (Str × V)} {fs : List (Str × D)} {d : D}, Paired (fun p q => p.1 = q.1 ∧ DR K (Zm Z m) H p.2 q.2) ws fs → fs.lookup f = some d → ∃ v, ws.lookup f = some v ∧ DR K (Zm Z m) H v d
  | _, _, _, .nil, e => by cases e
  | _, _, _, .cons (a := (a1, a2)) (b := (b1, b2)) ⟨h1, h2⟩ t, e => by
    simp only at h1 h2
    subst h1
    unfold List.lookup at e ⊢
    cases q : (f == a1) with
    | true => rw [q] at e; cases e; exact ⟨_, by simp, h2⟩
    | false => rw [q] at e; simp only at e ⊢; exact fields_look t e
theorem cs_tryX (i : Nat) (c : Ctx X W) (x1 : XfC X.K (He.ga X.K C1)) (hno : PySem.W.findIn X.K (.ref (He.ga X.K C1)) f = some none) (n1 : X.mg C1 = some (.ref (He.ga X.K C1))) (n2 : X.mg C2 = some (.ref (He.ga X.K C2)))
    (e11 : PySem.W.exmOne X.K (.ref (He.ga X.K C1)) (.ref (He.ga X.K C1)) = some true) (e21 : PySem.W.exmOne X.K (.ref (He.ga X.K C2)) (.ref (He.ga X.K C1)) = some false) (e22 : PySem.W.exmOne X.K (.ref (He.ga X.K C2)) (.ref (He.ga X.K C2)) = some true)
    (hb : ∀ (W : WX) (pn : List (Addr × Obj)) (xe : Value → Shared → Prop), Ctx (X.tr pn xe) W → CSs (X.tr pn xe) W body g)
    (h2 : ∀ (a : Addr) (oe : Obj) (pn : List (Addr × Obj)), CSs (X.suite a ((a, oe) :: pn)) W (s2 :: su2) g2)
    (ht : PyData.strOk t = true := by decide +kernel) (hst : X.stack = X.env :: X.outer := by rfl) (hf : X.env.frame = some X.env.locals := by rfl) (hi : X.N[i]? = some n := by rfl) (hln : X.env.kindOf n = some .local := by rfl)
    (hg1 : Gl X C1 := by rfl) (hg2 : Gl X C2 := by rfl) (hd1 : (C1 == ("__debug__" : Str)) = false := by decide) (hd2 : (C2 == ("__debug__" : Str)) = false := by decide) (hdn : (n == ("__debug__" : Str)) = false := by decide) (hcn : (n == ("__classdict__" : Str)) = false := by decide)
    (hv : Vis X.env.scope n := by first | exact Or.inl rfl | exact Or.inr (Or.inl rfl) | exact Or.inr (Or.inr rfl)) (hat : attributeBase (.Name n p3) f X.env (eval (.Name n p3) X.env) = eval (.Name n p3) X.env := by rfl)
    (ha1 : starEach [.Constant (.str t) j p2, .Attribute (.Name n p3) f p4] X.env = (false, eval (.Constant (.str t) j p2) X.env) :: starEach [.Attribute (.Name n p3) f p4] X.env := by rfl)
    (ha2 : starEach [.Attribute (.Name n p3) f p4] X.env = (false, eval (.Attribute (.Name n p3) f p4) X.env) :: starEach [] X.env := by rfl) :
    CS X W (.Try body [.ExceptHandler (some (.Name C1 np1)) (some n) [.Return (some (.Tuple [.Constant (.str t) j p2, .Attribute (.Name n p3) f p4] k p5)) p1] pos1, .ExceptHandler (some (.Name C2 np2)) none (s2 :: su2) pos2] [] [] pos) (tryX g C1 i t f C2 g2) := by
  refine PS.imp (ps_try_two (i := i) (tb := fun W => tS X.K W g) (ts1 := fun a cls d => tRet (tTupZ (tCons (tC (.str t)) (tCons (tXf a cls d (He.ga X.K C1) f (tVar i)) tNil)))) (ts2 := fun _ _ _ => tS X.K W g2) hst hf c.nd hi hln ⟨hg1, hd1, .inl n1⟩ ⟨hg2, hd2, .inl n2⟩ c.tk
    (fun W pn xe tk po => hb W pn xe ⟨c.calm, c.hu, tk, po, c.nd⟩) (fun a oe cls d pn hz hfl => ?_) (fun a oe cls d pn hz hfl => h2 a oe pn)) fun De σ H ⟨Z, m, env, hp, at1, h⟩ => ?_
  · exact pss_one (ps_ret (pe_tupZ (pa_cons pe_str (pa_cons (pe_xf x1 hno hz hfl (pe_var (i := i) hi hv hdn hcn) hat) pa_nil ha2) ha1)))
  · refine ⟨Z, m, env, hp, at1, ?_⟩
    unfold tryX at h
    cases q : g env hp with
    | nx e h1 => rw [q] at h; exact h
    | rt a h1 => rw [q] at h; exact h
    | bk e h1 => rw [q] at h; exact h
    | ct e h1 => rw [q] at h; exact h
    | bad => rw [q] at h; exact h
    | exc x e h1 =>
      rw [q] at h
      intro m' H' σ' cls d g' r' s' ex
      obtain ⟨rfl, ex2⟩ := ex
      simp only at h
      split at h
      · rename_i hc
        split at h
        · rename_i dv hl
          split at h
          rotate_left
          · exact h.elim
          rename_i hle
          rw [hc]
          refine ⟨true, e11, fun _ a na => ?_, fun z => by cases z⟩
          rcases ex2 with ex2 | ⟨dd, ws, rfl, hdd, hws⟩
          · rw [ex2] at hl; cases hl
          · obtain ⟨v, e1, rv⟩ := fields_look hws hl
            have hil : i < σ'.length := by rw [Paired.length s']; exact hle
            refine ⟨.ref a, by simp [hil], rfl, rfl, dd, ws, v, rfl, hdd, e1, ?_⟩
            refine ⟨few_size (n := 2) (by decide), fun p o ho hp' => ?_⟩
            exact h m' _ _ (g'.trans (Go.fresh r' hp')) (Rel.fresh r' hp') (new_tup r' ho hp' (.cons (.str t ht) (.cons rv .nil)))
        · exact h.elim
      · rename_i hc
        split at h
        · rename_i hc2
          rw [hc2]
          exact ⟨false, e21, (fun z => by cases z), fun _ => ⟨true, e22, fun _ a na => ⟨Z, m', e, h1, ⟨r', s'⟩, WpS.go g' h⟩, (fun z => by cases z)⟩⟩
        · exact h.elim
end
end Pin
end
-- PinExc2
section
set_option linter.all false
set_option maxRecDepth 100000
set_option maxHeartbeats 2000000
/-! Pin: raise C(e), C an own exception class over Exception whose __init__ says super().__init__(label) and keeps label. -/
namespace Pin
open PySem PySem.Spec PyProof.Rows L2

structure IniPos where
  (p1 p2 q1 q2 q3 q4 q5 q6 q7 q8 q9 q10 : Pos)
abbrev iniA (p1 p2 : Pos) : Arguments := { posonlyargs := [], args := [{ arg := "self", annotation := none, pos := p1 }, { arg := "label", annotation := none, pos := p2 }], vararg := none, kwonlyargs := [], kw_defaults := [], kwarg := none, defaults := [] }
abbrev iniB (q1 q2 q3 q4 q5 q6 q7 q8 q9 q10 : Pos) : List Stmt :=
  [.Expr (.Call (.Attribute (.Call (.Name "super" q1) [] [] q2) "__init__" q3) [.Name "label" q4] [] q5) q6, .Assign [.Attribute (.Name "self" q7) "label" q8] (.Name "label" q9) q10]
abbrev iniS : Scope := { kind := .function, names := [("self", .local), ("label", .local), ("__class__", .free), ("super", .globalImplicit)], isGenerator := false, isCoroutine := false, more := [] }
/-- what the head tells of such a class, at C, and of its __init__, at f -/
structure XvT (P : Program) (K : KF) (ip : IniPos) (q : Str) (C f : Addr) : Prop where
  cls : ∃ nm qn N bs sn sub ab col dd k0 k1 k2 k3 k5, K.lookup C = some (excClassObj nm qn C N bs PySem.ESX.exTail true sn sub ab col dd k0 k1 k2 k3 k5 "Exception.__new__")
  sa : PySem.W.findIn K (.ref C) "__setattr__" = some (some (.builtin "object.__setattr__"))
  nol : PySem.W.findIn K (.ref C) "label" = some none
  iC : PySem.W.findIn K (.ref C) "__init__" = some (some (.ref f))
  tI : PySem.W.typeIn K (.ref f) = some (.type "function")
  opq : PySem.W.nsIn K cStatics "thirdparty.any" = some none
  fn : ∃ (oc : Value) (od : Option Addr) (kV doc pm : Value) (an : Option Addr) (cda : Addr) (ct : Value) (cc : Addr) (osl : Array (Option Value)) (c1 : Value) (c2 : Option Addr) (vs : Array Value) (c3 : Array (Option Value)) (file : Str) (tf : Tok) (d1 : Value) (d2 : Option Addr) (d3 : Array (Option Value)),
    K.lookup f = some ⟨oc, od, .func (PySem.W.ksFn "__init__" q (iniA ip.p1 ip.p2) (iniB ip.q1 ip.q2 ip.q3 ip.q4 ip.q5 ip.q6 ip.q7 ip.q8 ip.q9 ip.q10) iniS .none kV doc pm an (.ref cda) ct cc), osl⟩ ∧ PySem.W.codeIn K (.ref cda) q = true ∧
    K.lookup cda = some ⟨c1, c2, .fields vs, c3⟩ ∧ vs[2]? = some (.str file tf) ∧ ((P.main.file : Str) == file) = true ∧ K.lookup cc = some ⟨d1, d2, .cell (some (.ref C)), d3⟩
  ev : ∀ (L : Addr) (cd : Value) (cc : Addr), ∃ pl, eval (.Call (.Attribute (.Call (.Name "super" ip.q1) [] [] ip.q2) "__init__" ip.q3) [.Name "label" ip.q4] [] ip.q5) (PySem.W.ksEnv q iniS L f cd cc) = (do
      let ov ← attributeBase (.Call (.Name "super" ip.q1) [] [] ip.q2) "__init__" (PySem.W.ksEnv q iniS L f cd cc) (eval (.Call (.Name "super" ip.q1) [] [] ip.q2) (PySem.W.ksEnv q iniS L f cd cc))
      standAt ip.q3.atName
      let (z, first) ← holding [ov] (getMethod ov "__init__" pl)
      callWith ip.q5 z first (backTo ip.q5 (starEach [.Name "label" ip.q4] (PySem.W.ksEnv q iniS L f cd cc))) [])
  top : (P.main.scope.names.lookup ("super" : Str)).isSome = false
theorem boot_super' : bootBuiltins "super" = some (.type "super") := by kernel_rfl
section
open PySem.W PySem.Calls
variable {P : Program} {w : World} {A : Around} {K : KF} {mg : Str → Option Value} {base : Heap} {R : Result → Shared → Prop} {hp : Heap} {g : Array GenState} {d : Drawn} {t : Nat} {os : OsState} {ip : IniPos} {q : Str} {C f e t0 : Addr} {u : Value}
theorem init_run (M : Mod K mg base) (bk : ∀ b o, base.get? b = some o → hp.get? b = some o) (T : XvT P K ip q C f) (hs : mg "super" = none) (hroom : A.depth < recursionLimit) (he : hp.get? e = some (PySem.HandSPX.excO C t0)) (hKe : K.lookup e = none)
    (h : ∀ h' tk dx, (∀ b o, b ≠ e → hp.get? b = some o → h'.get? b = some o) → hp.objs.size ≤ dx → dx ≠ e → (∃ t1 : Addr, h'.get? e = some ({ cls := .ref C, dict := some dx, data := .fields #[.ref t1, .none, .none, .none, .bool false, .none] } : Obj)) →
      h'.Ns1 dx (fun y => if y = ("label" : Str) then some u else none) → R (.ok (.ret .none)) ⟨h', g, d, tk, os⟩) :
    codeAny (model P w) A (.call (.ref f) ⟨[.ref e, u], []⟩) R ⟨hp, g, d, t, os⟩ := by
  obtain ⟨nm, qn, N, bs, sn, sub, ab, col, dd, k0, k1, k2, k3, k5, hC⟩ := T.cls
  obtain ⟨oc, od, kV, doc, pm, an, cda, ct, cc, osl, c1, c2, vs, c3, file, tf, d1, d2, d3, lf, lcd, lc, hv2, hfile, lcc⟩ := T.fn
  have KX : K.In hp := M.kin.keeps bk
  have heC : e ≠ C := fun z => by rw [z, hC] at hKe; cases hKe
  have hcl : clsIn K C = some { name := nm, bases := bs, mro := .ref C :: PySem.ESX.exTail, ns := N, qualname := qn, hasDict := true, slotNames := sn, subclasses := sub, abstract := ab, collection := col, hasDel := false } := by unfold clsIn; rw [hC] <;> rfl
  refine ks_codeAny_call_defAt (fd := ksFn "__init__" q (iniA ip.p1 ip.p2) (iniB ip.q1 ip.q2 ip.q3 ip.q4 ip.q5 ip.q6 ip.q7 ip.q8 ip.q9 ip.q10) iniS .none kV doc pm an (.ref cda) ct cc) (binds := [("self", .ref e), ("label", u)]) hroom (KX _ _ lf) rfl (M.nolimit.keeps bk) (codeRec_of KX lcd) rfl (.of_eq rfl) (show ∀ x ∈ iniS.names, x.2 ≠ .cell by decide +kernel)
    (fun x hx => by rcases List.mem_cons.mp hx with rfl | hx; rfl; rcases List.mem_cons.mp hx with rfl | hx; rfl; cases hx) (fun h₀ hns k0' => ?_)
  have heC' : h₀.get? e = some (PySem.HandSPX.excO C t0) := k0' _ _ he
  have KX0 : K.In h₀ := fun a o z => k0' _ _ (KX a o z)
  have bk0 : ∀ b o, base.get? b = some o → h₀.get? b = some o := fun b o z => k0' _ _ (bk b o z)
  obtain ⟨mb, hb1, hb2⟩ := M.blt
  have eL : e < hp.objs.size := Heap.lt_size he
  obtain ⟨pl, hev⟩ := T.ev hp.objs.size (.ref cda) cc
  refine ks_wpAt_execs_cons (ks_wpAt_Expr_any (ks_wpAt_MethodCall (pl := pl) ?_ hev))
  refine ks_wpAt_super_base (env := callEnv (ksFn "__init__" q (iniA ip.p1 ip.p2) (iniB ip.q1 ip.q2 ip.q3 ip.q4 ip.q5 ip.q6 ip.q7 ip.q8 ip.q9 ip.q10) iniS .none kV doc pm an (.ref cda) ct cc) hp.objs.size f) rfl rfl (by decide +kernel) rfl (KX0 _ _ lf) rfl rfl rfl (KX0 _ _ lc) rfl hv2 hfile T.top ?_
  refine ks_loadName_global rfl rfl (loadGlobal_builtin (M.glob.keeps bk0) hs (hb1.keeps bk0) ((hb2 _ (by decide +kernel)).trans boot_super') ⟨rfl, ?_⟩)
  refine wpAny_loadName_free rfl rfl rfl ⟨_, KX0 _ _ lcc, rfl⟩ ?_
  refine wpAny_loadName_local rfl rfl hns rfl ?_
  refine ks_wpAny_isType_cls (KX0 _ _ hC) rfl ⟨rfl, ?_⟩
  have subC : mroIn K C (.ref C) = some true := PySem.ESX.mro_has hcl rfl (by simp)
  have inst : ∀ {h1 : Heap} {t1 : Addr}, h1.get? e = some (PySem.HandSPX.excO C t1) → InstAt h1 e (PySem.HandSPX.excO C t1) C none := fun z => ⟨z, rfl, rfl, trivial⟩
  refine ks_wpAny_call_super (KX0 _ _ hC) rfl heC' rfl (fun c z => by cases z) (looks_mroIn KX0 subC) (fun h1 e1 k1 => ?_)
  have KX1 : K.In h1 := fun a o z => k1 _ _ (KX0 a o z)
  have he1 := k1 _ _ heC'
  refine PySem.ESX.getMethod_super e1 (looks_opaque KX1 T.opq) (l₀ := .ref C :: PySem.ESX.exTail) ((looks_clsIn KX1 hcl).andThen .now) (PySem.ESX.drop_own C _) KX1 (PySem.ESX.along_init K) heC (by decide +kernel)
    ((inst he1).type.andThen (looks_mroIn KX1 (PySem.ESX.mro_has hcl rfl (PySem.ESX.tail_has "Exception" (by decide +kernel))))) ?_
  have hns1 := hns.keeps k1
  refine PySem.ESX.callWith_bound (x := e) (Calls.spliced_cons (PySem.ESX.ldL (v := u) (hns1.keeps fun b o z => Heap.get?_push_of_some _ z) rfl (Calls.spliced_nil ⟨Heap.get?_push_size _ rfl, ?_⟩)))
  have he2 : (h1.push (PySem.ESX.bw e)).get? e = some (PySem.HandSPX.excO C t0) := Heap.get?_push_of_some _ he1
  refine PySem.ESX.call_bw (Heap.get?_push_of_some _ (KX1 _ _ hC)) he2 (Heap.get?_push_size _ rfl) (by show 1 ≤ sizeLine; rw [sizeLine_eq]; omega) (fun h2 t1 k2 he3 => ?_)
  have hne : ∀ b o, h₀.get? b = some o → b ≠ e → h2.get? b = some o := fun b o z n => k2 b o n (Heap.get?_push_of_some _ (k1 b o z))
  have KX2 : K.In h2 := fun a o z => by
    by_cases ha : a = e
    · subst ha
      rw [hKe] at z; cases z
    · exact hne a o (KX0 a o z) ha
  have hns2 : h2.Ns hp.objs.size (fun x => List.lookup x [(("self" : Str), Value.ref e), (("label" : Str), u)].reverse) := hns.at fun o z => hne _ o z (Nat.ne_of_gt eL)
  refine ks_wpAt_execs_cons (wpAt_of_wpAny (plainObj_wpAny_Assign_Attribute (PySem.ESX.ldL (v := u) hns2 rfl (PySem.ESX.ldL (v := .ref e) hns2 rfl ?_))))
  refine set_plain KX2 (inst he3) T.sa (PySem.ESX.osa_new KX2 he3 hcl rfl rfl T.nol fun h3 tk3 dx k3 l3 n3 e3 ns3 => ?_)
  refine wpAt_of_wpAny (wpAny_execs_nil ?_)
  refine h h3 tk3 dx (fun b o n z => k3 b o n (hne b o (k0' b o z) n)) ?_ n3 ⟨t1, e3⟩ ns3
  obtain ⟨oL, _, _, hoL, _⟩ := hns2
  exact Nat.le_trans (Nat.le_of_lt (Heap.lt_size hoL)) l3
end
/-- such a class by its name -/
structure XvC (P : Program) (K : KF) (mg : Str → Option Value) (ip : IniPos) (q x : Str) : Prop where
  m : mg x = some (.ref (He.ga K x))
  kp : PySem.W.keepIn K (.ref (He.ga K x)) = true
  sb : PySem.W.subIn K (.ref (He.ga K x)) (.type "BaseException") = some true
  ty : PySem.W.typeIn K (.ref (He.ga K x)) = some (.type "type")
  T : XvT P K ip q (He.ga K x) (He.ma K (He.ga K x) "__init__")
  sup : mg "super" = none
def raiseV (C f : Str) (fe : Fe) : Fs := fun env hp => (fe env hp).toS env fun a h => match a with
  | .d d => .exc ⟨C, [(f, d)]⟩ env h
  | _ => .bad
section
variable {X : Cx} {W : WX} {pos p p1 : Pos} {C q : Str} {e : Expr} {fe : Fe} {te : TE} {k : Nat} {ip : IniPos}
theorem pmk_ini (x : XvC X.prog X.K X.mg ip q C) (hr : Room (k + 1) X.A) (ha : PE X e te) (hg : Gl X C) (hdb : (C == ("__debug__" : Str)) = false) (he : starEach [e] X.env = (false, eval e X.env) :: starEach [] X.env) (hpl : (backTo p1 (starEach [] X.env)).any (·.1) = false) :
    PMk X (.Call (.Name C p) [e] [] p1) (fun σ H Q => tCons te tNil σ H fun vs H1 => ∃ v, vs = [v] ∧ ∀ dx, H1 dx = none → Q (.ref (He.ga X.K C)) (some dx) (upd H1 dx (.xd [("label", v)]))) := by
  intro pins s σ H Q I h
  obtain ⟨nm, qn, N, bs, sn, sub, ab, col, dd, k0, k1, k2, k3, k5, hC⟩ := x.T.cls
  refine wpAny_Call_Name_kw (ld_glob I hg x.m ?_ hdb)
  refine PySem.W.callWith_K (h₀ := X.base) I.ok.mod.kin x.kp (thn ((pa_cons ha pa_nil he).run p1 pins s σ H (fun vs H1 => ∃ v, vs = [v] ∧ ∀ dx, H1 dx = none → Q (.ref (He.ga X.K C)) (some dx) (upd H1 dx (.xd [("label", v)]))) I h) fun us s1 ⟨vs, H1, I1, r1, v, ev, q1⟩ => ⟨I1.kIn, ?_⟩) he hpl
  subst ev
  obtain ⟨u, rfl, ru⟩ := vals1 r1
  show wpAny _ _ (call (.ref (He.ga X.K C)) [u]) _ _ _
  obtain ⟨hp, g, dr, tk, os⟩ := s1
  have kk : ∀ b o, hp.get? b = some o → ((hp.push (PySem.W.kdv_tup [u])).push (PySem.HandSPX.excO (He.ga X.K C) hp.objs.size)).get? b = some o := fun b o e => Heap.get?_push_of_some _ (Heap.get?_push_of_some _ e)
  have hget : ((hp.push (PySem.W.kdv_tup [u])).push (PySem.HandSPX.excO (He.ga X.K C) hp.objs.size)).get? (hp.objs.size + 1) = some (PySem.HandSPX.excO (He.ga X.K C) hp.objs.size) := by heap_get
  have hKe : X.K.lookup (hp.objs.size + 1) = none := by
    cases z : X.K.lookup (hp.objs.size + 1) with
    | none => rfl
    | some o => exact absurd (Heap.lt_size (I1.kIn _ _ z)) (by show ¬ (hp.objs.size + 1 < hp.objs.size); omega)
  have hn : H1 (hp.objs.size + 1) = none := I1.hok.fresh (Nat.le_succ _)
  refine wpAny_call (PySem.HandSPX.call_own F.excBase_Exception (fun Y => rfl) (I1.kIn _ _ hC) (PySem.W.looks_findIn I1.kIn x.T.iC) (fun self => PySem.W.bind_fn I1.kIn self x.T.tI) (by show 1 ≤ sizeLine; rw [sizeLine_eq]; omega)
    (init_run I1.ok.mod (fun b o z => kk b o (I1.bk b o z)) x.T x.sup (hr.make _ _ []).depth hget hKe fun h3 tk3 dx kp3 l3 n3 he3 ns3 => ?_))
  obtain ⟨t1, he3⟩ := he3
  refine ⟨rfl, ?_⟩
  obtain ⟨G, g1', g2'⟩ := restrict h3 fun b => decide (b ≠ hp.objs.size + 1)
  have lt : hp.objs.size ≤ dx := Nat.le_trans (by rw [Heap.size_push, Heap.size_push]; omega) l3
  have nha : ∀ b o, hp.get? b = some o → b ≠ hp.objs.size + 1 := fun b o z => Nat.ne_of_lt (Nat.lt_succ_of_lt (Heap.lt_size z))
  have kG : ∀ b o, hp.get? b = some o → G.get? b = some o := fun b o z => (g1' b (decide_eq_true (nha b o z))).trans (kp3 b o (nha b o z) (kk b o z))
  have ge : G.get? (hp.objs.size + 1) = none := g2' _ (by simp)
  have J : Inv X pins σ (upd H1 dx (.xd [("label", v)])) ⟨G, g, dr, tk3, os⟩ := I1.laid (t' := tk3) kG lt ⟨_, ns3.at fun o y => (g1' dx (decide_eq_true n3)).trans y, relO_put (fs := []) ru fun g => True.intro⟩
  refine ⟨_, _, _, ⟨G, g, dr, tk3, os⟩, _, _, some dx, rfl, J, fun b o z => ?_, ge, he3, ⟨rfl, rfl⟩, rfl, rfl, ?_, rfl, I1.bare, raises_own x.sb x.ty, q1 dx (I1.hok.fresh lt)⟩
  · by_cases hb : b = hp.objs.size + 1
    · rw [hb, ge] at z; cases z
    · exact (g1' b (decide_eq_true hb)).symm.trans z
  · rw [upd_ne (Ne.symm n3)]; exact hn
theorem cs_raiseV (c : Ctx X W) (x : XvC X.prog X.K X.mg ip q C) (hr : Room (k + 1) X.A) (h : CE X W e fe) (hg : Gl X C := by rfl) (hdb : (C == ("__debug__" : Str)) = false := by decide) (he : starEach [e] X.env = (false, eval e X.env) :: starEach [] X.env := by rfl) (hpl : (backTo p1 (starEach [] X.env)).any (·.1) = false := by rfl) :
    CS X W (.Raise (some (.Call (.Name C p) [e] [] p1)) none pos) (raiseV C "label" fe) :=
  PS.imp (ps_raise c.calm c.tk (pmk_ini x hr h hg hdb he hpl)) fun De σ H ⟨Z, m, env, hp, a, h1⟩ => ⟨Z, m, env, hp, a, (WpS.toS a h1).imp fun y hp1 m1 H1 g1 r1 ⟨_, _, h2⟩ v rv => ⟨v, rfl, fun dx hn => by
    cases y with
    | r n => exact h2.elim
    | d d =>
      have gq := Go.fresh r1 (o := .xd [("label", v)]) hn
      exact h2 m1 _ σ _ _ gq (Rel.fresh r1 hn) (a.sl.go (g1.trans gq)) ⟨rfl, .inr ⟨dx, [("label", v)], rfl, upd_same, .cons ⟨rfl, DR.go gq rv⟩ .nil⟩⟩⟩⟩
end
end Pin
end
-- PinSort
section
set_option linter.all false
set_option maxRecDepth 100000
set_option maxHeartbeats 2000000
/-! Pin: sorted, min of data. -/
namespace Pin
open PySem PySem.Spec PyProof.Rows L2

/-- a built-in's relation, by its meaning -/
def rOf (K : KF) (c : List AV → AH → Out AV) : List V → Hp → VK → Prop := fun vs H Q => ∃ (W : WX) (Z : Addr → Prop) (m : List Addr) (σ : L2.St) (hp : AH) (as : List AV), Rel K Z m H hp ∧ AVRs K Z m H vs as ∧ Es K W Z m σ H (c as hp) Q
theorem rc_rOf {K : KF} {c : List AV → AH → Out AV} : RC K (rOf K c) c := fun W Z m σ H hp vs as Q r rv h => ⟨W, Z, m, σ, hp, as, r, rv, h⟩

/-! ### the sort is the library's -/
theorem swo_data : SrtO.Swo PySem.W.dataLt where
  asym := fun x y h => by
    cases q : PySem.W.dataLt y x with
    | false => rfl
    | true =>
      have t := (PyProof.Rows.listOrd PyProof.Rows.itemOrd).trans _ _ _ h q
      rw [(PyProof.Rows.listOrd PyProof.Rows.itemOrd).irrefl] at t
      cases t
  tr := fun x y z h1 h2 => by
    cases q : PySem.W.dataLt z x with
    | false => rfl
    | true =>
      rcases (PyProof.Rows.listOrd PyProof.Rows.itemOrd).negTrans _ (PySem.W.keyToks y) _ q with a | a
      · exact absurd a (by rw [show (PyProof.Rows.listOrd PyProof.Rows.itemOrd).blt (PySem.W.keyToks z) (PySem.W.keyToks y) = false from h2]; decide)
      · exact absurd a (by rw [show (PyProof.Rows.listOrd PyProof.Rows.itemOrd).blt (PySem.W.keyToks y) (PySem.W.keyToks x) = false from h1]; decide)
theorem ins_split (x : D) : ∀ l : List D, ∃ a b, l = a ++ b ∧ insD x l = a ++ x :: b ∧ (∀ y ∈ a, PySem.W.dataLt x y = false) ∧ (∀ y r, b = y :: r → PySem.W.dataLt x y = true)
  | [] => ⟨[], [], rfl, rfl, (fun y h => by cases h), (fun y r h => by cases h)⟩
  | y :: ys => by
    unfold insD
    cases q : PySem.W.dataLt x y with
    | true => exact ⟨[], y :: ys, rfl, rfl, (fun y h => by cases h), (fun z r h => by cases h; exact q)⟩
    | false =>
      obtain ⟨a, b, e1, e2, h1, h2⟩ := ins_split x ys
      refine ⟨y :: a, b, by rw [e1]; rfl, by simp [e2], fun z hz => ?_, h2⟩
      rcases List.mem_cons.mp hz with rfl | hz
      · exact q
      · exact h1 z hz
theorem ins_srtd {x : D} {l : List D} (h : SrtO.Srtd PySem.W.dataLt l) : SrtO.Srtd PySem.W.dataLt (insD x l) := by
  obtain ⟨a, b, rfl, e2, h1, h2⟩ := ins_split x l
  rw [e2]
  obtain ⟨ha, hb, hab⟩ := SrtO.srtd_app.mp h
  refine SrtO.srtd_app.mpr ⟨ha, List.pairwise_cons.mpr ⟨fun y hy => ?_, hb⟩, fun y hy z hz => ?_⟩
  · cases b with
    | nil => cases hy
    | cons c r =>
      have := swo_data.lt_all hb (h2 c r rfl) y hy
      exact swo_data.asym _ _ this
  · rcases List.mem_cons.mp hz with rfl | hz
    · exact h1 y hy
    · exact hab y hy z hz
theorem ins_stb {x : D} {l : List D} (h : SrtO.Srtd PySem.W.dataLt l) : SrtO.Stb PySem.W.dataLt (insD x l) (l ++ [x]) := by
  obtain ⟨a, b, rfl, e2, h1, h2⟩ := ins_split x l
  rw [e2]
  obtain ⟨ha, hb, hab⟩ := SrtO.srtd_app.mp h
  have : SrtO.Stb PySem.W.dataLt ([x] ++ b) (b ++ [x]) := by
    refine SrtO.Stb.swap swo_data fun y hy z hz => ?_
    rw [List.mem_singleton.mp hy]
    cases b with
    | nil => cases hz
    | cons c r => exact swo_data.lt_all hb (h2 c r rfl) z hz
  have t := SrtO.Stb.app (SrtO.Stb.refl a) this
  rw [List.append_assoc]
  exact t
theorem isort_gen : ∀ (xs acc : List D), SrtO.Srtd PySem.W.dataLt acc → SrtO.Srtd PySem.W.dataLt (xs.foldl (fun acc x => insD x acc) acc) ∧ SrtO.Stb PySem.W.dataLt (xs.foldl (fun acc x => insD x acc) acc) (acc ++ xs)
  | [], acc, h => ⟨h, by rw [List.append_nil]; exact SrtO.Stb.refl _⟩
  | x :: xs, acc, h => by
    obtain ⟨a, b⟩ := isort_gen xs (insD x acc) (ins_srtd h)
    refine ⟨a, b.trans ?_⟩
    have := SrtO.Stb.app (ins_stb (x := x) h) (SrtO.Stb.refl xs)
    rw [List.append_assoc] at this
    exact this
theorem isort_srtd (xs : List D) : SrtO.Srtd PySem.W.dataLt (isortD xs) := (isort_gen xs [] List.Pairwise.nil).1
theorem isort_stb (xs : List D) : SrtO.Stb PySem.W.dataLt (isortD xs) xs := (isort_gen xs [] List.Pairwise.nil).2
theorem le_of_lt (x y : D) : PySem.W.dataLe false (fun b : D => b) x y = !PySem.W.dataLt y x := rfl
theorem ms_srtd (xs : List D) : SrtO.Srtd PySem.W.dataLt (xs.mergeSort (PySem.W.dataLe false fun b => b)) := by
  have := List.pairwise_mergeSort (le := PySem.W.dataLe false fun b : D => b) (fun a b c h1 h2 => ?_) (fun a b => ?_) xs
  · exact this.imp fun {a b} h => by simpa [le_of_lt] using h
  · rw [le_of_lt] at *
    simp only [Bool.not_eq_true'] at *
    exact swo_data.tr _ _ _ h1 h2
  · rw [le_of_lt, le_of_lt]
    cases q : PySem.W.dataLt b a with
    | false => rfl
    | true => rw [swo_data.asym _ _ q]; rfl
theorem ms_stb (xs : List D) : SrtO.Stb PySem.W.dataLt (xs.mergeSort (PySem.W.dataLe false fun b => b)) xs := by
  have pm : (xs.mergeSort (PySem.W.dataLe false fun b : D => b)).Perm xs := List.mergeSort_perm xs _
  refine ⟨pm, fun x => ?_⟩
  have tr : ∀ a b c : D, PySem.W.dataLe false (fun b : D => b) a b = true → PySem.W.dataLe false (fun b : D => b) b c = true → PySem.W.dataLe false (fun b : D => b) a c = true := fun a b c h1 h2 => by
    rw [le_of_lt] at *
    simp only [Bool.not_eq_true'] at *
    exact swo_data.tr _ _ _ h1 h2
  have to : ∀ a b : D, (PySem.W.dataLe false (fun b : D => b) a b || PySem.W.dataLe false (fun b : D => b) b a) = true := fun a b => by
    rw [le_of_lt, le_of_lt]
    cases q : PySem.W.dataLt b a with
    | false => rfl
    | true => rw [swo_data.asym _ _ q]; rfl
  have sub : (xs.filter (SrtO.eqv PySem.W.dataLt x)).Sublist (xs.mergeSort (PySem.W.dataLe false fun b : D => b)) := by
    refine List.sublist_mergeSort (le := PySem.W.dataLe false fun b : D => b) tr to ?_ List.filter_sublist
    refine List.Pairwise.imp_of_mem (R := fun _ _ => True) (fun {a b} ha hb _ => ?_) (List.pairwise_of_forall (fun _ _ => trivial))
    have h1 := SrtO.eqv_iff.mp (List.mem_filter.mp ha).2
    have h2 := SrtO.eqv_iff.mp (List.mem_filter.mp hb).2
    show (!PySem.W.dataLt b a) = true
    rw [swo_data.tr a x b h1.1 h2.2]; rfl
  have sub2 := sub.filter (SrtO.eqv PySem.W.dataLt x)
  rw [List.filter_filter] at sub2
  simp only [Bool.and_self] at sub2
  exact (sub2.eq_of_length (by rw [(pm.filter _).length_eq])).symm
theorem isort_ms (xs : List D) : xs.mergeSort (PySem.W.dataLe false fun b => b) = isortD xs :=
  SrtO.stb_uniq swo_data (ms_srtd xs) (isort_srtd xs) ((ms_stb xs).trans ⟨(isort_stb xs).perm.symm, fun x => ((isort_stb xs).cls x).symm⟩)

/-! ### sorted(xs) -/
theorem alikeB_all {xs : List D} (h : alikeB xs = true) : PySem.W.AllAlike xs := fun d hd d' hd' => List.all_eq_true.mp (List.all_eq_true.mp h d hd) d' hd'
theorem can_sort {xs : List D} (h : canSort xs = true) : xs.length ≤ 500 ∧ PySem.W.AllAlike xs ∧ PySem.W.Sortable xs ∧ PyData.depthAll xs ≤ 30 := by
  unfold canSort at h
  simp only [Bool.and_eq_true, decide_eq_true_eq] at h
  obtain ⟨h1, h2, h3, h4⟩ := h
  refine ⟨h1, alikeB_all h2, ?_, h4⟩
  rcases Bool.or_eq_true _ _ |>.mp h3 with q | q
  · refine .inl fun d hd => ?_
    have := List.all_eq_true.mp q d hd
    match d, this with
    | .tuple (x :: r), _ => exact ⟨x, r, rfl⟩
  · refine .inr fun d hd => ?_
    have := List.all_eq_true.mp q d hd
    refine ⟨fun e => ?_, fun ys e => ?_⟩
    · rw [e] at this; cases this
    · rw [e] at this; cases this
theorem depth_mem : ∀ {xs : List D} {d : D}, d ∈ xs → d.depth ≤ PyData.depthAll xs
  | x :: xs, d, h => by
    rw [PyData.depthAll]
    rcases List.mem_cons.mp h with rfl | h
    · exact Nat.le_max_left _ _
    · exact Nat.le_trans (depth_mem h) (Nat.le_max_right _ _)
theorem each_of {K : KF} {Z : Addr → Prop} {H : Hp} : ∀ {vs : List V} {us : List Value} {ds : List D}, Vals vs us → DRs K Z H vs ds → PySem.W.EachIs (fun u d => ∃ v, RelV v u ∧ DR K Z H v d) us ds
  | _, _, _, .nil, .nil => .nil
  | _, _, _, .cons r rs, .cons h hs => .cons ⟨_, r, h⟩ (each_of rs hs)
theorem of_each {K : KF} {Z : Addr → Prop} {H : Hp} : ∀ {us : List Value} {ds : List D}, PySem.W.EachIs (fun u d => ∃ v, RelV v u ∧ DR K Z H v d) us ds → ∃ vs, Vals vs us ∧ DRs K Z H vs ds
  | _, _, .nil => ⟨[], .nil, .nil⟩
  | _, _, .cons ⟨v, r, h⟩ t => let ⟨vs, rs, hs⟩ := of_each t; ⟨v :: vs, .cons r rs, .cons h hs⟩
theorem each_imp {α β : Type} {R S : α → β → Prop} (f : ∀ a b, R a b → S a b) : ∀ {as : List α} {bs : List β}, PySem.W.EachIs R as bs → PySem.W.EachIs S as bs
  | _, _, .nil => .nil
  | _, _, .cons r t => .cons (f _ _ r) (each_imp f t)
section
variable {X : Cx} {W : WX}
theorem sort_run {pins : List (Addr × Obj)} {s : Shared} {σ : L2.St} {H : Hp} {Z : Addr → Prop} {p : Addr} {vs : List V} {xs : List D} {Q : VK} {A : Around} (hu : X.A.units + 100 < cLine) (I : Inv X pins σ H s) (hq : SqL X.K H p vs) (hs : DRs X.K Z H vs xs) (hc : canSort xs = true)
    (h : ∀ (q : Addr) (ws : List V), H q = none → DRs X.K Z H ws (isortD xs) → Q (.ref q) (upd H q (.lst ws))) : wpAny (model X.prog X.w) X.A (call (.builtin "sorted") [.ref p]) (EP X pins σ Q) X.xe s := by
  obtain ⟨h1, h2, h3, h4⟩ := can_sort hc
  obtain ⟨its, rv, pl, hz⟩ := I.list hq
  have e := each_of rv hs
  have hsz : xs.length ≤ sizeLine := by rw [sizeLine_eq]; omega
  refine PySem.W.sorted_data (enc := fun d => d) (bs := xs) pl.isList e (each_imp (fun u d ⟨v, r, hd⟩ => Dp.reads I d v u (DR.dp hd) r) e) (by rw [List.map_id']; exact h2) (by rw [List.map_id']; exact h3) hsz (fun d hd => by have := depth_mem hd; omega) fun out hl eo => ?_
  rw [isort_ms] at eo
  obtain ⟨ws, rw', hw⟩ := of_each eo
  obtain ⟨ep, he'⟩ := PyProof.Rows.sortedAll_at s.heap its out.toArray
  have hlw : ws.length = xs.length := by rw [rw'.length, hl]
  exact ⟨.ref _, upd H (s.heap.objs.size + 1) (.lst ws), I.laid (t' := s.toks) (fun _ _ => PyProof.Rows.sortedAll_old) (Nat.le_succ _) ⟨by rw [hlw]; exact hsz, out, ep, rw', he'⟩, rfl, h _ ws (I.hok.fresh (Nat.le_succ _)) hw⟩
theorem cr_sortD (c : Ctx X W) : CallR X (.builtin "sorted") (rOf X.K sortC) := by
  intro pins s σ H xs us Q I r h
  obtain ⟨W', Z, m, σ', hp, as, rl, rv, h⟩ := h
  unfold sortC at h
  split at h
  · rename_i a
    obtain ⟨v, rfl, ra⟩ := AVRs.one rv
    split at h
    · rename_i ds e
      unfold sortO at h
      split at h
      · rename_i ys e2
        split at e2
        · rename_i hc
          cases e2
          obtain ⟨p, vs, rfl, hq, hs⟩ := lsOf_rel rl ra e
          obtain ⟨u, rfl, rx⟩ := vals1 r
          cases rx
          exact sort_run (A := X.A) c.hu I hq hs hc fun q ws hn hw => Es.fresh h rl hn (new_lst rl hn hw)
        · cases e2
      · exact h.elim
    · exact h.elim
  · exact h.elim

/-! ### min(xs) -/
theorem minD_mem (x : D) : ∀ xs : List D, PySem.W.minD x xs ∈ x :: xs := by
  intro xs
  unfold PySem.W.minD
  have key : ∀ (l : List D) (a : D) (S : List D), a ∈ S → (∀ y ∈ l, y ∈ S) → l.foldl (fun a y => if PySem.W.dataLt y a then y else a) a ∈ S := by
    intro l
    induction l with
    | nil => intro a S h _; exact h
    | cons y l ih =>
      intro a S h hs
      refine ih _ S ?_ fun z hz => hs z (List.mem_cons_of_mem _ hz)
      show (if PySem.W.dataLt y a then y else a) ∈ S
      split
      · exact hs y List.mem_cons_self
      · exact h
  exact key xs x _ List.mem_cons_self fun y hy => List.mem_cons_of_mem _ hy
theorem cr_minD (c : Ctx X W) : CallR X (.builtin "min") (rOf X.K minC) := by
  intro pins s σ H xs us Q I r h
  obtain ⟨W', Z, m, σ', hp, as, rl, rv, h⟩ := h
  unfold minC at h
  split at h
  · rename_i a
    obtain ⟨v, rfl, ra⟩ := AVRs.one rv
    split at h
    · rename_i x ds e
      split at h
      · rename_i hc
        obtain ⟨h1, hc⟩ := Bool.and_eq_true_iff.mp hc
        have h1 := of_decide_eq_true h1
        obtain ⟨hc, h4⟩ := Bool.and_eq_true_iff.mp hc
        have h4 := of_decide_eq_true h4
        obtain ⟨h2, h3⟩ := Bool.and_eq_true_iff.mp hc
        obtain ⟨p, vs, rfl, hq, hs⟩ := lsOf_rel rl ra e
        obtain ⟨u, rfl, rx⟩ := vals1 r
        cases rx
        obtain ⟨its, rvs, pl, hz⟩ := I.list hq
        obtain ⟨rs, hrs⟩ := Dp.readsAll I (x :: ds) vs its (DRs.dp hs) rvs
        have al := alikeB_all h2
        have nn : ∀ d ∈ x :: ds, d ≠ .none := fun d hd => by
          rcases Bool.or_eq_true _ _ |>.mp h3 with q | q
          · have := List.all_eq_true.mp q d hd
            intro e; rw [e] at this; cases this
          · have := List.all_eq_true.mp q d hd
            intro e; rw [e] at this; cases this
        have hu := c.hu
        refine PySem.W.min_list_data (x := x) (xs := ds) (I.ok.hd c.calm) pl.isList hrs ⟨al, nn⟩ (by omega) fun i v h' tk bs hv hr hk => ?_
        have J : Inv X pins σ H { s with heap := h', toks := tk } := I.kept (t' := tk) hk
        have hi : i < its.length := by
          have := (Array.getElem?_eq_some_iff.mp hv).1
          simpa using this
        have hv' : its[i]? = some v := by simpa using hv
        have hvl : i < vs.length := by rw [rvs.length]; exact hi
        obtain ⟨u', hu', ru⟩ := rvs.get (List.getElem?_eq_getElem hvl)
        rw [hv'] at hu'; cases hu'
        obtain ⟨d, hd, rd⟩ := hs.getV (List.getElem?_eq_getElem hvl)
        obtain ⟨as', hr'⟩ := Dp.reads J d _ v (DR.dp rd) ru
        have hdm : d ∈ x :: ds := List.mem_of_getElem? hd
        have ed := PySem.W.alike_unique d _ _ _ _ (al d hdm _ (minD_mem x ds)) hr' hr
        rw [← ed] at h
        exact ⟨_, H, J, ru, Es.ok h rl rd⟩
      · exact h.elim
    · exact h.elim
  · exact h.elim
end
end Pin
end
-- PinItems
section
set_option linter.all false
set_option maxRecDepth 100000
set_option maxHeartbeats 4000000
/-! Pin: sorted(d.items()). -/
namespace Pin
open PySem PySem.Spec PyProof.Rows L2

mutual
theorem reads_there {h : Heap} : ∀ {v : Value} {d : D} {as : List Addr}, Reads h v d as → ∀ b ∈ as, ∃ o, h.get? b = some o
  | _, _, _, .none, b, hb => by cases hb
  | _, _, _, .bool _, b, hb => by cases hb
  | _, _, _, .int _ _, b, hb => by cases hb
  | _, _, _, .str _ _, b, hb => by cases hb
  | _, _, _, .list h1 _ _ h4, b, hb => by
    rcases List.mem_cons.mp hb with rfl | hb
    · exact ⟨_, h1⟩
    · exact readsAll_there h4 b hb
  | _, _, _, .tuple _ _ _ h4, b, hb => readsAll_there h4 b hb
  | _, _, _, .dict h1 _ _ h4 h5, b, hb => by
    rw [List.cons_append] at hb
    rcases List.mem_cons.mp hb with rfl | hb
    · exact ⟨_, h1⟩
    · rcases List.mem_append.mp hb with hb | hb
      · exact readsAll_there h4 b hb
      · exact readsAll_there h5 b hb
theorem readsAll_there {h : Heap} : ∀ {vs : List Value} {ds : List D} {as : List Addr}, ReadsAll h vs ds as → ∀ b ∈ as, ∃ o, h.get? b = some o
  | _, _, _, .nil, b, hb => by cases hb
  | _, _, _, .cons h1 h2, b, hb => by
    rcases List.mem_append.mp hb with hb | hb
    · exact reads_there h1 b hb
    · exact readsAll_there h2 b hb
end
section
variable {K : KF} {Z : Addr → Prop} {m : List Addr} {H H' : Hp} {hp : AH}
/-- more objects come beside -/
theorem Go.ext (k : ∀ b o, H b = some o → H' b = some o) : Go m H m H' := ⟨List.prefix_refl m, fun a h n => absurd h n, fun a o e _ => k a o e⟩
theorem Rel.ext (r : Rel K Z m H hp) (k : ∀ b o, H b = some o → H' b = some o) : Rel K Z m H' hp :=
  ⟨r.len, r.nd, r.off, fun a z => let ⟨o, e⟩ := r.trk a z; ⟨o, k _ _ e⟩, fun i a o e1 e2 => by
    have x := r.obs i a o e1 e2
    obtain ⟨u, e⟩ := OR.some x
    exact OR.go (Go.ext k) (by rw [e, k _ _ e]) x⟩
end
/-- new tuples already laid are tracked -/
theorem takeZ {X : Cx} {pins : List (Addr × Obj)} {σ : L2.St} {H0 : Hp} {s : Shared} {h' : Heap} {tk : Nat} {P : Addr → Obj → List V → Prop} (I0 : Inv X pins σ H0 s) : ∀ (L : List Addr) (H1 : Hp), Inv X pins σ H1 { s with heap := h', toks := tk } → L.Nodup →
    (∀ a ∈ L, s.heap.objs.size ≤ a ∧ H1 a = none ∧ ∃ o vs, P a o vs ∧ ∀ H2, ObjOk X.prog X.w H2 h' a (.frz o (.tup vs))) →
    ∃ H2, Inv X pins σ H2 { s with heap := h', toks := tk } ∧ (∀ b o, H1 b = some o → H2 b = some o) ∧ (∀ a ∈ L, ∃ o vs, P a o vs ∧ H2 a = some (.frz o (.tup vs))) ∧ ∀ b, b ∉ L → H2 b = H1 b
  | [], H1, I1, _, _ => ⟨H1, I1, fun _ _ e => e, (fun _ h => by cases h), fun _ _ => rfl⟩
  | a :: L, H1, I1, hn, h => by
    obtain ⟨hb, hnone, o, vs, hP, ok⟩ := h a List.mem_cons_self
    have I2 : Inv X pins σ (upd H1 a (.frz o (.tup vs))) { s with heap := h', toks := tk } := I1.take (h' := h') (t' := tk) (fun b ob _ e => e) (I0.fpOk hb hnone) (ok _)
    rw [List.nodup_cons] at hn
    obtain ⟨H2, I3, g, q, off⟩ := takeZ I0 L (upd H1 a (.frz o (.tup vs))) I2 hn.2 fun c hc => by
      obtain ⟨c1, c2, c3⟩ := h c (List.mem_cons_of_mem _ hc)
      exact ⟨c1, by rw [upd_ne (fun z => hn.1 (by rw [← z]; exact hc))]; exact c2, c3⟩
    refine ⟨H2, I3, fun b u e => g b u (by rw [upd_ne (ne_of_none e hnone)]; exact e), fun c hc => ?_, fun b hb => ?_⟩
    · rcases List.mem_cons.mp hc with rfl | hc
      · exact ⟨o, vs, hP, g _ _ upd_same⟩
      · exact q c hc
    · rw [off b (fun z => hb (List.mem_cons_of_mem _ z)), upd_ne (fun z => hb (by rw [z]; exact List.mem_cons_self))]
theorem pairs_at {K : Type} [DecidableEq K] {prog : Program} {w : World} {knd : PySem.KeyKind prog w K} : ∀ {es : List DictEntry} {kvs : List (K × Value)}, Pairs knd es kvs → ∀ {j : Nat} {p : K × Value}, kvs[j]? = some p → ∃ e, es[j]? = some e ∧ knd.is p.1 e.key = true ∧ e.val = p.2
  | _, _, .nil, j, p, h => by simp at h
  | _, _, .cons h1 h2 t, 0, p, h => by
    have e := Option.some.inj h
    subst e
    exact ⟨_, rfl, h1, h2⟩
  | _, _, .cons h1 h2 t, j + 1, p, h => by
    obtain ⟨e, e1, e2⟩ := pairs_at t (j := j) (by simpa using h)
    exact ⟨e, by simpa using e1, e2⟩
/-- a dict's pairs, as data -/
def ItR (K : KF) (Z : Addr → Prop) (H : Hp) : List (Key × V) → List D → Prop := Paired fun p d => ∃ k x, p.1 = .inr k ∧ PyData.strOk k = true ∧ d = .tuple [.str k, x] ∧ DR K Z H p.2 x
theorem itR_of {K : KF} {Z : Addr → Prop} {m : List Addr} {H : Hp} : ∀ {ws : List (Key × V)} {kvs : List (Str × D)}, KVR K Z m H ws kvs → ItR K (Zm Z m) H ws (kvs.map fun kv => .tuple [.str kv.1, kv.2])
  | _, _, .nil => .nil
  | _, _, .cons (b := q) ⟨h1, h2, h3⟩ t => .cons ⟨q.1, q.2, h1, h2, rfl, h3⟩ (itR_of t)
theorem paired_at {α β : Type} {F : α → β → Prop} : ∀ {l₁ : List α} {l₂ : List β}, Paired F l₁ l₂ → ∀ {i : Nat} {a : α}, l₁[i]? = some a → ∃ b, l₂[i]? = some b ∧ F a b := fun h _ _ e => Paired.getL h e
theorem each_build {α β : Type} {R : α → β → Prop} : ∀ {as : List α} {bs : List β}, as.length = bs.length → (∀ (j : Nat) (a : α) (b : β), as[j]? = some a → bs[j]? = some b → R a b) → PySem.W.EachIs R as bs
  | [], [], _, _ => .nil
  | a :: as, b :: bs, hl, h => .cons (h 0 a b rfl rfl) (each_build (by simpa using hl) fun j x y e1 e2 => h (j + 1) x y (by simpa using e1) (by simpa using e2))
  | [], _ :: _, hl, _ => by simp at hl
  | _ :: _, [], hl, _ => by simp at hl
/-- sorted(d.items()): what is behind it -/
def rIts (K : KF) : V → Hp → VK → Prop := fun x H Q => ∃ (d : Addr) (ws : List (Key × V)) (ds : List D) (Z : Addr → Prop), x = .ref d ∧ H d = some (.dK ws) ∧ canSort ds = true ∧ ItR K Z H ws ds ∧ (∀ b, H b = none → ¬ Z b) ∧
  ∀ (H' : Hp) (q : Addr) (us : List V), (∀ b o, H b = some o → H' b = some o) → H q = none → H' q = some (.lst us) → DRs K Z H' us (isortD ds) → Q (.ref q) H'
def tIts (K : KF) (te : TE) : TE := fun σ H Q => te σ H fun x H1 => rIts K x H1 Q
section
variable {X : Cx} {W : WX} {e : Expr} {te : TE} {p apos cpos pos : Pos}
theorem pe_sortIts (hc : X.calm = true) (hu : X.A.units + 100 < cLine) (he : PE X e te) (hg : Gl X "sorted") (hm : X.mg "sorted" = none) (hbase : attributeBase e "items" X.env (eval e X.env) = eval e X.env) (hline : (apos.endLine == cpos.line) = true)
    (hs : starEach [.Call (.Attribute e "items" apos) [] [] cpos] X.env = (false, eval (.Call (.Attribute e "items" apos) [] [] cpos) X.env) :: starEach [] X.env) :
    PE X (.Call (.Name "sorted" p) [.Call (.Attribute e "items" apos) [] [] cpos] [] pos) (tIts X.K te) := by
  refine ⟨fun pins s σ H Q I hq => ?_⟩
  refine wpAny_Call_Name_kw (ld_blt I hg hm boot_sorted ?_)
  refine PyProof.Rows.callWith_builtin1 ?_ hs rfl
  rw [hs]
  show wpAny _ _ (spliced ((false, eval (.Call (.Attribute e "items" apos) [] [] cpos) X.env) :: backTo pos (starEach [] X.env))) _ _ s
  refine Calls.spliced_cons ?_
  refine wpAny_Call_method (T := "dict") (id := "dict.items") hbase rfl hline PySem.F.plainAttrs_dict PySem.F.slot_dict_items PySem.F.type_dict_items (thn (he.run pins s σ H _ I hq) fun u s1 ⟨x, H1, I1, rx, d, ws, ds, Z, ex, hd, hcs, hit, nz, q⟩ => ?_)
  subst ex
  obtain rfl : u = Value.ref d := rx
  obtain ⟨hz, hs0, vs, kv, hdo⟩ := dk_of I1.hok hd
  have I2 : Inv X pins σ H1 { s1 with heap := s1.heap.push { cls := .type "dict_items", data := .fields #[.ref d] } } := I1.kept (t' := s1.toks) fun b ob q => Heap.get?_push_of_some _ q
  refine ⟨hdo.typeIs, hdo.mapOf.noDict, ?_⟩
  show wpAny _ _ (callWith cpos (.builtin "dict.items") [.ref d] [] []) _ X.xe s1
  refine method_meetsIn PySem.F.slot_dict_items PySem.F.entry_dict_items rfl (PySem.evalArgs_none ⟨rfl, hdo.typeIs, PySem.F.args_dict_items_1 _, _, meets_dict_items (mixKind X.prog X.w) d hs0, ⟨vs, hdo⟩, ?_⟩)
  refine Calls.spliced_nil ?_
  obtain ⟨o, es, ep, ho, hxd, hdat, hks, hps, hnd⟩ := hdo
  have hes : es.toList.length = vs.length := hps.length
  have hlw : ws.length = vs.length := Paired.length kv
  have hld : ws.length = ds.length := Paired.length hit
  obtain ⟨h500, hal, hsb, hdep⟩ := can_sort hcs
  have hesz : es.size = ds.length := by rw [← hld, hlw, ← hes]; simp
  show wpAny _ _ (call (.builtin "sorted") [.ref s1.heap.objs.size]) _ _ _
  refine DT.sortedI (s := { s1 with heap := s1.heap.push { cls := .type "dict_items", data := .fields #[.ref d] } }) (es := es) (ep := ep) (I1.ok.hd hc) ⟨_, Heap.get?_push_size _ rfl, rfl, rfl⟩ ⟨o, Heap.get?_push_of_some _ ho, hxd, hdat⟩ (by rw [hesz, sizeLine_eq]; omega) fun h' tk as hk hlt hl hG => ?_
  have nd : as.Nodup := List.Pairwise.imp (fun {a b} (h : a < b) => Nat.ne_of_lt h) hG.rise
  have kO : ∀ b o, s1.heap.get? b = some o → h'.get? b = some o := fun b o e => hk b o (Heap.get?_push_of_some _ e)
  -- the j-th pair
  have pr : ∀ (j : Nat) (b : Addr) (dd : D), as[j]? = some b → ds[j]? = some dd → ∃ ku vu k x v, h'.get? b = some { cls := .type "tuple", data := .seq #[ku, vu] } ∧ dd = .tuple [.str k, x] ∧ PyData.strOk k = true ∧ RelV (.str k) ku ∧ RelV v vu ∧ DR X.K Z H1 v x := by
    intro j b dd ej ed
    obtain ⟨en, e1, e2⟩ := hG.pairs j b ej
    obtain ⟨pw, e3, k, x, f1, f2, f3, f4⟩ := Paired.get hit ed
    obtain ⟨qv, e4, g1, g2⟩ := Paired.getL kv e3
    obtain ⟨en', e5, g3, g4⟩ := pairs_at hps e4
    have : en = en' := by rw [← Array.getElem?_toList] at e1; rw [e1] at e5; exact Option.some.inj e5
    subst this
    refine ⟨en.key, en.val, k, x, pw.2, e2, f3, f2, ?_, by rw [g4]; exact g2, f4⟩
    have rk := relV_key (show keyIs qv.1 en.key = true from g3)
    rw [← g1, f1] at rk
    exact rk
  have hob : (h'.push { cls := .type "list", data := .seq (as.map Value.ref).toArray }).get? h'.objs.size = some (seqObj "list" (as.map Value.ref).toArray 0) := Heap.get?_push_size _ rfl
  have ka : ∀ b o, h'.get? b = some o → (h'.push { cls := .type "list", data := .seq (as.map Value.ref).toArray }).get? b = some o := fun b o e => Heap.get?_push_of_some _ e
  let R : Value → D → Prop := fun u dd => ∃ (b : Addr) (j : Nat), u = .ref b ∧ as[j]? = some b ∧ ds[j]? = some dd
  have hEach : PySem.W.EachIs R (as.map Value.ref) ds := each_build (by rw [List.length_map, hl, hesz]) fun j u dd eu ed => by
    rw [List.getElem?_map] at eu
    obtain ⟨b, eb, rfl⟩ := Option.map_eq_some_iff.mp eu
    exact ⟨b, j, rfl, eb, ed⟩
  have I3 : Inv X pins σ H1 { s1 with heap := h', toks := tk } := I1.kept (t' := tk) kO
  refine PySem.W.list_sort_data (s := { s1 with heap := h'.push { cls := .type "list", data := .seq (as.map Value.ref).toArray }, toks := tk }) (enc := fun d => d) (bs := ds) hob hEach (each_imp (fun u dd hr => ?_) hEach) (by rw [List.map_id']; exact hal) (by rw [List.map_id']; exact hsb) (by rw [sizeLine_eq]; omega)
    (fun dd hd => by have := depth_mem hd; show X.A.units + 1 + 1 + dd.depth < cLine; omega) fun out hlo eo => ?_
  · obtain ⟨b, j, rfl, eb, ed⟩ := hr
    obtain ⟨ku, vu, k, x, v, z1, rfl, z3, ⟨tku, rfl⟩, z5, z6⟩ := pr j b dd eb ed
    obtain ⟨rs, hrs⟩ := Dp.reads I3 x v vu (DR.dp z6) z5
    refine ⟨[] ++ (rs ++ []), .tuple (ka _ _ z1) rfl rfl (.cons (.str k tku) (.cons (Reads.keeps ka hrs) .nil)), fun hm => ?_⟩
    obtain ⟨oo, eo⟩ := reads_there hrs h'.objs.size (by simpa using hm)
    exact absurd (Heap.lt_size eo) (Nat.lt_irrefl _)
  · rw [isort_ms] at eo
    have kF : ∀ b o, h'.get? b = some o → (sortedHeap (h'.push { cls := .type "list", data := .seq (as.map Value.ref).toArray }) h'.objs.size (as.map Value.ref) out.toArray).get? b = some o := fun b o e =>
      (PyProof.Rows.sortedHeap_old (Nat.ne_of_lt (Heap.lt_size e)) (Heap.lt_size (ka b o e))).trans (ka b o e)
    obtain ⟨eF, heF⟩ := PyProof.Rows.sortedHeap_at (vs := as.map Value.ref) (out := out.toArray) hob
    have lo : ∀ b ∈ as, s1.heap.objs.size ≤ b := fun b hb => by
      have h0 : (s1.heap.push { cls := .type "dict_items", data := .fields #[.ref d] }).objs.size < b := hG.above b hb
      rw [Heap.size_push] at h0
      omega
    have lo2 : s1.heap.objs.size ≤ h'.objs.size := by
      have h0 : (s1.heap.push { cls := .type "dict_items", data := .fields #[.ref d] }).objs.size < h'.objs.size := hlt
      rw [Heap.size_push] at h0
      omega
    have I4 : Inv X pins σ H1 { s1 with heap := sortedHeap (h'.push { cls := .type "list", data := .seq (as.map Value.ref).toArray }) h'.objs.size (as.map Value.ref) out.toArray, toks := tk } := I1.kept (t' := tk) fun b o e => kF b o (kO b o e)
    obtain ⟨H2, I5, g5, q5, off5⟩ := takeZ (P := fun b o vs => o.dict = none ∧ ∃ (j : Nat) (k : Str) (x : D) (v : V), as[j]? = some b ∧ ds[j]? = some (.tuple [.str k, x]) ∧ vs = [.str k, v] ∧ PyData.strOk k = true ∧ DR X.K Z H1 v x) I1 as H1 I4 nd fun b hb => by
      obtain ⟨j, ej⟩ := List.mem_iff_getElem?.mp hb
      have hj : j < ds.length := by
        have h0 := (List.getElem?_eq_some_iff.mp ej).1
        omega
      obtain ⟨ku, vu, k, x, v, z1, z2, z3, z4, z5, z6⟩ := pr j b _ ej (List.getElem?_eq_getElem hj)
      exact ⟨lo b hb, I1.hok.fresh (lo b hb), _, [.str k, v], ⟨rfl, j, k, x, v, ej, by rw [← z2]; exact List.getElem?_eq_getElem hj, rfl, z3, z6⟩, fun H2 => ⟨kF _ _ z1, few_size (n := 2) (by decide), [ku, vu], .cons z4 (.cons z5 .nil), _, kF _ _ z1, rfl, _, rfl⟩⟩
    have qas : h'.objs.size ∉ as := fun hm => absurd (hG.there hm) (Nat.lt_irrefl _)
    have hq2 : H2 h'.objs.size = none := by rw [off5 _ qas]; exact I1.hok.fresh lo2
    -- the answer's items
    have fin : ∀ (us0 : List Value) (ds0 : List D), PySem.W.EachIs R us0 ds0 → ∃ us : List V, Vals us us0 ∧ DRs X.K Z H2 us ds0 := by
      intro us0 ds0 he
      induction he with
      | nil => exact ⟨[], .nil, .nil⟩
      | @cons u dd us0 ds0 hr _ ih =>
        obtain ⟨us, r1, r2⟩ := ih
        obtain ⟨b, j, rfl, eb, ed⟩ := hr
        obtain ⟨o5, vs5, ⟨ho5, j', k, x, v, eb', ed', rfl, z3, z6⟩, h5⟩ := q5 b (List.mem_of_getElem? eb)
        have : j = j' := (List.getElem?_inj (List.getElem?_eq_some_iff.mp eb).1 nd).mp (eb.trans eb'.symm)
        subst this
        rw [ed] at ed'
        cases ed'
        refine ⟨.ref b :: us, .cons rfl r1, .cons (.tup (nz b (I1.hok.fresh (lo b (List.mem_of_getElem? eb)))) ⟨o5, h5, ho5⟩ (.cons (.str k z3) (.cons (DR.stay (fun a o e _ => g5 a o e) (fun a z n => absurd z n) z6) .nil))) r2⟩
    obtain ⟨us, r1, r2⟩ := fin out _ eo
    have hlen : us.length ≤ sizeLine := by rw [r1.length, hlo, sizeLine_eq]; omega
    have I6 : Inv X pins σ (upd H2 h'.objs.size (.lst us)) { s1 with heap := sortedHeap (h'.push { cls := .type "list", data := .seq (as.map Value.ref).toArray }) h'.objs.size (as.map Value.ref) out.toArray, toks := tk } :=
      I5.take (t' := tk) (fun b ob _ e => e) (I1.fpOk lo2 hq2) ⟨hlen, out, eF, r1, heF⟩
    refine ⟨.ref h'.objs.size, _, I6, rfl, q _ _ us (fun b o e => ?_) (I1.hok.fresh lo2) upd_same (DRs.stay (fun a o e n => ?_) (fun a z n => absurd z n) r2)⟩
    · have e2 := g5 b o e
      rw [upd_ne (ne_of_none e2 hq2)]
      exact e2
    · rw [upd_ne (ne_of_none e hq2)]
      exact e
theorem ce_sortIt {f : Fe} (c : Ctx X W) (m1 : X.mg "sorted" = none) (h : CE X W e f) (hg : Gl X "sorted" := by rfl) (hbase : attributeBase e "items" X.env (eval e X.env) = eval e X.env := by rfl) (hline : (apos.endLine == cpos.line) = true := by rfl)
    (hs : starEach [.Call (.Attribute e "items" apos) [] [] cpos] X.env = (false, eval (.Call (.Attribute e "items" apos) [] [] cpos) X.env) :: starEach [] X.env := by rfl) :
    CE X W (.Call (.Name "sorted" p) [.Call (.Attribute e "items" apos) [] [] cpos] [] pos) (sortItF f) :=
  PE.imp (pe_sortIts c.calm c.hu h hg m1 hbase hline hs) fun σ H Q ⟨Z, m, env, hp, a, h1⟩ => ⟨Z, m, env, hp, a, (Wp.bind h1).imp fun x hp1 m1 H1 g1 r1 ⟨_, _, h2⟩ v rv => by
    split at h2
    · rename_i kvs e1
      split at h2
      · rename_i ys e2
        unfold sortO at e2
        split at e2
        · rename_i hc
          cases e2
          obtain ⟨n, q, ws, rfl, em, eo, rfl, e3, hk⟩ := dcOf_rel r1 rv e1
          refine ⟨q, ws, _, Zm Z m1, rfl, e3, hc, itR_of hk, fun b hb z => r1.zm hb z, fun H' qq us k1 k2 k3 k4 => ?_⟩
          exact h2 m1 H' (Go.ext k1) (r1.ext k1) _ (DR.lst (fun z => r1.zm k2 z) (.inl k3) k4)
        · cases e2
      · exact h2.elim
    · exact h2.elim⟩
end
end Pin
end
-- PinSet
section
set_option linter.all false
set_option maxRecDepth 100000
set_option maxHeartbeats 4000000
/-! Pin: sets of texts made from a list: len(set(xs)), sorted(set(xs)). -/
namespace Pin
open PySem PySem.Spec PyProof.Rows L2 PySem.Froz

/-- at a: a set that holds the texts l -/
structure SetX (P : Program) (w : World) (h : Heap) (a : Addr) (D : SD) (l : List Str) : Prop where
  ob : h.get? a = some (sObj "set" D)
  ok : TxOk P w D l
  ris : L2.Ris D.2.2.place.toList
  led : w.params.followText "set-order" = true ∨ D.2.2.led = true
  nd : l.Nodup
section
variable {P : Program} {w : World} {A : Around} {E : Value → Shared → Prop} {s : Shared}
theorem SetX.at {h h' : Heap} {a : Addr} {D : SD} {l : List Str} (x : SetX P w h a D l) (k : ∀ o, h.get? a = some o → h'.get? a = some o) : SetX P w h' a D l := ⟨k _ x.ob, x.ok, x.ris, x.led, x.nd⟩
theorem tail_ris {ep : Nat} {es1 : Array (Int × Value)} {t2 : SetTable} {wd : Bool} (r : L2.Ris t2.place.toList) : L2.Ris (tailTx ep es1 t2 wd).2.2.place.toList := by
  unfold tailTx
  by_cases c : (!wd && t2.tooFull) = true
  · rw [if_pos c]; exact relayAll_ris t2 es1 _
  · rw [if_neg c]; exact r
theorem tail_led {ep : Nat} {es1 : Array (Int × Value)} {t2 : SetTable} {wd : Bool} : (tailTx ep es1 t2 wd).2.2.led = t2.led := by
  unfold tailTx
  by_cases c : (!wd && t2.tooFull) = true
  · rw [if_pos c]; exact relayAll_led t2 es1 _
  · rw [if_neg c]
theorem add_any {a : Addr} {D : SD} {l : List Str} {k : Str} {u : Tok} {Q : Bool → Shared → Prop} (x : SetX P w s.heap a D l) (hb : l.length + 1 < scanBound)
    (h : ∀ b h' D', Heap.SameBut a s.heap h' → SetX P w h' a D' (if k ∈ l then l else k :: l) → Q b { s with heap := h' }) : wpAny (model P w) A (setAddHashed a (.str k u) (hashStr w k)) Q E s := by
  by_cases hk : k ∈ l
  · obtain ⟨es, ep, t⟩ := D
    have ho := x.ob
    have hd : (sObj "set" (es, ep, t)).data = .set es ep t := rfl
    have hf : t.fits es.size = true := x.ok.fit
    have hel : ElemsOf (strKind P w) es.toList := x.ok.el
    have hsz : es.size = l.length := x.ok.sz
    have hb0 : es.size < scanBound := by omega
    have hkey : (strKind P w).is k (.str k u) = true := is_str k u
    unfold setAddHashed setAddHashedIn
    refine wpAny_holding (wpAny_bind (wpAny_setState_of ho hd hf ?_))
    dsimp only
    rw [byScan_of rfl hb0 hel]
    simp only [↓reduceIte]
    unfold setAddByScan
    refine wpAny_bind ?_
    refine wpAny_bind (wpAny_rule ?_)
    refine wpAny_bind (wpAny_setScan_of (knd := strKind P w) (k := k) hkey ho hd hf hel ?_)
    cases hfi : List.findIdx? (fun e => (strKind P w).is k e.2) es.toList with
    | none =>
      obtain ⟨e, he, q⟩ := (x.ok.mem k).mp hk
      have := List.findIdx?_eq_none_iff.mp hfi e he
      rw [q] at this
      cases this
    | some j =>
      dsimp only
      refine wpAny_pure (wpAny_pure ?_)
      exact h _ s.heap (es, ep, t) (Heap.SameBut.refl a s.heap) (by rw [if_pos hk]; exact x)
  · refine add_x x.ob x.ok hk hb (h _ _ (addTx (hashStr w k) (.str k u) D) (Heap.SameBut.update ..) ?_)
    rw [if_neg hk]
    refine ⟨Heap.get?_update_self _ x.ob rfl, add_ok u x.ok, ?_, ?_, List.nodup_cons.mpr ⟨hk, x.nd⟩⟩
    · unfold addTx
      refine tail_ris ?_
      split
      · exact layNew_ris _ _ _ _ x.ris
      · exact layNew_ris _ _ _ _ x.ris
    · unfold addTx
      rw [tail_led]
      refine x.led.imp id fun z => ?_
      split
      · show (layNew D.2.2 D.1 (hashStr w k) (.str k u)).2.1.led = true
        rw [layNew_led]; exact z
      · rw [layNew_led]; exact z
theorem setX_fresh {h : Heap} {a : Addr} (ho : h.get? a = some { cls := .type "set", dict := none, data := .set #[] 0 (.fresh 0 0 (!w.params.followText "set-order")) }) : SetX P w h a (#[], 0, .fresh 0 0 (!w.params.followText "set-order")) [] :=
  ⟨ho, TxOk.nil rfl, List.Pairwise.nil, by
    show _ ∨ (!w.params.followText "set-order") = true
    cases w.params.followText "set-order"
    · exact .inr rfl
    · exact .inl rfl, List.nodup_nil⟩
/-- the texts that are in, turn by turn -/
def accS : List Str → List Str → List Str
  | acc, [] => acc
  | acc, x :: r => accS (if x ∈ acc then acc else x :: acc) r
theorem set_update_strs {I : Addr} {fp wr : List Addr} {G : Array GenState → Array GenState → Prop} {n : Nat} {Pv : Nat → Value → Prop} {St : Nat → Shared → Prop} {R : Result → Shared → Prop}
    (W : WalksS P w A.in1 I fp wr G n Pv St) (S : Addr) (hSf : S ∉ fp) (xs : List Str) (hsz : xs.length = n) (hn : n ≤ 20) (hval : ∀ i v, Pv i v → ∃ t, v = .str (xs.getD i Str.empty) t) :
    ∀ (k i : Nat) (s : Shared) (D : SD) (l : List Str), n - i = k → i ≤ n → St i s → SetX P w s.heap S D l → l.length ≤ i →
      (∀ s' D', Moved (S :: wr) G s s' → SetX P w s'.heap S D' (accS l (xs.drop i)) → R (.ok (.ret .none)) s') →
      codeAny (model P w) A (.builtin "set.update.loop" ⟨[.ref S, .ref I], []⟩) R s := by
  have hSw : S ∉ wr := fun h => hSf (W.sub _ h)
  have hsub : ∀ b ∈ wr, b ∈ S :: wr := fun b hb => List.mem_cons_of_mem _ hb
  intro k
  induction k with
  | zero =>
    intro i s D l hk hi hst hS hl hR
    have hin : i = n := by omega
    subst hin
    refine codeAny_builtin PyProof.Rows.F.entry_set_update_loop ?_
    rw [Around.under_plainId PyProof.Rows.F.plain_set_update_loop _]
    show wpAny _ A.in1 (pyNext (.ref I) >>= _) _ _ s
    refine wpAny_bind (W.done s _ _ hst fun s' hm => ?_)
    show wpAny _ A.in1 (ret Value.none) _ _ s'
    refine wpAny_pure (hR s' D (hm.mono hsub) ?_)
    rw [List.drop_eq_nil_of_le (by omega)]
    exact hS.at fun o e => hm.heap S o hSw e
  | succ k ih =>
    intro i s D l hk hi hst hS hl hR
    have hlt : i < n := by omega
    refine codeAny_builtin PyProof.Rows.F.entry_set_update_loop ?_
    rw [Around.under_plainId PyProof.Rows.F.plain_set_update_loop _]
    show wpAny _ A.in1 (pyNext (.ref I) >>= _) _ _ s
    refine wpAny_bind (W.item i s _ _ hlt hst fun v s' hP hst' hm => ?_)
    obtain ⟨t, rfl⟩ := hval i v hP
    have hS' : SetX P w s'.heap S D l := hS.at fun o e => hm.heap S o hSw e
    show wpAny _ A.in1 (holding [Value.str (xs.getD i Str.empty) t] (setAdd S (.str (xs.getD i Str.empty) t)) >>= _) _ _ s'
    refine wpAny_bind (wpAny_holding ?_)
    unfold setAdd
    refine wpAny_holding ?_
    refine wpAny_bind ((PySem.strKind P w).pyHash (k := xs.getD i Str.empty) (strKind_is _ _ _ _) ?_)
    refine add_any (s := { s' with toks := s'.toks + 1 }) (D := D) (l := l) hS' (by unfold scanBound; omega) fun b h' D' hsb hS2 => ?_
    have hd : xs.drop i = xs.getD i Str.empty :: xs.drop (i + 1) := by
      rw [List.drop_eq_getElem_cons (by omega)]
      congr 1
      rw [List.getD_eq_getElem?_getD, List.getElem?_eq_getElem (by omega)]
      rfl
    have hl' : (if xs.getD i Str.empty ∈ l then l else xs.getD i Str.empty :: l).length ≤ i + 1 := by
      split
      · omega
      · rw [List.length_cons]; omega
    refine wpAny_pure ⟨plainId_quiet PyProof.Rows.F.plain_set_update_loop _, ih (i + 1) _ D' _ (by omega) hlt (W.frame _ s' _ _ hst' (Nat.le_succ _) fun b hb o e => ?_) hS2 hl' fun s'' D'' hm'' hS'' => ?_⟩
    · rw [hsb.2 b (fun h : b = S => hSf (by rw [← h]; exact hb))]; exact e
    · refine hR s'' D'' (Moved.trans W.gtrans ((hm.mono hsub).then_heap (Nat.le_succ _) fun b o hb e => ?_) hm'') (by rw [hd]; exact hS'')
      rw [hsb.2 b (fun h : b = S => hb (by rw [h]; exact List.mem_cons_self))]; exact e

set_option maxHeartbeats 6400000 in
/-- set(xs), xs a list of texts -/
theorem call_set_strs {l : Addr} {items : Array Value} {xs : List Str} {Q : Value → Shared → Prop} (hh : A.handled = none) (hl : s.heap.IsList l items) (hi : PyProof.Rows.StrsAre items.toList xs) (hn1 : xs.length ≤ 20)
    (h : ∀ (h' : Heap) (tk : Nat) (D : SD), SetX P w h' s.heap.objs.size D (accS [] xs) → (∀ b o, s.heap.get? b = some o → h'.get? b = some o) → Q (.ref s.heap.objs.size) { s with heap := h', toks := tk }) :
    wpAny (model P w) A (call (.type "set") [.ref l]) Q E s := by
  obtain ⟨c, tl, hmro⟩ := PySem.F.called_set.mro
  have hmade := PySem.F.called_set.made
  have hsub := PySem.F.called_set.sub
  refine wpAny_call (codeAny_of_tree ?_)
  show wpAny _ _ (callAny (.type "set") _) _ _ _
  refine wpAny_pure ⟨Code.quiet_builtin _ (by decide +kernel), codeAny_builtin PySem.F.entry_type_call ?_⟩
  rw [Around.under_plain (weight_type_call_type "set" [.ref l] []) rfl]
  have h1 := PySem.F.called_set.notType
  have h2 := PySem.F.called_set.canCreate
  have hct := PySem.F.typeCall_set_1 (.ref l)
  repeat (any_goals (first | assumption | wp_step))
  refine codeAny_mono (code_set_led1 (.ref l) (E := E) (Q₁ := fun obj s₁ => obj = .ref s.heap.objs.size ∧ s₁ = { s with heap := s.heap.push { cls := .type "set", dict := none, data := .set #[] 0 (.fresh 0 0 (!w.params.followText "set-order")) } }) ⟨rfl, rfl⟩) fun r s₁ hr => ?_
  cases r with
  | error e => exact hr
  | ok fl =>
    cases fl with
    | ret obj =>
      obtain ⟨rfl, rfl⟩ := hr
      have hS : (s.heap.push { cls := .type "set", dict := none, data := .set #[] 0 (.fresh 0 0 (!w.params.followText "set-order")) }).get? s.heap.objs.size = some { cls := .type "set", dict := none, data := .set #[] 0 (.fresh 0 0 (!w.params.followText "set-order")) } := Heap.get?_push_size _ rfl
      have hT : Shared.TypeIs { s with heap := s.heap.push { cls := .type "set", dict := none, data := .set #[] 0 (.fresh 0 0 (!w.params.followText "set-order")) } } (.ref s.heap.objs.size) "set" := ⟨_, hS, rfl⟩
      have hli := PySem.F.called_set.init.lookup
      have hbi := PySem.F.called_set.init.bind (.ref s.heap.objs.size)
      repeat (any_goals (first | assumption | wp_step))
      refine codeAny_mono (codeAny_call_builtin (R := wants (fun r s₂ => r = .none ∧ ∃ h' tk D, s₂ = { s with heap := h', toks := tk } ∧ SetX P w h' s.heap.objs.size D (accS [] xs) ∧
          (∀ b o, s.heap.get? b = some o → h'.get? b = some o)) E) PySem.F.called_set.init.plain PySem.F.entry_set_init (check_set_init_1 hT ?_)) fun r₂ s₂ hr₂ => ?_
      · obtain ⟨ol, hol, hcl, nl, hdl⟩ := hl
        obtain ⟨ocls, odict, odata, oslots⟩ := ol
        simp only at hcl hdl
        subst hcl; subst hdl
        have hol' : (s.heap.push { cls := .type "set", dict := none, data := .set #[] 0 (.fresh 0 0 (!w.params.followText "set-order")) }).get? l = some { cls := .type "list", dict := odict, data := .seq items nl, slots := oslots } := Heap.get?_push_of_some _ hol
        have hsls := PySem.F.sub_list_set
        have hslf := PySem.F.sub_list_frozenset
        have hne : (Value.type "list" == Value.type "dict") = false := by decide
        have hl1 : (s.heap.push { cls := .type "set", dict := none, data := .set #[] 0 (.fresh 0 0 (!w.params.followText "set-order")) }).IsList l items := ⟨_, hol', rfl, nl, rfl⟩
        unfold Builtin.«set.__init__» noKeywords Builtin.Frozenset.updateFrom
        generalize hPI : pyIter = PI
        wp_walk
        subst hPI
        refine wpAny_pyIter_list hl1 ?_
        refine wpAny_bind (wpAny_runValue ?_)
        have hlS : l < s.heap.objs.size := Heap.lt_size hol
        have hh3 : A.in1.in1.in1.handled = none := by simp [hh]
        have hneI : l ≠ (s.heap.push { cls := .type "set", dict := none, data := .set #[] 0 (.fresh 0 0 (!w.params.followText "set-order")) }).objs.size := by
          rw [Heap.size_push]; exact Nat.ne_of_lt (Nat.lt_succ_of_lt hlS)
        have hSf : s.heap.objs.size ∉ [(s.heap.push { cls := .type "set", dict := none, data := .set #[] 0 (.fresh 0 0 (!w.params.followText "set-order")) }).objs.size, l] := by
          rw [Heap.size_push]; simp only [List.mem_cons, List.mem_singleton, List.not_mem_nil, or_false, not_or]
          exact ⟨Nat.ne_of_lt (Nat.lt_succ_self _), Nat.ne_of_gt hlS⟩
        have hsz : xs.length = items.size := by rw [← StrsAre.len_eq hi, Array.length_toList]
        have hval : ∀ (i : Nat) (v : Value), items[i]? = some v → ∃ t, v = .str (xs.getD i Str.empty) t := fun i v hv => SS.strs_at hi i v (by rw [Array.getElem?_toList]; exact hv)
        refine set_update_strs ((Walks.list hh3 _ l hneI items).toS) s.heap.objs.size hSf xs hsz (by rw [← hsz]; exact hn1) hval (items.size - 0) 0 _ (#[], 0, .fresh 0 0 (!w.params.followText "set-order")) [] (by omega) (Nat.zero_le _)
          ⟨⟨_, Heap.get?_push_size _ rfl, rfl, rfl⟩, (hl1.push _)⟩ (setX_fresh (Heap.get?_push_of_some _ hS)) (Nat.le_refl _) ?hR
        case hR =>
          intro s' D hm hS'
          obtain ⟨h', g2, d', tk', os'⟩ := s'
          have eg : g2 = s.gens := hm.gens
          have ed : d' = s.drawn := hm.drawn
          have eo : os' = s.os := hm.os
          subst eg; subst ed; subst eo
          show wpAny _ _ _ _ _ _
          refine wpAny_pure ?_
          show wpAny _ _ (ret Value.none) _ _ _
          refine wpAny_pure ⟨rfl, h', tk', D, rfl, hS', fun b o e => ?_⟩
          have hb := Heap.lt_size e
          have hb1 : b ≠ s.heap.objs.size := Nat.ne_of_lt hb
          have hb2 : b ≠ (s.heap.push { cls := .type "set", dict := none, data := .set #[] 0 (.fresh 0 0 (!w.params.followText "set-order")) }).objs.size := by
            rw [Heap.size_push]; exact Nat.ne_of_lt (Nat.lt_succ_of_lt hb)
          exact hm.heap b o (by simp only [List.mem_cons, List.mem_singleton, List.not_mem_nil, or_false, not_or]; exact ⟨hb1, hb2⟩) (Heap.get?_push_of_some _ (Heap.get?_push_of_some _ e))
      · cases r₂ with
        | error e => exact hr₂
        | ok fl₂ =>
          cases fl₂ with
          | ret r =>
            obtain ⟨rfl, h', tk, D, rfl, hS', hk'⟩ := hr₂
            repeat (any_goals (first | assumption | wp_step))
            exact h _ _ _ hS' hk'
          | _ => exact hr₂.elim
    | _ => exact hr.elim
end
end Pin
end
-- PinSet2
section
set_option linter.all false
set_option maxRecDepth 100000
set_option maxHeartbeats 4000000
/-! Pin: len(set(xs)), sorted(set(xs)), xs a list of texts. -/
namespace Pin
open PySem PySem.Spec PyProof.Rows L2 PySem.Froz

theorem accS_mem : ∀ (xs acc : List Str) (k : Str), k ∈ accS acc xs ↔ k ∈ acc ∨ k ∈ xs
  | [], acc, k => by simp [accS]
  | x :: r, acc, k => by
    rw [accS, accS_mem r]
    by_cases h : x ∈ acc
    · rw [if_pos h, List.mem_cons]
      constructor
      · rintro (a | a)
        · exact .inl a
        · exact .inr (.inr a)
      · rintro (a | a | a)
        · exact .inl a
        · rw [a]; exact .inl h
        · exact .inr a
    · rw [if_neg h, List.mem_cons, List.mem_cons]
      constructor
      · rintro ((a | a) | a)
        · exact .inr (.inl a)
        · exact .inl a
        · exact .inr (.inr a)
      · rintro (a | a | a)
        · exact .inl (.inr a)
        · exact .inl (.inl a)
        · exact .inr a
theorem accS_nodup : ∀ (xs acc : List Str), acc.Nodup → (accS acc xs).Nodup
  | [], acc, h => h
  | x :: r, acc, h => by
    rw [accS]
    refine accS_nodup r _ ?_
    by_cases hx : x ∈ acc
    · rw [if_pos hx]; exact h
    · rw [if_neg hx]; exact List.nodup_cons.mpr ⟨hx, h⟩
theorem uniqS_mem : ∀ (xs : List Str) (k : Str), k ∈ uniqS xs ↔ k ∈ xs
  | [], k => by simp [uniqS]
  | x :: r, k => by
    rw [uniqS]
    by_cases h : x ∈ r
    · rw [if_pos h, uniqS_mem r, List.mem_cons]
      exact ⟨.inr, fun a => a.elim (fun e => by rw [e]; exact h) id⟩
    · rw [if_neg h, List.mem_cons, List.mem_cons, uniqS_mem r]
theorem uniqS_nodup : ∀ (xs : List Str), (uniqS xs).Nodup
  | [] => List.nodup_nil
  | x :: r => by
    rw [uniqS]
    by_cases h : x ∈ r
    · rw [if_pos h]; exact uniqS_nodup r
    · rw [if_neg h]; exact List.nodup_cons.mpr ⟨fun a => h ((uniqS_mem r x).mp a), uniqS_nodup r⟩
theorem uniqS_len : ∀ (xs : List Str), (uniqS xs).length ≤ xs.length
  | [] => Nat.le_refl _
  | x :: r => by
    have := uniqS_len r
    rw [uniqS]
    split
    · rw [List.length_cons]; omega
    · rw [List.length_cons, List.length_cons]; omega
theorem accS_perm (xs : List Str) : (accS [] xs).Perm (uniqS xs) :=
  (List.perm_ext_iff_of_nodup (accS_nodup xs [] List.nodup_nil) (uniqS_nodup xs)).mpr fun k => by rw [accS_mem, uniqS_mem]; simp
/-- distinct texts that hold all of l, no more of them than l has -/
theorem perm_cover : ∀ (l m : List Str), l.Nodup → (∀ k ∈ l, k ∈ m) → m.length ≤ l.length → l.Perm m
  | [], m, _, _, h => by
    have : m = [] := List.length_eq_zero_iff.mp (Nat.le_zero.mp h)
    rw [this]
  | x :: l, m, hn, hs, h => by
    obtain ⟨h1, h2⟩ := List.nodup_cons.mp hn
    have hx : x ∈ m := hs x List.mem_cons_self
    obtain ⟨a, b, rfl⟩ := List.append_of_mem hx
    have := perm_cover l (a ++ b) h2 (fun k hk => by
      have := hs k (List.mem_cons_of_mem _ hk)
      rcases List.mem_append.mp this with q | q
      · exact List.mem_append_left _ q
      · rcases List.mem_cons.mp q with q | q
        · rw [q] at hk; exact absurd hk h1
        · exact List.mem_append_right _ q) (by simp only [List.length_append, List.length_cons] at h ⊢; omega)
    exact (List.Perm.cons x this).trans List.perm_middle.symm
theorem str_anti {a b : Str} (h1 : PySem.W.dataLt (.str b) (.str a) = false) (h2 : PySem.W.dataLt (.str a) (.str b) = false) : a = b := by
  rw [PySem.W.dataLt_str, decide_eq_false_iff_not] at h1 h2
  exact PySem.W.str_of_cps (List.le_antisymm (List.not_lt.mp h1) (List.not_lt.mp h2))
theorem isort_strs {l m : List Str} (h : l.Perm m) : isortD (l.map .str) = isortD (m.map .str) := by
  have p : (isortD (l.map PyData.str)).Perm (isortD (m.map PyData.str)) := ((isort_stb _).perm.trans (h.map _)).trans (isort_stb _).perm.symm
  refine List.Perm.eq_of_pairwise (le := fun x y => PySem.W.dataLt y x = false) (fun a b ha hb h1 h2 => ?_) (isort_srtd _) (isort_srtd _) p
  obtain ⟨x, _, rfl⟩ := List.mem_map.mp ((isort_stb _).perm.mem_iff.mp ha)
  obtain ⟨y, _, rfl⟩ := List.mem_map.mp ((isort_stb _).perm.mem_iff.mp hb)
  rw [str_anti h1 h2]
theorem strsD_eq : ∀ {xs : List D} {ss : List Str}, strsD xs = some ss → xs = ss.map .str
  | [], ss, e => by cases e; rfl
  | .str x :: r, ss, e => by
    unfold strsD at e
    obtain ⟨t, e1, rfl⟩ := Option.map_eq_some_iff.mp e
    rw [strsD_eq e1]; rfl
theorem strs_DRs {K : KF} {Z : Addr → Prop} {H : Hp} : ∀ {ss : List Str} {vs : List V}, DRs K Z H vs (ss.map .str) → vs = ss.map .str ∧ ∀ x ∈ ss, PyData.strOk x = true
  | [], _, .nil => ⟨rfl, fun _ h => by cases h⟩
  | x :: ss, _, .cons h t => by
    obtain ⟨rfl, h2⟩ := strs_DRs t
    cases h with
    | str _ ok =>
      refine ⟨rfl, fun y hy => ?_⟩
      rcases List.mem_cons.mp hy with rfl | hy
      · exact ok
      · exact h2 y hy
theorem of_strs {K : KF} {Z : Addr → Prop} {H : Hp} : ∀ {ss : List Str}, (∀ x ∈ ss, PyData.strOk x = true) → DRs K Z H (ss.map .str) (ss.map .str)
  | [], _ => .nil
  | x :: ss, h => .cons (.str x (h x List.mem_cons_self)) (of_strs fun y hy => h y (List.mem_cons_of_mem _ hy))
section
variable {P : Program} {w : World} {A : Around} {E : Value → Shared → Prop} {s : Shared}
/-- sorted(the set at a) -/
theorem sorted_setX {a : Addr} {D : SD} {l : List Str} {Q : Value → Shared → Prop} (x : SetX P w s.heap a D l) (hh : A.handled = none) (hu : A.units + 100 < cLine) (hl : l.length ≤ 20)
    (hQ : ∀ s' p (out : List Value) (c : Nat), (∀ b o, s.heap.get? b = some o → s'.heap.get? b = some o) → s'.gens = s.gens → s'.os = s.os → s.heap.objs.size ≤ p →
      s'.heap.get? p = some (seqObj "list" out.toArray c) → PySem.W.EachIs (fun u d => ∃ k t, u = Value.str k t ∧ d = PyData.str k) out (isortD (l.map .str)) → Q (.ref p) s') :
    wpAny (model P w) A (call (.builtin "sorted") [.ref a]) Q E s := by
  obtain ⟨es, ep, t⟩ := D
  have hsz : es.size = l.length := x.ok.sz
  refine Calls.call_function_entry kind_sorted plain_sorted entry_sorted (args_sorted1 _) ?_
  unfold Builtin.«sorted»
  refine wpAny_bind (m := checkCount "sorted" 1 1 _) (wpAny_pure ?_)
  refine wpAny_bind (collect_set (A := A.in1) hh ⟨_, x.ob, rfl, rfl⟩ x.ok.fit (by show es.size < scanBound; unfold scanBound; omega) x.ris x.led fun s1 vs k1 hz g1 o1 pm => ?_)
  -- the values are texts
  have key : ∀ vs : List Value, (∀ v ∈ vs, ∃ e ∈ es.toList, e.2 = v) → ∃ ks : List Str, PySem.W.EachIs (fun u d => ∃ k t, u = Value.str k t ∧ d = PyData.str k) vs (ks.map .str) := by
    intro vs
    induction vs with
    | nil => intro _; exact ⟨[], .nil⟩
    | cons v vs ih =>
      intro h
      obtain ⟨ks, e⟩ := ih fun u hu => h u (List.mem_cons_of_mem _ hu)
      obtain ⟨en, he, rfl⟩ := h v List.mem_cons_self
      obtain ⟨⟨k, hk, _⟩, _⟩ := x.ok.el en he
      obtain ⟨tk, hv⟩ : ∃ tk, en.2 = Value.str k tk := by
        cases q : en.2 with
        | str y tk =>
          rw [q] at hk
          have : Value.isStrOf k (.str y tk) = true := hk
          simp [Value.isStrOf] at this
          exact ⟨tk, by rw [this]⟩
        | _ => rw [q] at hk; cases hk
      exact ⟨k :: ks, .cons ⟨k, tk, hv, rfl⟩ e⟩
  obtain ⟨ks, hks⟩ := key vs fun v hv => by
    obtain ⟨e, he, q⟩ := List.mem_map.mp (pm.mem_iff.mp hv)
    exact ⟨e, he, q⟩
  have hlen : ks.length = l.length := by
    have := hks.length
    rw [List.length_map] at this
    rw [← this, pm.length_eq, List.length_map, Array.length_toList]; exact hsz
  have each_mem' : ∀ {vs : List Value} {ks : List Str}, PySem.W.EachIs (fun u d => ∃ k t, u = Value.str k t ∧ d = PyData.str k) vs (ks.map .str) → ∀ v ∈ vs, ∀ k, (strKind P w).is k v = true → k ∈ ks := by
    intro vs
    induction vs with
    | nil => intro ks _ v hv; cases hv
    | cons u vs ih =>
      intro ks h v hv k hk
      cases ks with
      | nil => cases h
      | cons y ks =>
        cases h with
        | cons r t =>
          rcases List.mem_cons.mp hv with rfl | hv
          · obtain ⟨z, tk, rfl, e⟩ := r
            cases e
            have : Value.isStrOf k (.str y tk) = true := hk
            simp [Value.isStrOf] at this
            rw [this]; exact List.mem_cons_self
          · exact List.mem_cons_of_mem _ (ih t v hv k hk)
  have pl : l.Perm ks := perm_cover l ks x.nd (fun k hk => by
    obtain ⟨e, he, q⟩ := (x.ok.mem k).mp hk
    exact each_mem' hks e.2 (pm.mem_iff.mpr (List.mem_map.mpr ⟨e, he, rfl⟩)) k q) (by omega)
  have hvl : vs.length = l.length := by
    have := hks.length
    rw [List.length_map] at this
    omega
  refine wpAny_bind (wpAny_newList ?_ (by rw [hvl, sizeLine_eq]; omega))
  have hoL : (s1.heap.push (seqObj "list" vs.toArray 0)).get? s1.heap.objs.size = some (seqObj "list" vs.toArray 0) := Heap.get?_push_size _ rfl
  have hst : ∀ d ∈ ks.map PyData.str, ∃ k, d = .str k := fun d hd => by
    obtain ⟨k, _, rfl⟩ := List.mem_map.mp hd
    exact ⟨k, rfl⟩
  refine wpAny_bind (wpAny_holding (PySem.W.list_sort_data (s := { s1 with heap := s1.heap.push (seqObj "list" vs.toArray 0) }) (enc := fun d => d) (bs := ks.map .str) hoL hks
    (each_imp (fun u d ⟨k, t, e1, e2⟩ => ⟨[], by rw [e1, e2]; exact .str k t, by simp⟩) hks) (fun d hd d' hd' => ?_) (.inr fun d hd => ?_) (by rw [List.length_map, hlen, sizeLine_eq]; omega) (fun d hd => ?_) fun out hlo eo => ?_))
  · rw [List.map_id'] at hd hd'
    obtain ⟨k, rfl⟩ := hst d hd
    obtain ⟨k', rfl⟩ := hst d' hd'
    rfl
  · rw [List.map_id'] at hd
    obtain ⟨k, rfl⟩ := hst d hd
    exact ⟨by simp, by simp⟩
  · obtain ⟨k, rfl⟩ := hst d hd
    show A.units + 1 + 1 + (PyData.str k).depth < cLine
    have : (PyData.str k).depth = 0 := rfl
    omega
  rw [isort_ms, isort_strs pl.symm] at eo
  obtain ⟨c, hc⟩ := PyProof.Rows.sortedHeap_at (vs := vs) (out := out.toArray) hoL
  refine wpAny_pure ⟨_, rfl, hQ _ s1.heap.objs.size out c (fun b u e => ?_) g1 o1 hz hc eo⟩
  have q := k1 b u e
  have hlt := Heap.lt_size q
  show (sortedHeap (s1.heap.push (seqObj "list" vs.toArray 0)) s1.heap.objs.size vs out.toArray).get? b = some u
  rw [PyProof.Rows.sortedHeap_old (Nat.ne_of_lt hlt) (by rw [size_push']; exact Nat.lt_succ_of_lt hlt)]
  exact Heap.get?_push_of_some _ q
end
def tLS (K : KF) (te : TE) : TE := fun σ H Q => te σ H fun x H1 => ∃ l, ∃ xs : List Str, x = .ref l ∧ SqL K H1 l (xs.map V.str) ∧ xs.length ≤ 20 ∧ Q (.int (uniqS xs).length) H1
def tSS (K : KF) (te : TE) : TE := fun σ H Q => te σ H fun x H1 => ∃ l, ∃ xs : List Str, x = .ref l ∧ SqL K H1 l (xs.map V.str) ∧ xs.length ≤ 20 ∧ ∀ (q : Addr) (ws : List V) (rs : List Str), H1 q = none → ws = rs.map .str → rs.map PyData.str = isortD ((uniqS xs).map .str) → Q (.ref q) (upd H1 q (.lst ws))
section
variable {X : Cx} {W : WX} {e : Expr} {te : TE} {f : Fe} {p p1 p2 pos : Pos}
theorem pe_lenS (hc : X.calm = true) (hg : Gl X "len") (hm : X.mg "len" = none) (hg2 : Gl X "set") (hm2 : X.mg "set" = none) (he : PE X e te) (na : starEach [e] X.env = (false, eval e X.env) :: starEach [] X.env) :
    PE X (.Call (.Name "len" p1) [.Call (.Name "set" p2) [e] [] p] [] pos) (tLS X.K te) := by
  refine ⟨fun pins s σ H Q I h => ?_⟩
  refine Call_ (ld_blt I hg hm boot_len ?_)
  refine PyProof.Rows.callWith_builtin1 (PyProof.Rows.args_cons ?_ rfl) rfl rfl
  refine Call_ (ld_blt I hg2 hm2 boot_set ?_)
  refine PyProof.Rows.callWith_type1 (PyProof.Rows.args_cons (thn (he.run pins s σ H _ I h) fun v s1 ⟨x, H1, I1, r1, q1⟩ => PyProof.Rows.args_nil ?_) na) na rfl
  obtain ⟨l, xs, rfl, hq, h1, q1⟩ := q1
  cases r1
  obtain ⟨its, r, pl, hz⟩ := I1.list hq
  refine call_set_strs (I1.ok.hd hc) pl.isList (by simpa using strsAre_of r) h1 fun h' tk D hS hk => ?_
  refine PyProof.Rows.args_nil ?_
  have I2 : Inv X pins σ H1 { s1 with heap := h', toks := tk } := I1.kept (t' := tk) fun b o e => hk b o e
  have hn : D.1.size = (uniqS xs).length := by rw [hS.ok.sz]; exact (accS_perm xs).length_eq
  have := uniqS_len xs
  refine call_len_set hS.ob ⟨rfl, rfl, rfl⟩ rfl hS.ok.fit (by rw [hn] <;> omega) ⟨.int (uniqS xs).length, H1, I2.tok _, ⟨_, by rw [hn]⟩, q1⟩
theorem pe_sortS (hc : X.calm = true) (hu : X.A.units + 100 < cLine) (hg : Gl X "sorted") (hm : X.mg "sorted" = none) (hg2 : Gl X "set") (hm2 : X.mg "set" = none) (he : PE X e te) (na : starEach [e] X.env = (false, eval e X.env) :: starEach [] X.env) :
    PE X (.Call (.Name "sorted" p1) [.Call (.Name "set" p2) [e] [] p] [] pos) (tSS X.K te) := by
  refine ⟨fun pins s σ H Q I h => ?_⟩
  refine Call_ (ld_blt I hg hm boot_sorted ?_)
  refine PyProof.Rows.callWith_builtin1 (PyProof.Rows.args_cons ?_ rfl) rfl rfl
  refine Call_ (ld_blt I hg2 hm2 boot_set ?_)
  refine PyProof.Rows.callWith_type1 (PyProof.Rows.args_cons (thn (he.run pins s σ H _ I h) fun v s1 ⟨x, H1, I1, r1, q1⟩ => PyProof.Rows.args_nil ?_) na) na rfl
  obtain ⟨l, xs, rfl, hq, h1, q1⟩ := q1
  cases r1
  obtain ⟨its, r, pl, hz⟩ := I1.list hq
  refine call_set_strs (I1.ok.hd hc) pl.isList (by simpa using strsAre_of r) h1 fun h' tk D hS hk => ?_
  refine PyProof.Rows.args_nil ?_
  have I2 : Inv X pins σ H1 { s1 with heap := h', toks := tk } := I1.kept (t' := tk) fun b o e => hk b o e
  have hl : (accS [] xs).length ≤ 20 := by
    have := uniqS_len xs
    rw [(accS_perm xs).length_eq]; omega
  refine sorted_setX (A := X.A) (s := { s1 with heap := h', toks := tk }) hS (I1.ok.hd hc) hu hl fun s' q out c hk2 hg2 ho2 hq2 hob eo => ?_
  rw [isort_strs (accS_perm xs)] at eo
  have lo : s1.heap.objs.size ≤ q := by
    have : s1.heap.objs.size ≤ h'.objs.size := by
      exact Nat.le_of_lt (Heap.lt_size hS.ob)
    exact Nat.le_trans this hq2
  have hn : H1 q = none := I1.hok.fresh lo
  have strsK : ∀ {out : List Value} {ds : List PyData}, PySem.W.EachIs (fun u d => ∃ k t, u = Value.str k t ∧ d = PyData.str k) out ds → ∃ rs : List Str, Vals (rs.map .str) out ∧ rs.map PyData.str = ds := by
    intro out ds h
    induction h with
    | nil => exact ⟨[], .nil, rfl⟩
    | cons r _ ih =>
      obtain ⟨rs, r1, r2⟩ := ih
      obtain ⟨k, t, rfl, rfl⟩ := r
      exact ⟨k :: rs, .cons ⟨t, rfl⟩ r1, by rw [List.map_cons, r2]⟩
  obtain ⟨rs, r1, r2⟩ := strsK eo
  have hlen : (rs.map V.str).length ≤ sizeLine := by
    have e1 : (isortD ((uniqS xs).map .str)).length = (uniqS xs).length := by rw [(isort_stb _).perm.length_eq, List.length_map]
    rw [← r2, List.length_map] at e1
    have := uniqS_len xs
    rw [List.length_map, e1, sizeLine_eq]; omega
  have J : Inv X pins σ (upd H1 q (.lst (rs.map V.str))) { s1 with heap := s'.heap, gens := s'.gens, drawn := s'.drawn, toks := s'.toks } :=
    I1.call (ch := []) (Un.laid (fun b u e => hk2 b u (hk b u e)) lo hn) (I1.hok.laid (fun b u e => hk2 b u (hk b u e)) lo ⟨hlen, out, c, r1, hob⟩) (by rw [hg2]; exact I1.bare) (fun _ z => nomatch z)
  have e : s' = { s1 with heap := s'.heap, gens := s'.gens, drawn := s'.drawn, toks := s'.toks } := by
    cases s'
    cases s1
    cases ho2
    rfl
  rw [e]
  exact ⟨.ref q, _, J, rfl, q1 q _ rs hn rfl r2⟩
theorem ce_lenSet (c : Ctx X W) (m1 : X.mg "len" = none) (m2 : X.mg "set" = none) (h : CE X W e f) (hg : Gl X "len" := by rfl) (hg2 : Gl X "set" := by rfl) (na : starEach [e] X.env = (false, eval e X.env) :: starEach [] X.env := by rfl) :
    CE X W (.Call (.Name "len" p1) [.Call (.Name "set" p2) [e] [] p] [] pos) (lenSetF f) :=
  PE.imp (pe_lenS c.calm hg m1 hg2 m2 h na) fun σ H Q ⟨Z, m, env, hp, a, h1⟩ => ⟨Z, m, env, hp, a, (Wp.bind h1).imp fun x hp1 m1 H1 g1 r1 ⟨_, _, h2⟩ v rv => by
    split at h2
    · rename_i xs e1
      split at h2
      · rename_i ss e2
        split at h2
        · rename_i hl
          obtain ⟨q, vs, rfl, hq, hs⟩ := lsOf_rel r1 rv e1
          rw [strsD_eq e2] at hs
          obtain ⟨rfl, ok⟩ := strs_DRs hs
          exact ⟨q, ss, rfl, hq, hl, h2 m1 H1 Go.refl r1 _ (.int _)⟩
        · exact h2.elim
      · exact h2.elim
    · exact h2.elim⟩
theorem ce_sortSet (c : Ctx X W) (m1 : X.mg "sorted" = none) (m2 : X.mg "set" = none) (h : CE X W e f) (hg : Gl X "sorted" := by rfl) (hg2 : Gl X "set" := by rfl) (na : starEach [e] X.env = (false, eval e X.env) :: starEach [] X.env := by rfl) :
    CE X W (.Call (.Name "sorted" p1) [.Call (.Name "set" p2) [e] [] p] [] pos) (sortSetF f) :=
  PE.imp (pe_sortS c.calm c.hu hg m1 hg2 m2 h na) fun σ H Q ⟨Z, m, env, hp, a, h1⟩ => ⟨Z, m, env, hp, a, (Wp.bind h1).imp fun x hp1 m1 H1 g1 r1 ⟨_, _, h2⟩ v rv => by
    split at h2
    · rename_i xs e1
      split at h2
      · rename_i ss e2
        split at h2
        · rename_i hl
          obtain ⟨q, vs, rfl, hq, hs⟩ := lsOf_rel r1 rv e1
          rw [strsD_eq e2] at hs
          obtain ⟨rfl, ok⟩ := strs_DRs hs
          refine ⟨q, ss, rfl, hq, hl, fun qq ws rs hn ew er => ?_⟩
          have okr : ∀ x ∈ rs, PyData.strOk x = true := fun x hx => by
            have : PyData.str x ∈ isortD ((uniqS ss).map .str) := by rw [← er]; exact List.mem_map.mpr ⟨x, hx, rfl⟩
            obtain ⟨y, hy, ey⟩ := List.mem_map.mp ((isort_stb _).perm.mem_iff.mp this)
            cases ey
            exact ok x ((uniqS_mem ss x).mp hy)
          have h3 := h2 m1 _ (Go.fresh (o := .lst ws) r1 hn) (Rel.fresh r1 hn)
          refine h3 _ ?_
          subst ew
          exact new_lst r1 hn (by rw [← er]; exact of_strs okr)
        · exact h2.elim
      · exact h2.elim
    · exact h2.elim⟩
end
end Pin
end
-- PinComb
section
set_option linter.all false
set_option maxRecDepth 100000
set_option maxHeartbeats 4000000
/-! Pin: itertools.combinations, at the library's level. -/
namespace Pin
open PySem PySem.Spec PyProof.Rows L2
open Sem (wp)

theorem mro_cmb : mroOf (.type "itertools.combinations") = pure [.type "itertools.combinations", .type "object"] := by rw [mroOf_type]; kernel_rfl
theorem lookup_cmb_new : typeLookup (.type "itertools.combinations") "__new__" = pure (some (.builtin "itertools.combinations.__new__")) := by rw [typeLookup_type, builtinLookup_eq_fast]; kernel_rfl
theorem slot_cmb_init : Slot "itertools.combinations" "__init__" "object.__init__" :=
  .of (owner := "object") (n := "__init__") (by rw [typeLookup_type, builtinLookup_eq_fast]; kernel_rfl) (by decide +kernel) (by decide +kernel) (by decide +kernel)
    (by first | exact .inl (by decide +kernel) | exact .inr (by decide +kernel)) (by rw [isSubtype_type]; kernel_rfl)
theorem sub_cmb : isSubtype (.type "itertools.combinations") (.type "itertools.combinations") = pure true := by rw [isSubtype_type]; kernel_rfl
theorem called_cmb : TypeCalled "itertools.combinations" "itertools.combinations.__new__" "object.__init__" :=
  ⟨by decide +kernel, by decide +kernel, ⟨_, _, mro_cmb⟩, madeBy_type mro_cmb lookup_cmb_new (by decide +kernel), by decide +kernel, sub_cmb, slot_cmb_init⟩
theorem typeCall_cmb_2 (a b : Value) : checkTypeCall "itertools.combinations" ⟨[a, b], []⟩ = pure () := by kernel_rfl
theorem newCall_cmb_2 (a b : Value) : checkBuiltinCall "itertools.combinations.__new__" ⟨[.type "itertools.combinations", a, b], []⟩ = pure () := by kernel_rfl
theorem entry_cmb_new : entryFor table "itertools.combinations.__new__" = some Builtin.«itertools.combinations.__new__» := entryFor_of_tree (by kernel_rfl)
theorem slot_cmb_iter : Slot "itertools.combinations" "__iter__" "itertools.combinations.__iter__" :=
  .of (owner := "itertools.combinations") (n := "__iter__") (by rw [typeLookup_type, builtinLookup_eq_fast]; kernel_rfl) (by decide +kernel) (by decide +kernel) (by decide +kernel)
    (by first | exact .inl (by decide +kernel) | exact .inr (by decide +kernel)) sub_cmb
theorem slot_cmb_next : Slot "itertools.combinations" "__next__" "itertools.combinations.__next__" :=
  .of (owner := "itertools.combinations") (n := "__next__") (by rw [typeLookup_type, builtinLookup_eq_fast]; kernel_rfl) (by decide +kernel) (by decide +kernel) (by decide +kernel)
    (by first | exact .inl (by decide +kernel) | exact .inr (by decide +kernel)) sub_cmb
theorem entry_cmb_iter : entryFor table "itertools.combinations.__iter__" = some Builtin.«dict_keyiterator.__iter__» :=
  entryFor_alias (id' := "dict_keyiterator.__iter__") (by kernel_rfl) (by first | rfl | decide +kernel | (unfold String.splitOn; simp +decide [String.splitOnAux])) (by decide +kernel) (by kernel_rfl)
theorem entry_cmb_next : entryFor table "itertools.combinations.__next__" = some Builtin.«itertools.combinations.__next__» := entryFor_of_tree (by kernel_rfl)
theorem owner_cmb : Manifest.owners.lookup (String.ofList ['s', 'n', 'o', 'i', 't', 'a', 'n', 'i', 'b', 'm', 'o', 'c', '.', 's', 'l', 'o', 'o', 't', 'r', 'e', 't', 'i'].reverse) = some Manifest.sig_itertools_combinations := by kernel_rfl
theorem args_cmb_iter (a : Value) : argsOk "itertools.combinations.__iter__" ⟨[a], []⟩ := by
  unfold argsOk; rw [signature?_of (id := "itertools.combinations.__iter__") (n := ['_', '_', 'r', 'e', 't', 'i', '_', '_']) (o := ['s', 'n', 'o', 'i', 't', 'a', 'n', 'i', 'b', 'm', 'o', 'c', '.', 's', 'l', 'o', 'o', 't', 'r', 'e', 't', 'i']) (by kernel_rfl) owner_cmb]; kernel_rfl
theorem args_cmb_next (a : Value) : argsOk "itertools.combinations.__next__" ⟨[a], []⟩ := by
  unfold argsOk; rw [signature?_of (id := "itertools.combinations.__next__") (n := ['_', '_', 't', 'x', 'e', 'n', '_', '_']) (o := ['s', 'n', 'o', 'i', 't', 'a', 'n', 'i', 'b', 'm', 'o', 'c', '.', 's', 'l', 'o', 'o', 't', 'r', 'e', 't', 'i']) (by kernel_rfl) owner_cmb]; kernel_rfl
theorem noDict_cmb : typeHasDict (.type "itertools.combinations") = false := by decide +kernel
theorem noClose_cmb : typeLookup (.type "itertools.combinations") "close" = pure none := by rw [typeLookup_type, builtinLookup_eq_fast]; kernel_rfl

/-- a tuple's items are gathered (turned from wpAny_collect_seq, with the heap's size) -/
theorem collect_seqZ {prog : Program} {w : World} {A : Around} {E : Value → Shared → Prop} {s : Shared} {Q : List Value → Shared → Prop} (it : Addr) {T : String} {o : Obj} {items : Array Value} {n : Nat} (hT : T = "list" ∨ T = "tuple")
    (ho : s.heap.get? it = some o) (hc : o.cls = .type T) (hd : o.data = .seq items n)
    (hQ : ∀ h', (∀ b o', s.heap.get? b = some o' → h'.get? b = some o') ∧ s.heap.objs.size ≤ h'.objs.size → Q items.toList { s with heap := h' }) (hsz : items.size ≤ sizeLine) :
    wpAny (model prog w) A (collect (.ref it)) Q E s := by
  unfold collect
  refine wpAny_bind (wpAny_runValue (codeAny_builtin PySem.F.entry_proto_collect ?_))
  rw [Around.under_plainId PySem.F.plain_proto_collect _]
  show wpAny _ A.in1 (newList [] >>= fun l => again (.builtin "list.__iadd__" ⟨[l, .ref it], []⟩)) _ _ s
  refine wpAny_bind (wpAny_newObj_type ?_)
  refine wpAny_pure ⟨plainId_quiet PySem.F.plain_list_iadd _, codeAny_builtin PySem.F.entry_list_iadd ?_⟩
  rw [Around.under_plainId PySem.F.plain_list_iadd _]
  show wpAny _ A.in1 (Builtin.List.listExtendWith (.ref s.heap.objs.size) (.ref it) (.ref s.heap.objs.size)) _ _ _
  have hS : (s.heap.push { cls := .type "list", data := .seq ([] : List Value).toArray }).get? s.heap.objs.size = some { cls := .type "list", data := .seq #[] 0 } := Heap.get?_push_size _ rfl
  have hS₂ := Heap.get?_update_self (Obj.mapSeq (· ++ items)) hS rfl
  have fin' : wpAny (model prog w) A (match Value.ref s.heap.objs.size with
      | Value.ref a => do
        match (← load a).data with
          | Data.seq xs _ => pure xs.toList
          | _ => unsupported "internal:collect"
      | _ => unsupported "internal:collect") Q E { s with heap := (s.heap.push { cls := .type "list", data := .seq ([] : List Value).toArray }).update s.heap.objs.size (Obj.mapSeq (· ++ items)) } := by
    show wpAny _ A (load s.heap.objs.size >>= _) _ _ _
    refine wpAny_bind (wpAny_load hS₂ ?_)
    refine wpAny_pure ?_
    have e : ((#[] : Array Value) ++ items).toList = items.toList := by simp
    show Q ((#[] : Array Value) ++ items).toList _
    rw [e]
    refine hQ _ ⟨fun b o' hb => ?_, ?_⟩
    · exact (Heap.get?_update_other _ _ (Nat.ne_of_gt (Heap.lt_size hb))).trans (Heap.get?_push_of_some _ hb)
    · rw [Heap.size_update, Heap.size_push]; exact Nat.le_succ _
  refine wpAny_mono (wpAny_extend_seq (hsz := hsz) (A := A) (R := fun r s' => r = .ok (.ret (.ref s.heap.objs.size)) ∧ s' = { s with heap := (s.heap.push { cls := .type "list", data := .seq ([] : List Value).toArray }).update s.heap.objs.size (Obj.mapSeq (· ++ items)) })
    (s := { s with heap := s.heap.push { cls := .type "list", data := .seq ([] : List Value).toArray } }) _ it _ 0 hT hS (Heap.get?_push_of_some _ ho) hc hd ⟨rfl, rfl⟩) (fun fin s' h => ?_) (fun e s' h => ?_)
  · cases fin with
    | done f =>
      obtain ⟨e, rfl⟩ := h
      cases e
      exact fin'
    | again c' => exact ⟨h.1, codeAny_mono h.2 fun r s'' hr => by obtain ⟨rfl, rfl⟩ := hr; exact fin'⟩
  · exact absurd h.1 (by simp)
/-- the object: the pool, how far it is, the last tuple, the places -/
abbrev IsCmb (h : Heap) (it pool : Addr) (st : Int) (res : Value) (ix : List Nat) : Prop :=
  h.get? it = some { cls := .type "itertools.combinations", dict := none, data := .fields ([.ref pool, .int st 0, res] ++ ix.map fun (i : Nat) => rawInt i).toArray, slots := #[] }
/-- the step from places to places -/
def nxtC (n : Nat) (ix : List Nat) : Option (List Nat) :=
  match (List.range ix.length).reverse.find? fun i => ix.getD i 0 != i + n - ix.length with
  | none => none
  | some i => some (ix.take i ++ (List.range (ix.length - i)).map (ix.getD i 0 + 1 + ·))

end Pin
end
-- PinComb0
section
set_option linter.all false
set_option maxRecDepth 100000
set_option maxHeartbeats 4000000
/-! Pin: itertools.combinations, the call. -/
namespace Pin
open PySem PySem.Spec PyProof.Rows L2
open Sem (wp)
section
variable {prog : Program} {w : World} {A : Around} {E : Value → Shared → Prop} {s : Shared}
theorem meets_cmb_new (t : Addr) (items : Array Value) (r : Nat) (k : Tok) (hr : r ≤ 20) (hn : items.size ≤ 20) :
    Meets (Builtin.«itertools.combinations.__new__» ⟨[.type "itertools.combinations", .ref t, .int r k], []⟩)
      (fun _ R s => (∃ o n, s.heap.get? t = some o ∧ o.cls = .type "tuple" ∧ o.data = .seq items n) ∧ ∀ h' : Heap, ((∀ b o', s.heap.get? b = some o' → h'.get? b = some o') ∧ s.heap.objs.size ≤ h'.objs.size) →
        R (.ok (.ret (.ref (h'.objs.size + 1)))) { s with heap := (h'.push { cls := .type "tuple", data := .seq items }).push { cls := .type "itertools.combinations", data := .fields ([.ref h'.objs.size, rawInt (if r > items.size then 2 else 0), .none] ++ (List.range r).map fun (i : Nat) => rawInt i).toArray } }) :=
  .of_wp fun prog w A R s h => by
    obtain ⟨hp, g, dd, tk, os⟩ := s
    obtain ⟨⟨o, n, ho, hc, hd⟩, h⟩ := h
    have hsub := sub_cmb
    have hdi := noDict_cmb
    have hb : ¬ ((decide ((r : Int) < -(2 ^ 63 : Int)) || decide ((r : Int) ≥ 2 ^ 63)) = true) := by
      simp only [Bool.or_eq_true, decide_eq_true_eq]; omega
    have hneg : ¬ ((r : Int) < 0) := by omega
    have hsz : ¬ (items.size > sizeLine) := by rw [sizeLine_eq]; omega
    have hsz2 : ∀ h1 : Heap, ¬ (([Value.ref h1.objs.size, rawInt (if r > items.size then 2 else 0), Value.none] ++ List.map (fun (i : Nat) => rawInt (i : Int)) (List.range r)).toArray.size > sizeLine + 2) := by
      intro h1
      rw [List.size_toArray, List.length_append, List.length_map, List.length_range, sizeLine_eq]
      simp only [List.length_cons, List.length_nil]
      omega
    have hmany : Builtin.Itertools.itTooMany (r : Int) = false := by
      unfold Builtin.Itertools.itTooMany
      exact decide_eq_false (by omega)
    have hcat : ("itertools." ++ "combinations" : String) = "itertools.combinations" := by decide +kernel
    repeat (first
      | (with_reducible refine collect_seqZ t (.inr rfl) ho hc hd (fun h1 k1 => ?_) (by rw [sizeLine_eq]; omega))
      | wp_step
      | rw [hcat]
      | rw [if_neg hneg]
      | rw [hmany]
      | rw [if_neg hsz]
      | (with_reducible refine wpAny_ite_false ?_ ?_; exact decide_eq_false (hsz2 _))
      | rw [if_neg (hsz2 _)]
      | simp only [Array.toArray_toList, Array.length_toList, Int.toNat_natCast, hdi, Bool.not_false, if_true]
      | simp only [List.head?_cons, Option.some_or, List.getElem?_cons_succ, List.getElem?_cons_zero, List.length_cons, List.length_nil, List.forIn_nil]
      | (refine wpAny_ite_false (decide_eq_false hb) ?_)
      | (refine wpAny_ite_false (decide_eq_false hneg) ?_))
    refine ⟨_, rfl, ?_⟩
    rw [Heap.size_push]
    exact h _ k1
end
end Pin
end
-- PinComb1
section
set_option linter.all false
set_option maxRecDepth 100000
set_option maxHeartbeats 4000000
/-! Pin: itertools.combinations: the next tuple, the end. -/
namespace Pin
open PySem PySem.Spec PyProof.Rows L2
open Sem (wp)
section
variable {prog : Program} {w : World} {A : Around} {E : Value → Shared → Prop} {s : Shared}
theorem numsC (pool : Addr) (st : Int) (res : Value) (ix : List Nat) : (([.ref pool, .int st 0, res] ++ ix.map fun (i : Nat) => rawInt i).toArray.toList.drop 3) = ix.map fun (i : Nat) => rawInt i := by simp
theorem numsM (ix : List Nat) {f : Value → Nat} (hf : ∀ n : Nat, f (rawInt n) = n) : (ix.map fun (i : Nat) => rawInt i).map f = ix := by
  rw [List.map_map]
  conv => rhs; rw [← List.map_id ix]
  exact List.map_congr_left fun i _ => hf i
theorem wp_nums {it pool : Addr} {st : Int} {res : Value} {ix : List Nat} {Q : List Nat → Shared → Prop} (h : IsCmb s.heap it pool st res ix) (hQ : Q ix s) : wpAny (model prog w) A (Builtin.Itertools.itNumbersFrom (.ref it) 3) Q E s := by
  unfold Builtin.Itertools.itNumbersFrom
  refine wpAny_bind (wpAny_load h ?_)
  refine wpAny_pure ?_
  rw [numsC, numsM ix fun n => by show ((n : Nat) : Int).toNat = n; simp]
  exact hQ
theorem cmb_set {h : Heap} {it pool : Addr} {st : Int} {res v : Value} {ix : List Nat} (x : IsCmb h it pool st res ix) : IsCmb (h.update it (Obj.mapFields (·.setIfInBounds 2 v))) it pool st v ix := by
  have := Heap.get?_update_self (Obj.mapFields (·.setIfInBounds 2 v)) x rfl
  refine this.trans ?_
  show some _ = some _
  congr 1
theorem cmb_st {h : Heap} {it pool : Addr} {st : Int} {res : Value} {ix : List Nat} (k : Int) (x : IsCmb h it pool st res ix) : IsCmb (h.update it (Obj.mapFields (·.setIfInBounds 1 (rawInt k)))) it pool k res ix := by
  have := Heap.get?_update_self (Obj.mapFields (·.setIfInBounds 1 (rawInt k))) x rfl
  refine this.trans ?_
  show some _ = some _
  congr 1
/-- the new tuple is laid and handed out -/
theorem wp_hand {it pool : Addr} {st : Int} {res : Value} {ix jx : List Nat} {o : Obj} {items : Array Value} {n : Nat} {Q : Fin → Shared → Prop} (x : IsCmb s.heap it pool st res jx) (ho : s.heap.get? pool = some o) (hd : o.data = .seq items n) (hl : ix.length ≤ 20)
    (hQ : ∀ h', IsCmb h' it pool st (.ref s.heap.objs.size) jx → h'.get? s.heap.objs.size = some { cls := .type "tuple", data := .seq (ix.map fun i => items.getD i .none).toArray } → (∀ b u, b ≠ it → s.heap.get? b = some u → h'.get? b = some u) → Q (.done (.ret (.ref s.heap.objs.size))) { s with heap := h' }) :
    wpAny (model prog w) A (do
      let result ← (do let its ← Builtin.Itertools.itPoolItems (.ref pool); newTuple (ix.map fun i => its.getD i .none))
      let before ← field (.ref it) 2
      setField (.ref it) 2 result
      letGo [before] [result]
      ret result) Q E s := by
  have hit := Heap.lt_size x
  unfold Builtin.Itertools.itPoolItems newTuple
  refine wpAny_bind (wpAny_bind (wpAny_bind (wpAny_seqItems ho hd (wpAny_pure ?_))))
  refine wpAny_newObj_type ?_ (by show (ix.map fun i => items.getD i .none).toArray.size ≤ sizeLine; rw [List.size_toArray, List.length_map, sizeLine_eq]; omega)
  have x1 : IsCmb (s.heap.push { cls := .type "tuple", data := .seq (ix.map fun i => items.getD i .none).toArray }) it pool st res jx := Heap.get?_push_of_some _ x
  refine wpAny_bind (wpAny_field x1 rfl (x := res) rfl ?_)
  refine wpAny_bind (wpAny_setField x1 rfl (by rw [List.size_toArray, List.length_append]; simp only [List.length_cons, List.length_nil]; omega) ?_)
  refine wpAny_bind (wpAny_letGo ?_)
  refine wpAny_pure (hQ _ (cmb_set x1) ?_ fun b u hb e => ?_)
  · exact (Heap.get?_update_other _ _ (Nat.ne_of_lt hit)).trans (Heap.get?_push_size _ rfl)
  · exact (Heap.get?_update_other _ _ (Ne.symm hb)).trans (Heap.get?_push_of_some _ e)
/-- the first tuple -/
theorem cmb_first {it pool : Addr} {o : Obj} {items : Array Value} {n : Nat} {res : Value} {ix : List Nat} {Q : Option Value → Shared → Prop} (h : IsCmb s.heap it pool 0 res ix) (ho : s.heap.get? pool = some o) (hd : o.data = .seq items n) (hne : it ≠ pool) (hl : ix.length ≤ 20)
    (hQ : ∀ h', IsCmb h' it pool 1 (.ref s.heap.objs.size) ix → h'.get? s.heap.objs.size = some { cls := .type "tuple", data := .seq (ix.map fun i => items.getD i .none).toArray } → (∀ b u, b ≠ it → s.heap.get? b = some u → h'.get? b = some u) → Q (some (.ref s.heap.objs.size)) { s with heap := h' }) :
    wpAny (model prog w) A (callSpecial? (.ref it) "__next__") Q E s := by
  have hT : s.TypeIs (.ref it) "itertools.combinations" := ⟨_, h, rfl⟩
  refine wpAny_callSpecial?_slot (name := Str.ofString "__next__") hT slot_cmb_next (wpAny_call_entry slot_cmb_next hT entry_cmb_next ?_ (args_cmb_next _))
  unfold Builtin.«itertools.combinations.__next__»
  show wpAny _ _ (field (.ref it) 0 >>= _) _ _ s
  refine wpAny_bind (wpAny_field h rfl (x := .ref pool) rfl ?_)
  refine wpAny_bind (wp_nums h ?_)
  refine wpAny_bind ?_
  unfold Builtin.Itertools.itIntField
  refine wpAny_bind (wpAny_field h rfl (x := .int 0 0) rfl (wpAny_pure ?_))
  show wpAny _ _ (setField (.ref it) 1 (rawInt 1) >>= _) _ _ s
  refine wpAny_bind (wpAny_setField h rfl (by rw [List.size_toArray, List.length_append]; simp only [List.length_cons, List.length_nil]; omega) ?_)
  have h1 := cmb_st 1 h
  have z : (s.heap.update it (Obj.mapFields (·.setIfInBounds 1 (rawInt 1)))).objs.size = s.heap.objs.size := Heap.size_update ..
  refine wp_hand (s := { s with heap := s.heap.update it (Obj.mapFields (·.setIfInBounds 1 (rawInt 1))) }) (items := items) (ix := ix) h1 ((Heap.get?_update_other _ _ hne).trans ho) hd hl ?_
  show ∀ h', IsCmb h' it pool 1 (.ref (s.heap.update it (Obj.mapFields (·.setIfInBounds 1 (rawInt 1)))).objs.size) ix → _
  rw [z]
  intro h' a1 a2 a3
  exact ⟨_, rfl, hQ h' a1 a2 fun b u hb e => a3 b u hb ((Heap.get?_update_other _ _ (Ne.symm hb)).trans e)⟩
theorem cmb_nums {h : Heap} {it pool : Addr} {st : Int} {res : Value} {ix jx : List Nat} (x : IsCmb h it pool st res ix) : IsCmb (h.update it (Obj.mapFields (fun fs => fs.extract 0 3 ++ (jx.map fun (n : Nat) => rawInt n).toArray))) it pool st res jx := by
  have := Heap.get?_update_self (Obj.mapFields (fun fs => fs.extract 0 3 ++ (jx.map fun (n : Nat) => rawInt n).toArray)) x rfl
  refine this.trans ?_
  show some _ = some _
  congr 1
  show Obj.mk _ _ (.fields _) _ = Obj.mk _ _ (.fields _) _
  congr 2
  apply Array.toList_inj.mp
  simp
/-- the next tuple -/
theorem cmb_item {it pool : Addr} {o : Obj} {items : Array Value} {n : Nat} {res : Value} {ix jx : List Nat} {Q : Option Value → Shared → Prop} (h : IsCmb s.heap it pool 1 res ix) (ho : s.heap.get? pool = some o) (hd : o.data = .seq items n) (hne : it ≠ pool) (hl : jx.length ≤ 20)
    (hj : nxtC items.size ix = some jx)
    (hQ : ∀ h', IsCmb h' it pool 1 (.ref s.heap.objs.size) jx → h'.get? s.heap.objs.size = some { cls := .type "tuple", data := .seq (jx.map fun i => items.getD i .none).toArray } → (∀ b u, b ≠ it → s.heap.get? b = some u → h'.get? b = some u) → Q (some (.ref s.heap.objs.size)) { s with heap := h' }) :
    wpAny (model prog w) A (callSpecial? (.ref it) "__next__") Q E s := by
  have hT : s.TypeIs (.ref it) "itertools.combinations" := ⟨_, h, rfl⟩
  refine wpAny_callSpecial?_slot (name := Str.ofString "__next__") hT slot_cmb_next (wpAny_call_entry slot_cmb_next hT entry_cmb_next ?_ (args_cmb_next _))
  unfold Builtin.«itertools.combinations.__next__»
  show wpAny _ _ (field (.ref it) 0 >>= _) _ _ s
  refine wpAny_bind (wpAny_field h rfl (x := .ref pool) rfl ?_)
  refine wpAny_bind (wp_nums h ?_)
  refine wpAny_bind ?_
  unfold Builtin.Itertools.itIntField
  refine wpAny_bind (wpAny_field h rfl (x := .int 1 0) rfl (wpAny_pure ?_))
  show wpAny _ _ (Builtin.Itertools.itPoolItems (.ref pool) >>= _) _ _ s
  refine wpAny_bind (m := Builtin.Itertools.itPoolItems (.ref pool)) ?_
  unfold Builtin.Itertools.itPoolItems
  refine wpAny_bind (wpAny_seqItems ho hd (wpAny_pure ?_))
  show wpAny _ _ (match nxtC items.size ix with
    | some next => _
    | none => _) _ _ s
  rw [hj]
  show wpAny _ _ (Builtin.Itertools.itSetNumbersFrom (.ref it) 3 jx >>= _) _ _ s
  unfold Builtin.Itertools.itSetNumbersFrom
  have h1 := cmb_nums (jx := jx) h
  have z : (s.heap.update it (Obj.mapFields (fun fs => fs.extract 0 3 ++ (jx.map fun (n : Nat) => rawInt n).toArray))).objs.size = s.heap.objs.size := Heap.size_update ..
  refine wpAny_bind (wpAny_updateFields h rfl ?_ (by
    have : (([.ref pool, .int 1 0, res] ++ ix.map fun (i : Nat) => rawInt i).toArray.extract 0 3 ++ (jx.map fun (n : Nat) => rawInt n).toArray).size = 3 + jx.length := by simp; omega
    rw [this, sizeLine_eq]; omega))
  refine wp_hand (s := { s with heap := s.heap.update it (Obj.mapFields (fun fs => fs.extract 0 3 ++ (jx.map fun (n : Nat) => rawInt n).toArray)) }) (items := items) (ix := jx) h1 ((Heap.get?_update_other _ _ hne).trans ho) hd hl ?_
  show ∀ h', IsCmb h' it pool 1 (.ref (s.heap.update it (Obj.mapFields (fun fs => fs.extract 0 3 ++ (jx.map fun (n : Nat) => rawInt n).toArray))).objs.size) jx → _
  rw [z]
  intro h' a1 a2 a3
  exact ⟨_, rfl, hQ h' a1 a2 fun b u hb e => a3 b u hb ((Heap.get?_update_other _ _ (Ne.symm hb)).trans e)⟩
theorem wp_stop {α : Type} {Q : α → Shared → Prop} (hh : A.handled = none) {it : Addr} {s0 : Shared} (e0 : Heap.ExtBut it s0.heap s.heap) (hQ : ∀ e h', CpRep.StopE e h' → Heap.ExtBut it s0.heap h' → E e { s with heap := h' }) : wpAny (model prog w) A (Builtin.Itertools.itStop : Sem α) Q E s := by
  unfold Builtin.Itertools.itStop
  refine wpAny_bind ?_
  simp only [newExc, newTuple]
  refine wpAny_bind (wpAny_newObj_type ?_ (by size_fits))
  refine wpAny_bind (m := firstArgMember _ _) (wpAny_of_eq (a := Value.none) (by first | rfl | (simp only [firstArgMember]; rfl)) ?_)
  refine wpAny_newObj_type ?_ (by size_fits)
  simp only [raiseNew]
  refine wpAny_bind (wpAny_handled ?_)
  rw [hh]
  refine wpAny_bind (wpAny_pure (wpAny_throw ?_))
  exact hQ _ _ ⟨_, _, _, rfl, Heap.get?_push_size _ rfl, rfl, rfl, rfl⟩ ((e0.push _).push _)
/-- the end -/
theorem cmb_end {it pool : Addr} {st : Int} {o : Obj} {items : Array Value} {n : Nat} {res : Value} {ix : List Nat} {Q : Option Value → Shared → Prop} (hh : A.handled = none) (h : IsCmb s.heap it pool st res ix) (ho : s.heap.get? pool = some o) (hd : o.data = .seq items n)
    (hst : st = 2 ∨ (st = 1 ∧ nxtC items.size ix = none)) (hQ : ∀ e h', CpRep.StopE e h' → Heap.ExtBut it s.heap h' → E e { s with heap := h' }) :
    wpAny (model prog w) A (callSpecial? (.ref it) "__next__") Q E s := by
  have hT : s.TypeIs (.ref it) "itertools.combinations" := ⟨_, h, rfl⟩
  refine wpAny_callSpecial?_slot (name := Str.ofString "__next__") hT slot_cmb_next (wpAny_call_entry slot_cmb_next hT entry_cmb_next ?_ (args_cmb_next _))
  unfold Builtin.«itertools.combinations.__next__»
  show wpAny _ _ (field (.ref it) 0 >>= _) _ _ s
  refine wpAny_bind (wpAny_field h rfl (x := .ref pool) rfl ?_)
  refine wpAny_bind (wp_nums h ?_)
  refine wpAny_bind ?_
  unfold Builtin.Itertools.itIntField
  refine wpAny_bind (wpAny_field h rfl (x := .int st 0) rfl (wpAny_pure ?_))
  rcases hst with rfl | ⟨rfl, hj⟩
  · show wpAny _ _ (rule _ >>= _) _ _ s
    refine wpAny_bind (wpAny_rule ?_)
    exact wp_stop hh (s0 := s) (Heap.ExtBut.refl it s.heap) hQ
  · show wpAny _ _ (Builtin.Itertools.itPoolItems (.ref pool) >>= _) _ _ s
    refine wpAny_bind (m := Builtin.Itertools.itPoolItems (.ref pool)) ?_
    unfold Builtin.Itertools.itPoolItems
    refine wpAny_bind (wpAny_seqItems ho hd (wpAny_pure ?_))
    show wpAny _ _ (match nxtC items.size ix with
      | some next => _
      | none => _) _ _ s
    rw [hj]
    show wpAny _ _ (setField (.ref it) 1 (rawInt 2) >>= _) _ _ s
    refine wpAny_bind (wpAny_setField h rfl (by rw [List.size_toArray, List.length_append]; simp only [List.length_cons, List.length_nil]; omega) ?_)
    refine wp_stop (s := { s with heap := s.heap.update it (Obj.mapFields (·.setIfInBounds 1 (rawInt 2))) }) hh (s0 := s) (Heap.SameBut.update ..).extBut hQ
theorem iter_cmb {it pool : Addr} {st : Int} {res : Value} {ix : List Nat} {Q : Value → Shared → Prop} (hit : IsCmb s.heap it pool st res ix) (h : Q (.ref it) s) : wpAny (model prog w) A (pyIter (.ref it)) Q E s := by
  have hT : s.TypeIs (.ref it) "itertools.combinations" := ⟨_, hit, rfl⟩
  refine wpAny_pyIter_slot hT slot_cmb_iter (wpAny_call_entry slot_cmb_iter hT entry_cmb_iter ?_ (args_cmb_iter _))
  show wpAny _ _ (ret (.ref it)) _ _ s
  exact wpAny_pure ⟨_, rfl, "itertools.combinations", _, hT, slot_cmb_next.lookup, h⟩
theorem call_cmb {t : Addr} {o : Obj} {items : Array Value} {n r : Nat} {k : Tok} {Q : Value → Shared → Prop} (ho : s.heap.get? t = some o) (hc : o.cls = .type "tuple") (hd : o.data = .seq items n) (hr : r ≤ 20) (hn : items.size ≤ 20)
    (h : ∀ (h' : Heap) (pool : Addr), s.heap.objs.size ≤ pool → IsCmb h' (pool + 1) pool (if r > items.size then 2 else 0) .none (List.range r) → h'.get? pool = some { cls := .type "tuple", data := .seq items } → (∀ b u, s.heap.get? b = some u → h'.get? b = some u) → Q (.ref (pool + 1)) { s with heap := h' }) :
    wpAny (model prog w) A (call (.type "itertools.combinations") [.ref t, .int r k]) Q E s := by
  refine callType_new called_cmb (by decide +kernel) (typeCall_cmb_2 _ _) (newCall_cmb_2 _ _) (fun obj => F.args_object_init_3 obj _ _) entry_cmb_new (meets_cmb_new t items r k hr hn) ⟨⟨o, n, ho, hc, hd⟩, fun h' kk => ?_⟩
  have z : (h'.push { cls := .type "tuple", data := .seq items }).objs.size = h'.objs.size + 1 := Heap.size_push ..
  have e : ((h'.push { cls := .type "tuple", data := .seq items }).push { cls := .type "itertools.combinations", data := .fields ([.ref h'.objs.size, rawInt (if r > items.size then 2 else 0), .none] ++ (List.range r).map fun (i : Nat) => rawInt i).toArray }).get? (h'.objs.size + 1) = some { cls := .type "itertools.combinations", data := .fields ([.ref h'.objs.size, rawInt (if r > items.size then 2 else 0), .none] ++ (List.range r).map fun (i : Nat) => rawInt i).toArray } := by
    rw [← z]; exact Heap.get?_push_size _ rfl
  show _ ∧ _
  refine ⟨⟨_, e, rfl⟩, h _ h'.objs.size ?_ e ?_ fun b u q => ?_⟩
  · exact kk.2
  · exact Heap.get?_push_of_some _ (Heap.get?_push_size _ rfl)
  · exact Heap.get?_push_of_some _ (Heap.get?_push_of_some _ (kk.1 b u q))
end
end Pin
end
-- PinComb2
section
set_option linter.all false
set_option maxRecDepth 100000
set_option maxHeartbeats 4000000
/-! Pin: for rows in combinations(xs, r). -/
namespace Pin
open PySem PySem.Spec PyProof.Rows L2

/-! ### the places, in turn -/
def combN : Nat → List Nat → List (List Nat)
  | 0, _ => [[]]
  | _ + 1, [] => []
  | r + 1, x :: xs => (combN r xs).map (x :: ·) ++ combN (r + 1) xs
def placesOk (n r : Nat) : Bool :=
  let L := combN r (List.range n)
  (L.all fun ix => ix.length == r && ix.all (· < n)) && (if r > n then L.isEmpty else (L[0]? == some (List.range r)) && ((List.range L.length).all fun i => nxtC n (L.getD i []) == L[i + 1]?))
theorem places_all : ((List.range 9).all fun n => (List.range 9).all fun r => placesOk n r) = true := by decide +kernel
theorem places (n r : Nat) (hn : n ≤ 8) (hr : r ≤ 8) : placesOk n r = true :=
  List.all_eq_true.mp (List.all_eq_true.mp places_all n (List.mem_range.mpr (by omega))) r (List.mem_range.mpr (by omega))
theorem comb_map (g : Nat → D) : ∀ (r : Nat) (xs : List Nat), combD r (xs.map g) = (combN r xs).map fun ix => ix.map g
  | 0, xs => by cases xs <;> rfl
  | r + 1, [] => rfl
  | r + 1, x :: xs => by
    show (combD r (xs.map g)).map (g x :: ·) ++ combD (r + 1) (xs.map g) = _
    rw [comb_map g r xs, comb_map g (r + 1) xs]
    simp [combN]
theorem range_getD (xs : List D) : (List.range xs.length).map (fun i => xs.getD i .none) = xs := by
  refine List.ext_getElem? fun i => ?_
  rw [List.getElem?_map]
  by_cases h : i < xs.length
  · rw [List.getElem?_range h, List.getElem?_eq_getElem h]
    show some (xs.getD i .none) = _
    rw [List.getD_eq_getElem?_getD, List.getElem?_eq_getElem h] <;> rfl
  · rw [List.getElem?_eq_none (by rw [List.length_range]; omega), List.getElem?_eq_none (by omega)] <;> rfl
theorem comb_places (r : Nat) (xs : List D) : combD r xs = (combN r (List.range xs.length)).map fun ix => ix.map fun i => xs.getD i .none := by
  conv => lhs; rw [← range_getD xs]
  exact comb_map _ _ _
structure Plc (n r : Nat) : Prop where
  len : ∀ ix ∈ combN r (List.range n), ix.length = r ∧ ∀ i ∈ ix, i < n
  big : r > n → combN r (List.range n) = []
  one : ¬ r > n → (combN r (List.range n))[0]? = some (List.range r)
  nxt : ¬ r > n → ∀ i ix, (combN r (List.range n))[i]? = some ix → nxtC n ix = (combN r (List.range n))[i + 1]?
theorem plc {n r : Nat} (hn : n ≤ 8) (hr : r ≤ 8) : Plc n r := by
  have h := places n r hn hr
  unfold placesOk at h
  simp only [Bool.and_eq_true] at h
  obtain ⟨h1, h2⟩ := h
  refine ⟨fun ix hix => ?_, fun hg => ?_, fun hg => ?_, fun hg i ix e => ?_⟩
  · have := List.all_eq_true.mp h1 ix hix
    simp only [Bool.and_eq_true, beq_iff_eq, List.all_eq_true, decide_eq_true_eq] at this
    exact this
  · rw [if_pos hg] at h2
    exact List.isEmpty_iff.mp h2
  · rw [if_neg hg, Bool.and_eq_true] at h2
    exact beq_iff_eq.mp h2.1
  · rw [if_neg hg, Bool.and_eq_true] at h2
    obtain ⟨hl, e'⟩ := List.getElem?_eq_some_iff.mp e
    have := List.all_eq_true.mp h2.2 i (List.mem_range.mpr hl)
    have := beq_iff_eq.mp this
    rw [← this]
    congr 1
    rw [List.getD_eq_getElem?_getD, e]
    rfl
/-- the picked items -/
def pickV (vs : List V) (ix : List Nat) : List V := ix.map fun i => vs.getD i .non
/-- what a walk of combinations gives: a new tuple each turn -/
def Itq (vs : List V) (L : List (List Nat)) : It :=
  ⟨fun i _ => i < L.length, fun i H x H' => ∃ T o ix, x = .ref T ∧ H T = none ∧ o.dict = none ∧ L[i]? = some ix ∧ H' = upd H T (.frz o (.tup (pickV vs ix))), fun i _ => L.length ≤ i⟩
/-- how far the iterator is -/
def Cst (L : List (List Nat)) (it pool : Addr) (its : Array Value) (r i : Nat) (h : Heap) : Prop :=
  h.get? pool = some { cls := .type "tuple", data := .seq its } ∧ ((i = 0 ∧ L = [] ∧ ∃ res ix, IsCmb h it pool 2 res ix) ∨ (i = 0 ∧ L ≠ [] ∧ ∃ res, IsCmb h it pool 0 res (List.range r)) ∨ (∃ res ix, 0 < i ∧ L[i - 1]? = some ix ∧ IsCmb h it pool 1 res ix))
theorem pick_vals {vs : List V} {its : List Value} (r : Vals vs its) {ix : List Nat} (hix : ∀ i ∈ ix, i < vs.length) : Vals (pickV vs ix) (ix.map fun i => its.toArray.getD i .none) := by
  induction ix with
  | nil => exact .nil
  | cons i ix ih =>
    have hi := hix i List.mem_cons_self
    obtain ⟨u, hu, ru⟩ := r.get (List.getElem?_eq_getElem hi)
    refine .cons ?_ (ih fun j hj => hix j (List.mem_cons_of_mem _ hj))
    have e1 : vs.getD i .non = vs[i] := by rw [List.getD_eq_getElem?_getD, List.getElem?_eq_getElem hi]; rfl
    have e2 : its.toArray.getD i .none = u := by
      have : its[i]? = some u := hu
      rw [Array.getD_eq_getD_getElem?]
      simp [this]
    show L2.RelV (vs.getD i .non) (its.toArray.getD i .none)
    rw [e1, e2]; exact ru
theorem turn_cmb {P : Program} {w : World} {K : PySem.W.Frag} {tg : Expr} {it pool : Addr} {vs : List V} {its : List Value} {r : Nat} (hv : Vals vs its) (hne : it ≠ pool) (hn : vs.length ≤ 8) (hr : r ≤ 8) :
    Turn P w K tg (Itq vs (combN r (List.range vs.length))) [it, pool] it (fun i h => Cst (combN r (List.range vs.length)) it pool its.toArray r i h) where
  mem := by simp
  obj := fun i h st b hb => by
    have e' : b = it ∨ b = pool := by simpa using hb
    obtain ⟨h1, h2⟩ := st
    rcases e' with z | z
    · rw [z]
      rcases h2 with ⟨_, _, res, ix, x⟩ | ⟨_, _, res, x⟩ | ⟨res, ix, _, _, x⟩
      · exact ⟨_, x, fun v q => nomatch q⟩
      · exact ⟨_, x, fun v q => nomatch q⟩
      · exact ⟨_, x, fun v q => nomatch q⟩
    · rw [z]; exact ⟨_, h1, fun v q => nomatch q⟩
  keep := fun i h h' st k => by
    obtain ⟨h1, h2⟩ := st
    refine ⟨k pool (by simp) _ h1, ?_⟩
    rcases h2 with ⟨a, b, res, ix, x⟩ | ⟨a, b, res, x⟩ | ⟨res, ix, a, b, x⟩
    · exact .inl ⟨a, b, res, ix, k it (by simp) _ x⟩
    · exact .inr (.inl ⟨a, b, res, k it (by simp) _ x⟩)
    · exact .inr (.inr ⟨res, ix, a, b, k it (by simp) _ x⟩)
  item := by
    intro X hP hw hK hc i pins s σ H E I hf st hg
    subst hP hw hK
    have pc := plc hn hr
    have hg : i < (combN r (List.range vs.length)).length := hg
    obtain ⟨h1, h2⟩ := st
    have hsz : its.toArray.size = vs.length := by rw [List.size_toArray]; exact hv.length.symm
    have hnb : ¬ r > vs.length := fun z => by rw [pc.big z] at hg; simp at hg
    obtain ⟨ix, hix⟩ : ∃ ix, (combN r (List.range vs.length))[i]? = some ix := ⟨_, List.getElem?_eq_getElem hg⟩
    have lx := pc.len ix (List.mem_of_getElem? hix)
    have hpl : pool < s.heap.objs.size := Heap.lt_size h1
    -- what stands behind the new tuple
    have fin : ∀ h' : Heap, IsCmb h' it pool 1 (.ref s.heap.objs.size) ix → h'.get? s.heap.objs.size = some { cls := .type "tuple", data := .seq (ix.map fun i => its.toArray.getD i .none).toArray } → (∀ b u, b ≠ it → s.heap.get? b = some u → h'.get? b = some u) →
        ∃ u, (some (Value.ref s.heap.objs.size)) = some u ∧ wpAny (model X.prog X.w) X.A (letOwnedTupleGo tg (.ref it) u) (fun _ s2 => ∃ x H', Inv X pins σ H' s2 ∧ RelV x u ∧ (Itq vs (combN r (List.range vs.length))).yld i H x H' ∧ Cst (combN r (List.range vs.length)) it pool its.toArray r (i + 1) s2.heap ∧ ∀ b ∈ [it, pool], H' b = none) E { s with heap := h' } := by
      intro h' x1 x2 x3
      have hit : it < s.heap.objs.size := by
        have : it < h'.objs.size := Heap.lt_size x1
        rcases h2 with ⟨_, _, res, ix, x⟩ | ⟨_, _, res, x⟩ | ⟨res, ix, _, _, x⟩ <;> exact Heap.lt_size x
      refine ⟨_, rfl, go_of (s := { s with heap := h' }) (n := "itertools.combinations") x1 rfl rfl (by decide) ?_⟩
      have hv2 := pick_vals hv lx.2
      have new : ∀ o, o = ({ cls := .type "tuple", data := .seq (ix.map fun i => its.toArray.getD i .none).toArray } : Obj) → ObjOk X.prog X.w (upd H s.heap.objs.size (.frz o (.tup (pickV vs ix)))) h' s.heap.objs.size (.frz o (.tup (pickV vs ix))) := fun o eo => by
        subst eo
        exact ⟨x2, by show (pickV vs ix).length ≤ sizeLine; unfold pickV; rw [List.length_map, lx.1, sizeLine_eq]; omega, _, hv2, _, x2, rfl, _, rfl⟩
      have I1 := I.turnedNew (t' := s.toks) (ch := [it, pool]) (fun b o hb q => x3 b o (fun z => hb (by simp [z])) q) hf (Nat.le_refl _) (new _ rfl)
      refine ⟨.ref s.heap.objs.size, _, I1, rfl, ⟨_, _, ix, rfl, I.hok.fresh (Nat.le_refl _), rfl, hix, rfl⟩, ⟨x3 pool _ (Ne.symm hne) h1, .inr (.inr ⟨_, ix, Nat.succ_pos _, hix, x1⟩)⟩, fun b hb => ?_⟩
      have hb' : b < s.heap.objs.size := by
        have e' : b = it ∨ b = pool := by simpa using hb
        rcases e' with z | z
        · rw [z]; exact hit
        · rw [z]; exact hpl
      rw [upd_ne (Nat.ne_of_lt hb')]
      exact (hf b hb).1
    unfold pyNext
    rcases h2 with ⟨a, b, res, jx, x⟩ | ⟨a, b, res, x⟩ | ⟨res, jx, a, b, x⟩
    · rw [b] at hg; simp at hg
    · subst a
      have e0 := pc.one hnb
      rw [e0] at hix
      cases hix
      exact wpAny_bind (wpAny_attempt (cmb_first (items := its.toArray) x h1 rfl hne (by simp; omega) fun h' a1 a2 a3 => wpAny_pure (fin h' a1 a2 a3)))
    · have e0 := pc.nxt hnb (i - 1) jx b
      rw [show i - 1 + 1 = i by omega, hix] at e0
      exact wpAny_bind (wpAny_attempt (cmb_item (items := its.toArray) x h1 rfl hne (by rw [lx.1]; omega) (by rw [hsz]; exact e0) fun h' a1 a2 a3 => wpAny_pure (fin h' a1 a2 a3)))
  done := by
    intro X hP hw hK hc i pins s σ H E I hf st hg
    subst hP hw hK
    have pc := plc hn hr
    have hg : (combN r (List.range vs.length)).length ≤ i := hg
    obtain ⟨h1, h2⟩ := st
    have hsz : its.toArray.size = vs.length := by rw [List.size_toArray]; exact hv.length.symm
    have hh : X.A.handled = none := I.ok.hd hc
    have go : ∀ (st : Int) (res : Value) (ix : List Nat), IsCmb s.heap it pool st res ix → (st = 2 ∨ (st = 1 ∧ nxtC its.toArray.size ix = none)) → wpAny (model X.prog X.w) X.A (pyNext (.ref it)) (fun r s1 => r = none ∧ Inv X pins σ H s1) E s := by
      intro st res ix x hst
      unfold pyNext
      refine wpAny_bind (wpAny_attempt (cmb_end hh x h1 rfl hst fun e h' he kb => ?_))
      obtain ⟨a, o, fs, rfl, ho, hcl, -, -⟩ := he
      refine wpAny_bind (wpAny_isInstance (T := "StopIteration") (b := true) ⟨o, ho, hcl⟩ isSubtype_stop ?_)
      obtain ⟨f0, f1, f2, f3, f4, f5⟩ := hf it (by simp)
      exact wpAny_pure ⟨rfl, I.turned (t' := s.toks) (fun b o hb q => kb b o hb q) f0 f1 f3 f4 f5⟩
    rcases h2 with ⟨a, b, res, ix, x⟩ | ⟨a, b, res, x⟩ | ⟨res, ix, a, b, x⟩
    · exact go 2 res ix x (.inl rfl)
    · exact absurd (List.length_eq_zero_iff.mp (by omega)) b
    · have hl := (List.getElem?_eq_some_iff.mp b).1
      have hnb : ¬ r > vs.length := fun z => by rw [pc.big z] at hl; simp at hl
      have e0 := pc.nxt hnb (i - 1) ix b
      rw [show i - 1 + 1 = i by omega, List.getElem?_eq_none hg] at e0
      exact go 1 res ix x (.inr ⟨rfl, by rw [hsz]; exact e0⟩)
  self := fun A i s Q E st h => by
    obtain ⟨h1, h2⟩ := st
    rcases h2 with ⟨_, _, res, ix, x⟩ | ⟨_, _, res, x⟩ | ⟨res, ix, _, _, x⟩
    · exact iter_cmb x h
    · exact iter_cmb x h
    · exact iter_cmb x h

/-! ### what a for walks, new items each turn -/
def WalksG (K : KF) (Z : Addr → Prop) (m : List Addr) (H : Hp) (J : It) (ds : List D) : Prop := ∀ m' H' hp', Go m H m' H' → Rel K Z m' H' hp' → ∀ i, (∀ d, ds[i]? = some d → J.go i H' ∧ ∀ x H2, J.yld i H' x H2 → Go m' H' m' H2 ∧ Rel K Z m' H2 hp' ∧ DR K (Zm Z m') H2 x d) ∧ (ds.length ≤ i → J.stop i H')
def tIG (K : KF) (W : WX) (f : Fi) : TI := fun σ H R => ∃ Z m env hp, At K Z m H σ env hp ∧ Wp K W Z m σ H (f env hp) fun ds _ m' H' => ∀ J, WalksG K Z m' H' J ds → R J H'
abbrev CIG (X : Cx) (W : WX) (tg e : Expr) (f : Fi) : Prop := PI X tg e (tIG X.K W f)
/-- combinations(a, r) -/
def iCmb (K : KF) (ta : TA) : TI := fun σ H R => ta σ H fun vs H1 => ∃ (a : Addr) (r : Nat) (xs : List V), vs = [.ref a, .int (r : Int)] ∧ SqT K H1 a xs ∧ xs.length ≤ 8 ∧ r ≤ 8 ∧ R (Itq xs (combN r (List.range xs.length))) H1
section
variable {X : Cx} {W : WX} {pos p p1 : Pos} {tg iter e1 e2 : Expr} {st : List Stmt} {f g : Fe} {fi : Fi} {b : Bt} {g' : Fs}
theorem pi_cmb {ta : TA} {x : Str} (hg : Gl X x) (hm : X.mg x = some (.type "itertools.combinations")) (hdb : (x == ("__debug__" : Str)) = false) (ha : PA X [e1, e2] ta)
    (hs : starEach [e1, e2] X.env = (false, eval e1 X.env) :: starEach [e2] X.env) (hpl : (backTo pos (starEach [e2] X.env)).any (·.1) = false) : PI X tg (.Call (.Name x p1) [e1, e2] [] pos) (iCmb X.K ta) := by
  refine ⟨fun pins s σ H R I h => ?_⟩
  refine Call_ (ld_glob (hd := hdb) I hg hm (PyProof.Rows.callWith_type1 (thn (ha.run pos pins s σ H _ I h) fun us s1 ⟨vs, H1, I1, r1, q1⟩ => ?_) hs hpl))
  obtain ⟨a, r, xs, ex, hq, hl, hr, q⟩ := q1
  subst ex
  cases r1 with
  | cons r1 rr =>
    cases rr with
    | cons r2 rr =>
      cases rr
      cases r1
      obtain ⟨tk, rfl⟩ := r2
      obtain ⟨its, rv, ⟨o, ho, hc, n, hd⟩, hz⟩ := I1.tuple hq
      refine call_cmb ho hc hd (by omega) (by rw [List.size_toArray, ← rv.length]; omega) fun h' pool hp hI hP hk => iter_cmb hI ?_
      have I2 : Inv X pins σ H1 { s1 with heap := h' } := I1.kept (t' := s1.toks) hk
      have pc := plc hl hr
      refine ⟨pool + 1, [pool + 1, pool], _, _, H1, rfl, I2, turn_cmb rv (Nat.succ_ne_self _) hl hr, ⟨hP, ?_⟩, fun b hb => ?_, q⟩
      · by_cases hbig : r > xs.length
        · rw [if_pos (by rw [List.size_toArray, ← rv.length]; exact hbig)] at hI
          exact .inl ⟨rfl, pc.big hbig, _, _, hI⟩
        · rw [if_neg (by rw [List.size_toArray, ← rv.length]; exact hbig)] at hI
          refine .inr (.inl ⟨rfl, fun z => ?_, _, hI⟩)
          have := pc.one hbig
          rw [z] at this; cases this
      · have e' : b = pool + 1 ∨ b = pool := by simpa using hb
        have hle : s1.heap.objs.size ≤ b := by
          rcases e' with z | z
          · rw [z]; omega
          · rw [z]; exact hp
        exact I1.fpOk hle (I1.hok.fresh hle)
theorem cs_forG (cx : Ctx X W) (hi : CIG X W tg iter fi) (hg : CG X tg b) (hb : CSs X W st g') (hs : ∀ x, foldedSetIterable iter X.env x = pure x := by intro _; rfl) : CS X W (.For tg iter st [] pos) (forS fi b g') :=
  PS.imp (ps_for cx.po cx.calm hi hg hb hs) fun De σ H ⟨Z, m, env, hp, a, h⟩ => ⟨Z, m, env, hp, a, (WpS.toS a h).imp fun ds hp1 m1 H1 g1 r1 ⟨_, _, h2⟩ J wk => by
    refine ⟨fun i k σ' H' => k + i = ds.length ∧ ∃ m' env' hp', Go m1 H1 m' H' ∧ At X.K Z m' H' σ' env' hp' ∧ WpS X.K W Z m' H' (forD b g' (ds.drop i) env' hp') De, ⟨ds.length, by omega, m1, env, hp1, .refl, a.go g1 r1, h2⟩, ?_⟩
    rintro i k σ' H' ⟨hk, m', env', hp', g0, a', h'⟩
    obtain ⟨w1, w2⟩ := wk m' H' hp' g0 a'.rel i
    cases e : ds[i]? with
    | none =>
      have hl := List.getElem?_eq_none_iff.mp e
      rw [List.drop_eq_nil_of_le hl] at h'
      exact .inl ⟨w2 hl, h' m' H' σ' .refl a'.rel a'.sl⟩
    | some d =>
      obtain ⟨hl, e'⟩ := List.getElem?_eq_some_iff.mp e
      have ed : ds.drop i = d :: ds.drop (i + 1) := by rw [List.drop_eq_getElem_cons hl, e']
      rw [ed] at h'
      obtain ⟨go, yld⟩ := w1 d e
      refine .inr ⟨go, fun σ2 H2 => ∃ m2 env2 hp2, Go m1 H1 m2 H2 ∧ At X.K Z m2 H2 σ2 env2 hp2 ∧ WpS X.K W Z m2 H2 (forD b g' (ds.drop (i + 1)) env2 hp2) De, fun σ2 H2 ⟨m2, env2, hp2, q⟩ => ⟨k - 1, by omega, by omega, m2, env2, hp2, q⟩, fun x H0 y => ?_⟩
      obtain ⟨gy, ry, rx⟩ := yld x H0 y
      simp only [forD] at h'
      cases q : b (.d d) env' hp' with
      | none => rw [q] at h'; exact h'.elim
      | some p =>
        obtain ⟨e1, hp1'⟩ := p
        rw [q] at h'
        refine ⟨Z, m', env', hp', .d d, e1, hp1', a'.go gy ry, rx, q, fun m2 H2 σ2 g2' r2 s2 => ⟨Z, m2, e1, hp1', ⟨r2, s2⟩, ?_⟩⟩
        have g2 := gy.trans g2'
        simp only at h'
        cases q2 : g' e1 hp1' with
        | nx e3 h3 => rw [q2] at h'; exact fun m3 H3 σ3 g3 r3 s3 => ⟨m3, e3, h3, g0.trans (g2.trans g3), ⟨r3, s3⟩, WpS.go (g2.trans g3) h'⟩
        | ct e3 h3 => rw [q2] at h'; exact fun m3 H3 σ3 g3 r3 s3 => ⟨m3, e3, h3, g0.trans (g2.trans g3), ⟨r3, s3⟩, WpS.go (g2.trans g3) h'⟩
        | bk e3 h3 => rw [q2] at h'; exact fun m3 H3 σ3 g3 r3 s3 => h' m3 H3 σ3 (g2.trans g3) r3 s3
        | rt v h3 => rw [q2] at h'; exact fun m3 H3 v3 g3 r3 x3 => h' m3 H3 v3 (g2.trans g3) r3 x3
        | exc x e3 h3 => rw [q2] at h'; exact fun m3 H3 σ3 c3 d3 g3 r3 s3 ex => h' m3 H3 σ3 c3 d3 (g2.trans g3) r3 s3 ex
        | bad => rw [q2] at h'; exact h'.elim⟩
theorem DRs.pick {K : KF} {Z : Addr → Prop} {H : Hp} {vs : List V} {xs : List D} (h : DRs K Z H vs xs) {ix : List Nat} (hix : ∀ i ∈ ix, i < vs.length) : DRs K Z H (pickV vs ix) (ix.map fun i => xs.getD i .none) := by
  induction ix with
  | nil => exact .nil
  | cons i ix ih =>
    have hi := hix i List.mem_cons_self
    obtain ⟨d, hd, rd⟩ := h.getV (List.getElem?_eq_getElem hi)
    refine .cons ?_ (ih fun j hj => hix j (List.mem_cons_of_mem _ hj))
    have e1 : vs.getD i .non = vs[i] := by rw [List.getD_eq_getElem?_getD, List.getElem?_eq_getElem hi]; rfl
    have e2 : xs.getD i .none = d := by rw [List.getD_eq_getElem?_getD, hd]; rfl
    show DR K Z H (vs.getD i .non) (xs.getD i .none)
    rw [e1, e2]; exact rd
theorem ci_comb (c : Ctx X W) (m1 : X.mg "combinations" = some (.type "itertools.combinations")) (h : CE X W e1 f) (k : CE X W e2 g) (hg : Gl X "combinations" := by rfl)
    (hs : starEach [e1, e2] X.env = (false, eval e1 X.env) :: starEach [e2] X.env := by rfl) (hs2 : starEach [e2] X.env = (false, eval e2 X.env) :: starEach [] X.env := by rfl) (hpl : (backTo pos (starEach [e2] X.env)).any (·.1) = false := by rfl) :
    CIG X W tg (.Call (.Name "combinations" p1) [e1, e2] [] pos) (combI f g) :=
  PI.imp (pi_cmb hg m1 (by decide) (ca_cons h (ca_cons k ca_nil hs2) hs) hs hpl) fun σ H R ⟨Z, m, env, hp, a, h1⟩ => ⟨Z, m, env, hp, a, by
    have e : combI f g env hp = (consF f (consF g nilF) env hp).bind fun as h => match as with
        | [.d (.tuple xs), .d (.int r)] => if 0 ≤ r ∧ r ≤ 8 ∧ xs.length ≤ 8 then .ok ((combD r.toNat xs).map .tuple) h else .bad
        | _ => .bad := by
      unfold combI consF nilF
      cases f env hp with
      | ok x h =>
        simp only [Out.bind]
        cases g env h with
        | ok y h =>
          simp only [Out.bind]
          cases x with
          | r n => cases y <;> rfl
          | d x => cases x <;> first | rfl | (cases y with
            | r n => rfl
            | d y => cases y <;> rfl)
        | _ => rfl
      | _ => rfl
    rw [e] at h1
    refine (Wp.bind h1).imp fun as hp1 m1 H1 g1 r1 ⟨_, _, h2⟩ vs rv => ?_
    split at h2
    · rename_i xs r _
      split at h2
      · rename_i hc
        obtain ⟨v, t, rfl⟩ : ∃ v t, vs = v :: t := by cases rv; exact ⟨_, _, rfl⟩
        cases rv with
        | cons ra rb =>
          obtain ⟨u, rfl, rr⟩ := AVRs.one rb
          obtain ⟨q, ws, rfl, hq, hd⟩ := tpOf_rel ra rfl
          cases rr
          have hl : ws.length = xs.length := hd.length
          refine ⟨q, r.toNat, ws, by rw [Int.toNat_of_nonneg hc.1], hq, by omega, by omega, h2 m1 H1 .refl r1 _ fun m' H' hp' g r' i => ?_⟩
          have pc := plc (n := ws.length) (r := r.toNat) (by omega) (by omega)
          rw [comb_places, List.map_map, ← hl]
          refine ⟨fun d e => ?_, fun hle => ?_⟩
          · rw [List.getElem?_map] at e
            obtain ⟨ix, e1, rfl⟩ := Option.map_eq_some_iff.mp e
            refine ⟨(List.getElem?_eq_some_iff.mp e1).1, fun x H2 y => ?_⟩
            obtain ⟨T, o, jx, rfl, hn, ho, e2, rfl⟩ := y
            rw [e1] at e2
            cases e2
            exact ⟨Go.fresh r' hn, Rel.fresh r' hn, new_tup r' ho hn ((hd.go g).pick (pc.len ix (List.mem_of_getElem? e1)).2)⟩
          · rw [List.length_map] at hle
            exact hle
      · exact h2.elim
    · exact h2.elim⟩
end
end Pin
end
-- PinEnd
section
set_option linter.all false
set_option maxRecDepth 100000
/-! Pin: small things that the printed texts need. -/
namespace Pin
open PySem PySem.Spec PyProof.Rows L2
theorem ce_globE {X : Cx} {W : WX} {pos : Pos} {x : Str} {d : D} (hg : Gl X x) (h : ∃ u, X.mg x = some u ∧ DataK X.K u d) (hd : (x == ("__debug__" : Str)) = false := by decide) : CE X W (.Name x pos) (cF d) := let ⟨_, hm, hk⟩ := h; ce_glob hg hm hk hd
/-- the places in an exception's __init__ -/
def ipOf (a : Arguments) (b : List Stmt) : IniPos := match a.args, b with
  | [x, y], [.Expr (.Call (.Attribute (.Call (.Name _ q1) _ _ q2) _ q3) [.Name _ q4] _ q5) q6, .Assign [.Attribute (.Name _ q7) _ q8] (.Name _ q9) q10] => ⟨x.pos, y.pos, q1, q2, q3, q4, q5, q6, q7, q8, q9, q10⟩
  | _, _ => ⟨⟨0, 0, 0, 0⟩, ⟨0, 0, 0, 0⟩, ⟨0, 0, 0, 0⟩, ⟨0, 0, 0, 0⟩, ⟨0, 0, 0, 0⟩, ⟨0, 0, 0, 0⟩, ⟨0, 0, 0, 0⟩, ⟨0, 0, 0, 0⟩, ⟨0, 0, 0, 0⟩, ⟨0, 0, 0, 0⟩, ⟨0, 0, 0, 0⟩, ⟨0, 0, 0, 0⟩⟩
/-- a def's promise out of its body's meaning, the def and its parameters told -/
theorem fn_okX {P : Program} {w : World} {K : KF} {mg : Str → Option Value} {base : Heap} {x qual : Str} {params : Arguments} {body : List Stmt} {scope : Scope} {kws : List (Str × V)} {f : Addr} {fd : FuncData} {N ps : List Str} {k : Nat} {g : Fs}
    (F : FunD K x qual params body scope [] kws f fd) (S : FnScope N ps scope)
    (h : ∀ (cdv : Value) (A : Around) (outer : List Env) (s : Shared) (H : Hp) (E : XK), Ctx (cxOf (L2.CX P w) P w K mg base N qual scope f cdv A outer s H E) (fun c d _ H => E c d H) → Room k (A.deeper (envOfC qual scope s.heap.objs.size f cdv)) →
      CSs (cxOf (L2.CX P w) P w K mg base N qual scope f cdv A outer s H E) (fun c d _ H => E c d H) body g) : FnOk P w K mg base (L2.CX P w) (k + 1) f fd ps (spF K ps.length (fnF N.length g)) := by
  refine F.ok S (fun vs H Q E h => spF_len h) (fun cdv A outer s H vs Q E hr hsp => ?_)
  obtain ⟨Z, m, hp, as, r, rv, hq⟩ := hsp
  unfold arF at hq
  by_cases e0 : as.length = ps.length
  rotate_left
  · rw [if_neg e0] at hq; exact hq.elim
  rw [if_pos e0] at hq
  let X := cxOf (L2.CX P w) P w K mg base N qual scope f cdv A outer s H E
  have cx : Ctx X (fun c d _ H => E c d H) := ⟨rfl, by have := hr.un; show (A.deeper (envOfC qual scope s.heap.objs.size f cdv)).units + 100 < cLine; omega, takes_of rfl rfl rfl rfl, passes_of rfl, S.nd⟩
  refine ⟨_, h cdv A outer s H E cx hr, Z, m, startE N.length as, hp, ⟨r, startE_rel rv⟩, ?_⟩
  unfold fnF at hq
  cases q : g (startE N.length as) hp with
  | nx e h2 => rw [q] at hq; exact fun m' H' σ' g' r' s' => trim_ok r hq g' r' DR.non
  | rt a h2 => rw [q] at hq; exact fun m' H' v g' r' x' => trim_ok r hq g' r' x'
  | bk e h2 => rw [q] at hq; exact hq.elim
  | ct e h2 => rw [q] at hq; exact hq.elim
  | bad => rw [q] at hq; exact hq.elim
  | exc x e h2 =>
    rw [q] at hq
    intro m' H' σ' c d g' r' s' ex
    simp only at hq
    split at hq
    · rename_i hc
      obtain ⟨c1, c2⟩ := Bool.and_eq_true_iff.mp hc
      exact hq m H' c d g'.trim (r.trim g' r' (of_decide_eq_true c2) c1) ⟨ex.1, ex.2.imp id fun ⟨dd, ws, e, e2, q⟩ => ⟨dd, ws, e, e2, Paired.imp (fun _ _ q => ⟨q.1, DR.less (fun a z => zm_pre g'.pre z) q.2⟩) q⟩⟩
    · exact hq m' H' c d g' r' ex
theorem ints_DRs {K : KF} {Z : Addr → Prop} {H : Hp} : ∀ ns : List Int, DRs K Z H (ns.map V.int) (ns.map PyData.int)
  | [] => .nil
  | n :: ns => .cons (.int n) (ints_DRs ns)
/-- a law over the whole program: its def's promise and what its meaning is at each script -/
theorem law_walk {l : PySem.W.OpenLaw} {q : Program} {loose : List Str} {XP : (Str → Option Value) → Heap → Prop} {YP : World → Heap → Prop} {d : DefRec} {K : Params → PySem.W.Frag} {k : Nat} {G : List AV → AH → Out AV} (hn : l.most = some 63) (hdf : d.params.defaults = []) (hr : Room k callerA)
    (hY : ∀ (w : World) (h : Heap), YP w h → (K w.params).In h)
    (F : ∀ (w : World) (mg : Str → Option Value) (fa : Addr) (h : Heap), (K w.params).In h → h.Ns mainGlobals mg → mg d.name = some (.ref fa) →
      ∃ fd : FuncData, (∀ (s : Shared) (u : Value), BindsTo s fd ⟨[u], []⟩ [("script", u)]) ∧ ∀ base : Heap, (K w.params).In base → base.Ns mainGlobals mg → FnOk l.prog w (K w.params) mg base (L2.CX l.prog w) k fa fd ["script"] (spF (K w.params) 1 G))
    (hm : ∀ ns : List Int, ns.length ≤ 63 → ∃ h, G [.d (.list (ns.map PyData.int))] [] = .ok (.d (.bool true)) h) : PySem.W.WalkO q loose XP YP l.row.toRowW d [] (fun f vs => PySem.call f vs) :=
  L2.walk_of (n := 63) (k := k) (x := "script") (CX := fun w => L2.CX l.prog w) (sp := fun w => spF (K w.params) 1 G) hn (by decide) hdf hr hY F
    (fun w H a ns hl _ hS => by
      obtain ⟨h, e⟩ := hm ns hl
      refine ⟨fun _ => False, [], [], [.d (.list (ns.map PyData.int))], ⟨rfl, List.nodup_nil, (fun a h => by cases h), (fun a z => z.elim), (fun i a o e => by simp at e)⟩, .cons ?_ .nil, ?_⟩
      · show DR (K w.params) (Zm (fun _ => False) []) H (.ref a) (.list (ns.map PyData.int))
        have nz : ¬ Zm (fun _ => False) [] a := fun z => by
          rcases z with z | z
          · exact z
          · cases z
        rcases hS with hR | hK
        · exact .lst nz hR (ints_DRs ns)
        · exact .lstK hK (ints_DRs ns)
      · show Es _ _ _ _ _ _ (arF 1 G [.d (.list (ns.map PyData.int))] []) _
        unfold arF
        rw [if_pos (show [AV.d (PyData.list (ns.map PyData.int))].length = 1 from rfl), e]
        intro m' H' g r v rv
        cases rv
        rfl)
    fun w H s e s' z => by
      obtain ⟨_, _, _, _, _, _, _, _, _, _, _, _, h⟩ := z
      exact h
end Pin
end
-- PinEnd2
section
set_option linter.all false
set_option maxRecDepth 100000
set_option maxHeartbeats 2000000
/-! Pin: what a look tells of an exception class whose __init__ tells super().__init__ and keeps a field. -/
namespace Pin
open PySem PySem.Spec PyProof.Rows L2
/-- the class -/
def xvcB (K : KF) (C : Addr) : Bool := match K.lookup C with
  | some ⟨.type "type", _, .cls cd, sl⟩ => (match cd.mro, sl.toList with
    | .ref C' :: bm, [_, _, _, _, some (.builtin n), _] => C' == C && (n == "Exception.__new__" && (!cd.hasDel && (cd.hasDict && decide (bm = PySem.ESX.exTail))))
    | _, _ => false)
  | _ => false
theorem xvcB_ok {K : KF} {C : Addr} (q : xvcB K C = true) : ∃ nm qn N bs sn sub ab col dd k0 k1 k2 k3 k5, K.lookup C = some (excClassObj nm qn C N bs PySem.ESX.exTail true sn sub ab col dd k0 k1 k2 k3 k5 "Exception.__new__") := by
  unfold xvcB at q
  split at q
  · rename_i dd cd sl ho
    split at q
    · rename_i C' bm k0 k1 k2 k3 n k5 hm hs
      simp only [Bool.and_eq_true, beq_iff_eq, Bool.not_eq_true', decide_eq_true_eq] at q
      obtain ⟨rfl, rfl, hdel, hdi, rfl⟩ := q
      obtain ⟨nm, bs, mro, ns, qn, hd, sn, sub, ab, col, del⟩ := cd
      dsimp only at hm hdel hdi
      subst hm hdel hdi
      have hsl : sl = #[k0, k1, k2, k3, some (.builtin "Exception.__new__"), k5] := by
        obtain ⟨l⟩ := sl
        simp only at hs
        rw [hs]
      subst hsl
      exact ⟨nm, qn, ns, bs, sn, sub, ab, col, dd, k0, k1, k2, k3, k5, ho⟩
    · cases q
  · cases q
/-- the __init__: what is read off it (without its cell) -/
def xvfO (K : KF) (f : Addr) : Option (Str × Str × Arguments × FuncBody × Scope × Addr × Addr) := match K.lookup f with
  | some ⟨_, _, .func fd, _⟩ => some (fd.name, fd.qualname, fd.params, fd.body, fd.scope, fd.globals, fd.builtins)
  | _ => none
def xvfB (P : Program) (K : KF) (q : Str) (C f : Addr) : Bool := match K.lookup f with
  | some ⟨_, _, .func fd, _⟩ => (match fd.closure, fd.code, fd.defaults with
    | [(c, cc)], .ref cda, .none => decide (c = "__class__") && (PySem.W.codeIn K (.ref cda) q && ((match K.lookup cc with
        | some ⟨_, _, .cell (some (.ref C')), _⟩ => C' == C
        | _ => false) && (match K.lookup cda with
        | some ⟨_, _, .fields vs, _⟩ => (match (vs[2]? : Option Value) with
          | some (.str file _) => (P.main.file : Str) == file
          | _ => false)
        | _ => false)))
    | _, _, _ => false)
  | _ => false
theorem xvf_ok {P : Program} {K : KF} {q : Str} {C f : Addr} {pa : Arguments} {bo : List Stmt} (e : xvfO K f = some (("__init__" : Str), q, pa, FuncBody.stmts bo, iniS, mainGlobals, builtinsNs)) (h : xvfB P K q C f = true) :
    ∃ (oc : Value) (od : Option Addr) (kV doc pm : Value) (an : Option Addr) (cda : Addr) (ct : Value) (cc : Addr) (osl : Array (Option Value)) (c1 : Value) (c2 : Option Addr) (vs : Array Value) (c3 : Array (Option Value)) (file : Str) (tf : Tok) (d1 : Value) (d2 : Option Addr) (d3 : Array (Option Value)),
    K.lookup f = some ⟨oc, od, .func (PySem.W.ksFn "__init__" q pa bo iniS .none kV doc pm an (.ref cda) ct cc), osl⟩ ∧ PySem.W.codeIn K (.ref cda) q = true ∧
    K.lookup cda = some ⟨c1, c2, .fields vs, c3⟩ ∧ vs[2]? = some (.str file tf) ∧ ((P.main.file : Str) == file) = true ∧ K.lookup cc = some ⟨d1, d2, .cell (some (.ref C)), d3⟩ := by
  unfold xvfO at e
  unfold xvfB at h
  cases l : K.lookup f with
  | none => rw [l] at h; cases h
  | some o =>
    obtain ⟨oc, od, dt, osl⟩ := o
    rw [l] at h e
    cases dt with
    | func fd =>
      obtain ⟨n1, n2, n3, n4, n5, n6, n7, n8, n9, n10, n11, n12, n13, n14, n15⟩ := fd
      have e2 : some (n1, n2, n3, n4, n5, n6, n15) = some (("__init__" : Str), q, pa, FuncBody.stmts bo, iniS, mainGlobals, builtinsNs) := e
      simp only [Option.some.injEq, Prod.mk.injEq] at e2
      obtain ⟨h1, h2, h3, h4, h5, h6, h7⟩ := e2
      subst h1 h2 h3 h4 h5 h6 h7
      simp only at h
      split at h
      · rename_i c cc cda
        simp only [Bool.and_eq_true, decide_eq_true_eq] at h
        obtain ⟨rfl, hc, hcell, hfile⟩ := h
        split at hcell
        · rename_i d1 d2 C' d3 lc
          have := beq_iff_eq.mp hcell
          subst this
          split at hfile
          · rename_i c1 c2 vs c3 lcd
            split at hfile
            · rename_i file tf ev
              exact ⟨oc, od, n9, n10, n11, n12, cda, n14, cc, osl, c1, c2, vs, c3, file, tf, d1, d2, d3, rfl, hc, lcd, ev, hfile, lc⟩
            · cases hfile
          · cases hfile
        · cases hcell
      · cases h
    | _ => cases h
end Pin
end
-- PinLtW
section
set_option linter.all false
set_option maxRecDepth 100000
set_option maxHeartbeats 4000000
/-! Pin: < of data that are alike up to the first place that differs (tuples). The walk of tuple.__lt__ is turned from KE's (there every differing place must be comparable, here only the first). -/
namespace Pin
open PySem PySem.Spec PyProof.Rows L2 PySem.SeqAt PySem.W
open AutoSeq1 (wpAny_loadPart')
open MeetsSeq MeetsSeq2 MeetsSeq3 SeqRoads2
section
theorem tuple_ltF (l b : Addr) (items items2 : Array Value) (n n2 : Nat) (dd dd2 : Option Addr) (sl sl2 : Array (Option Value)) (e r : Nat → Bool) :
    Meets (Builtin.«tuple.__lt__» ⟨[.ref l, .ref b], []⟩)
      (fun A R s => s.heap.get? l = some { cls := .type "tuple", dict := dd, data := .seq items n, slots := sl } ∧ s.heap.get? b = some { cls := .type "tuple", dict := dd2, data := .seq items2 n2, slots := sl2 } ∧
        (∀ j (h1 : j < items.size) (h2 : j < items2.size), EqAt A.in1 s items[j] items2[j] (e j)) ∧ (∀ j (h1 : j < items.size) (h2 : j < items2.size), (∀ k, k < j → e k = true) → e j = false → RcLt A.in1 s items[j] items2[j] (r j)) ∧
        R (.ok (.ret (.bool (firstLt e r (decide (items.size < items2.size)) (List.range (min items.size items2.size)))))) s) :=
  .of_wp fun prog w A R s h => by
    obtain ⟨hp, g, d, tk, os⟩ := s; obtain ⟨hl, hb, he, hr, h⟩ := h
    have f2 := AutoSeq1.sub_tuple_tuple
    have hZ : (items.toList.zip items2.toList).length = min items.size items2.size := by simp
    wp_walk using wpAny_loadPart' hl, wpAny_loadPart' hb, wpAny_forIn_list _ (fun rest b s' => b.1 = none ∧ s' = ⟨hp, g, d, tk, os⟩ ∧ ∃ i, rest = (items.toList.zip items2.toList).drop i ∧ (∀ k, k < i → e k = true) ∧
      R (.ok (.ret (.bool (firstLt e r (decide (items.size < items2.size)) ((List.range (min items.size items2.size)).drop i))))) ⟨hp, g, d, tk, os⟩) _
    case turn =>
      rintro ⟨y, x⟩ rest b s' ⟨hb', rfl, i, hz, hpre, hR⟩
      have hlt : i < (items.toList.zip items2.toList).length := by
        rcases Nat.lt_or_ge i (items.toList.zip items2.toList).length with h' | h'
        · exact h'
        · rw [List.drop_of_length_le h'] at hz; cases hz
      have hm : i < min items.size items2.size := hZ ▸ hlt
      have h1 : i < items.size := Nat.lt_of_lt_of_le hm (Nat.min_le_left _ _)
      have h2 : i < items2.size := Nat.lt_of_lt_of_le hm (Nat.min_le_right _ _)
      rw [List.drop_eq_getElem_cons hlt] at hz
      injection hz with hyx hrest
      have hy : y = items[i] := by have := congrArg Prod.fst hyx; simpa using this
      have hx : x = items2[i] := by have := congrArg Prod.snd hyx; simpa using this
      subst hy hx
      have hd : (List.range (min items.size items2.size)).drop i = i :: (List.range (min items.size items2.size)).drop (i + 1) := by simp [List.drop_eq_getElem_cons, hm]
      rw [hd] at hR
      refine wpAny_bind (he i h1 h2 prog w _ _ ?_)
      cases hy : e i with
      | true =>
        rw [firstLt_yes hy] at hR
        wp_walk
        refine ⟨rfl, rfl, i + 1, hrest, fun k hk => ?_, hR⟩
        rcases Nat.lt_succ_iff_lt_or_eq.mp hk with z | z
        · exact hpre k z
        · rw [z]; exact hy
      | false =>
        rw [firstLt_no hy] at hR
        generalize hRC : PySem.richCompare = RC
        wp_walk
        subst hRC
        refine hr i h1 h2 hpre hy prog w _ _ ?_
        wp_walk
        exact ⟨_, rfl, hR⟩
    case fin =>
      rintro ⟨b1, b2⟩ s' ⟨hb', rfl, i, hz, hpre, hR⟩
      simp only at hb'
      subst hb'
      have hge : min items.size items2.size ≤ i := by
        rcases Nat.lt_or_ge i (items.toList.zip items2.toList).length with h' | h'
        · rw [List.drop_eq_getElem_cons h'] at hz; cases hz
        · exact hZ ▸ h'
      rw [List.drop_of_length_le (by simpa using hge)] at hR
      wp_walk
      exact ⟨_, rfl, by simpa [Builtin.Tuple.tupleCompareSizes, firstLt] using hR⟩
    case h =>
      exact ⟨rfl, rfl, 0, rfl, fun k hk => absurd hk (Nat.not_lt_zero _), by simpa using h⟩
end
end Pin
end
-- PinLtW2
section
set_option linter.all false
set_option maxRecDepth 100000
set_option maxHeartbeats 4000000
/-! Pin: data that can be compared (a later place of a tuple counts only where the earlier ones are equal); sorting them. Turned from KE's LtData, SortCalls (there: place by place). -/
namespace Pin
open PySem PySem.Spec PyProof.Rows L2 PySem.SeqAt PySem.W
theorem RcLt.tuplesF {A : Around} {s : Shared} {l b : Addr} {items items2 : Array Value} {e r : Nat → Bool} (hl : s.heap.IsTuple l items) (hb : s.heap.IsTuple b items2) (hu : A.units < cLine)
    (he : ∀ j (h1 : j < items.size) (h2 : j < items2.size), EqAt A.in1 s items[j] items2[j] (e j)) (hr : ∀ j (h1 : j < items.size) (h2 : j < items2.size), (∀ k, k < j → e k = true) → e j = false → RcLt A.in1 s items[j] items2[j] (r j)) :
    RcLt A s (.ref l) (.ref b) (firstLt e r (decide (items.size < items2.size)) (List.range (min items.size items2.size))) := fun prog w E Q h => by
  obtain ⟨⟨cls, dd, data, sl⟩, ho, hc, n, hd⟩ := id hl
  obtain ⟨⟨cls2, dd2, data2, sl2⟩, ho2, hc2, n2, hd2⟩ := id hb
  simp only at hc hd hc2 hd2
  subst hc hd hc2 hd2
  exact richCompare_meets_room (op := .Lt) ⟨_, ho, rfl⟩ ⟨_, ho2, rfl⟩ PySem.F.slot_tuple_lt PySem.F.entry_tuple_lt (PySem.F.args_tuple_lt_2 _ _) (tuple_ltF l b items items2 n n2 dd dd2 sl sl2 e r)
    ⟨ho, ho2, he, hr, show Value.bool (firstLt e r (decide (items.size < items2.size)) (List.range (min items.size items2.size))) ≠ Value.notImplemented ∧ Q (.bool (firstLt e r (decide (items.size < items2.size)) (List.range (min items.size items2.size)))) s from ⟨(fun x => nomatch x), h⟩⟩ hu
mutual
/-- can be compared -/
def alikeW : D → D → Bool
  | .bool _, .bool _ => true
  | .int _, .int _ => true
  | .str _, .str _ => true
  | .none, .none => true
  | .tuple xs, .tuple ys => alikeWAll xs ys
  | _, _ => false
def alikeWAll : List D → List D → Bool
  | x :: xs, y :: ys => alikeW x y && (!(PyData.eqv x y) || alikeWAll xs ys)
  | [], _ => true
  | _ :: _, [] => true
end
theorem alikeW_cons {x y : D} {xs ys : List D} (h : alikeWAll (x :: xs) (y :: ys) = true) : alikeW x y = true ∧ (PyData.eqv x y = true → alikeWAll xs ys = true) := by
  rw [alikeWAll, Bool.and_eq_true, Bool.or_eq_true] at h
  exact ⟨h.1, fun e => h.2.resolve_left (by rw [e]; decide)⟩
mutual
theorem toksW : ∀ (x y : D), alikeW x y = true → (PyData.eqv x y = true → keyToks x = keyToks y) ∧ (PyData.eqv x y = false → ∀ l m, lexLt itemOrd (keyToks x ++ l) (keyToks y ++ m) = lexLt itemOrd (keyToks x) (keyToks y))
  | .none, y, h => by
    cases y with
    | none => exact toks_eqv .none .none rfl
    | _ => exact absurd h (by simp [alikeW])
  | .bool a, y, h => by
    cases y with
    | bool b => exact toks_eqv (.bool a) (.bool b) rfl
    | _ => exact absurd h (by simp [alikeW])
  | .int a, y, h => by
    cases y with
    | int b => exact toks_eqv (.int a) (.int b) rfl
    | _ => exact absurd h (by simp [alikeW])
  | .str a, y, h => by
    cases y with
    | str b => exact toks_eqv (.str a) (.str b) rfl
    | _ => exact absurd h (by simp [alikeW])
  | .tuple xs, y, h => by
    cases y with
    | tuple ys =>
      have t := toksWAll xs ys (by simpa [alikeW] using h)
      simp only [keyToks, PyData.eqv]
      exact t
    | _ => exact absurd h (by simp [alikeW])
  | .list _, y, h => absurd h (by cases y <;> simp [alikeW])
  | .dict _, y, h => absurd h (by cases y <;> simp [alikeW])
theorem toksWAll : ∀ (xs ys : List D), alikeWAll xs ys = true → (PyData.eqvAll xs ys = true → keyToksAll xs = keyToksAll ys) ∧ (PyData.eqvAll xs ys = false → ∀ l m, lexLt itemOrd (keyToksAll xs ++ l) (keyToksAll ys ++ m) = lexLt itemOrd (keyToksAll xs) (keyToksAll ys))
  | [], [], _ => toksAll_eqv [] [] rfl
  | [], y :: ys, _ => toksAll_eqv [] (y :: ys) rfl
  | x :: xs, [], _ => toksAll_eqv (x :: xs) [] rfl
  | x :: xs, y :: ys, h => by
    obtain ⟨h1, h2⟩ := alikeW_cons h
    obtain ⟨a1, a2⟩ := toksW x y h1
    rw [eqv_all_cons, toks_all_cons, toks_all_cons]
    cases hx : PyData.eqv x y with
    | true =>
      obtain ⟨b1, b2⟩ := toksWAll xs ys (h2 hx)
      rw [a1 hx, Bool.true_and]
      refine ⟨fun e => by rw [b1 e], fun e l m => ?_⟩
      simp only [List.cons_append, List.append_assoc]
      exact (lex_self (O := itemOrd) _ _ _).trans ((lex_pre _ _ _).trans ((b2 e l m).trans ((lex_pre _ _ _).symm.trans (lex_self (O := itemOrd) _ _ _).symm)))
    | false =>
      rw [Bool.false_and]
      refine ⟨fun e => absurd e Bool.false_ne_true, fun _ l m => ?_⟩
      simp only [List.cons_append, List.append_assoc]
      exact (lex_self (O := itemOrd) _ _ _).trans ((a2 hx _ _).trans ((a2 hx _ _).symm.trans (lex_self (O := itemOrd) _ _ _).symm))
end
theorem ltW_yes {x y : D} {xs ys : List D} (h : alikeW x y = true) (e : PyData.eqv x y = true) : lexLt itemOrd (keyToksAll (x :: xs)) (keyToksAll (y :: ys)) = lexLt itemOrd (keyToksAll xs) (keyToksAll ys) := by
  rw [toks_all_cons, toks_all_cons, (toksW x y h).1 e]
  exact (lex_self (O := itemOrd) _ _ _).trans (lex_pre _ _ _)
theorem ltW_no {x y : D} {xs ys : List D} (h : alikeW x y = true) (e : PyData.eqv x y = false) : lexLt itemOrd (keyToksAll (x :: xs)) (keyToksAll (y :: ys)) = dataLt x y := by
  rw [toks_all_cons, toks_all_cons]
  exact (lex_self (O := itemOrd) _ _ _).trans ((toksW x y h).2 e _ _)
theorem firstLtW : ∀ (xs ys : List D), alikeWAll xs ys = true →
    firstLt (pairEq xs ys) (fun j => dataLt (xs.getD j .none) (ys.getD j .none)) (decide (xs.length < ys.length)) (List.range (min xs.length ys.length)) = lexLt itemOrd (keyToksAll xs) (keyToksAll ys)
  | [], [], _ => firstLt_toks [] [] rfl
  | [], y :: ys, _ => firstLt_toks [] (y :: ys) rfl
  | x :: xs, [], _ => firstLt_toks (x :: xs) [] rfl
  | x :: xs, y :: ys, h => by
    obtain ⟨h1, h2⟩ := alikeW_cons h
    have em : min (x :: xs).length (y :: ys).length = min xs.length ys.length + 1 := by
      rw [List.length_cons, List.length_cons]
      omega
    have ed : decide ((x :: xs).length < (y :: ys).length) = decide (xs.length < ys.length) := by
      rw [List.length_cons, List.length_cons]
      exact decide_eq_decide.mpr (by omega)
    rw [em, ed, List.range_succ_eq_map]
    cases hx : PyData.eqv x y with
    | true =>
      have ih := firstLtW xs ys (h2 hx)
      rw [firstLt_yes (show pairEq (x :: xs) (y :: ys) 0 = true from hx), firstLt_map, ltW_yes h1 hx, ← ih]
      rfl
    | false =>
      rw [firstLt_no (show pairEq (x :: xs) (y :: ys) 0 = false from hx), ltW_no h1 hx]
      rfl
theorem neW {x y : D} (h : alikeW x y = true) (e : PyData.eqv x y = false) : x ≠ .none := by
  rintro rfl
  cases y with
  | none => exact absurd e (by simp [PyData.eqv])
  | _ => exact absurd h (by simp [alikeW])
end Pin
end
-- PinLtW3
section
set_option linter.all false
set_option maxRecDepth 100000
set_option maxHeartbeats 4000000
/-! Pin: < as the model runs it, of data that can be compared; sorting them. Turned from KE's LtData, SortCalls. -/
namespace Pin
open PySem PySem.Spec PyProof.Rows L2 PySem.SeqAt PySem.W
mutual
theorem rcLtW : ∀ (da db : D) (A : Around) (s : Shared) (a b : Value) (as bs : List Addr), Reads s.heap a da as → Reads s.heap b db bs → alikeW da db = true → da.plain = true → db.plain = true → da ≠ .none → A.units + min da.depth db.depth < cLine → RcLt A s a b (dataLt da db)
  | .none, _, _, _, _, _, _, _, _, _, _, _, _, hn, _ => absurd rfl hn
  | .bool x, db, A, s, a, b, as, bs, ra, rb, h, _, _, e, hu => by
    cases db with
    | bool y => exact rcLt_alike (.bool x) (.bool y) A s a b as bs ra rb rfl e hu
    | _ => exact absurd h (by simp [alikeW])
  | .int x, db, A, s, a, b, as, bs, ra, rb, h, _, _, e, hu => by
    cases db with
    | int y => exact rcLt_alike (.int x) (.int y) A s a b as bs ra rb rfl e hu
    | _ => exact absurd h (by simp [alikeW])
  | .str x, db, A, s, a, b, as, bs, ra, rb, h, _, _, e, hu => by
    cases db with
    | str y => exact rcLt_alike (.str x) (.str y) A s a b as bs ra rb rfl e hu
    | _ => exact absurd h (by simp [alikeW])
  | .list _, db, _, _, _, _, _, _, _, _, h, _, _, _, _ => absurd h (by cases db <;> simp [alikeW])
  | .dict _, db, _, _, _, _, _, _, _, _, h, _, _, _, _ => absurd h (by cases db <;> simp [alikeW])
  | .tuple xs, db, A, s, a, b, as, bs, ra, rb, h, p1, p2, e, hu => by
    cases db with
    | tuple ys =>
      have hal : alikeWAll xs ys = true := by simpa [alikeW] using h
      cases ra with
      | @tuple l o vs n _ as₁ h1 h2 h3 h4 =>
        cases rb with
        | @tuple l' o' vs' n' _ bs₁ k1 k2 k3 k4 =>
          have n1 : vs.size = xs.length := by simpa using ReadsAll.length _ _ _ h4
          have n2 : vs'.size = ys.length := by simpa using ReadsAll.length _ _ _ k4
          rw [dataLt_tuple, ← firstLtW xs ys hal, ← n1, ← n2]
          refine RcLt.tuplesF ⟨_, h1, h2, _, h3⟩ ⟨_, k1, k2, _, k3⟩ (room_here hu) (fun j j1 j2 => ?_) fun j j1 j2 hk hj => ?_
          · have := eqAt_plainAll xs ys A.in1 s vs.toList vs'.toList _ _ h4 k4 p1 p2 (room_in hu) j (by simpa using j1) (by simpa using j2)
            simpa using this
          · have := rcLtWAll xs ys A.in1 s vs.toList vs'.toList _ _ h4 k4 hal p1 p2 (room_in hu) j (by simpa using j1) (by simpa using j2) hk hj
            simpa using this
    | _ => exact absurd h (by simp [alikeW])
theorem rcLtWAll : ∀ (xs ys : List D) (A : Around) (s : Shared) (vs ws : List Value) (as bs : List Addr), ReadsAll s.heap vs xs as → ReadsAll s.heap ws ys bs → alikeWAll xs ys = true → PyData.plainAll xs = true → PyData.plainAll ys = true →
    A.units + min (PyData.depthAll xs) (PyData.depthAll ys) < cLine → ∀ j (h1 : j < vs.length) (h2 : j < ws.length), (∀ k, k < j → pairEq xs ys k = true) → pairEq xs ys j = false → RcLt A s vs[j] ws[j] (dataLt (xs.getD j .none) (ys.getD j .none))
  | [], _, _, _, _, _, _, _, ra, _, _, _, _, _, j, h1, _, _, _ => by cases ra; exact absurd h1 (Nat.not_lt_zero _)
  | _ :: _, [], _, _, _, _, _, _, _, rb, _, _, _, _, j, _, h2, _, _ => by cases rb; exact absurd h2 (Nat.not_lt_zero _)
  | x :: xs, y :: ys, A, s, _, _, _, _, ra, rb, h, p1, p2, hu, j, h1, h2, hk, hj => by
    have q1 : x.plain = true ∧ PyData.plainAll xs = true := by simpa [PyData.plainAll] using p1
    have q2 : y.plain = true ∧ PyData.plainAll ys = true := by simpa [PyData.plainAll] using p2
    cases ra with
    | cons r rs =>
      cases rb with
      | cons r' rs' =>
        cases j with
        | zero => exact rcLtW x y A s _ _ _ _ r r' (alikeW_cons h).1 q1.1 q2.1 (neW (alikeW_cons h).1 hj) (room_head hu)
        | succ j => exact rcLtWAll xs ys A s _ _ _ _ rs rs' ((alikeW_cons h).2 (hk 0 (Nat.succ_pos j))) q1.2 q2.2 (room_tail hu) j (Nat.lt_of_succ_lt_succ h1) (Nat.lt_of_succ_lt_succ h2) (fun k hk' => hk (k + 1) (Nat.succ_lt_succ hk')) hj
end
section
variable {prog : Program} {w : World} {A : Around} {E : Value → Shared → Prop} {s : Shared}
theorem oneLtW {f : Bool} {da db : D} {a b : Value} {as bs : List Addr} {Q : Bool → Shared → Prop} (hf : f = true → ∀ xs, da ≠ .tuple xs) (ra : Reads s.heap a da as) (rb : Reads s.heap b db bs) (h : alikeW da db = true) (p1 : da.plain = true) (p2 : db.plain = true) (hn : da ≠ .none)
    (hu : A.units + min da.depth db.depth < cLine) (hq : Q (dataLt da db) s) : wpAny (model prog w) A (oneLt' f a b) Q E s := by
  cases f with
  | false =>
    rw [oneLt'_eq]
    simp only [Bool.false_eq_true, if_false]
    exact wpAny_bind (rcLtW da db A s a b as bs ra rb h p1 p2 hn hu prog w E _ (wpAny_truthy_bool hq))
  | true =>
    cases da with
    | none => exact absurd rfl hn
    | bool x =>
      cases db with
      | bool y => exact oneLt_alike (fun _ _ e => by cases e) ra rb rfl hn hu hq
      | _ => exact absurd h (by simp [alikeW])
    | int x =>
      cases db with
      | int y => exact oneLt_alike (fun _ _ e => by cases e) ra rb rfl hn hu hq
      | _ => exact absurd h (by simp [alikeW])
    | str x =>
      cases db with
      | str y => exact oneLt_alike (fun _ _ e => by cases e) ra rb rfl hn hu hq
      | _ => exact absurd h (by simp [alikeW])
    | tuple xs => exact absurd rfl (hf rfl xs)
    | list _ => exact absurd h (by cases db <;> simp [alikeW])
    | dict _ => exact absurd h (by cases db <;> simp [alikeW])
theorem katLexW {b fin : Bool} {Q : Bool → Shared → Prop} : ∀ (xs ys : List D) (i : Nat) (vs ws : List Value) (as bs : List Addr), ReadsAll s.heap vs xs as → ReadsAll s.heap ws ys bs → alikeWAll xs ys = true → PyData.plainAll xs = true → PyData.plainAll ys = true →
    A.units + min (PyData.depthAll xs) (PyData.depthAll ys) < cLine → (b = true → i = 0 → ∀ x r t, xs = x :: r → x ≠ .tuple t) → fin = decide (xs.length < ys.length) → Q (lexLt itemOrd (keyToksAll xs) (keyToksAll ys)) s → KatLex prog w A b fin Q (vs.zip ws) i s
  | [], ys, i, vs, ws, as, bs, ra, rb, _, _, _, hu, hb, hf, hq => katLex_alike [] ys i vs ws as bs ra rb (by simp [alikeAll]) hu hb hf hq
  | x :: xs, [], i, vs, ws, as, bs, ra, rb, _, _, _, hu, hb, hf, hq => katLex_alike (x :: xs) [] i vs ws as bs ra rb (by simp [alikeAll]) hu hb hf hq
  | x :: xs, y :: ys, i, _, _, _, _, ra, rb, h, p1, p2, hu, hb, hf, hq => by
    have q1 : x.plain = true ∧ PyData.plainAll xs = true := by simpa [PyData.plainAll] using p1
    have q2 : y.plain = true ∧ PyData.plainAll ys = true := by simpa [PyData.plainAll] using p2
    obtain ⟨h1, h2⟩ := alikeW_cons h
    have hf' : fin = decide (xs.length < ys.length) := by
      rw [hf]
      simp only [List.length_cons, Nat.add_lt_add_iff_right]
    cases ra with
    | cons r rs =>
      cases rb with
      | cons r' rs' =>
        rw [List.zip_cons_cons]
        refine kat_cons (eqAt_plain x y A s _ _ _ _ r r' q1.1 q2.1 (room_head hu) prog w _ _ ?_)
        cases hx : PyData.eqv x y with
        | true =>
          rw [ltW_yes h1 hx] at hq
          exact kat_yes (katLexW xs ys (i + 1) _ _ _ _ rs rs' (h2 hx) q1.2 q2.2 (room_tail hu) (fun _ hi => absurd hi (Nat.succ_ne_zero i)) hf' hq)
        | false =>
          rw [ltW_no h1 hx] at hq
          refine kat_no (oneLtW (fun hbi t => ?_) r r' h1 q1.1 q2.1 (neW h1 hx) (room_head hu) hq)
          rw [Bool.and_eq_true] at hbi
          exact hb hbi.1 (by simpa using hbi.2) x xs t rfl
end
end Pin
end
-- PinLtW4
section
set_option linter.all false
set_option maxRecDepth 100000
set_option maxHeartbeats 4000000
/-! Pin: sorting data that can be compared. Turned from KE's SortCalls, SortData. -/
namespace Pin
open PySem PySem.Spec PyProof.Rows L2 PySem.SeqAt PySem.W

mutual
theorem plain_uniq {h : Heap} : ∀ (d d' : D) (v : Value) (as as' : List Addr), d.plain = true → d'.plain = true → Reads h v d as → Reads h v d' as' → d = d'
  | .none, _, _, _, _, _, _, r, r' => by cases r; cases r'; rfl
  | .bool _, _, _, _, _, _, _, r, r' => by cases r; cases r'; rfl
  | .int _, _, _, _, _, _, _, r, r' => by cases r; cases r'; rfl
  | .str _, _, _, _, _, _, _, r, r' => by cases r; cases r'; rfl
  | .list xs, d', _, _, _, p, p', r, r' => by
    cases r with
    | list h1 h2 h3 h4 =>
      cases r' with
      | list k1 k2 k3 k4 =>
        rw [h1] at k1; cases k1
        rw [h3] at k3; cases k3
        rw [plainAll_uniq xs _ _ _ _ p p' h4 k4]
      | tuple k1 k2 k3 k4 =>
        rw [h1] at k1; cases k1
        rw [h2] at k2; exact absurd k2 (by decide)
      | dict k1 k2 k3 k4 k5 => cases p'
  | .tuple xs, d', _, _, _, p, p', r, r' => by
    cases r with
    | tuple h1 h2 h3 h4 =>
      cases r' with
      | tuple k1 k2 k3 k4 =>
        rw [h1] at k1; cases k1
        rw [h3] at k3; cases k3
        rw [plainAll_uniq xs _ _ _ _ p p' h4 k4]
      | list k1 k2 k3 k4 =>
        rw [h1] at k1; cases k1
        rw [h2] at k2; exact absurd k2 (by decide)
      | dict k1 k2 k3 k4 k5 => cases p'
  | .dict _, _, _, _, _, p, _, _, _ => by cases p
theorem plainAll_uniq {h : Heap} : ∀ (xs ys : List D) (vs : List Value) (as as' : List Addr), PyData.plainAll xs = true → PyData.plainAll ys = true → ReadsAll h vs xs as → ReadsAll h vs ys as' → xs = ys
  | [], _, _, _, _, _, _, r, r' => by cases r; cases r'; rfl
  | x :: xs, [], _, _, _, _, _, r, r' => by cases r'; cases r
  | x :: xs, y :: ys, _, _, _, p, p', r, r' => by
    have q1 : x.plain = true ∧ PyData.plainAll xs = true := by simpa [PyData.plainAll] using p
    have q2 : y.plain = true ∧ PyData.plainAll ys = true := by simpa [PyData.plainAll] using p'
    cases r with
    | cons h1 h2 =>
      cases r' with
      | cons k1 k2 => rw [plain_uniq x y _ _ _ q1.1 q2.1 h1 k1, plainAll_uniq xs ys _ _ _ q1.2 q2.2 h2 k2]
end
/-- every two can be compared, no dict lies within, tuples with a first item that is no tuple and of one kind -/
structure SortW (ds : List D) : Prop where
  al : ∀ d ∈ ds, ∀ d' ∈ ds, alikeW d d' = true
  pl : ∀ d ∈ ds, d.plain = true
  tu : ∀ d ∈ ds, ∃ x r, d = .tuple (x :: r)
theorem dataKind_someW {h : Heap} {ds : List D} (hp : ∀ d ∈ ds, d.plain = true) {v : Value} {d : D} {as : List Addr} (hd : d ∈ ds) (r : Reads h v d as) : (dataKind h ds).keyOf v = some (keyToks d) := by
  have q : ∃ d, d ∈ ds ∧ ∃ as, Reads h v d as := ⟨d, hd, as, r⟩
  have e : (dataKind h ds).keyOf v = some (keyToks q.choose) := by
    show (open Classical in if q : ∃ d, d ∈ ds ∧ ∃ as, Reads h v d as then some (keyToks q.choose) else none) = _
    rw [dif_pos q]
  obtain ⟨h1, as', h2⟩ := q.choose_spec
  rw [e, plain_uniq _ _ _ _ _ (hp _ h1) (hp _ hd) h2 r]
theorem alikeW_type {x y : D} (h : alikeW x y = true) : dataType x = dataType y := by
  cases x <;> cases y <;> first | rfl | exact absurd h (by simp [alikeW])
section
variable {prog : Program} {w : World} {A : Around} {s : Shared}
theorem sortsAtW {vs : List Value} {ds : List D} (e : EachIs (fun v d => ∃ as, Reads s.heap v d as) vs ds) (hs : SortW ds) (hu : ∀ d, d ∈ ds → A.units + d.depth < cLine) : SortsAt prog w A s (dataKind s.heap ds) vs := by
  have room : ∀ {d d' : D}, d ∈ ds → A.units + min d.depth d'.depth < cLine := fun {d d'} hd => Nat.lt_of_le_of_lt (Nat.add_le_add_left (Nat.min_le_left _ _) _) (hu d hd)
  refine ⟨fun v hv => ?_, ?_⟩
  · obtain ⟨d, hd, as, r⟩ := e.left v hv
    exact ⟨_, dataKind_someW hs.pl hd r⟩
  · have ht := hs.tu
    cases ds with
    | nil =>
      cases e
      exact ⟨general', fun E x y a b Q ha _ _ => (by
        obtain ⟨d, _, hd, _⟩ := dataKind_inv ha
        exact absurd hd (by simp)), fun h2 => absurd h2 (by simp)⟩
    | cons d₀ ds₀ =>
      obtain ⟨x₀, r₀, e₀⟩ := ht d₀ (List.mem_cons_self ..)
      have hfirst : ∀ x r, PyData.tuple (x :: r) ∈ d₀ :: ds₀ → alikeW x x₀ = true := by
        intro x r hm
        have q := hs.al _ hm d₀ (List.mem_cons_self ..)
        rw [e₀] at q
        exact (alikeW_cons (by simpa [alikeW] using q)).1
      refine ⟨tuples' (dataType x₀ != Value.type "tuple"), ?_, fun h2 E Q hq => ?_⟩
      · intro E x y a b Q ha hb hq
        obtain ⟨d, as, hd, ra, rfl⟩ := dataKind_inv ha
        obtain ⟨d', as', hd', rb, rfl⟩ := dataKind_inv hb
        have hdd := hs.al d hd d' hd'
        have p1 := hs.pl d hd
        have p2 := hs.pl d' hd'
        have hroom := room (d' := d') hd
        obtain ⟨x1, r1, rfl⟩ := ht d hd
        obtain ⟨x2, r2, rfl⟩ := ht d' hd'
        have hq' : Q (dataLt (.tuple (x1 :: r1)) (.tuple (x2 :: r2))) s := hq
        rw [dataLt_tuple] at hq'
        cases ra with
        | @tuple l o xs n _ _ h1 h2 h3 h4 =>
          cases rb with
          | @tuple l' o' xs' n' _ _ k1 k2 k3 k4 =>
            have n1 : xs.size = (x1 :: r1).length := by simpa using SeqAt.ReadsAll.length _ _ _ h4
            have n2 : xs'.size = (x2 :: r2).length := by simpa using SeqAt.ReadsAll.length _ _ _ k4
            refine kat_lt h1 h3 k1 k3 (katLexW (x1 :: r1) (x2 :: r2) 0 _ _ _ _ h4 k4 (by simpa [alikeW] using hdd) p1 p2 (by have q := SeqAt.room_in hroom; omega) (fun hb _ x r t ex => ?_) (by rw [n1, n2]) hq')
            obtain ⟨rfl, rfl⟩ := List.cons.inj ex
            have q := alikeW_type (hfirst _ _ hd)
            rw [← q] at hb
            exact dataType_tuple hb t
      · obtain ⟨fs, t1, t2, t3⟩ := each_katTups e ht
        refine kat_kind (T := dataType x₀) t1 (by omega) (fun f hf => ?_) (beq_self_eq_true _) hq
        obtain ⟨x, r, as, m1, m2⟩ := t3 f hf
        rw [← alikeW_type (hfirst x r m1)]
        exact looks_reads m2
end
end Pin
end
-- PinLtW5
section
set_option linter.all false
set_option maxRecDepth 100000
set_option maxHeartbeats 4000000
/-! Pin: sorted(xs), xs data that can be compared. Turned from KE's SortData. -/
namespace Pin
open PySem PySem.Spec PyProof.Rows L2 PySem.SeqAt PySem.W
theorem each_keysW {h : Heap} {vs : List Value} {ds : List D} (hp : ∀ d ∈ ds, d.plain = true) (e : EachIs (fun v d => ∃ as, Reads h v d as) vs ds) : EachIs (fun v d => (dataKind h ds).keyOf v = some (keyToks d)) vs ds :=
  (each_mem e).mono fun v d ⟨⟨as, r⟩, hd⟩ => dataKind_someW hp hd r
section
variable {prog : Program} {w : World} {A : Around} {E : Value → Shared → Prop} {s : Shared} {vs : List Value} {ds : List D} {R : Value → D → Prop}
theorem sorted_dataW {l : Addr} {Q : Value → Shared → Prop} (hl : s.heap.IsList l vs.toArray) (e : EachIs R vs ds) (er : EachIs (fun v b => ∃ as, Reads s.heap v b as) vs ds) (hs : SortW ds) (hL : ds.length ≤ sizeLine)
    (hu : ∀ b, b ∈ ds → A.units + 2 + b.depth < cLine) (h : ∀ out, out.length = ds.length → EachIs R out (isortD ds) → Q (.ref (s.heap.objs.size + 1)) { s with heap := sortedAll s.heap vs (List.toArray out) }) :
    wpAny (model prog w) A (call (.builtin "sorted") [.ref l]) Q E s := by
  have er' : EachIs (fun v b => ∃ as, Reads (sortingHeap (copyHeap s.heap vs) (s.heap.objs.size + 1) vs) v b as) vs ds := er.mono fun _ _ ⟨as, r⟩ => ⟨as, PyProof.Rows.Reads.keeps (fun _ _ => sorting_copy_old) r⟩
  refine sorted_vals hl (sortsAtW (s := { s with heap := sortingHeap (copyHeap s.heap vs) (s.heap.objs.size + 1) vs }) er' hs hu) (by rw [e.length]; exact hL) (h _ (by rw [sortVals_length false rfl]; exact e.length) ?_)
  have := sortVals_each (κ := dataKind (sortingHeap (copyHeap s.heap vs) (s.heap.objs.size + 1) vs) ds) (rev := false) (fun b => keyToks b) e (each_keysW hs.pl er')
  rw [← isort_ms]
  exact this
end
end Pin
end
-- PinSortW
section
set_option linter.all false
set_option maxRecDepth 100000
set_option maxHeartbeats 4000000
/-! Pin: sorted of data that are alike or can be compared. -/
namespace Pin
open PySem PySem.Spec PyProof.Rows L2
/-- sorted serves these too: tuples that can be compared -/
def canSortW (xs : List D) : Bool := decide (xs.length ≤ 500) && ((xs.all fun x => xs.all fun y => alikeW x y) && (xs.all (fun x => x.plain) && (xs.all keyB && decide (PyData.depthAll xs ≤ 30))))
def sortWC (as : List AV) (hp : AH) : Out AV := match as with
  | [a] => match lsOf a hp with
    | some xs => if canSort xs || canSortW xs then .ok (.d (.list (isortD xs))) hp else .bad
    | none => .bad
  | _ => .bad
theorem can_sortW {xs : List D} (h : canSortW xs = true) : xs.length ≤ 500 ∧ SortW xs ∧ PyData.depthAll xs ≤ 30 := by
  unfold canSortW at h
  simp only [Bool.and_eq_true, decide_eq_true_eq] at h
  obtain ⟨h1, h2, h3, h4, h5⟩ := h
  refine ⟨h1, ⟨fun d hd d' hd' => List.all_eq_true.mp (List.all_eq_true.mp h2 d hd) d' hd', fun d hd => List.all_eq_true.mp h3 d hd, fun d hd => ?_⟩, h5⟩
  have := List.all_eq_true.mp h4 d hd
  unfold keyB at this
  split at this
  · exact ⟨_, _, rfl⟩
  · cases this
section
variable {X : Cx} {W : WX}
theorem sort_runW {pins : List (Addr × Obj)} {s : Shared} {σ : L2.St} {H : Hp} {Z : Addr → Prop} {p : Addr} {vs : List V} {xs : List D} {Q : VK} (hu : X.A.units + 100 < cLine) (I : Inv X pins σ H s) (hq : SqL X.K H p vs) (hs : DRs X.K Z H vs xs) (hc : canSortW xs = true)
    (h : ∀ (q : Addr) (ws : List V), H q = none → DRs X.K Z H ws (isortD xs) → Q (.ref q) (upd H q (.lst ws))) : wpAny (model X.prog X.w) X.A (call (.builtin "sorted") [.ref p]) (EP X pins σ Q) X.xe s := by
  obtain ⟨h1, h2, h4⟩ := can_sortW hc
  obtain ⟨its, rv, pl, hz⟩ := I.list hq
  have e := each_of rv hs
  have hsz : xs.length ≤ sizeLine := by rw [sizeLine_eq]; omega
  refine sorted_dataW pl.isList e (each_imp (fun u d ⟨v, r, hd⟩ => Dp.reads I d v u (DR.dp hd) r) e) h2 hsz (fun d hd => by have := depth_mem hd; omega) fun out hl eo => ?_
  obtain ⟨ws, rw', hw⟩ := of_each eo
  obtain ⟨ep, he'⟩ := PyProof.Rows.sortedAll_at s.heap its out.toArray
  have hlw : ws.length = xs.length := by rw [rw'.length, hl]
  exact ⟨.ref _, upd H (s.heap.objs.size + 1) (.lst ws), I.laid (t' := s.toks) (fun _ _ => PyProof.Rows.sortedAll_old) (Nat.le_succ _) ⟨by rw [hlw]; exact hsz, out, ep, rw', he'⟩, rfl, h _ ws (I.hok.fresh (Nat.le_succ _)) hw⟩
theorem cr_sortW (c : Ctx X W) : CallR X (.builtin "sorted") (rOf X.K sortWC) := by
  intro pins s σ H xs us Q I r h
  obtain ⟨W', Z, m, σ', hp, as, rl, rv, h⟩ := h
  unfold sortWC at h
  split at h
  · rename_i a
    obtain ⟨v, rfl, ra⟩ := AVRs.one rv
    split at h
    · rename_i ds e
      split at h
      · rename_i hc
        obtain ⟨p, vs, rfl, hq, hs⟩ := lsOf_rel rl ra e
        obtain ⟨u, rfl, rx⟩ := vals1 r
        cases rx
        rcases Bool.or_eq_true _ _ |>.mp hc with hc | hc
        · exact sort_run (A := X.A) c.hu I hq hs hc fun q ws hn hw => Es.fresh h rl hn (new_lst rl hn hw)
        · exact sort_runW c.hu I hq hs hc fun q ws hn hw => Es.fresh h rl hn (new_lst rl hn hw)
      · exact h.elim
    · exact h.elim
  · exact h.elim
end
end Pin
end
-- Ms1
section
set_option linter.all false
set_option maxRecDepth 100000
set_option maxHeartbeats 4000000
/-! Ms1 (printed by gen2.py): meanings of defs that several laws have. -/
namespace Ms
open PySem PySem.Spec Pin
def d_CIRCLE : D := .tuple [.str "fault", .str "circle"]
def d_NONE : D := .tuple [.str "fault", .str "none"]
/-! ### next_of -/
def b_next_of : Fs := seqS (setS 3 (callF lenC (consF (vF 2) nilF)))
  (seqS (forS (itF (vF 0)) (tpB [nmB 4, nmB 5, nmB 6]) (ifS (andT (tstF (bF eqV (vF 4) (vF 1))) (tstF (bF eqV (slF (vF 5) noO (smO (vF 3))) (vF 2)))) (retS (ifF (tstF (bF eqV (callF lenC (consF (vF 5) nilF)) (vF 3))) (tupF (consF (cF (.str "tells")) (consF (vF 6) nilF))) (tupF (consF (cF (.str "asks")) (consF (bF ixV (bF ixV (vF 5) (vF 3)) (cF (.int 0))) nilF))))) nxS))
  (retS (cF .none)))
def G_next_of (as : List AV) (hp : AH) : Out AV := fnF 7 (b_next_of) as hp
def F_next_of : List AV → AH → Out AV := G_next_of
/-! ### Knowing.__init__ -/
def b_Knowing_d___init__ : Fs := seqS (parS [fldB "Knowing" "given" 0, fldB "Knowing" "made" 0, fldB "Knowing" "notes" 0] (consF (allocF (dictN (vF 1))) (consF (allocF (dictN (vF 2))) (consF (vF 3) nilF))))
  (parS [fldB "Knowing" "known" 0, fldB "Knowing" "reads" 0, fldB "Knowing" "begun" 0] (consF (allocF dct0N) (consF (allocF dct0N) (consF (allocF (lstN nilF)) nilF))))
def G_Knowing_d___init__ (as : List AV) (hp : AH) : Out AV := fnF 4 (b_Knowing_d___init__) as hp
def F_Knowing_d___init__ : List AV → AH → Out AV := G_Knowing_d___init__
/-! ### Knowing.beyond -/
def b_Knowing_d_beyond : Fs := raiseV "Unknown" "label" (vF 1)
def G_Knowing_d_beyond (as : List AV) (hp : AH) : Out AV := fnF 2 (b_Knowing_d_beyond) as hp
def F_Knowing_d_beyond : List AV → AH → Out AV := G_Knowing_d_beyond
/-! ### Knowing.value -/
def b_Knowing_d_value (r_Knowing_d_followed : List AV → AH → Out AV) : Fs := seqS (ifS (tstF (bF inV (vF 1) (fldF "Knowing" "given" (vF 0)))) (retS (tupF (consF (cF (.str "text")) (consF (bF ixV (fldF "Knowing" "given" (vF 0)) (vF 1)) nilF)))) nxS)
  (seqS (ifS (tstF (bF niV (vF 1) (fldF "Knowing" "made" (vF 0)))) (retS (cF d_NONE)) nxS)
  (seqS (setS 2 (bF ixV (fldF "Knowing" "made" (vF 0)) (vF 1)))
  (seqS (ifS (orT (tstF (bF inV (vF 2) (fldF "Knowing" "begun" (vF 0)))) (tstF (bF eqV (dgetF (fldF "Knowing" "known" (vF 0)) (vF 2)) (cF d_CIRCLE)))) (raiseS "Endless") nxS)
  (seqS (ifS (tstF (bF niV (vF 2) (fldF "Knowing" "known" (vF 0)))) (seqS (exprS (appF (fldF "Knowing" "begun" (vF 0)) (vF 2)))
  (seqS (setS 3 (methF "Knowing" "followed" 2 r_Knowing_d_followed (vF 0) (consF (vF 2) nilF)))
  (seqS (exprS (popF (fldF "Knowing" "begun" (vF 0))))
  (dputS (fldF "Knowing" "known" (vF 0)) (vF 2) (vF 3))))) nxS)
  (retS (bF ixV (fldF "Knowing" "known" (vF 0)) (vF 2)))))))
def G_Knowing_d_value (r_Knowing_d_followed : List AV → AH → Out AV) (as : List AV) (hp : AH) : Out AV := fnF 4 (b_Knowing_d_value r_Knowing_d_followed) as hp
/-! ### Knowing.followed -/
def b_Knowing_d_followed (r_Knowing_d_value : List AV → AH → Out AV) : Fs := seqS (dputS (fldF "Knowing" "reads" (vF 0)) (vF 1) (tupF nilF))
  (seqS (setS 2 (callF (arF 3 F_next_of) (consF (fldF "Knowing" "notes" (vF 0)) (consF (vF 1) (consF (tupF nilF) nilF)))))
  (seqS (whileD (andT (tstF (bF isntV (vF 2) (cF .none))) (tstF (bF eqV (bF ixV (vF 2) (cF (.int 0))) (cF (.str "asks"))))) (seqS (setS 3 (methF "Knowing" "value" 2 r_Knowing_d_value (vF 0) (consF (bF ixV (vF 2) (cF (.int 1))) nilF)))
  (seqS (dputS (fldF "Knowing" "reads" (vF 0)) (vF 1) (bF addV (bF ixV (fldF "Knowing" "reads" (vF 0)) (vF 1)) (tupF (consF (tupF (consF (bF ixV (vF 2) (cF (.int 1))) (consF (vF 3) nilF))) nilF))))
  (setS 2 (callF (arF 3 F_next_of) (consF (fldF "Knowing" "notes" (vF 0)) (consF (vF 1) (consF (bF ixV (fldF "Knowing" "reads" (vF 0)) (vF 1)) nilF))))))) 100)
  (retS (ifF (tstF (bF isV (vF 2) (cF .none))) (methF "Knowing" "beyond" 2 F_Knowing_d_beyond (vF 0) (consF (vF 1) nilF)) (bF ixV (vF 2) (cF (.int 1)))))))
def G_Knowing_d_followed (r_Knowing_d_value : List AV → AH → Out AV) (as : List AV) (hp : AH) : Out AV := fnF 4 (b_Knowing_d_followed r_Knowing_d_value) as hp
def F_Knowing_d_value : Nat → List AV → AH → Out AV
  | 0 => fun _ _ => .bad
  | k + 1 => G_Knowing_d_value (G_Knowing_d_followed (F_Knowing_d_value k))
def F_Knowing_d_followed (k : Nat) : List AV → AH → Out AV := G_Knowing_d_followed (F_Knowing_d_value k)
/-! ### known_of -/
def b_known_of : Fs := tryX (retS (tupF (consF (cF (.str "known")) (consF (methF "Knowing" "value" 2 (F_Knowing_d_value 12) (makeF "Knowing" 4 F_Knowing_d___init__ (consF (bF ixV (vF 0) (cF (.int 0))) (consF (bF ixV (vF 0) (cF (.int 1))) (consF (bF ixV (vF 0) (cF (.int 2))) nilF)))) (consF (vF 1) nilF)) nilF)))) "Unknown" 2 "run" "label" "Endless" (retS (tupF (consF (cF (.str "endless")) nilF)))
def G_known_of (as : List AV) (hp : AH) : Out AV := fnF 3 (b_known_of) as hp
def F_known_of : List AV → AH → Out AV := G_known_of
/-! ### _law_cell -/
def b_l_cell : Fs := seqS (ifS (tstF (bF ltV (vF 1) (callF lenC (consF (vF 0) nilF)))) (retS (bF ixV (vF 0) (vF 1))) nxS)
  (retS (bF addV (bF mulV (cF (.int 5)) (vF 1)) (cF (.int 3))))
def G_l_cell (as : List AV) (hp : AH) : Out AV := fnF 2 (b_l_cell) as hp
def F_l_cell : List AV → AH → Out AV := G_l_cell
/-! ### _law_draws -/
def b_l_draws : Fs := seqS (setS 2 (callF absC (consF (callF intC (consF (vF 0) nilF)) nilF)))
  (seqS (setS 3 (bF geV (vF 2) (bF powV (cF (.int 10)) (cF (.int 18)))))
  (seqS (setS 4 (vF 2))
  (seqS (setS 5 (allocF (lstN nilF)))
  (seqS (forS (rgF (vF 1)) (nmB 6) (ifS (andT (tstF (vF 3)) (tstF (bF gtV (vF 2) (cF (.int 0))))) (seqS (exprS (appF (vF 5) (bF modV (callF intC (consF (vF 2) nilF)) (cF (.int 5040)))))
  (setS 2 (bF fdivV (vF 2) (cF (.int 5040))))) (seqS (setS 7 (bF modV (callF intC (consF (bF addV (bF addV (bF mulV (vF 4) (cF (.int 48271))) (bF mulV (bF addV (vF 6) (cF (.int 1))) (cF (.int 69621)))) (cF (.int 11))) nilF)) (cF (.int 2147483647))))
  (seqS (setS 7 (bF modV (callF intC (consF (bF addV (bF mulV (vF 7) (vF 7)) (bF mulV (cF (.int 40692)) (bF addV (vF 6) (cF (.int 3))))) nilF)) (cF (.int 2147483399))))
  (exprS (appF (vF 5) (bF modV (callF intC (consF (bF fdivV (vF 7) (cF (.int 64))) nilF)) (cF (.int 5040)))))))))
  (retS (vF 5))))))
def G_l_draws (as : List AV) (hp : AH) : Out AV := fnF 8 (b_l_draws) as hp
def F_l_draws : List AV → AH → Out AV := G_l_draws
/-! ### _law_is_integer -/
def b_l_is_integer : Fs := retS (andF (isiF "int" (vF 0)) (notF (isiF "bool" (vF 0))))
def G_l_is_integer (as : List AV) (hp : AH) : Out AV := fnF 1 (b_l_is_integer) as hp
def F_l_is_integer : List AV → AH → Out AV := G_l_is_integer
/-! ### _law_is -/
def b_l_is (r_l_is : List AV → AH → Out AV) : Fs := seqS (ifS (tstF (bF isV (vF 1) (cF .none))) (retS (bF isV (vF 0) (cF .none))) nxS)
  (seqS (ifS (tstF (isiF "bool" (vF 1))) (retS (andF (isiF "bool" (vF 0)) (bF eqV (vF 0) (vF 1)))) nxS)
  (seqS (ifS (tstF (isiF "int" (vF 1))) (retS (andF (callF (arF 1 F_l_is_integer) (consF (vF 0) nilF)) (bF eqV (vF 0) (vF 1)))) nxS)
  (seqS (ifS (tstF (isiF "str" (vF 1))) (retS (andF (isiF "str" (vF 0)) (bF eqV (vF 0) (vF 1)))) nxS)
  (seqS (ifS (orT (notT (tstF (isiF "tuple" (vF 0)))) (tstF (bF neV (callF lenC (consF (vF 0) nilF)) (callF lenC (consF (vF 1) nilF))))) (retS (cF (.bool false))) nxS)
  (retS (callF allC (consF (frzF (compN (rgF (callF lenC (consF (vF 1) nilF))) (nmB 2) yesT (callF (arF 2 r_l_is) (consF (bF ixV (vF 0) (vF 2)) (consF (bF ixV (vF 1) (vF 2)) nilF))) [2])) nilF)))))))
def G_l_is (r_l_is : List AV → AH → Out AV) (as : List AV) (hp : AH) : Out AV := fnF 3 (b_l_is r_l_is) as hp
def F_l_is : Nat → List AV → AH → Out AV
  | 0 => fun _ _ => .bad
  | k + 1 => G_l_is (F_l_is k)
/-! ### _law_take -/
def b_l_take : Fs := seqS (setS 2 (bF ixV (vF 0) (cF (.str "at"))))
  (seqS (dputS (vF 0) (cF (.str "at")) (bF addV (vF 2) (cF (.int 1))))
  (seqS (setS 3 (bF ixV (vF 0) (cF (.str "draws"))))
  (retS (bF modV (bF addV (bF fdivV (callF intC (consF (bF ixV (vF 3) (bF modV (vF 2) (callF lenC (consF (vF 3) nilF)))) nilF)) (bF ixV (tupF (consF (cF (.int 1)) (consF (cF (.int 7)) (consF (cF (.int 59)) (consF (cF (.int 211)) nilF))))) (bF modV (bF fdivV (vF 2) (callF lenC (consF (vF 3) nilF))) (cF (.int 4))))) (bF fdivV (vF 2) (bF mulV (cF (.int 4)) (callF lenC (consF (vF 3) nilF))))) (vF 1)))))
def G_l_take (as : List AV) (hp : AH) : Out AV := fnF 4 (b_l_take) as hp
def F_l_take : List AV → AH → Out AV := G_l_take
/-! ### _law_pool -/
def b_l_pool : Fs := retS (bF ixV (tupF (consF (tupF (consF (cF (.str "fault")) (consF (cF (.str "none")) nilF))) (consF (tupF (consF (cF (.str "text")) (consF (tupF nilF) nilF))) (consF (tupF (consF (cF (.str "text")) (consF (tupF (consF (cF (.str "0")) nilF)) nilF))) (consF (tupF (consF (cF (.str "text")) (consF (tupF (consF (cF (.str "1")) nilF)) nilF))) nilF))))) (callF (arF 2 F_l_take) (consF (vF 0) (consF (cF (.int 4)) nilF))))
def G_l_pool (as : List AV) (hp : AH) : Out AV := fnF 1 (b_l_pool) as hp
def F_l_pool : List AV → AH → Out AV := G_l_pool
/-! ### _law_box -/
def b_l_box (r_l_box : List AV → AH → Out AV) : Fs := seqS (setS 3 (ifF (tstF (bF gtV (vF 1) (cF (.int 0)))) (callF (arF 2 F_l_take) (consF (vF 0) (consF (cF (.int 6)) nilF))) (cF (.int 6))))
  (seqS (setS 4 (bF ixV (tupF (consF (cF (.str "a")) (consF (cF (.str "b")) (consF (cF (.str "c")) (consF (cF (.str "d")) (consF (cF (.str "e")) (consF (cF (.str "f")) (consF (cF (.str "x1")) (consF (cF (.str "zz")) nilF))))))))) (callF (arF 2 F_l_take) (consF (vF 0) (consF (cF (.int 8)) nilF)))))
  (seqS (ifS (orT (tstF (bF gtV (vF 3) (cF (.int 4)))) (tstF (bF inV (vF 4) (vF 2)))) (retS (tupF (consF (cF (.str "tells")) (consF (callF (arF 1 F_l_pool) (consF (vF 0) nilF)) nilF)))) nxS)
  (seqS (setS 5 (allocF (lstN nilF)))
  (seqS (forS (itF (tupF (consF (tupF (consF (cF (.str "fault")) (consF (cF (.str "none")) nilF))) (consF (tupF (consF (cF (.str "text")) (consF (tupF nilF) nilF))) (consF (tupF (consF (cF (.str "text")) (consF (tupF (consF (cF (.str "0")) nilF)) nilF))) (consF (tupF (consF (cF (.str "text")) (consF (tupF (consF (cF (.str "1")) nilF)) nilF))) nilF)))))) (nmB 6) (ifS (tstF (bF eqV (callF (arF 2 F_l_take) (consF (vF 0) (consF (cF (.int 2)) nilF))) (cF (.int 0)))) (exprS (appF (vF 5) (tupF (consF (vF 6) (consF (callF (arF 3 r_l_box) (consF (vF 0) (consF (bF subV (vF 1) (cF (.int 1))) (consF (bF addV (vF 2) (lstF (consF (vF 4) nilF))) nilF)))) nilF))))) nxS))
  (retS (tupF (consF (cF (.str "asks")) (consF (vF 4) (consF (callF tupleC (consF (vF 5) nilF)) (consF (callF (arF 3 r_l_box) (consF (vF 0) (consF (bF subV (vF 1) (cF (.int 1))) (consF (bF addV (vF 2) (lstF (consF (vF 4) nilF))) nilF)))) nilF))))))))))
def G_l_box (r_l_box : List AV → AH → Out AV) (as : List AV) (hp : AH) : Out AV := fnF 7 (b_l_box r_l_box) as hp
def F_l_box : Nat → List AV → AH → Out AV
  | 0 => fun _ _ => .bad
  | k + 1 => G_l_box (F_l_box k)
/-! ### _law_edited -/
def b_l_edited : Fs := seqS (setS 3 (allocF (compN (itF (bF ixV (vF 1) (cF (.int 0)))) (nmB 6) (tstF (bF neV (bF ixV (vF 6) (cF (.int 0))) (vF 2))) (vF 6) [6])))
  (seqS (setS 4 (allocF (compN (itF (bF ixV (vF 1) (cF (.int 1)))) (nmB 6) (tstF (bF neV (bF ixV (vF 6) (cF (.int 0))) (vF 2))) (vF 6) [6])))
  (seqS (setS 5 (callF (arF 2 F_l_take) (consF (vF 0) (consF (cF (.int 7)) nilF))))
  (seqS (ifS (tstF (bF ltV (vF 5) (cF (.int 2)))) (exprS (appF (vF 3) (tupF (consF (vF 2) (consF (bF ixV (tupF (consF (tupF nilF) (consF (tupF (consF (cF (.str "0")) nilF)) (consF (tupF (consF (cF (.str "1")) nilF)) nilF)))) (callF (arF 2 F_l_take) (consF (vF 0) (consF (cF (.int 3)) nilF)))) nilF))))) (ifS (tstF (bF ltV (vF 5) (cF (.int 6)))) (exprS (appF (vF 4) (tupF (consF (vF 2) (consF (bF ixV (tupF (consF (cF (.str "k1")) (consF (cF (.str "k2")) (consF (cF (.str "k3")) (consF (cF (.str "k4")) nilF))))) (callF (arF 2 F_l_take) (consF (vF 0) (consF (cF (.int 4)) nilF)))) nilF))))) nxS))
  (retS (tupF (consF (callF tupleC (consF (callF sortWC (consF (vF 3) nilF)) nilF)) (consF (callF tupleC (consF (callF sortWC (consF (vF 4) nilF)) nilF)) nilF)))))))
def G_l_edited (as : List AV) (hp : AH) : Out AV := fnF 7 (b_l_edited) as hp
def F_l_edited : List AV → AH → Out AV := G_l_edited
/-! ### _law_behind -/
def b_l_behind : Fs := seqS (forS (itF (bF ixV (vF 0) (cF (.int 2)))) (tpB [nmB 2, nmB 3]) (ifS (tstF (bF eqV (vF 2) (vF 1))) (retS (vF 3)) nxS))
  (retS (bF ixV (vF 0) (cF (.int 3))))
def G_l_behind (as : List AV) (hp : AH) : Out AV := fnF 4 (b_l_behind) as hp
def F_l_behind : List AV → AH → Out AV := G_l_behind
/-! ### _law_found -/
def b_l_found (r_l_branch : List AV → AH → Out AV) : Fs := seqS (parS [nmB 3, nmB 4] (consF (allocF (dictN (bF ixV (vF 0) (cF (.int 0))))) (consF (allocF (dictN (bF ixV (vF 0) (cF (.int 1))))) nilF)))
  (seqS (ifS (tstF (bF inV (vF 1) (vF 3))) (retS (tupF (consF (cF (.str "text")) (consF (bF ixV (vF 3) (vF 1)) nilF)))) nxS)
  (seqS (ifS (tstF (bF niV (vF 1) (vF 4))) (retS (tupF (consF (cF (.str "fault")) (consF (cF (.str "none")) nilF)))) nxS)
  (seqS (setS 5 (ifF (tstF (bF inV (bF ixV (vF 4) (vF 1)) (vF 2))) (cF .none) (callF (arF 3 r_l_branch) (consF (vF 0) (consF (bF ixV (vF 4) (vF 1)) (consF (vF 2) nilF))))))
  (retS (ifF (tstF (bF isV (vF 5) (cF .none))) (cF .none) (bF ixV (vF 5) (cF (.int 1))))))))
def G_l_found (r_l_branch : List AV → AH → Out AV) (as : List AV) (hp : AH) : Out AV := fnF 6 (b_l_found r_l_branch) as hp
/-! ### _law_branch -/
def b_l_branch (r_l_found : List AV → AH → Out AV) : Fs := seqS (parS [nmB 3, nmB 4] (consF (ixN (dictN (bF ixV (vF 0) (cF (.int 2)))) (vF 1)) (consF (tupF nilF) nilF)))
  (seqS (whileD (tstF (bF eqV (bF ixV (vF 3) (cF (.int 0))) (cF (.str "asks")))) (seqS (setS 5 (callF (arF 3 r_l_found) (consF (vF 0) (consF (bF ixV (vF 3) (cF (.int 1))) (consF (bF addV (vF 2) (lstF (consF (vF 1) nilF))) nilF)))))
  (seqS (ifS (tstF (bF isV (vF 5) (cF .none))) (retS (cF .none)) nxS)
  (seqS (setS 4 (bF addV (vF 4) (tupF (consF (tupF (consF (bF ixV (vF 3) (cF (.int 1))) (consF (vF 5) nilF))) nilF))))
  (setS 3 (callF (arF 2 F_l_behind) (consF (vF 3) (consF (vF 5) nilF))))))) 100)
  (retS (tupF (consF (vF 4) (consF (bF ixV (vF 3) (cF (.int 1))) nilF)))))
def G_l_branch (r_l_found : List AV → AH → Out AV) (as : List AV) (hp : AH) : Out AV := fnF 6 (b_l_branch r_l_found) as hp
def F_l_found : Nat → List AV → AH → Out AV
  | 0 => fun _ _ => .bad
  | k + 1 => G_l_found (G_l_branch (F_l_found k))
def F_l_branch (k : Nat) : List AV → AH → Out AV := G_l_branch (F_l_found k)
/-! ### _law_stock -/
def b_l_stock : Fs := seqS (setS 1 (callF tupleC (consF (frzF (compN (itF (tupF (consF (cF (.str "k1")) (consF (cF (.str "k2")) (consF (cF (.str "k3")) (consF (cF (.str "k4")) nilF)))))) (nmB 6) yesT (tupF (consF (vF 6) (consF (callF (arF 3 (F_l_box 4)) (consF (vF 0) (consF (cF (.int 2)) (consF (lstF nilF) nilF)))) nilF))) [6])) nilF)))
  (seqS (parS [nmB 2, nmB 3] (consF (tupF (consF (tupF nilF) (consF (tupF nilF) nilF))) (consF (allocF (lstN nilF)) nilF)))
  (seqS (forS (itF (tupF (consF (cF (.str "a")) (consF (cF (.str "b")) (consF (cF (.str "c")) (consF (cF (.str "d")) (consF (cF (.str "e")) (consF (cF (.str "f")) (consF (cF (.str "x1")) nilF))))))))) (nmB 4) (setS 2 (callF (arF 3 F_l_edited) (consF (vF 0) (consF (vF 2) (consF (vF 4) nilF))))))
  (seqS (forS (rgF (cF (.int 3))) (nmB 5) (seqS (forS (itF (sortSetF (frzF (compN (itF (bF ixV (vF 2) (cF (.int 1)))) (nmB 8) yesT (bF ixV (vF 8) (cF (.int 1))) [8])))) (nmB 6) (seqS (setS 7 (callF (arF 3 (F_l_branch 12)) (consF (bF addV (vF 2) (tupF (consF (vF 1) nilF))) (consF (vF 6) (consF (lstF nilF) nilF)))))
  (ifS (andT (tstF (bF isntV (vF 7) (cF .none))) (andT (tstF (bF gtV (callF (arF 2 F_l_take) (consF (vF 0) (consF (cF (.int 4)) nilF))) (cF (.int 0)))) (tstF (bF niV (bF addV (tupF (consF (vF 6) nilF)) (vF 7)) (vF 3))))) (exprS (appF (vF 3) (bF addV (tupF (consF (vF 6) nilF)) (vF 7)))) nxS)))
  (setS 2 (callF (arF 3 F_l_edited) (consF (vF 0) (consF (vF 2) (consF (bF ixV (tupF (consF (cF (.str "a")) (consF (cF (.str "b")) (consF (cF (.str "c")) (consF (cF (.str "d")) (consF (cF (.str "e")) (consF (cF (.str "f")) (consF (cF (.str "x1")) nilF)))))))) (callF (arF 2 F_l_take) (consF (vF 0) (consF (cF (.int 7)) nilF)))) nilF)))))))
  (retS (tupF (consF (bF addV (vF 2) (tupF (consF (callF tupleC (consF (callF sortWC (consF (vF 3) nilF)) nilF)) nilF))) (consF (bF addV (vF 2) (tupF (consF (vF 1) nilF))) nilF)))))))
def G_l_stock (as : List AV) (hp : AH) : Out AV := fnF 9 (b_l_stock) as hp
def F_l_stock : List AV → AH → Out AV := G_l_stock
/-! ### _law_step -/
def b_l_step : Fs := seqS (forS (itF (vF 0)) (tpB [nmB 3, nmB 4, nmB 5]) (ifS (andT (tstF (bF eqV (vF 3) (vF 1))) (tstF (bF eqV (slF (vF 4) noO (smO (callF lenC (consF (vF 2) nilF)))) (vF 2)))) (retS (ifF (tstF (bF eqV (callF lenC (consF (vF 4) nilF)) (callF lenC (consF (vF 2) nilF)))) (tupF (consF (cF (.str "tells")) (consF (vF 5) nilF))) (tupF (consF (cF (.str "asks")) (consF (bF ixV (bF ixV (vF 4) (callF lenC (consF (vF 2) nilF))) (cF (.int 0))) nilF))))) nxS))
  (retS (cF .none))
def G_l_step (as : List AV) (hp : AH) : Out AV := fnF 6 (b_l_step) as hp
def F_l_step : List AV → AH → Out AV := G_l_step
/-! ### _law_tells -/
def b_l_tells (r_l_tells : List AV → AH → Out AV) : Fs := seqS (parS [nmB 3, nmB 4] (consF (allocF (dictN (bF ixV (vF 0) (cF (.int 0))))) (consF (allocF (dictN (bF ixV (vF 0) (cF (.int 1))))) nilF)))
  (seqS (ifS (orT (tstF (bF inV (vF 1) (vF 3))) (tstF (bF niV (vF 1) (vF 4)))) (retS (tupF (consF (cF (.str "known")) (consF (ifF (tstF (bF inV (vF 1) (vF 3))) (tupF (consF (cF (.str "text")) (consF (bF ixV (vF 3) (vF 1)) nilF))) (tupF (consF (cF (.str "fault")) (consF (cF (.str "none")) nilF)))) nilF)))) nxS)
  (seqS (ifS (tstF (bF inV (bF ixV (vF 4) (vF 1)) (vF 2))) (retS (tupF (consF (cF (.str "endless")) nilF))) nxS)
  (seqS (parS [nmB 5, nmB 6] (consF (bF ixV (vF 4) (vF 1)) (consF (tupF nilF) nilF)))
  (seqS (setS 7 (callF (arF 3 F_l_step) (consF (bF ixV (vF 0) (cF (.int 2))) (consF (vF 5) (consF (vF 6) nilF)))))
  (seqS (whileD (andT (tstF (bF isntV (vF 7) (cF .none))) (tstF (bF eqV (bF ixV (vF 7) (cF (.int 0))) (cF (.str "asks"))))) (seqS (setS 8 (callF (arF 3 r_l_tells) (consF (vF 0) (consF (bF ixV (vF 7) (cF (.int 1))) (consF (bF addV (vF 2) (tupF (consF (vF 5) nilF))) nilF)))))
  (seqS (ifS (tstF (bF neV (bF ixV (vF 8) (cF (.int 0))) (cF (.str "known")))) (retS (vF 8)) nxS)
  (seqS (setS 6 (bF addV (vF 6) (tupF (consF (tupF (consF (bF ixV (vF 7) (cF (.int 1))) (consF (bF ixV (vF 8) (cF (.int 1))) nilF))) nilF))))
  (setS 7 (callF (arF 3 F_l_step) (consF (bF ixV (vF 0) (cF (.int 2))) (consF (vF 5) (consF (vF 6) nilF)))))))) 100)
  (retS (ifF (tstF (bF isV (vF 7) (cF .none))) (tupF (consF (cF (.str "run")) (consF (bF addV (vF 2) (tupF (consF (vF 5) nilF))) nilF))) (tupF (consF (cF (.str "known")) (consF (bF ixV (vF 7) (cF (.int 1))) nilF))))))))))
def G_l_tells (r_l_tells : List AV → AH → Out AV) (as : List AV) (hp : AH) : Out AV := fnF 9 (b_l_tells r_l_tells) as hp
def F_l_tells : Nat → List AV → AH → Out AV
  | 0 => fun _ _ => .bad
  | k + 1 => G_l_tells (F_l_tells k)
/-! ### _law_text -/
def b_l_text : Fs := retS (tupF (consF (cF (.str "text")) (consF (tupF (consF (vF 0) nilF)) nilF)))
def G_l_text (as : List AV) (hp : AH) : Out AV := fnF 1 (b_l_text) as hp
def F_l_text : List AV → AH → Out AV := G_l_text
end Ms
end
-- K96S
section
set_option linter.all false
set_option maxRecDepth 100000
set_option maxHeartbeats 4000000
/-! K96, part S (printed by gen2.py): the meanings of the law's own defs. -/
namespace K96
open PySem PySem.Spec Pin Ms
/-! ### stock_given -/
def b_stock_given : Fs := seqS (parS [nmB 2, nmB 3] (consF (allocF (dictN (bF ixV (vF 0) (cF (.int 0))))) (consF (allocF (dictN (bF ixV (vF 0) (cF (.int 1))))) nilF)))
  (seqS (forS (itF (vF 1)) (tpB [nmB 4, nmB 5]) (seqS (dputS (vF 2) (vF 4) (vF 5))
  (exprS (dpopF (vF 3) (vF 4) (cF .none)))))
  (retS (tupF (consF (callF tupleC (consF (sortItF (vF 2)) nilF)) (consF (callF tupleC (consF (sortItF (vF 3)) nilF)) (consF (bF ixV (vF 0) (cF (.int 2))) nilF))))))
def G_stock_given (as : List AV) (hp : AH) : Out AV := fnF 6 (b_stock_given) as hp
def F_stock_given : List AV → AH → Out AV := G_stock_given
/-! ### least_menu -/
def b_least_menu : Fs := seqS (forS (rgF (bF addV (callF lenC (consF (vF 2) nilF)) (cF (.int 1)))) (nmB 3) (forS (combI (vF 2) (vF 3)) (nmB 4) (seqS (setS 5 (bF eqV (lenSetF (frzF (compN (itF (vF 4)) (nmB 6) yesT (bF ixV (vF 6) (cF (.int 0))) [6]))) (vF 3)))
  (ifS (andT (tstF (vF 5)) (tstF (bF eqV (bF ixV (callF (arF 2 F_known_of) (consF (callF (arF 2 F_stock_given) (consF (vF 0) (consF (vF 4) nilF))) (consF (vF 1) nilF))) (cF (.int 0))) (cF (.str "known"))))) (retS (vF 4)) nxS))))
  (retS (cF .none))
def G_least_menu (as : List AV) (hp : AH) : Out AV := fnF 7 (b_least_menu) as hp
def F_least_menu : List AV → AH → Out AV := G_least_menu
/-! ### _law_behind_choice -/
def b_l_behind_choice : Fs := seqS (setS 2 (frzF (compN (itF (vF 1)) (tpB [nmB 4, nmB 5]) yesT (vF 4) [4, 5])))
  (seqS (setS 3 (bF addV (frzF (compN (itF (bF ixV (vF 0) (cF (.int 0)))) (nmB 6) (tstF (bF niV (bF ixV (vF 6) (cF (.int 0))) (vF 2))) (vF 6) [6])) (callF listC (consF (vF 1) nilF))))
  (retS (tupF (consF (callF tupleC (consF (callF sortWC (consF (vF 3) nilF)) nilF)) (consF (callF tupleC (consF (frzF (compN (itF (bF ixV (vF 0) (cF (.int 1)))) (nmB 6) (tstF (bF niV (bF ixV (vF 6) (cF (.int 0))) (vF 2))) (vF 6) [6])) nilF)) nilF)))))
def G_l_behind_choice (as : List AV) (hp : AH) : Out AV := fnF 7 (b_l_behind_choice) as hp
def F_l_behind_choice : List AV → AH → Out AV := G_l_behind_choice
/-! ### _law_choices -/
def b_l_choices : Fs := seqS (setS 1 (lstF (consF (tupF nilF) nilF)))
  (seqS (forS (itF (vF 0)) (nmB 2) (setS 1 (bF addV (vF 1) (frzF (compN (itF (vF 1)) (nmB 3) (tstF (bF niV (bF ixV (vF 2) (cF (.int 0))) (frzF (compN (itF (vF 3)) (tpB [nmB 4, nmB 5]) yesT (vF 4) [4, 5])))) (bF addV (vF 3) (tupF (consF (vF 2) nilF))) [3])))))
  (retS (vF 1)))
def G_l_choices (as : List AV) (hp : AH) : Out AV := fnF 6 (b_l_choices) as hp
def F_l_choices : List AV → AH → Out AV := G_l_choices
/-! ### _law_least_choice -/
def b_l_least_choice : Fs := seqS (setS 3 (allocF (lstN nilF)))
  (seqS (forS (itF (callF (arF 1 F_l_choices) (consF (vF 2) nilF))) (nmB 4) (ifS (tstF (bF eqV (bF ixV (callF (arF 3 (F_l_tells 12)) (consF (bF addV (callF (arF 2 F_l_behind_choice) (consF (vF 0) (consF (vF 4) nilF))) (tupF (consF (bF ixV (vF 0) (cF (.int 2))) nilF))) (consF (vF 1) (consF (tupF nilF) nilF)))) (cF (.int 0))) (cF (.str "known")))) (exprS (appF (vF 3) (tupF (consF (callF lenC (consF (vF 4) nilF)) (consF (vF 4) nilF))))) nxS))
  (retS (ifF (tstF (bF gtV (callF lenC (consF (vF 3) nilF)) (cF (.int 0)))) (bF ixV (callF minC (consF (vF 3) nilF)) (cF (.int 1))) (cF .none))))
def G_l_least_choice (as : List AV) (hp : AH) : Out AV := fnF 5 (b_l_least_choice) as hp
def F_l_least_choice : List AV → AH → Out AV := G_l_least_choice
/-! ### _law_menu -/
def b_l_menu : Fs := seqS (setS 1 (allocF (lstN nilF)))
  (seqS (forS (rgF (callF (arF 2 F_l_take) (consF (vF 0) (consF (cF (.int 6)) nilF)))) (nmB 2) (seqS (setS 3 (bF ixV (tupF (consF (cF (.str "a")) (consF (cF (.str "b")) (consF (cF (.str "c")) (consF (cF (.str "d")) (consF (cF (.str "e")) (consF (cF (.str "f")) (consF (cF (.str "x1")) (consF (cF (.str "y")) nilF))))))))) (callF (arF 2 F_l_take) (consF (vF 0) (consF (cF (.int 8)) nilF)))))
  (seqS (setS 4 (tupF (consF (vF 3) (consF (bF ixV (tupF (consF (tupF nilF) (consF (tupF (consF (cF (.str "0")) nilF)) (consF (tupF (consF (cF (.str "1")) nilF)) (consF (tupF (consF (cF (.str "0")) (consF (cF (.str "1")) nilF))) nilF))))) (callF (arF 2 F_l_take) (consF (vF 0) (consF (cF (.int 4)) nilF)))) nilF))))
  (ifS (tstF (bF niV (vF 4) (vF 1))) (exprS (appF (vF 1) (vF 4))) nxS))))
  (retS (callF tupleC (consF (callF sortWC (consF (vF 1) nilF)) nilF))))
def G_l_menu (as : List AV) (hp : AH) : Out AV := fnF 5 (b_l_menu) as hp
def F_l_menu : List AV → AH → Out AV := G_l_menu
/-! ### _law_fine -/
def b_l_fine : Fs := seqS (setS 4 (callF (arF 3 F_l_least_choice) (consF (vF 0) (consF (vF 2) (consF (vF 3) nilF)))))
  (seqS (ifS (notT (tstF (callF (arF 2 (F_l_is 12)) (consF (callF (arF 3 F_least_menu) (consF (vF 0) (consF (vF 2) (consF (vF 3) nilF)))) (consF (vF 4) nilF))))) (retS (cF (.bool false))) nxS)
  (seqS (ifS (tstF (bF isV (vF 4) (cF .none))) (retS (cF (.bool true))) nxS)
  (seqS (setS 5 (callF (arF 2 F_l_behind_choice) (consF (vF 0) (consF (vF 4) nilF))))
  (seqS (setS 6 (callF (arF 2 F_known_of) (consF (bF addV (vF 5) (tupF (consF (bF ixV (vF 0) (cF (.int 2))) nilF))) (consF (vF 2) nilF))))
  (seqS (ifS (orT (tstF (bF neV (bF ixV (vF 6) (cF (.int 0))) (cF (.str "known")))) (notT (tstF (callF (arF 2 (F_l_is 12)) (consF (callF (arF 3 (F_l_found 12)) (consF (bF addV (vF 5) (tupF (consF (bF ixV (vF 1) (cF (.int 2))) nilF))) (consF (vF 2) (consF (lstF nilF) nilF)))) (consF (bF ixV (vF 6) (cF (.int 1))) nilF)))))) (retS (cF (.bool false))) nxS)
  (retS (callF (arF 2 (F_l_is 12)) (consF (callF (arF 3 F_least_menu) (consF (bF addV (vF 5) (tupF (consF (bF ixV (vF 0) (cF (.int 2))) nilF))) (consF (vF 2) (consF (vF 3) nilF)))) (consF (tupF nilF) nilF)))))))))
def G_l_fine (as : List AV) (hp : AH) : Out AV := fnF 7 (b_l_fine) as hp
def F_l_fine : List AV → AH → Out AV := G_l_fine
/-! ### _law_fixed -/
def b_l_fixed : Fs := seqS (parS [nmB 0, nmB 1] (consF (callF (arF 1 F_l_text) (consF (cF (.str "0")) nilF)) (consF (callF (arF 1 F_l_text) (consF (cF (.str "1")) nilF)) nilF)))
  (seqS (setS 2 (tupF (consF (tupF (consF (cF (.str "k1")) (consF (tupF (consF (tupF (consF (cF (.str "a")) (consF (vF 0) nilF))) (consF (tupF (consF (cF (.str "b")) (consF (vF 1) nilF))) nilF))) (consF (vF 0) nilF)))) (consF (tupF (consF (cF (.str "k1")) (consF (tupF (consF (tupF (consF (cF (.str "a")) (consF (vF 1) nilF))) (consF (tupF (consF (cF (.str "d")) (consF (vF 0) nilF))) nilF))) (consF (vF 1) nilF)))) nilF))))
  (seqS (setS 3 (tupF (consF (tupF (consF (tupF (consF (cF (.str "a")) (consF (tupF nilF) nilF))) (consF (tupF (consF (cF (.str "b")) (consF (tupF (consF (cF (.str "0")) nilF)) nilF))) nilF))) (consF (tupF (consF (tupF (consF (cF (.str "c")) (consF (cF (.str "k1")) nilF))) (consF (tupF (consF (cF (.str "d")) (consF (cF (.str "k2")) nilF))) nilF))) (consF (vF 2) nilF)))))
  (seqS (setS 4 (tupF (consF (tupF (consF (cF (.str "a")) (consF (tupF (consF (cF (.str "0")) nilF)) nilF))) (consF (tupF (consF (cF (.str "a")) (consF (tupF (consF (cF (.str "1")) nilF)) nilF))) (consF (tupF (consF (cF (.str "b")) (consF (tupF (consF (cF (.str "1")) nilF)) nilF))) (consF (tupF (consF (cF (.str "d")) (consF (tupF (consF (cF (.str "0")) nilF)) nilF))) (consF (tupF (consF (cF (.str "zz")) (consF (tupF nilF) nilF))) nilF)))))))
  (seqS (setS 5 (allocF (lstN (consF (tupF (consF (vF 4) (consF (tupF (consF (bF ixV (vF 4) (cF (.int 0))) (consF (bF ixV (vF 4) (cF (.int 2))) nilF))) nilF))) (consF (tupF (consF (slF (vF 4) (smO (cF (.int 1))) noO) (consF (tupF (consF (bF ixV (vF 4) (cF (.int 1))) (consF (bF ixV (vF 4) (cF (.int 3))) nilF))) nilF))) (consF (tupF (consF (slF (vF 4) noO (smO (cF (.int 2)))) (consF (cF .none) nilF))) (consF (tupF (consF (bF addV (vF 4) (tupF (consF (tupF (consF (cF (.str "zz")) (consF (tupF (consF (cF (.str "1")) nilF)) nilF))) nilF))) (consF (tupF (consF (bF ixV (vF 4) (cF (.int 0))) (consF (bF ixV (vF 4) (cF (.int 2))) nilF))) nilF))) nilF)))))))
  (seqS (exprS (extF (vF 5) (lstN (consF (tupF (consF (tupF nilF) (consF (cF .none) nilF))) (consF (tupF (consF (bF addV (tupF (consF (tupF (consF (cF (.str "c")) (consF (tupF (consF (cF (.str "5")) nilF)) nilF))) nilF)) (slF (vF 4) (smO (cF (.int 3))) noO)) (consF (tupF (consF (tupF (consF (cF (.str "c")) (consF (tupF (consF (cF (.str "5")) nilF)) nilF))) nilF)) nilF))) (consF (tupF (consF (slF (vF 4) (smO (cF (.int 1))) (smO (cF (.int 4)))) (consF (tupF (consF (bF ixV (vF 4) (cF (.int 1))) (consF (bF ixV (vF 4) (cF (.int 3))) nilF))) nilF))) nilF))))))
  (seqS (forR 100 (vF 5) (tpB [nmB 6, nmB 7]) (ifS (notT (tstF (callF (arF 2 (F_l_is 12)) (consF (callF (arF 3 F_least_menu) (consF (vF 3) (consF (cF (.str "c")) (consF (vF 6) nilF)))) (consF (vF 7) nilF))))) (retS (cF (.bool false))) nxS))
  (seqS (forS (itF (tupF (consF (cF (.str "a")) (consF (cF (.str "b")) (consF (cF (.str "q9")) nilF))))) (nmB 8) (ifS (notT (tstF (callF (arF 2 (F_l_is 12)) (consF (callF (arF 3 F_least_menu) (consF (vF 3) (consF (vF 8) (consF (vF 4) nilF)))) (consF (tupF nilF) nilF))))) (retS (cF (.bool false))) nxS))
  (seqS (setS 9 (tupF (consF (tupF nilF) (consF (tupF (consF (tupF (consF (cF (.str "c")) (consF (cF (.str "k1")) nilF))) nilF)) (consF (tupF (consF (tupF (consF (cF (.str "k1")) (consF (tupF (consF (tupF (consF (cF (.str "c")) (consF (vF 0) nilF))) nilF)) (consF (vF 0) nilF)))) nilF)) nilF)))))
  (seqS (ifS (notT (tstF (callF (arF 2 (F_l_is 12)) (consF (callF (arF 3 F_least_menu) (consF (vF 9) (consF (cF (.str "c")) (consF (vF 4) nilF)))) (consF (cF .none) nilF))))) (retS (cF (.bool false))) nxS)
  (retS (andF (callF (arF 2 (F_l_is 12)) (consF (callF (arF 3 F_least_menu) (consF (vF 9) (consF (cF (.str "c")) (consF (tupF (consF (tupF (consF (cF (.str "c")) (consF (tupF nilF) nilF))) (consF (tupF (consF (cF (.str "c")) (consF (tupF (consF (cF (.str "1")) nilF)) nilF))) nilF))) nilF)))) (consF (tupF (consF (tupF (consF (cF (.str "c")) (consF (tupF nilF) nilF))) nilF)) nilF))) (callF (arF 2 (F_l_is 12)) (consF (callF (arF 3 F_least_menu) (consF (vF 3) (consF (cF (.str "d")) (consF (slF (vF 4) (smO (cF (.int 3))) noO) nilF)))) (consF (slF (vF 4) (smO (cF (.int 3))) (smO (cF (.int 4)))) nilF))))))))))))))
def G_l_fixed (as : List AV) (hp : AH) : Out AV := fnF 10 (b_l_fixed) as hp
def F_l_fixed : List AV → AH → Out AV := G_l_fixed
/-! ### _law_crossed_stock -/
def b_l_crossed_stock : Fs := seqS (parS [nmB 0, nmB 1] (consF (callF (arF 1 F_l_text) (consF (cF (.str "0")) nilF)) (consF (callF (arF 1 F_l_text) (consF (cF (.str "1")) nilF)) nilF)))
  (seqS (setS 2 (tupF (consF (tupF (consF (cF (.str "d")) (consF (tupF (consF (tupF (consF (cF (.str "d")) (consF (vF 0) nilF))) nilF)) (consF (vF 1) nilF)))) (consF (tupF (consF (cF (.str "e")) (consF (tupF (consF (tupF (consF (cF (.str "a")) (consF (vF 0) nilF))) (consF (tupF (consF (cF (.str "e")) (consF (vF 0) nilF))) nilF))) (consF (vF 0) nilF)))) nilF))))
  (retS (tupF (consF (tupF (consF (tupF (consF (cF (.str "a")) (consF (tupF (consF (cF (.str "0")) nilF)) nilF))) nilF)) (consF (tupF (consF (tupF (consF (cF (.str "c")) (consF (cF (.str "d")) nilF))) (consF (tupF (consF (cF (.str "d")) (consF (cF (.str "e")) nilF))) (consF (tupF (consF (cF (.str "e")) (consF (cF (.str "c")) nilF))) (consF (tupF (consF (cF (.str "f")) (consF (cF (.str "a")) nilF))) nilF))))) (consF (vF 2) nilF))))))
def G_l_crossed_stock (as : List AV) (hp : AH) : Out AV := fnF 3 (b_l_crossed_stock) as hp
def F_l_crossed_stock : List AV → AH → Out AV := G_l_crossed_stock
/-! ### _law_deep_stock -/
def b_l_deep_stock : Fs := seqS (parS [nmB 0, nmB 1, nmB 2] (consF (tupF (consF (cF (.str "fault")) (consF (cF (.str "none")) nilF))) (consF (tupF (consF (cF (.str "fault")) (consF (cF (.str "long")) nilF))) (consF (tupF (consF (cF (.str "fault")) (consF (cF (.str "name")) nilF))) nilF))))
  (seqS (parS [nmB 3, nmB 4] (consF (tupF (consF (cF (.str "text")) (consF (tupF (consF (cF (.str "1")) (consF (cF (.str "0")) nilF))) nilF))) (consF (callF (arF 1 F_l_text) (consF (cF (.str "00")) nilF)) nilF)))
  (seqS (setS 5 (allocF (lstN (consF (tupF (consF (cF (.str "give")) (consF (tupF (consF (tupF (consF (cF (.str "e")) (consF (vF 0) nilF))) nilF)) (consF (vF 1) nilF)))) nilF))))
  (seqS (exprS (appF (vF 5) (tupF (consF (cF (.str "k10")) (consF (tupF (consF (tupF (consF (cF (.str "a")) (consF (vF 3) nilF))) (consF (tupF (consF (cF (.str "d")) (consF (vF 1) nilF))) (consF (tupF (consF (cF (.str "e")) (consF (vF 0) nilF))) (consF (tupF (consF (cF (.str "zz")) (consF (vF 0) nilF))) nilF))))) (consF (vF 2) nilF))))))
  (seqS (exprS (appF (vF 5) (tupF (consF (cF (.str "k10")) (consF (tupF (consF (tupF (consF (cF (.str "a")) (consF (vF 3) nilF))) (consF (tupF (consF (cF (.str "d")) (consF (vF 1) nilF))) (consF (tupF (consF (cF (.str "e")) (consF (vF 4) nilF))) nilF)))) (consF (tupF (consF (cF (.str "text")) (consF (tupF nilF) nilF))) nilF))))))
  (seqS (exprS (appF (vF 5) (tupF (consF (cF (.str "k10")) (consF (tupF (consF (tupF (consF (cF (.str "a")) (consF (vF 3) nilF))) (consF (tupF (consF (cF (.str "d")) (consF (tupF (consF (cF (.str "text")) (consF (tupF nilF) nilF))) nilF))) nilF))) (consF (tupF (consF (cF (.str "text")) (consF (tupF (consF (cF (.str "0")) (consF (cF (.str "0")) nilF))) nilF))) nilF))))))
  (seqS (exprS (appF (vF 5) (tupF (consF (cF (.str "k2")) (consF (tupF (consF (tupF (consF (cF (.str "c")) (consF (vF 2) nilF))) nilF)) (consF (callF (arF 1 F_l_text) (consF (cF (.str "1")) nilF)) nilF))))))
  (seqS (setS 6 (tupF (consF (tupF (consF (cF (.str "c")) (consF (cF (.str "k10")) nilF))) (consF (tupF (consF (cF (.str "d")) (consF (cF (.str "give")) nilF))) (consF (tupF (consF (cF (.str "e")) (consF (cF (.str "0")) nilF))) (consF (tupF (consF (cF (.str "f")) (consF (cF (.str "k2")) nilF))) (consF (tupF (consF (cF (.str "g")) (consF (cF (.str "k2")) nilF))) nilF)))))))
  (retS (tupF (consF (tupF (consF (tupF (consF (cF (.str "a")) (consF (tupF (consF (cF (.str "1")) (consF (cF (.str "0")) nilF))) nilF))) (consF (tupF (consF (cF (.str "b")) (consF (tupF nilF) nilF))) nilF))) (consF (vF 6) (consF (callF tupleC (consF (vF 5) nilF)) nilF))))))))))))
def G_l_deep_stock (as : List AV) (hp : AH) : Out AV := fnF 7 (b_l_deep_stock) as hp
def F_l_deep_stock : List AV → AH → Out AV := G_l_deep_stock
/-! ### _law_own_stock -/
def b_l_own_stock : Fs := seqS (setS 0 (callF (arF 1 F_l_text) (consF (cF (.str "0")) nilF)))
  (retS (tupF (consF (tupF nilF) (consF (tupF (consF (tupF (consF (cF (.str "b")) (consF (cF (.str "k1")) nilF))) (consF (tupF (consF (cF (.str "c")) (consF (cF (.str "k1")) nilF))) (consF (tupF (consF (cF (.str "d")) (consF (cF (.str "k2")) nilF))) nilF)))) (consF (tupF (consF (tupF (consF (cF (.str "k1")) (consF (tupF (consF (tupF (consF (cF (.str "d")) (consF (vF 0) nilF))) (consF (tupF (consF (cF (.str "c")) (consF (vF 0) nilF))) nilF))) (consF (vF 0) nilF)))) nilF)) nilF)))))
def G_l_own_stock (as : List AV) (hp : AH) : Out AV := fnF 1 (b_l_own_stock) as hp
def F_l_own_stock : List AV → AH → Out AV := G_l_own_stock
/-! ### _law_late_stock -/
def b_l_late_stock : Fs := seqS (setS 0 (callF (arF 1 F_l_text) (consF (cF (.str "0")) nilF)))
  (seqS (setS 1 (tupF (consF (tupF (consF (cF (.str "k0")) (consF (tupF nilF) (consF (callF (arF 1 F_l_text) (consF (cF (.str "1")) nilF)) nilF)))) (consF (tupF (consF (cF (.str "k1")) (consF (tupF (consF (tupF (consF (cF (.str "c")) (consF (vF 0) nilF))) nilF)) (consF (vF 0) nilF)))) (consF (tupF (consF (cF (.str "k4")) (consF (tupF (consF (tupF (consF (cF (.str "e")) (consF (vF 0) nilF))) (consF (tupF (consF (cF (.str "c")) (consF (vF 0) nilF))) nilF))) (consF (vF 0) nilF)))) nilF)))))
  (retS (tupF (consF (tupF nilF) (consF (tupF (consF (tupF (consF (cF (.str "b")) (consF (cF (.str "k4")) nilF))) (consF (tupF (consF (cF (.str "c")) (consF (cF (.str "k1")) nilF))) (consF (tupF (consF (cF (.str "e")) (consF (cF (.str "k3")) nilF))) nilF)))) (consF (vF 1) nilF))))))
def G_l_late_stock (as : List AV) (hp : AH) : Out AV := fnF 2 (b_l_late_stock) as hp
def F_l_late_stock : List AV → AH → Out AV := G_l_late_stock
/-! ### _law_more -/
def b_l_more : Fs := seqS (parS [nmB 0, nmB 1, nmB 2, nmB 3] (consF (callF (arF 0 F_l_crossed_stock) nilF) (consF (callF (arF 0 F_l_deep_stock) nilF) (consF (callF (arF 0 F_l_own_stock) nilF) (consF (callF (arF 0 F_l_late_stock) nilF) nilF)))))
  (seqS (parS [nmB 4, nmB 5] (consF (tupF (consF (tupF (consF (cF (.str "c")) (consF (tupF (consF (cF (.str "0")) nilF)) nilF))) (consF (tupF (consF (cF (.str "e")) (consF (tupF (consF (cF (.str "0")) nilF)) nilF))) nilF))) (consF (tupF (consF (tupF (consF (cF (.str "b")) (consF (tupF (consF (cF (.str "0")) nilF)) nilF))) (consF (tupF (consF (cF (.str "c")) (consF (tupF (consF (cF (.str "0")) nilF)) nilF))) (consF (tupF (consF (cF (.str "d")) (consF (tupF (consF (cF (.str "0")) nilF)) nilF))) nilF)))) nilF)))
  (seqS (setS 6 (allocF (lstN (consF (tupF (consF (vF 3) (consF (cF (.str "b")) (consF (vF 4) (consF (vF 4) nilF))))) (consF (tupF (consF (vF 3) (consF (cF (.str "b")) (consF (tupF (consF (bF ixV (vF 4) (cF (.int 0))) (consF (tupF (consF (cF (.str "e")) (consF (tupF (consF (cF (.str "1")) nilF)) nilF))) nilF))) (consF (cF .none) nilF))))) (consF (tupF (consF (vF 3) (consF (cF (.str "c")) (consF (bF addV (tupF (consF (tupF (consF (cF (.str "b")) (consF (tupF nilF) nilF))) nilF)) (slF (vF 4) (smO (cF (.int 1))) noO)) (consF (cF .none) nilF))))) nilF))))))
  (seqS (exprS (extF (vF 6) (lstN (consF (tupF (consF (vF 3) (consF (cF (.str "c")) (consF (vF 4) (consF (slF (vF 4) noO (smO (cF (.int 1)))) nilF))))) (consF (tupF (consF (vF 3) (consF (cF (.str "e")) (consF (vF 4) (consF (slF (vF 4) (smO (cF (.int 1))) noO) nilF))))) (consF (tupF (consF (vF 2) (consF (cF (.str "b")) (consF (slF (vF 5) (smO (cF (.int 1))) noO) (consF (slF (vF 5) (smO (cF (.int 1))) noO) nilF))))) (consF (tupF (consF (vF 2) (consF (cF (.str "c")) (consF (vF 5) (consF (slF (vF 5) (smO (cF (.int 1))) (smO (cF (.int 2)))) nilF))))) nilF)))))))
  (seqS (exprS (extF (vF 6) (lstN (consF (tupF (consF (vF 2) (consF (cF (.str "b")) (consF (vF 5) (consF (slF (vF 5) noO (smO (cF (.int 1)))) nilF))))) (consF (tupF (consF (vF 2) (consF (cF (.str "c")) (consF (bF addV (slF (vF 5) noO (smO (cF (.int 1)))) (slF (vF 5) (smO (cF (.int 2))) noO)) (consF (cF .none) nilF))))) nilF)))))
  (seqS (exprS (appF (vF 6) (tupF (consF (vF 0) (consF (cF (.str "c")) (consF (tupF (consF (tupF (consF (cF (.str "a")) (consF (tupF (consF (cF (.str "1")) nilF)) nilF))) (consF (tupF (consF (cF (.str "d")) (consF (tupF (consF (cF (.str "0")) nilF)) nilF))) (consF (tupF (consF (cF (.str "e")) (consF (tupF (consF (cF (.str "0")) nilF)) nilF))) nilF)))) (consF (tupF (consF (tupF (consF (cF (.str "d")) (consF (tupF (consF (cF (.str "0")) nilF)) nilF))) nilF)) nilF)))))))
  (seqS (exprS (appF (vF 6) (tupF (consF (vF 0) (consF (cF (.str "c")) (consF (tupF (consF (tupF (consF (cF (.str "a")) (consF (tupF nilF) nilF))) (consF (tupF (consF (cF (.str "e")) (consF (tupF (consF (cF (.str "0")) nilF)) nilF))) nilF))) (consF (tupF (consF (tupF (consF (cF (.str "e")) (consF (tupF (consF (cF (.str "0")) nilF)) nilF))) nilF)) nilF)))))))
  (seqS (exprS (appF (vF 6) (tupF (consF (vF 0) (consF (cF (.str "c")) (consF (tupF (consF (tupF (consF (cF (.str "a")) (consF (tupF (consF (cF (.str "0")) nilF)) nilF))) (consF (tupF (consF (cF (.str "a")) (consF (tupF (consF (cF (.str "1")) nilF)) nilF))) (consF (tupF (consF (cF (.str "e")) (consF (tupF (consF (cF (.str "1")) nilF)) nilF))) nilF)))) (consF (cF .none) nilF)))))))
  (seqS (exprS (appF (vF 6) (tupF (consF (vF 0) (consF (cF (.str "f")) (consF (tupF (consF (tupF (consF (cF (.str "c")) (consF (tupF nilF) nilF))) (consF (tupF (consF (cF (.str "d")) (consF (tupF (consF (cF (.str "0")) nilF)) nilF))) (consF (tupF (consF (cF (.str "e")) (consF (tupF (consF (cF (.str "0")) nilF)) nilF))) nilF)))) (consF (cF .none) nilF)))))))
  (seqS (exprS (extF (vF 6) (lstN (consF (tupF (consF (vF 0) (consF (cF (.str "a")) (consF (tupF (consF (tupF (consF (cF (.str "a")) (consF (tupF (consF (cF (.str "1")) nilF)) nilF))) nilF)) (consF (tupF nilF) nilF))))) (consF (tupF (consF (vF 0) (consF (cF (.str "f")) (consF (tupF (consF (tupF (consF (cF (.str "a")) (consF (tupF nilF) nilF))) (consF (tupF (consF (cF (.str "f")) (consF (tupF (consF (cF (.str "0")) (consF (cF (.str "0")) nilF))) nilF))) nilF))) (consF (tupF (consF (tupF (consF (cF (.str "f")) (consF (tupF (consF (cF (.str "0")) (consF (cF (.str "0")) nilF))) nilF))) nilF)) nilF))))) nilF)))))
  (seqS (setS 7 (tupF (consF (tupF (consF (cF (.str "d")) (consF (tupF nilF) nilF))) (consF (tupF (consF (cF (.str "e")) (consF (tupF (consF (cF (.str "0")) nilF)) nilF))) (consF (tupF (consF (cF (.str "e")) (consF (tupF (consF (cF (.str "00")) nilF)) nilF))) nilF)))))
  (seqS (exprS (extF (vF 6) (lstN (consF (tupF (consF (vF 1) (consF (cF (.str "c")) (consF (vF 7) (consF (slF (vF 7) noO (smO (cF (.int 1)))) nilF))))) (consF (tupF (consF (vF 1) (consF (cF (.str "c")) (consF (slF (vF 7) (smO (cF (.int 1))) noO) (consF (cF .none) nilF))))) (consF (tupF (consF (vF 1) (consF (cF (.str "f")) (consF (vF 7) (consF (cF .none) nilF))))) (consF (tupF (consF (vF 1) (consF (cF (.str "d")) (consF (vF 7) (consF (slF (vF 7) noO (smO (cF (.int 1)))) nilF))))) nilF)))))))
  (seqS (exprS (extF (vF 6) (lstN (consF (tupF (consF (vF 1) (consF (cF (.str "g")) (consF (tupF (consF (tupF (consF (cF (.str "f")) (consF (tupF (consF (cF (.str "7")) nilF)) nilF))) nilF)) (consF (cF .none) nilF))))) (consF (tupF (consF (vF 1) (consF (cF (.str "g")) (consF (tupF (consF (tupF (consF (cF (.str "f")) (consF (tupF (consF (cF (.str "7")) nilF)) nilF))) (consF (tupF (consF (cF (.str "g")) (consF (tupF (consF (cF (.str "7")) nilF)) nilF))) nilF))) (consF (tupF (consF (tupF (consF (cF (.str "g")) (consF (tupF (consF (cF (.str "7")) nilF)) nilF))) nilF)) nilF))))) (consF (tupF (consF (vF 1) (consF (cF (.str "zz")) (consF (vF 7) (consF (tupF nilF) nilF))))) nilF))))))
  (seqS (setS 8 (tupF (consF (tupF (consF (cF (.str "c")) (consF (tupF nilF) nilF))) (consF (tupF (consF (cF (.str "c")) (consF (tupF (consF (cF (.str "0")) nilF)) nilF))) (consF (tupF (consF (cF (.str "c")) (consF (tupF (consF (cF (.str "0")) (consF (cF (.str "0")) nilF))) nilF))) (consF (tupF (consF (cF (.str "c")) (consF (tupF (consF (cF (.str "00")) nilF)) nilF))) (consF (tupF (consF (cF (.str "c")) (consF (tupF (consF (cF (.str "1")) nilF)) nilF))) nilF)))))))
  (seqS (exprS (extF (vF 6) (lstN (consF (tupF (consF (vF 1) (consF (cF (.str "c")) (consF (vF 8) (consF (slF (vF 8) noO (smO (cF (.int 1)))) nilF))))) (consF (tupF (consF (vF 1) (consF (cF (.str "c")) (consF (slF (vF 8) (smO (cF (.int 2))) noO) (consF (slF (vF 8) (smO (cF (.int 2))) (smO (cF (.int 3)))) nilF))))) (consF (tupF (consF (tupF (consF (tupF nilF) (consF (tupF nilF) (consF (tupF nilF) nilF)))) (consF (cF (.str "a")) (consF (vF 8) (consF (tupF nilF) nilF))))) (consF (tupF (consF (vF 1) (consF (cF (.str "f")) (consF (vF 8) (consF (cF .none) nilF))))) nilF)))))))
  (seqS (forR 100 (vF 6) (tpB [nmB 9, nmB 10, nmB 11, nmB 12]) (ifS (notT (tstF (callF (arF 2 (F_l_is 12)) (consF (callF (arF 3 F_least_menu) (consF (vF 9) (consF (vF 10) (consF (vF 11) nilF)))) (consF (vF 12) nilF))))) (retS (cF (.bool false))) nxS))
  (seqS (setS 13 (bF addV (bF addV (slF (vF 1) noO (smO (cF (.int 1)))) (tupF (consF (callF tupleC (consF (frzF (compN (itF (bF ixV (vF 1) (cF (.int 1)))) (nmB 14) (tstF (bF neV (bF ixV (vF 14) (cF (.int 0))) (cF (.str "e")))) (vF 14) [14])) nilF)) nilF))) (slF (vF 1) (smO (cF (.int 2))) noO)))
  (seqS (ifS (orT (notT (tstF (callF (arF 2 (F_l_is 12)) (consF (callF (arF 3 F_least_menu) (consF (vF 13) (consF (cF (.str "f")) (consF (vF 7) nilF)))) (consF (tupF nilF) nilF))))) (notT (tstF (callF (arF 2 (F_l_is 12)) (consF (callF (arF 3 F_least_menu) (consF (vF 1) (consF (cF (.str "d")) (consF (slF (vF 7) (smO (cF (.int 1))) noO) nilF)))) (consF (cF .none) nilF)))))) (retS (cF (.bool false))) nxS)
  (retS (andF (callF (arF 2 (F_l_is 12)) (consF (callF (arF 3 F_least_menu) (consF (vF 3) (consF (cF (.str "k0")) (consF (vF 4) nilF)))) (consF (tupF nilF) nilF))) (callF (arF 2 (F_l_is 12)) (consF (callF (arF 3 F_least_menu) (consF (vF 0) (consF (cF (.str "e")) (consF (tupF (consF (tupF (consF (cF (.str "c")) (consF (tupF (consF (cF (.str "0")) nilF)) nilF))) (consF (tupF (consF (cF (.str "d")) (consF (tupF (consF (cF (.str "0")) nilF)) nilF))) nilF))) nilF)))) (consF (cF .none) nilF))))))))))))))))))))))
def G_l_more (as : List AV) (hp : AH) : Out AV := fnF 15 (b_l_more) as hp
def F_l_more : List AV → AH → Out AV := G_l_more
/-! ### law -/
def b_law : Fs := seqS (forS (rgF (cF (.int 3))) (nmB 1) (seqS (setS 2 (allocF (dispN [("draws", callF (arF 2 F_l_draws) (consF (callF (arF 2 F_l_cell) (consF (vF 0) (consF (vF 1) nilF))) (consF (cF (.int 500)) nilF))), ("at", cF (.int 0))])))
  (forS (rgF (cF (.int 4))) (nmB 3) (seqS (asgS (tpB [nmB 4, nmB 5]) (callF (arF 1 F_l_stock) (consF (vF 2) nilF)))
  (seqS (setS 6 (callF (arF 1 F_l_menu) (consF (vF 2) nilF)))
  (ifS (notT (tstF (callF allC (consF (frzF (compN (itF (tupF (consF (cF (.str "a")) (consF (cF (.str "b")) (consF (cF (.str "c")) (consF (cF (.str "d")) (consF (cF (.str "e")) (consF (cF (.str "f")) (consF (cF (.str "x1")) (consF (cF (.str "zz")) nilF)))))))))) (nmB 7) yesT (callF (arF 4 F_l_fine) (consF (vF 4) (consF (vF 5) (consF (vF 7) (consF (vF 6) nilF))))) [7])) nilF)))) (retS (cF (.bool false))) nxS))))))
  (retS (andF (callF (arF 0 F_l_fixed) nilF) (callF (arF 0 F_l_more) nilF)))
def G_law (as : List AV) (hp : AH) : Out AV := fnF 8 (b_law) as hp
def F_law : List AV → AH → Out AV := G_law
end K96
end
-- K96A
section
set_option linter.all false
set_option maxRecDepth 100000
set_option maxHeartbeats 4000000
/-! K96, part A (printed by gen2.py): each def does what it means. -/
namespace K96
open PySem PySem.Spec PyProof.Rows L2 Pin Ms
def top (i : Nat) : Stmt := PySem.Challenge.pw_kilnrow_k96_whole_given_texts_out_of_a_m.main.body.getD i (.Pass ⟨0, 0, 0, 0⟩)
def inCls (s : Stmt) (i : Nat) : Stmt := match s with
  | .ClassDef _ _ _ b _ _ _ _ _ _ _ => b.getD i (.Pass ⟨0, 0, 0, 0⟩)
  | _ => .Pass ⟨0, 0, 0, 0⟩
/-- what the head tells -/
def ip_Unknown : IniPos := ipOf (defArgs (inCls (top 6) 0)) (defBody (inCls (top 6) 0))
structure Fc (P : Program) (K : KF) (mg : Str → Option Value) : Prop where
  b_abs : mg "abs" = none
  b_all : mg "all" = none
  b_bool : mg "bool" = none
  b_dict : mg "dict" = none
  b_int : mg "int" = none
  b_isinstance : mg "isinstance" = none
  b_len : mg "len" = none
  b_list : mg "list" = none
  b_min : mg "min" = none
  b_range : mg "range" = none
  b_set : mg "set" = none
  b_sorted : mg "sorted" = none
  b_str : mg "str" = none
  b_super : mg "super" = none
  b_tuple : mg "tuple" = none
  k_CIRCLE : ∃ u, mg "CIRCLE" = some u ∧ DataK K u d_CIRCLE
  k_NONE : ∃ u, mg "NONE" = some u ∧ DataK K u d_NONE
  t_combinations : mg "combinations" = some (.type "itertools.combinations")
  x_Endless : XcC K mg "Endless"
  x_Unknown : XvC P K mg ip_Unknown "Unknown.__init__" "Unknown"
  c_Knowing : Cls K (He.ga K "Knowing")
  g_Knowing : mg "Knowing" = some (.ref (He.ga K "Knowing"))
  m_Knowing : Mk K (He.ga K "Knowing") (He.ma K (He.ga K "Knowing") "__init__")
  a_Knowing_given : NoAttr K (He.ga K "Knowing") "given"
  a_Knowing_made : NoAttr K (He.ga K "Knowing") "made"
  a_Knowing_notes : NoAttr K (He.ga K "Knowing") "notes"
  a_Knowing_known : NoAttr K (He.ga K "Knowing") "known"
  a_Knowing_reads : NoAttr K (He.ga K "Knowing") "reads"
  a_Knowing_begun : NoAttr K (He.ga K "Knowing") "begun"
  xf_Unknown : XfC K (He.ga K "Unknown")
  xn_Unknown : PySem.W.findIn K (.ref (He.ga K "Unknown")) "label" = some none
  em_UU : PySem.W.exmOne K (.ref (He.ga K "Unknown")) (.ref (He.ga K "Unknown")) = some true
  em_EU : PySem.W.exmOne K (.ref (He.ga K "Endless")) (.ref (He.ga K "Unknown")) = some false
  em_EE : PySem.W.exmOne K (.ref (He.ga K "Endless")) (.ref (He.ga K "Endless")) = some true
  f_next_of : ∃ fd, FunD K "next_of" "next_of" (defArgs (top 7)) (defBody (top 7)) (defScope (top 7)) [] [] (He.ga K "next_of") fd
  h_next_of : mg "next_of" = some (.ref (He.ga K "next_of"))
  f_Knowing_d___init__ : ∃ fd, FunD K "__init__" "Knowing.__init__" (defArgs (inCls (top 8) 0)) (defBody (inCls (top 8) 0)) (defScope (inCls (top 8) 0)) [] [] (He.ma K (He.ga K "Knowing") "__init__") fd
  f_Knowing_d_value : ∃ fd, FunD K "value" "Knowing.value" (defArgs (inCls (top 8) 1)) (defBody (inCls (top 8) 1)) (defScope (inCls (top 8) 1)) [] [] (He.ma K (He.ga K "Knowing") "value") fd
  h_Knowing_d_value : Meth K (He.ga K "Knowing") "value" (He.ma K (He.ga K "Knowing") "value")
  f_Knowing_d_followed : ∃ fd, FunD K "followed" "Knowing.followed" (defArgs (inCls (top 8) 2)) (defBody (inCls (top 8) 2)) (defScope (inCls (top 8) 2)) [] [] (He.ma K (He.ga K "Knowing") "followed") fd
  h_Knowing_d_followed : Meth K (He.ga K "Knowing") "followed" (He.ma K (He.ga K "Knowing") "followed")
  f_Knowing_d_beyond : ∃ fd, FunD K "beyond" "Knowing.beyond" (defArgs (inCls (top 8) 3)) (defBody (inCls (top 8) 3)) (defScope (inCls (top 8) 3)) [] [] (He.ma K (He.ga K "Knowing") "beyond") fd
  h_Knowing_d_beyond : Meth K (He.ga K "Knowing") "beyond" (He.ma K (He.ga K "Knowing") "beyond")
  f_known_of : ∃ fd, FunD K "known_of" "known_of" (defArgs (top 9)) (defBody (top 9)) (defScope (top 9)) [] [] (He.ga K "known_of") fd
  h_known_of : mg "known_of" = some (.ref (He.ga K "known_of"))
  f_stock_given : ∃ fd, FunD K "stock_given" "stock_given" (defArgs (top 11)) (defBody (top 11)) (defScope (top 11)) [] [] (He.ga K "stock_given") fd
  h_stock_given : mg "stock_given" = some (.ref (He.ga K "stock_given"))
  f_least_menu : ∃ fd, FunD K "least_menu" "least_menu" (defArgs (top 12)) (defBody (top 12)) (defScope (top 12)) [] [] (He.ga K "least_menu") fd
  h_least_menu : mg "least_menu" = some (.ref (He.ga K "least_menu"))
  f_l_cell : ∃ fd, FunD K "_law_cell" "_law_cell" (defArgs (top 14)) (defBody (top 14)) (defScope (top 14)) [] [] (He.ga K "_law_cell") fd
  h_l_cell : mg "_law_cell" = some (.ref (He.ga K "_law_cell"))
  f_l_draws : ∃ fd, FunD K "_law_draws" "_law_draws" (defArgs (top 15)) (defBody (top 15)) (defScope (top 15)) [] [] (He.ga K "_law_draws") fd
  h_l_draws : mg "_law_draws" = some (.ref (He.ga K "_law_draws"))
  f_l_is_integer : ∃ fd, FunD K "_law_is_integer" "_law_is_integer" (defArgs (top 16)) (defBody (top 16)) (defScope (top 16)) [] [] (He.ga K "_law_is_integer") fd
  h_l_is_integer : mg "_law_is_integer" = some (.ref (He.ga K "_law_is_integer"))
  f_l_is : ∃ fd, FunD K "_law_is" "_law_is" (defArgs (top 17)) (defBody (top 17)) (defScope (top 17)) [] [] (He.ga K "_law_is") fd
  h_l_is : mg "_law_is" = some (.ref (He.ga K "_law_is"))
  f_l_take : ∃ fd, FunD K "_law_take" "_law_take" (defArgs (top 18)) (defBody (top 18)) (defScope (top 18)) [] [] (He.ga K "_law_take") fd
  h_l_take : mg "_law_take" = some (.ref (He.ga K "_law_take"))
  f_l_pool : ∃ fd, FunD K "_law_pool" "_law_pool" (defArgs (top 19)) (defBody (top 19)) (defScope (top 19)) [] [] (He.ga K "_law_pool") fd
  h_l_pool : mg "_law_pool" = some (.ref (He.ga K "_law_pool"))
  f_l_box : ∃ fd, FunD K "_law_box" "_law_box" (defArgs (top 20)) (defBody (top 20)) (defScope (top 20)) [] [] (He.ga K "_law_box") fd
  h_l_box : mg "_law_box" = some (.ref (He.ga K "_law_box"))
  f_l_edited : ∃ fd, FunD K "_law_edited" "_law_edited" (defArgs (top 21)) (defBody (top 21)) (defScope (top 21)) [] [] (He.ga K "_law_edited") fd
  h_l_edited : mg "_law_edited" = some (.ref (He.ga K "_law_edited"))
  f_l_behind : ∃ fd, FunD K "_law_behind" "_law_behind" (defArgs (top 22)) (defBody (top 22)) (defScope (top 22)) [] [] (He.ga K "_law_behind") fd
  h_l_behind : mg "_law_behind" = some (.ref (He.ga K "_law_behind"))
  f_l_branch : ∃ fd, FunD K "_law_branch" "_law_branch" (defArgs (top 23)) (defBody (top 23)) (defScope (top 23)) [] [] (He.ga K "_law_branch") fd
  h_l_branch : mg "_law_branch" = some (.ref (He.ga K "_law_branch"))
  f_l_found : ∃ fd, FunD K "_law_found" "_law_found" (defArgs (top 24)) (defBody (top 24)) (defScope (top 24)) [] [] (He.ga K "_law_found") fd
  h_l_found : mg "_law_found" = some (.ref (He.ga K "_law_found"))
  f_l_stock : ∃ fd, FunD K "_law_stock" "_law_stock" (defArgs (top 25)) (defBody (top 25)) (defScope (top 25)) [] [] (He.ga K "_law_stock") fd
  h_l_stock : mg "_law_stock" = some (.ref (He.ga K "_law_stock"))
  f_l_step : ∃ fd, FunD K "_law_step" "_law_step" (defArgs (top 26)) (defBody (top 26)) (defScope (top 26)) [] [] (He.ga K "_law_step") fd
  h_l_step : mg "_law_step" = some (.ref (He.ga K "_law_step"))
  f_l_tells : ∃ fd, FunD K "_law_tells" "_law_tells" (defArgs (top 27)) (defBody (top 27)) (defScope (top 27)) [] [] (He.ga K "_law_tells") fd
  h_l_tells : mg "_law_tells" = some (.ref (He.ga K "_law_tells"))
  f_l_text : ∃ fd, FunD K "_law_text" "_law_text" (defArgs (top 28)) (defBody (top 28)) (defScope (top 28)) [] [] (He.ga K "_law_text") fd
  h_l_text : mg "_law_text" = some (.ref (He.ga K "_law_text"))
  f_l_behind_choice : ∃ fd, FunD K "_law_behind_choice" "_law_behind_choice" (defArgs (top 29)) (defBody (top 29)) (defScope (top 29)) [] [] (He.ga K "_law_behind_choice") fd
  h_l_behind_choice : mg "_law_behind_choice" = some (.ref (He.ga K "_law_behind_choice"))
  f_l_choices : ∃ fd, FunD K "_law_choices" "_law_choices" (defArgs (top 30)) (defBody (top 30)) (defScope (top 30)) [] [] (He.ga K "_law_choices") fd
  h_l_choices : mg "_law_choices" = some (.ref (He.ga K "_law_choices"))
  f_l_least_choice : ∃ fd, FunD K "_law_least_choice" "_law_least_choice" (defArgs (top 31)) (defBody (top 31)) (defScope (top 31)) [] [] (He.ga K "_law_least_choice") fd
  h_l_least_choice : mg "_law_least_choice" = some (.ref (He.ga K "_law_least_choice"))
  f_l_menu : ∃ fd, FunD K "_law_menu" "_law_menu" (defArgs (top 32)) (defBody (top 32)) (defScope (top 32)) [] [] (He.ga K "_law_menu") fd
  h_l_menu : mg "_law_menu" = some (.ref (He.ga K "_law_menu"))
  f_l_fine : ∃ fd, FunD K "_law_fine" "_law_fine" (defArgs (top 33)) (defBody (top 33)) (defScope (top 33)) [] [] (He.ga K "_law_fine") fd
  h_l_fine : mg "_law_fine" = some (.ref (He.ga K "_law_fine"))
  f_l_fixed : ∃ fd, FunD K "_law_fixed" "_law_fixed" (defArgs (top 34)) (defBody (top 34)) (defScope (top 34)) [] [] (He.ga K "_law_fixed") fd
  h_l_fixed : mg "_law_fixed" = some (.ref (He.ga K "_law_fixed"))
  f_l_crossed_stock : ∃ fd, FunD K "_law_crossed_stock" "_law_crossed_stock" (defArgs (top 35)) (defBody (top 35)) (defScope (top 35)) [] [] (He.ga K "_law_crossed_stock") fd
  h_l_crossed_stock : mg "_law_crossed_stock" = some (.ref (He.ga K "_law_crossed_stock"))
  f_l_deep_stock : ∃ fd, FunD K "_law_deep_stock" "_law_deep_stock" (defArgs (top 36)) (defBody (top 36)) (defScope (top 36)) [] [] (He.ga K "_law_deep_stock") fd
  h_l_deep_stock : mg "_law_deep_stock" = some (.ref (He.ga K "_law_deep_stock"))
  f_l_own_stock : ∃ fd, FunD K "_law_own_stock" "_law_own_stock" (defArgs (top 37)) (defBody (top 37)) (defScope (top 37)) [] [] (He.ga K "_law_own_stock") fd
  h_l_own_stock : mg "_law_own_stock" = some (.ref (He.ga K "_law_own_stock"))
  f_l_late_stock : ∃ fd, FunD K "_law_late_stock" "_law_late_stock" (defArgs (top 38)) (defBody (top 38)) (defScope (top 38)) [] [] (He.ga K "_law_late_stock") fd
  h_l_late_stock : mg "_law_late_stock" = some (.ref (He.ga K "_law_late_stock"))
  f_l_more : ∃ fd, FunD K "_law_more" "_law_more" (defArgs (top 39)) (defBody (top 39)) (defScope (top 39)) [] [] (He.ga K "_law_more") fd
  h_l_more : mg "_law_more" = some (.ref (He.ga K "_law_more"))
  f_law : ∃ fd, FunD K "law" "law" (defArgs (top 40)) (defBody (top 40)) (defScope (top 40)) [] [] (He.ga K "law") fd
  h_law : mg "law" = some (.ref (He.ga K "law"))
section
variable {P : Program} {w : World} {K : KF} {mg : Str → Option Value} {base : Heap}
/-! ### next_of -/
theorem fn_next_of {kk : Nat} (hk : 8 ≤ kk) (e : Fc P K mg) : Fn P w K mg base (kk + 1) (He.ga K "next_of") 3 (G_next_of) := by
  obtain ⟨fd, F⟩ := e.f_next_of
  refine Pin.fn_ok (N := ["notes", "label", "reads", "size", "one", "others", "value"]) (ps := ["notes", "label", "reads"]) F ⟨rfl, rfl, rfl, by decide +kernel, rfl, by decide +kernel, by decide +kernel⟩ (FunD.bindsN F fun _ _ _ _ _ _ us hl => match us, hl with | [_, _, _], _ => rfl) fun cdv A outer s H E cx hr => ?_
  exact css_cons (cs_set 3 cx (ce_callB (x := "len") cr_len rc_len rfl e.b_len boot_len (ca_cons (ce_var 2) ca_nil)))
    (css_cons (cs_for cx (ci_seq (ce_var 0)) (cg_tup (n := 3) cx.calm (cgs_cons (cg_name 4 cx.nd) (cgs_cons (cg_name 5 cx.nd) (cgs_cons (cg_name 6 cx.nd) cgs_nil)))) (css_one (cs_if (ct_w (cw_and (ct_cmp (ov_eq cx.hu) rs_rS (ce_var 4) (ce_var 1)) (cw_and1 (ct_cmp (ov_eq cx.hu) rs_rS (ce_sl (ce_var 5) co_none (co_some (ce_var 3))) (ce_var 2))))) (css_one (cs_ret (ce_if (ct_cmp (ov_eq cx.hu) rs_rS (ce_callB (x := "len") cr_len rc_len rfl e.b_len boot_len (ca_cons (ce_var 5) ca_nil)) (ce_var 3)) (ce_tup (ca_cons ce_str (ca_cons (ce_var 6) ca_nil)) (few_cons (few_cons few_nil))) (ce_tup (ca_cons ce_str (ca_cons (ce_ix cx.hu (ce_ix cx.hu (ce_var 5) (ce_var 3)) ce_int) ca_nil)) (few_cons (few_cons few_nil)))))) css_nil)))
    (css_one (cs_ret ce_non)))
theorem ok_next_of (e : Fc P K mg) : Gf P w K mg base (9) "next_of" 3 (F_next_of) := ⟨_, e.h_next_of, fn_next_of (Nat.le_refl _) e⟩
/-! ### Knowing.__init__ -/
theorem fn_Knowing_d___init__ {kk : Nat} (hk : 8 ≤ kk) (e : Fc P K mg) : Fn P w K mg base (kk + 1) (He.ma K (He.ga K "Knowing") "__init__") 4 (G_Knowing_d___init__) := by
  obtain ⟨fd, F⟩ := e.f_Knowing_d___init__
  refine Pin.fn_ok (N := ["self", "given", "made", "notes"]) (ps := ["self", "given", "made", "notes"]) F ⟨rfl, rfl, rfl, by decide +kernel, rfl, by decide +kernel, by decide +kernel⟩ (FunD.bindsN F fun _ _ _ _ _ _ us hl => match us, hl with | [_, _, _, _], _ => rfl) fun cdv A outer s H E cx hr => ?_
  exact css_cons (cs_par cx (ca_cons (ce_alloc (cn_dict cx e.b_dict (ce_var 1))) (ca_cons (ce_alloc (cn_dict cx e.b_dict (ce_var 2))) (ca_cons (ce_var 3) ca_nil))) (cgs_cons (cg_fld 0 e.c_Knowing e.a_Knowing_given) (cgs_cons (cg_fld 0 e.c_Knowing e.a_Knowing_made) (cgs_cons (cg_fld 0 e.c_Knowing e.a_Knowing_notes) cgs_nil))) (few_cons (few_cons (few_cons few_nil))))
    (css_one (cs_par cx (ca_cons (ce_alloc cn_dct0) (ca_cons (ce_alloc cn_dct0) (ca_cons (ce_alloc (cn_lst ca_nil few_nil)) ca_nil))) (cgs_cons (cg_fld 0 e.c_Knowing e.a_Knowing_known) (cgs_cons (cg_fld 0 e.c_Knowing e.a_Knowing_reads) (cgs_cons (cg_fld 0 e.c_Knowing e.a_Knowing_begun) cgs_nil))) (few_cons (few_cons (few_cons few_nil)))))
theorem ok_Knowing_d___init__ (e : Fc P K mg) : Nf P w K mg base (9) "Knowing" "Knowing" 4 (F_Knowing_d___init__) := ⟨_, e.g_Knowing, e.m_Knowing, fn_Knowing_d___init__ (Nat.le_refl _) e⟩
/-! ### Knowing.beyond -/
theorem fn_Knowing_d_beyond {kk : Nat} (hk : 8 ≤ kk) (e : Fc P K mg) : Fn P w K mg base (kk + 1) (He.ma K (He.ga K "Knowing") "beyond") 2 (G_Knowing_d_beyond) := by
  obtain ⟨fd, F⟩ := e.f_Knowing_d_beyond
  refine Pin.fn_ok (N := ["self", "label"]) (ps := ["self", "label"]) F ⟨rfl, rfl, rfl, by decide +kernel, rfl, by decide +kernel, by decide +kernel⟩ (FunD.bindsN F fun _ _ _ _ _ _ us hl => match us, hl with | [_, _], _ => rfl) fun cdv A outer s H E cx hr => ?_
  exact css_one (cs_raiseV (k := kk - 1) cx e.x_Unknown (hr.mono (by omega)) (ce_var 1))
theorem ok_Knowing_d_beyond (e : Fc P K mg) : Mf P w K mg base (9) "Knowing" "beyond" 2 (F_Knowing_d_beyond) := ⟨_, e.h_Knowing_d_beyond, fn_Knowing_d_beyond (Nat.le_refl _) e⟩
/-! ### Knowing.value -/
theorem fn_Knowing_d_value {r_Knowing_d_followed : List AV → AH → Out AV} {kk : Nat} (hk : 9 ≤ kk) (e : Fc P K mg) (p_Knowing_d_followed : Mf P w K mg base (kk) "Knowing" "followed" 2 (r_Knowing_d_followed)) : Fn P w K mg base (kk + 1) (He.ma K (He.ga K "Knowing") "value") 2 (G_Knowing_d_value r_Knowing_d_followed) := by
  obtain ⟨fd, F⟩ := e.f_Knowing_d_value
  refine Pin.fn_ok (N := ["self", "name", "label", "value"]) (ps := ["self", "name"]) F ⟨rfl, rfl, rfl, by decide +kernel, rfl, by decide +kernel, by decide +kernel⟩ (FunD.bindsN F fun _ _ _ _ _ _ us hl => match us, hl with | [_, _], _ => rfl) fun cdv A outer s H E cx hr => ?_
  have hr_Knowing_d_followed := hr
  exact css_cons (cs_if (ct_cmp (ov_in cx.hu) rs_rS (ce_var 1) (ce_fld e.c_Knowing e.a_Knowing_given (ce_var 0))) (css_one (cs_ret (ce_tup (ca_cons ce_str (ca_cons (ce_ix cx.hu (ce_fld e.c_Knowing e.a_Knowing_given (ce_var 0)) (ce_var 1)) ca_nil)) (few_cons (few_cons few_nil))))) css_nil)
    (css_cons (cs_if (ct_cmp (ov_ni cx.hu) rs_rS (ce_var 1) (ce_fld e.c_Knowing e.a_Knowing_made (ce_var 0))) (css_one (cs_ret (ce_globE rfl e.k_NONE))) css_nil)
    (css_cons (cs_set 2 cx (ce_ix cx.hu (ce_fld e.c_Knowing e.a_Knowing_made (ce_var 0)) (ce_var 1)))
    (css_cons (cs_if (ct_w (cw_or (ct_cmp (ov_in cx.hu) rs_rS (ce_var 2) (ce_fld e.c_Knowing e.a_Knowing_begun (ce_var 0))) (cw_or1 (ct_cmp (ov_eq cx.hu) rs_rS (ce_dget cx.hu (ce_fld e.c_Knowing e.a_Knowing_known (ce_var 0)) (ce_var 2)) (ce_globE rfl e.k_CIRCLE))))) (css_one (cs_raise0 cx e.x_Endless)) css_nil)
    (css_cons (cs_if (ct_cmp (ov_ni cx.hu) rs_rS (ce_var 2) (ce_fld e.c_Knowing e.a_Knowing_known (ce_var 0))) (css_cons (cs_expr (ce_append (ce_fld e.c_Knowing e.a_Knowing_begun (ce_var 0)) (ce_var 2)))
    (css_cons (cs_set 3 cx (ce_meth p_Knowing_d_followed hr_Knowing_d_followed cx e.c_Knowing (ce_var 0) (ca_cons (ce_var 2) ca_nil)))
    (css_cons (cs_expr (ce_pop (ce_fld e.c_Knowing e.a_Knowing_begun (ce_var 0))))
    (css_one (cs_dput cx (ce_fld e.c_Knowing e.a_Knowing_known (ce_var 0)) (ce_var 2) (ce_var 3)))))) css_nil)
    (css_one (cs_ret (ce_ix cx.hu (ce_fld e.c_Knowing e.a_Knowing_known (ce_var 0)) (ce_var 2))))))))
/-! ### Knowing.followed -/
theorem fn_Knowing_d_followed {r_Knowing_d_value : List AV → AH → Out AV} {kk : Nat} (hk : 9 ≤ kk) (e : Fc P K mg) (p_Knowing_d_value : Mf P w K mg base (kk) "Knowing" "value" 2 (r_Knowing_d_value)) : Fn P w K mg base (kk + 1) (He.ma K (He.ga K "Knowing") "followed") 2 (G_Knowing_d_followed r_Knowing_d_value) := by
  obtain ⟨fd, F⟩ := e.f_Knowing_d_followed
  refine Pin.fn_ok (N := ["self", "label", "step", "value"]) (ps := ["self", "label"]) F ⟨rfl, rfl, rfl, by decide +kernel, rfl, by decide +kernel, by decide +kernel⟩ (FunD.bindsN F fun _ _ _ _ _ _ us hl => match us, hl with | [_, _], _ => rfl) fun cdv A outer s H E cx hr => ?_
  have hr_Knowing_d_value := hr
  exact css_cons (cs_dput cx (ce_fld e.c_Knowing e.a_Knowing_reads (ce_var 0)) (ce_var 1) (ce_tup ca_nil few_nil))
    (css_cons (cs_set 2 cx (ce_call (ok_next_of e) (hr.mono (by omega)) cx rfl (ca_cons (ce_fld e.c_Knowing e.a_Knowing_notes (ce_var 0)) (ca_cons (ce_var 1) (ca_cons (ce_tup ca_nil few_nil) ca_nil)))))
    (css_cons (cs_while 100 cx (ct_w (cw_and (ct_cmp ov_isnt rs_rS (ce_var 2) ce_non) (cw_and1 (ct_cmp (ov_eq cx.hu) rs_rS (ce_ix cx.hu (ce_var 2) ce_int) ce_str)))) (css_cons (cs_set 3 cx (ce_meth p_Knowing_d_value hr_Knowing_d_value cx e.c_Knowing (ce_var 0) (ca_cons (ce_ix cx.hu (ce_var 2) ce_int) ca_nil)))
    (css_cons (cs_dput cx (ce_fld e.c_Knowing e.a_Knowing_reads (ce_var 0)) (ce_var 1) (ce_op ov_add rs_rS (ce_ix cx.hu (ce_fld e.c_Knowing e.a_Knowing_reads (ce_var 0)) (ce_var 1)) (ce_tup (ca_cons (ce_tup (ca_cons (ce_ix cx.hu (ce_var 2) ce_int) (ca_cons (ce_var 3) ca_nil)) (few_cons (few_cons few_nil))) ca_nil) (few_cons few_nil))))
    (css_one (cs_set 2 cx (ce_call (ok_next_of e) (hr.mono (by omega)) cx rfl (ca_cons (ce_fld e.c_Knowing e.a_Knowing_notes (ce_var 0)) (ca_cons (ce_var 1) (ca_cons (ce_ix cx.hu (ce_fld e.c_Knowing e.a_Knowing_reads (ce_var 0)) (ce_var 1)) ca_nil)))))))))
    (css_one (cs_ret (ce_if (ct_cmp ov_is rs_rS (ce_var 2) ce_non) (ce_meth (ok_Knowing_d_beyond e) (hr.mono (by omega)) cx e.c_Knowing (ce_var 0) (ca_cons (ce_var 1) ca_nil)) (ce_ix cx.hu (ce_var 2) ce_int))))))
theorem ok_Knowing_d_value (e : Fc P K mg) : ∀ k, Mf P w K mg base (9 + 1 + 2 * k) "Knowing" "value" 2 (F_Knowing_d_value k)
  | 0 => ⟨_, e.h_Knowing_d_value, (let ⟨_, F⟩ := e.f_Knowing_d_value; fn_bad (N := ["self", "name", "label", "value"]) (ps := ["self", "name"]) F ⟨rfl, rfl, rfl, by decide +kernel, rfl, by decide +kernel, by decide +kernel⟩ (FunD.bindsN F fun _ _ _ _ _ _ us hl => match us, hl with | [_, _], _ => rfl))⟩
  | k + 1 => ⟨_, e.h_Knowing_d_value, (fn_Knowing_d_value (kk := 9 + 2 + 2 * k) (by omega) e ⟨_, e.h_Knowing_d_followed, (fn_Knowing_d_followed (kk := 9 + 1 + 2 * k) (by omega) e (ok_Knowing_d_value e k)).mono (by omega)⟩).mono (by omega)⟩
theorem ok_Knowing_d_followed (e : Fc P K mg) (k : Nat) : Mf P w K mg base (9 + 2 + 2 * k) "Knowing" "followed" 2 (F_Knowing_d_followed k) := ⟨_, e.h_Knowing_d_followed, (fn_Knowing_d_followed (kk := 9 + 1 + 2 * k) (by omega) e (ok_Knowing_d_value e k)).mono (by omega)⟩
/-! ### known_of -/
theorem fn_known_of {kk : Nat} (hk : 34 ≤ kk) (e : Fc P K mg) : Fn P w K mg base (kk + 1) (He.ga K "known_of") 2 (G_known_of) := by
  obtain ⟨fd, F⟩ := e.f_known_of
  refine Pin.fn_ok (N := ["stock", "name", "error"]) (ps := ["stock", "name"]) F ⟨rfl, rfl, rfl, by decide +kernel, rfl, by decide +kernel, by decide +kernel⟩ (FunD.bindsN F fun _ _ _ _ _ _ us hl => match us, hl with | [_, _], _ => rfl) fun cdv A outer s H E cx hr => ?_
  exact css_one (cs_tryX 2 cx e.xf_Unknown e.xn_Unknown e.x_Unknown.m e.x_Endless.m e.em_UU e.em_EU e.em_EE (fun W pn xe cx => css_one (cs_ret (ce_tup (ca_cons ce_str (ca_cons (ce_meth (ok_Knowing_d_value e 12) (hr.mono (by omega)) cx e.c_Knowing (ce_make (ok_Knowing_d___init__ e) (hr.mono (by omega)) cx rfl (ca_cons (ce_ix cx.hu (ce_var 0) ce_int) (ca_cons (ce_ix cx.hu (ce_var 0) ce_int) (ca_cons (ce_ix cx.hu (ce_var 0) ce_int) ca_nil)))) (ca_cons (ce_var 1) ca_nil)) ca_nil)) (few_cons (few_cons few_nil))))) (fun _ _ _ => css_one (cs_ret (ce_tup (ca_cons ce_str ca_nil) (few_cons few_nil)))))
theorem ok_known_of (e : Fc P K mg) : Gf P w K mg base (35) "known_of" 2 (F_known_of) := ⟨_, e.h_known_of, fn_known_of (Nat.le_refl _) e⟩
/-! ### stock_given -/
theorem fn_stock_given {kk : Nat} (hk : 8 ≤ kk) (e : Fc P K mg) : Fn P w K mg base (kk + 1) (He.ga K "stock_given") 2 (G_stock_given) := by
  obtain ⟨fd, F⟩ := e.f_stock_given
  refine Pin.fn_ok (N := ["stock", "rows", "given", "made", "name", "words"]) (ps := ["stock", "rows"]) F ⟨rfl, rfl, rfl, by decide +kernel, rfl, by decide +kernel, by decide +kernel⟩ (FunD.bindsN F fun _ _ _ _ _ _ us hl => match us, hl with | [_, _], _ => rfl) fun cdv A outer s H E cx hr => ?_
  exact css_cons (cs_par2 2 3 cx (ca_cons (ce_alloc (cn_dict cx e.b_dict (ce_ix cx.hu (ce_var 0) ce_int))) (ca_cons (ce_alloc (cn_dict cx e.b_dict (ce_ix cx.hu (ce_var 0) ce_int))) ca_nil)))
    (css_cons (cs_for cx (ci_seq (ce_var 1)) (cg_tup (n := 2) cx.calm (cgs_cons (cg_name 4 cx.nd) (cgs_cons (cg_name 5 cx.nd) cgs_nil))) (css_cons (cs_dput cx (ce_var 2) (ce_var 4) (ce_var 5))
    (css_one (cs_expr (ce_dpop (ce_var 3) (ce_var 4) ce_non)))))
    (css_one (cs_ret (ce_tup (ca_cons (ce_callTy (x := "tuple") call_tupleZ rc_tuple rfl e.b_tuple boot_tuple (ca_cons (ce_sortIt cx e.b_sorted (ce_var 2)) ca_nil)) (ca_cons (ce_callTy (x := "tuple") call_tupleZ rc_tuple rfl e.b_tuple boot_tuple (ca_cons (ce_sortIt cx e.b_sorted (ce_var 3)) ca_nil)) (ca_cons (ce_ix cx.hu (ce_var 0) ce_int) ca_nil))) (few_cons (few_cons (few_cons few_nil)))))))
theorem ok_stock_given (e : Fc P K mg) : Gf P w K mg base (9) "stock_given" 2 (F_stock_given) := ⟨_, e.h_stock_given, fn_stock_given (Nat.le_refl _) e⟩
/-! ### least_menu -/
theorem fn_least_menu {kk : Nat} (hk : 35 ≤ kk) (e : Fc P K mg) : Fn P w K mg base (kk + 1) (He.ga K "least_menu") 3 (G_least_menu) := by
  obtain ⟨fd, F⟩ := e.f_least_menu
  refine Pin.fn_ok (N := ["stock", "name", "menu", "size", "rows", "is_one", "row"]) (ps := ["stock", "name", "menu"]) F ⟨rfl, rfl, rfl, by decide +kernel, rfl, by decide +kernel, by decide +kernel⟩ (FunD.bindsN F fun _ _ _ _ _ _ us hl => match us, hl with | [_, _, _], _ => rfl) fun cdv A outer s H E cx hr => ?_
  exact css_cons (cs_for cx (ci_range e.b_range (ce_op ov_add rs_rS (ce_callB (x := "len") cr_len rc_len rfl e.b_len boot_len (ca_cons (ce_var 2) ca_nil)) ce_int)) (cg_name 3 cx.nd) (css_one (cs_forG cx (ci_comb cx e.t_combinations (ce_var 2) (ce_var 3)) (cg_name 4 cx.nd) (css_cons (cs_set 5 cx (ce_cmp (ov_eq cx.hu) rs_rS (ce_lenSet cx e.b_len e.b_set (ce_frz (cn_comp cx (ci_seq (ce_var 4)) [("row", 6)] (by kernel_rfl) (fun _ _ _ _ _ => cgo_name 6 cx.nd) (fun _ _ _ _ _ => cts_nil) (fun _ _ _ _ _ => ce_ix (cx.blk _ _ _ _ _).hu (ce_var 6) ce_int)))) (ce_var 3)))
    (css_one (cs_if (ct_w (cw_and (ct_val (ce_var 5)) (cw_and1 (ct_cmp (ov_eq cx.hu) rs_rS (ce_ix cx.hu (ce_call (ok_known_of e) (hr.mono (by omega)) cx rfl (ca_cons (ce_call (ok_stock_given e) (hr.mono (by omega)) cx rfl (ca_cons (ce_var 0) (ca_cons (ce_var 4) ca_nil))) (ca_cons (ce_var 1) ca_nil))) ce_int) ce_str)))) (css_one (cs_ret (ce_var 4))) css_nil))))))
    (css_one (cs_ret ce_non))
theorem ok_least_menu (e : Fc P K mg) : Gf P w K mg base (36) "least_menu" 3 (F_least_menu) := ⟨_, e.h_least_menu, fn_least_menu (Nat.le_refl _) e⟩
/-! ### _law_cell -/
theorem fn_l_cell {kk : Nat} (hk : 8 ≤ kk) (e : Fc P K mg) : Fn P w K mg base (kk + 1) (He.ga K "_law_cell") 2 (G_l_cell) := by
  obtain ⟨fd, F⟩ := e.f_l_cell
  refine Pin.fn_ok (N := ["script", "k"]) (ps := ["script", "k"]) F ⟨rfl, rfl, rfl, by decide +kernel, rfl, by decide +kernel, by decide +kernel⟩ (FunD.bindsN F fun _ _ _ _ _ _ us hl => match us, hl with | [_, _], _ => rfl) fun cdv A outer s H E cx hr => ?_
  exact css_cons (cs_if (ct_cmp ov_lt rs_rS (ce_var 1) (ce_callB (x := "len") cr_len rc_len rfl e.b_len boot_len (ca_cons (ce_var 0) ca_nil))) (css_one (cs_ret (ce_ix cx.hu (ce_var 0) (ce_var 1)))) css_nil)
    (css_one (cs_ret (ce_op ov_add rs_rS (ce_op ov_mul rs_rS ce_int (ce_var 1)) ce_int)))
theorem ok_l_cell (e : Fc P K mg) : Gf P w K mg base (9) "_law_cell" 2 (F_l_cell) := ⟨_, e.h_l_cell, fn_l_cell (Nat.le_refl _) e⟩
/-! ### _law_draws -/
theorem fn_l_draws {kk : Nat} (hk : 8 ≤ kk) (e : Fc P K mg) : Fn P w K mg base (kk + 1) (He.ga K "_law_draws") 2 (G_l_draws) := by
  obtain ⟨fd, F⟩ := e.f_l_draws
  refine Pin.fn_ok (N := ["cell", "count", "rest", "digits", "seed", "draws", "k", "mixed"]) (ps := ["cell", "count"]) F ⟨rfl, rfl, rfl, by decide +kernel, rfl, by decide +kernel, by decide +kernel⟩ (FunD.bindsN F fun _ _ _ _ _ _ us hl => match us, hl with | [_, _], _ => rfl) fun cdv A outer s H E cx hr => ?_
  exact css_cons (cs_set 2 cx (ce_callB (x := "abs") call_abs rc_abs rfl e.b_abs boot_abs (ca_cons (ce_callTy (x := "int") call_int1 rc_int rfl e.b_int boot_int (ca_cons (ce_var 0) ca_nil)) ca_nil)))
    (css_cons (cs_set 3 cx (ce_cmp ov_ge rs_rS (ce_var 2) (ce_op ov_pow rs_rS ce_int ce_int)))
    (css_cons (cs_set 4 cx (ce_var 2))
    (css_cons (cs_set 5 cx (ce_alloc (cn_lst ca_nil few_nil)))
    (css_cons (cs_for cx (ci_range e.b_range (ce_var 1)) (cg_name 6 cx.nd) (css_one (cs_if (ct_w (cw_and (ct_val (ce_var 3)) (cw_and1 (ct_cmp ov_gt rs_rS (ce_var 2) ce_int)))) (css_cons (cs_expr (ce_append (ce_var 5) (ce_op ov_mod rs_rS (ce_callTy (x := "int") call_int1 rc_int rfl e.b_int boot_int (ca_cons (ce_var 2) ca_nil)) ce_int)))
    (css_one (cs_set 2 cx (ce_op ov_fdiv rs_rS (ce_var 2) ce_int)))) (css_cons (cs_set 7 cx (ce_op ov_mod rs_rS (ce_callTy (x := "int") call_int1 rc_int rfl e.b_int boot_int (ca_cons (ce_op ov_add rs_rS (ce_op ov_add rs_rS (ce_op ov_mul rs_rS (ce_var 4) ce_int) (ce_op ov_mul rs_rS (ce_op ov_add rs_rS (ce_var 6) ce_int) ce_int)) ce_int) ca_nil)) ce_int))
    (css_cons (cs_set 7 cx (ce_op ov_mod rs_rS (ce_callTy (x := "int") call_int1 rc_int rfl e.b_int boot_int (ca_cons (ce_op ov_add rs_rS (ce_op ov_mul rs_rS (ce_var 7) (ce_var 7)) (ce_op ov_mul rs_rS ce_int (ce_op ov_add rs_rS (ce_var 6) ce_int))) ca_nil)) ce_int))
    (css_one (cs_expr (ce_append (ce_var 5) (ce_op ov_mod rs_rS (ce_callTy (x := "int") call_int1 rc_int rfl e.b_int boot_int (ca_cons (ce_op ov_fdiv rs_rS (ce_var 7) ce_int) ca_nil)) ce_int)))))))))
    (css_one (cs_ret (ce_var 5)))))))
theorem ok_l_draws (e : Fc P K mg) : Gf P w K mg base (9) "_law_draws" 2 (F_l_draws) := ⟨_, e.h_l_draws, fn_l_draws (Nat.le_refl _) e⟩
/-! ### _law_is_integer -/
theorem fn_l_is_integer {kk : Nat} (hk : 8 ≤ kk) (e : Fc P K mg) : Fn P w K mg base (kk + 1) (He.ga K "_law_is_integer") 1 (G_l_is_integer) := by
  obtain ⟨fd, F⟩ := e.f_l_is_integer
  refine Pin.fn_ok (N := ["value"]) (ps := ["value"]) F ⟨rfl, rfl, rfl, by decide +kernel, rfl, by decide +kernel, by decide +kernel⟩ (FunD.bindsN F fun _ _ _ _ _ _ us hl => match us, hl with | [_], _ => rfl) fun cdv A outer s H E cx hr => ?_
  exact css_one (cs_ret (ce_and (ce_isi e.b_isinstance e.b_int boot_int (ce_var 0)) (ce_one (ce_not (ce_isi e.b_isinstance e.b_bool boot_bool (ce_var 0))))))
theorem ok_l_is_integer (e : Fc P K mg) : Gf P w K mg base (9) "_law_is_integer" 1 (F_l_is_integer) := ⟨_, e.h_l_is_integer, fn_l_is_integer (Nat.le_refl _) e⟩
/-! ### _law_is -/
theorem fn_l_is {r_l_is : List AV → AH → Out AV} {kk : Nat} (hk : 9 ≤ kk) (e : Fc P K mg) (p_l_is : Gf P w K mg base (kk) "_law_is" 2 (r_l_is)) : Fn P w K mg base (kk + 1) (He.ga K "_law_is") 2 (G_l_is r_l_is) := by
  obtain ⟨fd, F⟩ := e.f_l_is
  refine Pin.fn_ok (N := ["value", "due", "at"]) (ps := ["value", "due"]) F ⟨rfl, rfl, rfl, by decide +kernel, rfl, by decide +kernel, by decide +kernel⟩ (FunD.bindsN F fun _ _ _ _ _ _ us hl => match us, hl with | [_, _], _ => rfl) fun cdv A outer s H E cx hr => ?_
  have hr_l_is := hr
  exact css_cons (cs_if (ct_cmp ov_is rs_rS (ce_var 1) ce_non) (css_one (cs_ret (ce_cmp ov_is rs_rS (ce_var 0) ce_non))) css_nil)
    (css_cons (cs_if (ct_val (ce_isi e.b_isinstance e.b_bool boot_bool (ce_var 1))) (css_one (cs_ret (ce_and (ce_isi e.b_isinstance e.b_bool boot_bool (ce_var 0)) (ce_one (ce_cmp (ov_eq cx.hu) rs_rS (ce_var 0) (ce_var 1)))))) css_nil)
    (css_cons (cs_if (ct_val (ce_isi e.b_isinstance e.b_int boot_int (ce_var 1))) (css_one (cs_ret (ce_and (ce_call (ok_l_is_integer e) (hr.mono (by omega)) cx rfl (ca_cons (ce_var 0) ca_nil)) (ce_one (ce_cmp (ov_eq cx.hu) rs_rS (ce_var 0) (ce_var 1)))))) css_nil)
    (css_cons (cs_if (ct_val (ce_isi e.b_isinstance e.b_str boot_str (ce_var 1))) (css_one (cs_ret (ce_and (ce_isi e.b_isinstance e.b_str boot_str (ce_var 0)) (ce_one (ce_cmp (ov_eq cx.hu) rs_rS (ce_var 0) (ce_var 1)))))) css_nil)
    (css_cons (cs_if (ct_w (cw_or (ct_not (ct_val (ce_isi e.b_isinstance e.b_tuple boot_tuple (ce_var 0)))) (cw_or1 (ct_cmp (ov_ne cx.hu) rs_rS (ce_callB (x := "len") cr_len rc_len rfl e.b_len boot_len (ca_cons (ce_var 0) ca_nil)) (ce_callB (x := "len") cr_len rc_len rfl e.b_len boot_len (ca_cons (ce_var 1) ca_nil)))))) (css_one (cs_ret ce_bl)) css_nil)
    (css_one (cs_ret (ce_callB (x := "all") (cr_all cx.calm) rc_all rfl e.b_all boot_all (ca_cons (ce_frz (cn_comp cx (ci_range e.b_range (ce_callB (x := "len") cr_len rc_len rfl e.b_len boot_len (ca_cons (ce_var 1) ca_nil))) [("at", 2)] (by kernel_rfl) (fun _ _ _ _ _ => cgo_name 2 cx.nd) (fun _ _ _ _ _ => cts_nil) (fun _ _ _ _ _ => ce_call p_l_is hr_l_is (cx.blk _ _ _ _ _) rfl (ca_cons (ce_ix (cx.blk _ _ _ _ _).hu (ce_var 0) (ce_var 2)) (ca_cons (ce_ix (cx.blk _ _ _ _ _).hu (ce_var 1) (ce_var 2)) ca_nil))))) ca_nil))))))))
theorem ok_l_is (e : Fc P K mg) : ∀ k, Gf P w K mg base (9 + 1 + k) "_law_is" 2 (F_l_is k)
  | 0 => ⟨_, e.h_l_is, (let ⟨_, F⟩ := e.f_l_is; fn_bad (N := ["value", "due", "at"]) (ps := ["value", "due"]) F ⟨rfl, rfl, rfl, by decide +kernel, rfl, by decide +kernel, by decide +kernel⟩ (FunD.bindsN F fun _ _ _ _ _ _ us hl => match us, hl with | [_, _], _ => rfl))⟩
  | k + 1 => ⟨_, e.h_l_is, fn_l_is (kk := 9 + 1 + k) (by omega) e (ok_l_is e k)⟩
/-! ### _law_take -/
theorem fn_l_take {kk : Nat} (hk : 8 ≤ kk) (e : Fc P K mg) : Fn P w K mg base (kk + 1) (He.ga K "_law_take") 2 (G_l_take) := by
  obtain ⟨fd, F⟩ := e.f_l_take
  refine Pin.fn_ok (N := ["made", "most", "at", "draws"]) (ps := ["made", "most"]) F ⟨rfl, rfl, rfl, by decide +kernel, rfl, by decide +kernel, by decide +kernel⟩ (FunD.bindsN F fun _ _ _ _ _ _ us hl => match us, hl with | [_, _], _ => rfl) fun cdv A outer s H E cx hr => ?_
  exact css_cons (cs_set 2 cx (ce_ix cx.hu (ce_var 0) ce_str))
    (css_cons (cs_dput cx (ce_var 0) ce_str (ce_op ov_add rs_rS (ce_var 2) ce_int))
    (css_cons (cs_set 3 cx (ce_ix cx.hu (ce_var 0) ce_str))
    (css_one (cs_ret (ce_op ov_mod rs_rS (ce_op ov_add rs_rS (ce_op ov_fdiv rs_rS (ce_callTy (x := "int") call_int1 rc_int rfl e.b_int boot_int (ca_cons (ce_ix cx.hu (ce_var 3) (ce_op ov_mod rs_rS (ce_var 2) (ce_callB (x := "len") cr_len rc_len rfl e.b_len boot_len (ca_cons (ce_var 3) ca_nil)))) ca_nil)) (ce_ix cx.hu (ce_tup (ca_cons ce_int (ca_cons ce_int (ca_cons ce_int (ca_cons ce_int ca_nil)))) (few_cons (few_cons (few_cons (few_cons few_nil))))) (ce_op ov_mod rs_rS (ce_op ov_fdiv rs_rS (ce_var 2) (ce_callB (x := "len") cr_len rc_len rfl e.b_len boot_len (ca_cons (ce_var 3) ca_nil))) ce_int))) (ce_op ov_fdiv rs_rS (ce_var 2) (ce_op ov_mul rs_rS ce_int (ce_callB (x := "len") cr_len rc_len rfl e.b_len boot_len (ca_cons (ce_var 3) ca_nil))))) (ce_var 1))))))
theorem ok_l_take (e : Fc P K mg) : Gf P w K mg base (9) "_law_take" 2 (F_l_take) := ⟨_, e.h_l_take, fn_l_take (Nat.le_refl _) e⟩
/-! ### _law_pool -/
theorem fn_l_pool {kk : Nat} (hk : 9 ≤ kk) (e : Fc P K mg) : Fn P w K mg base (kk + 1) (He.ga K "_law_pool") 1 (G_l_pool) := by
  obtain ⟨fd, F⟩ := e.f_l_pool
  refine Pin.fn_ok (N := ["made"]) (ps := ["made"]) F ⟨rfl, rfl, rfl, by decide +kernel, rfl, by decide +kernel, by decide +kernel⟩ (FunD.bindsN F fun _ _ _ _ _ _ us hl => match us, hl with | [_], _ => rfl) fun cdv A outer s H E cx hr => ?_
  exact css_one (cs_ret (ce_ix cx.hu (ce_tup (ca_cons (ce_tup (ca_cons ce_str (ca_cons ce_str ca_nil)) (few_cons (few_cons few_nil))) (ca_cons (ce_tup (ca_cons ce_str (ca_cons (ce_tup ca_nil few_nil) ca_nil)) (few_cons (few_cons few_nil))) (ca_cons (ce_tup (ca_cons ce_str (ca_cons (ce_tup (ca_cons ce_str ca_nil) (few_cons few_nil)) ca_nil)) (few_cons (few_cons few_nil))) (ca_cons (ce_tup (ca_cons ce_str (ca_cons (ce_tup (ca_cons ce_str ca_nil) (few_cons few_nil)) ca_nil)) (few_cons (few_cons few_nil))) ca_nil)))) (few_cons (few_cons (few_cons (few_cons few_nil))))) (ce_call (ok_l_take e) (hr.mono (by omega)) cx rfl (ca_cons (ce_var 0) (ca_cons ce_int ca_nil)))))
theorem ok_l_pool (e : Fc P K mg) : Gf P w K mg base (10) "_law_pool" 1 (F_l_pool) := ⟨_, e.h_l_pool, fn_l_pool (Nat.le_refl _) e⟩
/-! ### _law_box -/
theorem fn_l_box {r_l_box : List AV → AH → Out AV} {kk : Nat} (hk : 10 ≤ kk) (e : Fc P K mg) (p_l_box : Gf P w K mg base (kk) "_law_box" 3 (r_l_box)) : Fn P w K mg base (kk + 1) (He.ga K "_law_box") 3 (G_l_box r_l_box) := by
  obtain ⟨fd, F⟩ := e.f_l_box
  refine Pin.fn_ok (N := ["made", "depth", "asked", "way", "name", "rows", "value"]) (ps := ["made", "depth", "asked"]) F ⟨rfl, rfl, rfl, by decide +kernel, rfl, by decide +kernel, by decide +kernel⟩ (FunD.bindsN F fun _ _ _ _ _ _ us hl => match us, hl with | [_, _, _], _ => rfl) fun cdv A outer s H E cx hr => ?_
  have hr_l_box := hr
  exact css_cons (cs_set 3 cx (ce_if (ct_cmp ov_gt rs_rS (ce_var 1) ce_int) (ce_call (ok_l_take e) (hr.mono (by omega)) cx rfl (ca_cons (ce_var 0) (ca_cons ce_int ca_nil))) ce_int))
    (css_cons (cs_set 4 cx (ce_ix cx.hu (ce_tup (ca_cons ce_str (ca_cons ce_str (ca_cons ce_str (ca_cons ce_str (ca_cons ce_str (ca_cons ce_str (ca_cons ce_str (ca_cons ce_str ca_nil)))))))) (few_cons (few_cons (few_cons (few_cons (few_cons (few_cons (few_cons (few_cons few_nil))))))))) (ce_call (ok_l_take e) (hr.mono (by omega)) cx rfl (ca_cons (ce_var 0) (ca_cons ce_int ca_nil)))))
    (css_cons (cs_if (ct_w (cw_or (ct_cmp ov_gt rs_rS (ce_var 3) ce_int) (cw_or1 (ct_cmp (ov_in cx.hu) rs_rS (ce_var 4) (ce_var 2))))) (css_one (cs_ret (ce_tup (ca_cons ce_str (ca_cons (ce_call (ok_l_pool e) (hr.mono (by omega)) cx rfl (ca_cons (ce_var 0) ca_nil)) ca_nil)) (few_cons (few_cons few_nil))))) css_nil)
    (css_cons (cs_set 5 cx (ce_alloc (cn_lst ca_nil few_nil)))
    (css_cons (cs_for cx (ci_seq (ce_tup (ca_cons (ce_tup (ca_cons ce_str (ca_cons ce_str ca_nil)) (few_cons (few_cons few_nil))) (ca_cons (ce_tup (ca_cons ce_str (ca_cons (ce_tup ca_nil few_nil) ca_nil)) (few_cons (few_cons few_nil))) (ca_cons (ce_tup (ca_cons ce_str (ca_cons (ce_tup (ca_cons ce_str ca_nil) (few_cons few_nil)) ca_nil)) (few_cons (few_cons few_nil))) (ca_cons (ce_tup (ca_cons ce_str (ca_cons (ce_tup (ca_cons ce_str ca_nil) (few_cons few_nil)) ca_nil)) (few_cons (few_cons few_nil))) ca_nil)))) (few_cons (few_cons (few_cons (few_cons few_nil)))))) (cg_name 6 cx.nd) (css_one (cs_if (ct_cmp (ov_eq cx.hu) rs_rS (ce_call (ok_l_take e) (hr.mono (by omega)) cx rfl (ca_cons (ce_var 0) (ca_cons ce_int ca_nil))) ce_int) (css_one (cs_expr (ce_append (ce_var 5) (ce_tup (ca_cons (ce_var 6) (ca_cons (ce_call p_l_box hr_l_box cx rfl (ca_cons (ce_var 0) (ca_cons (ce_op ov_sub rs_rS (ce_var 1) ce_int) (ca_cons (ce_op ov_add rs_rS (ce_var 2) (ce_lst (ca_cons (ce_var 4) ca_nil) (few_cons few_nil))) ca_nil)))) ca_nil)) (few_cons (few_cons few_nil)))))) css_nil)))
    (css_one (cs_ret (ce_tup (ca_cons ce_str (ca_cons (ce_var 4) (ca_cons (ce_callTy (x := "tuple") call_tupleZ rc_tuple rfl e.b_tuple boot_tuple (ca_cons (ce_var 5) ca_nil)) (ca_cons (ce_call p_l_box hr_l_box cx rfl (ca_cons (ce_var 0) (ca_cons (ce_op ov_sub rs_rS (ce_var 1) ce_int) (ca_cons (ce_op ov_add rs_rS (ce_var 2) (ce_lst (ca_cons (ce_var 4) ca_nil) (few_cons few_nil))) ca_nil)))) ca_nil)))) (few_cons (few_cons (few_cons (few_cons few_nil)))))))))))
theorem ok_l_box (e : Fc P K mg) : ∀ k, Gf P w K mg base (10 + 1 + k) "_law_box" 3 (F_l_box k)
  | 0 => ⟨_, e.h_l_box, (let ⟨_, F⟩ := e.f_l_box; fn_bad (N := ["made", "depth", "asked", "way", "name", "rows", "value"]) (ps := ["made", "depth", "asked"]) F ⟨rfl, rfl, rfl, by decide +kernel, rfl, by decide +kernel, by decide +kernel⟩ (FunD.bindsN F fun _ _ _ _ _ _ us hl => match us, hl with | [_, _, _], _ => rfl))⟩
  | k + 1 => ⟨_, e.h_l_box, fn_l_box (kk := 10 + 1 + k) (by omega) e (ok_l_box e k)⟩
/-! ### _law_edited -/
theorem fn_l_edited {kk : Nat} (hk : 9 ≤ kk) (e : Fc P K mg) : Fn P w K mg base (kk + 1) (He.ga K "_law_edited") 3 (G_l_edited) := by
  obtain ⟨fd, F⟩ := e.f_l_edited
  refine Pin.fn_ok (N := ["made", "base", "name", "given", "labels", "way", "row"]) (ps := ["made", "base", "name"]) F ⟨rfl, rfl, rfl, by decide +kernel, rfl, by decide +kernel, by decide +kernel⟩ (FunD.bindsN F fun _ _ _ _ _ _ us hl => match us, hl with | [_, _, _], _ => rfl) fun cdv A outer s H E cx hr => ?_
  exact css_cons (cs_setLc cx 3 (own := [("row", 6)]) (.inl rfl) (ci_seq (ce_ix cx.hu (ce_var 1) ce_int)) (by kernel_rfl) (fun _ _ _ _ _ => cgo_name 6 cx.nd) (fun _ _ _ _ _ => cts_one (ct_cmp (ov_ne (cx.blk _ _ _ _ _).hu) rs_rS (ce_ix (cx.blk _ _ _ _ _).hu (ce_var 6) ce_int) (ce_var 2))) (fun _ _ _ _ _ => ce_var 6))
    (css_cons (cs_setLc cx 4 (own := [("row", 6)]) (.inl rfl) (ci_seq (ce_ix cx.hu (ce_var 1) ce_int)) (by kernel_rfl) (fun _ _ _ _ _ => cgo_name 6 cx.nd) (fun _ _ _ _ _ => cts_one (ct_cmp (ov_ne (cx.blk _ _ _ _ _).hu) rs_rS (ce_ix (cx.blk _ _ _ _ _).hu (ce_var 6) ce_int) (ce_var 2))) (fun _ _ _ _ _ => ce_var 6))
    (css_cons (cs_set 5 cx (ce_call (ok_l_take e) (hr.mono (by omega)) cx rfl (ca_cons (ce_var 0) (ca_cons ce_int ca_nil))))
    (css_cons (cs_if (ct_cmp ov_lt rs_rS (ce_var 5) ce_int) (css_one (cs_expr (ce_append (ce_var 3) (ce_tup (ca_cons (ce_var 2) (ca_cons (ce_ix cx.hu (ce_tup (ca_cons (ce_tup ca_nil few_nil) (ca_cons (ce_tup (ca_cons ce_str ca_nil) (few_cons few_nil)) (ca_cons (ce_tup (ca_cons ce_str ca_nil) (few_cons few_nil)) ca_nil))) (few_cons (few_cons (few_cons few_nil)))) (ce_call (ok_l_take e) (hr.mono (by omega)) cx rfl (ca_cons (ce_var 0) (ca_cons ce_int ca_nil)))) ca_nil)) (few_cons (few_cons few_nil)))))) (css_one (cs_if (ct_cmp ov_lt rs_rS (ce_var 5) ce_int) (css_one (cs_expr (ce_append (ce_var 4) (ce_tup (ca_cons (ce_var 2) (ca_cons (ce_ix cx.hu (ce_tup (ca_cons ce_str (ca_cons ce_str (ca_cons ce_str (ca_cons ce_str ca_nil)))) (few_cons (few_cons (few_cons (few_cons few_nil))))) (ce_call (ok_l_take e) (hr.mono (by omega)) cx rfl (ca_cons (ce_var 0) (ca_cons ce_int ca_nil)))) ca_nil)) (few_cons (few_cons few_nil)))))) css_nil)))
    (css_one (cs_ret (ce_tup (ca_cons (ce_callTy (x := "tuple") call_tupleZ rc_tuple rfl e.b_tuple boot_tuple (ca_cons (ce_callB (x := "sorted") (cr_sortW cx) rc_rOf rfl e.b_sorted boot_sorted (ca_cons (ce_var 3) ca_nil)) ca_nil)) (ca_cons (ce_callTy (x := "tuple") call_tupleZ rc_tuple rfl e.b_tuple boot_tuple (ca_cons (ce_callB (x := "sorted") (cr_sortW cx) rc_rOf rfl e.b_sorted boot_sorted (ca_cons (ce_var 4) ca_nil)) ca_nil)) ca_nil)) (few_cons (few_cons few_nil))))))))
theorem ok_l_edited (e : Fc P K mg) : Gf P w K mg base (10) "_law_edited" 3 (F_l_edited) := ⟨_, e.h_l_edited, fn_l_edited (Nat.le_refl _) e⟩
/-! ### _law_behind -/
theorem fn_l_behind {kk : Nat} (hk : 8 ≤ kk) (e : Fc P K mg) : Fn P w K mg base (kk + 1) (He.ga K "_law_behind") 2 (G_l_behind) := by
  obtain ⟨fd, F⟩ := e.f_l_behind
  refine Pin.fn_ok (N := ["box", "value", "one", "other"]) (ps := ["box", "value"]) F ⟨rfl, rfl, rfl, by decide +kernel, rfl, by decide +kernel, by decide +kernel⟩ (FunD.bindsN F fun _ _ _ _ _ _ us hl => match us, hl with | [_, _], _ => rfl) fun cdv A outer s H E cx hr => ?_
  exact css_cons (cs_for cx (ci_seq (ce_ix cx.hu (ce_var 0) ce_int)) (cg_tup (n := 2) cx.calm (cgs_cons (cg_name 2 cx.nd) (cgs_cons (cg_name 3 cx.nd) cgs_nil))) (css_one (cs_if (ct_cmp (ov_eq cx.hu) rs_rS (ce_var 2) (ce_var 1)) (css_one (cs_ret (ce_var 3))) css_nil)))
    (css_one (cs_ret (ce_ix cx.hu (ce_var 0) ce_int)))
theorem ok_l_behind (e : Fc P K mg) : Gf P w K mg base (9) "_law_behind" 2 (F_l_behind) := ⟨_, e.h_l_behind, fn_l_behind (Nat.le_refl _) e⟩
/-! ### _law_found -/
theorem fn_l_found {r_l_branch : List AV → AH → Out AV} {kk : Nat} (hk : 9 ≤ kk) (e : Fc P K mg) (p_l_branch : Gf P w K mg base (kk) "_law_branch" 3 (r_l_branch)) : Fn P w K mg base (kk + 1) (He.ga K "_law_found") 3 (G_l_found r_l_branch) := by
  obtain ⟨fd, F⟩ := e.f_l_found
  refine Pin.fn_ok (N := ["crate", "name", "begun", "given", "labels", "branch"]) (ps := ["crate", "name", "begun"]) F ⟨rfl, rfl, rfl, by decide +kernel, rfl, by decide +kernel, by decide +kernel⟩ (FunD.bindsN F fun _ _ _ _ _ _ us hl => match us, hl with | [_, _, _], _ => rfl) fun cdv A outer s H E cx hr => ?_
  have hr_l_branch := hr
  exact css_cons (cs_par2 3 4 cx (ca_cons (ce_alloc (cn_dict cx e.b_dict (ce_ix cx.hu (ce_var 0) ce_int))) (ca_cons (ce_alloc (cn_dict cx e.b_dict (ce_ix cx.hu (ce_var 0) ce_int))) ca_nil)))
    (css_cons (cs_if (ct_cmp (ov_in cx.hu) rs_rS (ce_var 1) (ce_var 3)) (css_one (cs_ret (ce_tup (ca_cons ce_str (ca_cons (ce_ix cx.hu (ce_var 3) (ce_var 1)) ca_nil)) (few_cons (few_cons few_nil))))) css_nil)
    (css_cons (cs_if (ct_cmp (ov_ni cx.hu) rs_rS (ce_var 1) (ce_var 4)) (css_one (cs_ret (ce_tup (ca_cons ce_str (ca_cons ce_str ca_nil)) (few_cons (few_cons few_nil))))) css_nil)
    (css_cons (cs_set 5 cx (ce_if (ct_cmp (ov_in cx.hu) rs_rS (ce_ix cx.hu (ce_var 4) (ce_var 1)) (ce_var 2)) ce_non (ce_call p_l_branch hr_l_branch cx rfl (ca_cons (ce_var 0) (ca_cons (ce_ix cx.hu (ce_var 4) (ce_var 1)) (ca_cons (ce_var 2) ca_nil))))))
    (css_one (cs_ret (ce_if (ct_cmp ov_is rs_rS (ce_var 5) ce_non) ce_non (ce_ix cx.hu (ce_var 5) ce_int)))))))
/-! ### _law_branch -/
theorem fn_l_branch {r_l_found : List AV → AH → Out AV} {kk : Nat} (hk : 9 ≤ kk) (e : Fc P K mg) (p_l_found : Gf P w K mg base (kk) "_law_found" 3 (r_l_found)) : Fn P w K mg base (kk + 1) (He.ga K "_law_branch") 3 (G_l_branch r_l_found) := by
  obtain ⟨fd, F⟩ := e.f_l_branch
  refine Pin.fn_ok (N := ["crate", "label", "begun", "box", "reads", "value"]) (ps := ["crate", "label", "begun"]) F ⟨rfl, rfl, rfl, by decide +kernel, rfl, by decide +kernel, by decide +kernel⟩ (FunD.bindsN F fun _ _ _ _ _ _ us hl => match us, hl with | [_, _, _], _ => rfl) fun cdv A outer s H E cx hr => ?_
  have hr_l_found := hr
  exact css_cons (cs_par2 3 4 cx (ca_cons (ce_ixN cx.hu (cn_dict cx e.b_dict (ce_ix cx.hu (ce_var 0) ce_int)) (ce_var 1)) (ca_cons (ce_tup ca_nil few_nil) ca_nil)))
    (css_cons (cs_while 100 cx (ct_cmp (ov_eq cx.hu) rs_rS (ce_ix cx.hu (ce_var 3) ce_int) ce_str) (css_cons (cs_set 5 cx (ce_call p_l_found hr_l_found cx rfl (ca_cons (ce_var 0) (ca_cons (ce_ix cx.hu (ce_var 3) ce_int) (ca_cons (ce_op ov_add rs_rS (ce_var 2) (ce_lst (ca_cons (ce_var 1) ca_nil) (few_cons few_nil))) ca_nil)))))
    (css_cons (cs_if (ct_cmp ov_is rs_rS (ce_var 5) ce_non) (css_one (cs_ret ce_non)) css_nil)
    (css_cons (cs_set 4 cx (ce_op ov_add rs_rS (ce_var 4) (ce_tup (ca_cons (ce_tup (ca_cons (ce_ix cx.hu (ce_var 3) ce_int) (ca_cons (ce_var 5) ca_nil)) (few_cons (few_cons few_nil))) ca_nil) (few_cons few_nil))))
    (css_one (cs_set 3 cx (ce_call (ok_l_behind e) (hr.mono (by omega)) cx rfl (ca_cons (ce_var 3) (ca_cons (ce_var 5) ca_nil)))))))))
    (css_one (cs_ret (ce_tup (ca_cons (ce_var 4) (ca_cons (ce_ix cx.hu (ce_var 3) ce_int) ca_nil)) (few_cons (few_cons few_nil))))))
theorem ok_l_found (e : Fc P K mg) : ∀ k, Gf P w K mg base (9 + 1 + 2 * k) "_law_found" 3 (F_l_found k)
  | 0 => ⟨_, e.h_l_found, (let ⟨_, F⟩ := e.f_l_found; fn_bad (N := ["crate", "name", "begun", "given", "labels", "branch"]) (ps := ["crate", "name", "begun"]) F ⟨rfl, rfl, rfl, by decide +kernel, rfl, by decide +kernel, by decide +kernel⟩ (FunD.bindsN F fun _ _ _ _ _ _ us hl => match us, hl with | [_, _, _], _ => rfl))⟩
  | k + 1 => ⟨_, e.h_l_found, (fn_l_found (kk := 9 + 2 + 2 * k) (by omega) e ⟨_, e.h_l_branch, (fn_l_branch (kk := 9 + 1 + 2 * k) (by omega) e (ok_l_found e k)).mono (by omega)⟩).mono (by omega)⟩
theorem ok_l_branch (e : Fc P K mg) (k : Nat) : Gf P w K mg base (9 + 2 + 2 * k) "_law_branch" 3 (F_l_branch k) := ⟨_, e.h_l_branch, (fn_l_branch (kk := 9 + 1 + 2 * k) (by omega) e (ok_l_found e k)).mono (by omega)⟩
/-! ### _law_stock -/
theorem fn_l_stock {kk : Nat} (hk : 35 ≤ kk) (e : Fc P K mg) : Fn P w K mg base (kk + 1) (He.ga K "_law_stock") 1 (G_l_stock) := by
  obtain ⟨fd, F⟩ := e.f_l_stock
  refine Pin.fn_ok (N := ["made", "boxes", "base", "notes", "name", "turn", "label", "branch", "row"]) (ps := ["made"]) F ⟨rfl, rfl, rfl, by decide +kernel, rfl, by decide +kernel, by decide +kernel⟩ (FunD.bindsN F fun _ _ _ _ _ _ us hl => match us, hl with | [_], _ => rfl) fun cdv A outer s H E cx hr => ?_
  exact css_cons (cs_set 1 cx (ce_callTy (x := "tuple") call_tupleZ rc_tuple rfl e.b_tuple boot_tuple (ca_cons (ce_frz (cn_comp cx (ci_seq (ce_tup (ca_cons ce_str (ca_cons ce_str (ca_cons ce_str (ca_cons ce_str ca_nil)))) (few_cons (few_cons (few_cons (few_cons few_nil)))))) [("label", 6)] (by kernel_rfl) (fun _ _ _ _ _ => cgo_name 6 cx.nd) (fun _ _ _ _ _ => cts_nil) (fun _ _ _ _ _ => ce_tup (ca_cons (ce_var 6) (ca_cons (ce_call (ok_l_box e 4) (hr.mono (by omega)) (cx.blk _ _ _ _ _) rfl (ca_cons (ce_var 0) (ca_cons ce_int (ca_cons (ce_lst ca_nil few_nil) ca_nil)))) ca_nil)) (few_cons (few_cons few_nil))))) ca_nil)))
    (css_cons (cs_par2 2 3 cx (ca_cons (ce_tup (ca_cons (ce_tup ca_nil few_nil) (ca_cons (ce_tup ca_nil few_nil) ca_nil)) (few_cons (few_cons few_nil))) (ca_cons (ce_alloc (cn_lst ca_nil few_nil)) ca_nil)))
    (css_cons (cs_for cx (ci_seq (ce_tup (ca_cons ce_str (ca_cons ce_str (ca_cons ce_str (ca_cons ce_str (ca_cons ce_str (ca_cons ce_str (ca_cons ce_str ca_nil))))))) (few_cons (few_cons (few_cons (few_cons (few_cons (few_cons (few_cons few_nil))))))))) (cg_name 4 cx.nd) (css_one (cs_set 2 cx (ce_call (ok_l_edited e) (hr.mono (by omega)) cx rfl (ca_cons (ce_var 0) (ca_cons (ce_var 2) (ca_cons (ce_var 4) ca_nil)))))))
    (css_cons (cs_for cx (ci_range e.b_range ce_int) (cg_name 5 cx.nd) (css_cons (cs_for cx (ci_seq (ce_sortSet cx e.b_sorted e.b_set (ce_frz (cn_comp cx (ci_seq (ce_ix cx.hu (ce_var 2) ce_int)) [("row", 8)] (by kernel_rfl) (fun _ _ _ _ _ => cgo_name 8 cx.nd) (fun _ _ _ _ _ => cts_nil) (fun _ _ _ _ _ => ce_ix (cx.blk _ _ _ _ _).hu (ce_var 8) ce_int))))) (cg_name 6 cx.nd) (css_cons (cs_set 7 cx (ce_call (ok_l_branch e 12) (hr.mono (by omega)) cx rfl (ca_cons (ce_op ov_add rs_rS (ce_var 2) (ce_tup (ca_cons (ce_var 1) ca_nil) (few_cons few_nil))) (ca_cons (ce_var 6) (ca_cons (ce_lst ca_nil few_nil) ca_nil)))))
    (css_one (cs_if (ct_w (cw_and (ct_cmp ov_isnt rs_rS (ce_var 7) ce_non) (cw_and (ct_cmp ov_gt rs_rS (ce_call (ok_l_take e) (hr.mono (by omega)) cx rfl (ca_cons (ce_var 0) (ca_cons ce_int ca_nil))) ce_int) (cw_and1 (ct_cmp (ov_ni cx.hu) rs_rS (ce_op ov_add rs_rS (ce_tup (ca_cons (ce_var 6) ca_nil) (few_cons few_nil)) (ce_var 7)) (ce_var 3)))))) (css_one (cs_expr (ce_append (ce_var 3) (ce_op ov_add rs_rS (ce_tup (ca_cons (ce_var 6) ca_nil) (few_cons few_nil)) (ce_var 7))))) css_nil))))
    (css_one (cs_set 2 cx (ce_call (ok_l_edited e) (hr.mono (by omega)) cx rfl (ca_cons (ce_var 0) (ca_cons (ce_var 2) (ca_cons (ce_ix cx.hu (ce_tup (ca_cons ce_str (ca_cons ce_str (ca_cons ce_str (ca_cons ce_str (ca_cons ce_str (ca_cons ce_str (ca_cons ce_str ca_nil))))))) (few_cons (few_cons (few_cons (few_cons (few_cons (few_cons (few_cons few_nil)))))))) (ce_call (ok_l_take e) (hr.mono (by omega)) cx rfl (ca_cons (ce_var 0) (ca_cons ce_int ca_nil)))) ca_nil))))))))
    (css_one (cs_ret (ce_tup (ca_cons (ce_op ov_add rs_rS (ce_var 2) (ce_tup (ca_cons (ce_callTy (x := "tuple") call_tupleZ rc_tuple rfl e.b_tuple boot_tuple (ca_cons (ce_callB (x := "sorted") (cr_sortW cx) rc_rOf rfl e.b_sorted boot_sorted (ca_cons (ce_var 3) ca_nil)) ca_nil)) ca_nil) (few_cons few_nil))) (ca_cons (ce_op ov_add rs_rS (ce_var 2) (ce_tup (ca_cons (ce_var 1) ca_nil) (few_cons few_nil))) ca_nil)) (few_cons (few_cons few_nil))))))))
theorem ok_l_stock (e : Fc P K mg) : Gf P w K mg base (36) "_law_stock" 1 (F_l_stock) := ⟨_, e.h_l_stock, fn_l_stock (Nat.le_refl _) e⟩
/-! ### _law_step -/
theorem fn_l_step {kk : Nat} (hk : 8 ≤ kk) (e : Fc P K mg) : Fn P w K mg base (kk + 1) (He.ga K "_law_step") 3 (G_l_step) := by
  obtain ⟨fd, F⟩ := e.f_l_step
  refine Pin.fn_ok (N := ["notes", "label", "reads", "one", "others", "value"]) (ps := ["notes", "label", "reads"]) F ⟨rfl, rfl, rfl, by decide +kernel, rfl, by decide +kernel, by decide +kernel⟩ (FunD.bindsN F fun _ _ _ _ _ _ us hl => match us, hl with | [_, _, _], _ => rfl) fun cdv A outer s H E cx hr => ?_
  exact css_cons (cs_for cx (ci_seq (ce_var 0)) (cg_tup (n := 3) cx.calm (cgs_cons (cg_name 3 cx.nd) (cgs_cons (cg_name 4 cx.nd) (cgs_cons (cg_name 5 cx.nd) cgs_nil)))) (css_one (cs_if (ct_w (cw_and (ct_cmp (ov_eq cx.hu) rs_rS (ce_var 3) (ce_var 1)) (cw_and1 (ct_cmp (ov_eq cx.hu) rs_rS (ce_sl (ce_var 4) co_none (co_some (ce_callB (x := "len") cr_len rc_len rfl e.b_len boot_len (ca_cons (ce_var 2) ca_nil)))) (ce_var 2))))) (css_one (cs_ret (ce_if (ct_cmp (ov_eq cx.hu) rs_rS (ce_callB (x := "len") cr_len rc_len rfl e.b_len boot_len (ca_cons (ce_var 4) ca_nil)) (ce_callB (x := "len") cr_len rc_len rfl e.b_len boot_len (ca_cons (ce_var 2) ca_nil))) (ce_tup (ca_cons ce_str (ca_cons (ce_var 5) ca_nil)) (few_cons (few_cons few_nil))) (ce_tup (ca_cons ce_str (ca_cons (ce_ix cx.hu (ce_ix cx.hu (ce_var 4) (ce_callB (x := "len") cr_len rc_len rfl e.b_len boot_len (ca_cons (ce_var 2) ca_nil))) ce_int) ca_nil)) (few_cons (few_cons few_nil)))))) css_nil)))
    (css_one (cs_ret ce_non))
theorem ok_l_step (e : Fc P K mg) : Gf P w K mg base (9) "_law_step" 3 (F_l_step) := ⟨_, e.h_l_step, fn_l_step (Nat.le_refl _) e⟩
/-! ### _law_tells -/
theorem fn_l_tells {r_l_tells : List AV → AH → Out AV} {kk : Nat} (hk : 9 ≤ kk) (e : Fc P K mg) (p_l_tells : Gf P w K mg base (kk) "_law_tells" 3 (r_l_tells)) : Fn P w K mg base (kk + 1) (He.ga K "_law_tells") 3 (G_l_tells r_l_tells) := by
  obtain ⟨fd, F⟩ := e.f_l_tells
  refine Pin.fn_ok (N := ["stock", "name", "begun", "given", "labels", "label", "reads", "step", "one"]) (ps := ["stock", "name", "begun"]) F ⟨rfl, rfl, rfl, by decide +kernel, rfl, by decide +kernel, by decide +kernel⟩ (FunD.bindsN F fun _ _ _ _ _ _ us hl => match us, hl with | [_, _, _], _ => rfl) fun cdv A outer s H E cx hr => ?_
  have hr_l_tells := hr
  exact css_cons (cs_par2 3 4 cx (ca_cons (ce_alloc (cn_dict cx e.b_dict (ce_ix cx.hu (ce_var 0) ce_int))) (ca_cons (ce_alloc (cn_dict cx e.b_dict (ce_ix cx.hu (ce_var 0) ce_int))) ca_nil)))
    (css_cons (cs_if (ct_w (cw_or (ct_cmp (ov_in cx.hu) rs_rS (ce_var 1) (ce_var 3)) (cw_or1 (ct_cmp (ov_ni cx.hu) rs_rS (ce_var 1) (ce_var 4))))) (css_one (cs_ret (ce_tup (ca_cons ce_str (ca_cons (ce_if (ct_cmp (ov_in cx.hu) rs_rS (ce_var 1) (ce_var 3)) (ce_tup (ca_cons ce_str (ca_cons (ce_ix cx.hu (ce_var 3) (ce_var 1)) ca_nil)) (few_cons (few_cons few_nil))) (ce_tup (ca_cons ce_str (ca_cons ce_str ca_nil)) (few_cons (few_cons few_nil)))) ca_nil)) (few_cons (few_cons few_nil))))) css_nil)
    (css_cons (cs_if (ct_cmp (ov_in cx.hu) rs_rS (ce_ix cx.hu (ce_var 4) (ce_var 1)) (ce_var 2)) (css_one (cs_ret (ce_tup (ca_cons ce_str ca_nil) (few_cons few_nil)))) css_nil)
    (css_cons (cs_par2 5 6 cx (ca_cons (ce_ix cx.hu (ce_var 4) (ce_var 1)) (ca_cons (ce_tup ca_nil few_nil) ca_nil)))
    (css_cons (cs_set 7 cx (ce_call (ok_l_step e) (hr.mono (by omega)) cx rfl (ca_cons (ce_ix cx.hu (ce_var 0) ce_int) (ca_cons (ce_var 5) (ca_cons (ce_var 6) ca_nil)))))
    (css_cons (cs_while 100 cx (ct_w (cw_and (ct_cmp ov_isnt rs_rS (ce_var 7) ce_non) (cw_and1 (ct_cmp (ov_eq cx.hu) rs_rS (ce_ix cx.hu (ce_var 7) ce_int) ce_str)))) (css_cons (cs_set 8 cx (ce_call p_l_tells hr_l_tells cx rfl (ca_cons (ce_var 0) (ca_cons (ce_ix cx.hu (ce_var 7) ce_int) (ca_cons (ce_op ov_add rs_rS (ce_var 2) (ce_tup (ca_cons (ce_var 5) ca_nil) (few_cons few_nil))) ca_nil)))))
    (css_cons (cs_if (ct_cmp (ov_ne cx.hu) rs_rS (ce_ix cx.hu (ce_var 8) ce_int) ce_str) (css_one (cs_ret (ce_var 8))) css_nil)
    (css_cons (cs_set 6 cx (ce_op ov_add rs_rS (ce_var 6) (ce_tup (ca_cons (ce_tup (ca_cons (ce_ix cx.hu (ce_var 7) ce_int) (ca_cons (ce_ix cx.hu (ce_var 8) ce_int) ca_nil)) (few_cons (few_cons few_nil))) ca_nil) (few_cons few_nil))))
    (css_one (cs_set 7 cx (ce_call (ok_l_step e) (hr.mono (by omega)) cx rfl (ca_cons (ce_ix cx.hu (ce_var 0) ce_int) (ca_cons (ce_var 5) (ca_cons (ce_var 6) ca_nil))))))))))
    (css_one (cs_ret (ce_if (ct_cmp ov_is rs_rS (ce_var 7) ce_non) (ce_tup (ca_cons ce_str (ca_cons (ce_op ov_add rs_rS (ce_var 2) (ce_tup (ca_cons (ce_var 5) ca_nil) (few_cons few_nil))) ca_nil)) (few_cons (few_cons few_nil))) (ce_tup (ca_cons ce_str (ca_cons (ce_ix cx.hu (ce_var 7) ce_int) ca_nil)) (few_cons (few_cons few_nil)))))))))))
theorem ok_l_tells (e : Fc P K mg) : ∀ k, Gf P w K mg base (9 + 1 + k) "_law_tells" 3 (F_l_tells k)
  | 0 => ⟨_, e.h_l_tells, (let ⟨_, F⟩ := e.f_l_tells; fn_bad (N := ["stock", "name", "begun", "given", "labels", "label", "reads", "step", "one"]) (ps := ["stock", "name", "begun"]) F ⟨rfl, rfl, rfl, by decide +kernel, rfl, by decide +kernel, by decide +kernel⟩ (FunD.bindsN F fun _ _ _ _ _ _ us hl => match us, hl with | [_, _, _], _ => rfl))⟩
  | k + 1 => ⟨_, e.h_l_tells, fn_l_tells (kk := 9 + 1 + k) (by omega) e (ok_l_tells e k)⟩
/-! ### _law_text -/
theorem fn_l_text {kk : Nat} (hk : 8 ≤ kk) (e : Fc P K mg) : Fn P w K mg base (kk + 1) (He.ga K "_law_text") 1 (G_l_text) := by
  obtain ⟨fd, F⟩ := e.f_l_text
  refine Pin.fn_ok (N := ["word"]) (ps := ["word"]) F ⟨rfl, rfl, rfl, by decide +kernel, rfl, by decide +kernel, by decide +kernel⟩ (FunD.bindsN F fun _ _ _ _ _ _ us hl => match us, hl with | [_], _ => rfl) fun cdv A outer s H E cx hr => ?_
  exact css_one (cs_ret (ce_tup (ca_cons ce_str (ca_cons (ce_tup (ca_cons (ce_var 0) ca_nil) (few_cons few_nil)) ca_nil)) (few_cons (few_cons few_nil))))
theorem ok_l_text (e : Fc P K mg) : Gf P w K mg base (9) "_law_text" 1 (F_l_text) := ⟨_, e.h_l_text, fn_l_text (Nat.le_refl _) e⟩
/-! ### _law_behind_choice -/
theorem fn_l_behind_choice {kk : Nat} (hk : 8 ≤ kk) (e : Fc P K mg) : Fn P w K mg base (kk + 1) (He.ga K "_law_behind_choice") 2 (G_l_behind_choice) := by
  obtain ⟨fd, F⟩ := e.f_l_behind_choice
  refine Pin.fn_ok (N := ["base", "rows", "names", "given", "name", "words", "row"]) (ps := ["base", "rows"]) F ⟨rfl, rfl, rfl, by decide +kernel, rfl, by decide +kernel, by decide +kernel⟩ (FunD.bindsN F fun _ _ _ _ _ _ us hl => match us, hl with | [_, _], _ => rfl) fun cdv A outer s H E cx hr => ?_
  exact css_cons (cs_set 2 cx (ce_frz (cn_comp cx (ci_seq (ce_var 1)) [("name", 4), ("words", 5)] (by kernel_rfl) (fun _ _ _ _ _ => cgo_tup cx.calm (cgos_cons (cgo_name 4 cx.nd) (cgos_cons (cgo_name 5 cx.nd) cgos_nil))) (fun _ _ _ _ _ => cts_nil) (fun _ _ _ _ _ => ce_var 4))))
    (css_cons (cs_set 3 cx (ce_op ov_add rs_rS (ce_frz (cn_comp cx (ci_seq (ce_ix cx.hu (ce_var 0) ce_int)) [("row", 6)] (by kernel_rfl) (fun _ _ _ _ _ => cgo_name 6 cx.nd) (fun _ _ _ _ _ => cts_one (ct_cmp (ov_ni (cx.blk _ _ _ _ _).hu) rs_rS (ce_ix (cx.blk _ _ _ _ _).hu (ce_var 6) ce_int) (ce_var 2))) (fun _ _ _ _ _ => ce_var 6))) (ce_callTy (x := "list") call_list_of rc_list rfl e.b_list boot_list (ca_cons (ce_var 1) ca_nil))))
    (css_one (cs_ret (ce_tup (ca_cons (ce_callTy (x := "tuple") call_tupleZ rc_tuple rfl e.b_tuple boot_tuple (ca_cons (ce_callB (x := "sorted") (cr_sortW cx) rc_rOf rfl e.b_sorted boot_sorted (ca_cons (ce_var 3) ca_nil)) ca_nil)) (ca_cons (ce_callTy (x := "tuple") call_tupleZ rc_tuple rfl e.b_tuple boot_tuple (ca_cons (ce_frz (cn_comp cx (ci_seq (ce_ix cx.hu (ce_var 0) ce_int)) [("row", 6)] (by kernel_rfl) (fun _ _ _ _ _ => cgo_name 6 cx.nd) (fun _ _ _ _ _ => cts_one (ct_cmp (ov_ni (cx.blk _ _ _ _ _).hu) rs_rS (ce_ix (cx.blk _ _ _ _ _).hu (ce_var 6) ce_int) (ce_var 2))) (fun _ _ _ _ _ => ce_var 6))) ca_nil)) ca_nil)) (few_cons (few_cons few_nil))))))
theorem ok_l_behind_choice (e : Fc P K mg) : Gf P w K mg base (9) "_law_behind_choice" 2 (F_l_behind_choice) := ⟨_, e.h_l_behind_choice, fn_l_behind_choice (Nat.le_refl _) e⟩
/-! ### _law_choices -/
theorem fn_l_choices {kk : Nat} (hk : 8 ≤ kk) (e : Fc P K mg) : Fn P w K mg base (kk + 1) (He.ga K "_law_choices") 1 (G_l_choices) := by
  obtain ⟨fd, F⟩ := e.f_l_choices
  refine Pin.fn_ok (N := ["menu", "found", "row", "one", "name", "words"]) (ps := ["menu"]) F ⟨rfl, rfl, rfl, by decide +kernel, rfl, by decide +kernel, by decide +kernel⟩ (FunD.bindsN F fun _ _ _ _ _ _ us hl => match us, hl with | [_], _ => rfl) fun cdv A outer s H E cx hr => ?_
  exact css_cons (cs_set 1 cx (ce_lst (ca_cons (ce_tup ca_nil few_nil) ca_nil) (few_cons few_nil)))
    (css_cons (cs_for cx (ci_seq (ce_var 0)) (cg_name 2 cx.nd) (css_one (cs_set 1 cx (ce_op ov_add rs_rS (ce_var 1) (ce_frz (cn_comp cx (ci_seq (ce_var 1)) [("one", 3)] (by kernel_rfl) (fun _ _ _ _ _ => cgo_name 3 cx.nd) (fun _ _ _ _ _ => cts_one (ct_cmp (ov_ni (cx.blk _ _ _ _ _).hu) rs_rS (ce_ix (cx.blk _ _ _ _ _).hu (ce_var 2) ce_int) (ce_frz (cn_comp (cx.blk _ _ _ _ _) (ci_seq (ce_var 3)) [("name", 4), ("words", 5)] (by kernel_rfl) (fun _ _ _ _ _ => cgo_tup (cx.blk _ _ _ _ _).calm (cgos_cons (cgo_name 4 (cx.blk _ _ _ _ _).nd) (cgos_cons (cgo_name 5 (cx.blk _ _ _ _ _).nd) cgos_nil))) (fun _ _ _ _ _ => cts_nil) (fun _ _ _ _ _ => ce_var 4))))) (fun _ _ _ _ _ => ce_op ov_add rs_rS (ce_var 3) (ce_tup (ca_cons (ce_var 2) ca_nil) (few_cons few_nil)))))))))
    (css_one (cs_ret (ce_var 1))))
theorem ok_l_choices (e : Fc P K mg) : Gf P w K mg base (9) "_law_choices" 1 (F_l_choices) := ⟨_, e.h_l_choices, fn_l_choices (Nat.le_refl _) e⟩
/-! ### _law_least_choice -/
theorem fn_l_least_choice {kk : Nat} (hk : 22 ≤ kk) (e : Fc P K mg) : Fn P w K mg base (kk + 1) (He.ga K "_law_least_choice") 3 (G_l_least_choice) := by
  obtain ⟨fd, F⟩ := e.f_l_least_choice
  refine Pin.fn_ok (N := ["stock", "name", "menu", "fine", "rows"]) (ps := ["stock", "name", "menu"]) F ⟨rfl, rfl, rfl, by decide +kernel, rfl, by decide +kernel, by decide +kernel⟩ (FunD.bindsN F fun _ _ _ _ _ _ us hl => match us, hl with | [_, _, _], _ => rfl) fun cdv A outer s H E cx hr => ?_
  exact css_cons (cs_set 3 cx (ce_alloc (cn_lst ca_nil few_nil)))
    (css_cons (cs_for cx (ci_seq (ce_call (ok_l_choices e) (hr.mono (by omega)) cx rfl (ca_cons (ce_var 2) ca_nil))) (cg_name 4 cx.nd) (css_one (cs_if (ct_cmp (ov_eq cx.hu) rs_rS (ce_ix cx.hu (ce_call (ok_l_tells e 12) (hr.mono (by omega)) cx rfl (ca_cons (ce_op ov_add rs_rS (ce_call (ok_l_behind_choice e) (hr.mono (by omega)) cx rfl (ca_cons (ce_var 0) (ca_cons (ce_var 4) ca_nil))) (ce_tup (ca_cons (ce_ix cx.hu (ce_var 0) ce_int) ca_nil) (few_cons few_nil))) (ca_cons (ce_var 1) (ca_cons (ce_tup ca_nil few_nil) ca_nil)))) ce_int) ce_str) (css_one (cs_expr (ce_append (ce_var 3) (ce_tup (ca_cons (ce_callB (x := "len") cr_len rc_len rfl e.b_len boot_len (ca_cons (ce_var 4) ca_nil)) (ca_cons (ce_var 4) ca_nil)) (few_cons (few_cons few_nil)))))) css_nil)))
    (css_one (cs_ret (ce_if (ct_cmp ov_gt rs_rS (ce_callB (x := "len") cr_len rc_len rfl e.b_len boot_len (ca_cons (ce_var 3) ca_nil)) ce_int) (ce_ix cx.hu (ce_callB (x := "min") (cr_minD cx) rc_rOf rfl e.b_min boot_min (ca_cons (ce_var 3) ca_nil)) ce_int) ce_non))))
theorem ok_l_least_choice (e : Fc P K mg) : Gf P w K mg base (23) "_law_least_choice" 3 (F_l_least_choice) := ⟨_, e.h_l_least_choice, fn_l_least_choice (Nat.le_refl _) e⟩
/-! ### _law_menu -/
theorem fn_l_menu {kk : Nat} (hk : 9 ≤ kk) (e : Fc P K mg) : Fn P w K mg base (kk + 1) (He.ga K "_law_menu") 1 (G_l_menu) := by
  obtain ⟨fd, F⟩ := e.f_l_menu
  refine Pin.fn_ok (N := ["made", "rows", "at", "name", "row"]) (ps := ["made"]) F ⟨rfl, rfl, rfl, by decide +kernel, rfl, by decide +kernel, by decide +kernel⟩ (FunD.bindsN F fun _ _ _ _ _ _ us hl => match us, hl with | [_], _ => rfl) fun cdv A outer s H E cx hr => ?_
  exact css_cons (cs_set 1 cx (ce_alloc (cn_lst ca_nil few_nil)))
    (css_cons (cs_for cx (ci_range e.b_range (ce_call (ok_l_take e) (hr.mono (by omega)) cx rfl (ca_cons (ce_var 0) (ca_cons ce_int ca_nil)))) (cg_name 2 cx.nd) (css_cons (cs_set 3 cx (ce_ix cx.hu (ce_tup (ca_cons ce_str (ca_cons ce_str (ca_cons ce_str (ca_cons ce_str (ca_cons ce_str (ca_cons ce_str (ca_cons ce_str (ca_cons ce_str ca_nil)))))))) (few_cons (few_cons (few_cons (few_cons (few_cons (few_cons (few_cons (few_cons few_nil))))))))) (ce_call (ok_l_take e) (hr.mono (by omega)) cx rfl (ca_cons (ce_var 0) (ca_cons ce_int ca_nil)))))
    (css_cons (cs_set 4 cx (ce_tup (ca_cons (ce_var 3) (ca_cons (ce_ix cx.hu (ce_tup (ca_cons (ce_tup ca_nil few_nil) (ca_cons (ce_tup (ca_cons ce_str ca_nil) (few_cons few_nil)) (ca_cons (ce_tup (ca_cons ce_str ca_nil) (few_cons few_nil)) (ca_cons (ce_tup (ca_cons ce_str (ca_cons ce_str ca_nil)) (few_cons (few_cons few_nil))) ca_nil)))) (few_cons (few_cons (few_cons (few_cons few_nil))))) (ce_call (ok_l_take e) (hr.mono (by omega)) cx rfl (ca_cons (ce_var 0) (ca_cons ce_int ca_nil)))) ca_nil)) (few_cons (few_cons few_nil))))
    (css_one (cs_if (ct_cmp (ov_ni cx.hu) rs_rS (ce_var 4) (ce_var 1)) (css_one (cs_expr (ce_append (ce_var 1) (ce_var 4)))) css_nil)))))
    (css_one (cs_ret (ce_callTy (x := "tuple") call_tupleZ rc_tuple rfl e.b_tuple boot_tuple (ca_cons (ce_callB (x := "sorted") (cr_sortW cx) rc_rOf rfl e.b_sorted boot_sorted (ca_cons (ce_var 1) ca_nil)) ca_nil)))))
theorem ok_l_menu (e : Fc P K mg) : Gf P w K mg base (10) "_law_menu" 1 (F_l_menu) := ⟨_, e.h_l_menu, fn_l_menu (Nat.le_refl _) e⟩
/-! ### _law_fine -/
theorem fn_l_fine {kk : Nat} (hk : 36 ≤ kk) (e : Fc P K mg) : Fn P w K mg base (kk + 1) (He.ga K "_law_fine") 4 (G_l_fine) := by
  obtain ⟨fd, F⟩ := e.f_l_fine
  refine Pin.fn_ok (N := ["stock", "crate", "name", "menu", "due", "base", "told"]) (ps := ["stock", "crate", "name", "menu"]) F ⟨rfl, rfl, rfl, by decide +kernel, rfl, by decide +kernel, by decide +kernel⟩ (FunD.bindsN F fun _ _ _ _ _ _ us hl => match us, hl with | [_, _, _, _], _ => rfl) fun cdv A outer s H E cx hr => ?_
  exact css_cons (cs_set 4 cx (ce_call (ok_l_least_choice e) (hr.mono (by omega)) cx rfl (ca_cons (ce_var 0) (ca_cons (ce_var 2) (ca_cons (ce_var 3) ca_nil)))))
    (css_cons (cs_if (ct_not (ct_val (ce_call (ok_l_is e 12) (hr.mono (by omega)) cx rfl (ca_cons (ce_call (ok_least_menu e) (hr.mono (by omega)) cx rfl (ca_cons (ce_var 0) (ca_cons (ce_var 2) (ca_cons (ce_var 3) ca_nil)))) (ca_cons (ce_var 4) ca_nil))))) (css_one (cs_ret ce_bl)) css_nil)
    (css_cons (cs_if (ct_cmp ov_is rs_rS (ce_var 4) ce_non) (css_one (cs_ret ce_bl)) css_nil)
    (css_cons (cs_set 5 cx (ce_call (ok_l_behind_choice e) (hr.mono (by omega)) cx rfl (ca_cons (ce_var 0) (ca_cons (ce_var 4) ca_nil))))
    (css_cons (cs_set 6 cx (ce_call (ok_known_of e) (hr.mono (by omega)) cx rfl (ca_cons (ce_op ov_add rs_rS (ce_var 5) (ce_tup (ca_cons (ce_ix cx.hu (ce_var 0) ce_int) ca_nil) (few_cons few_nil))) (ca_cons (ce_var 2) ca_nil))))
    (css_cons (cs_if (ct_w (cw_or (ct_cmp (ov_ne cx.hu) rs_rS (ce_ix cx.hu (ce_var 6) ce_int) ce_str) (cw_or1 (ct_not (ct_val (ce_call (ok_l_is e 12) (hr.mono (by omega)) cx rfl (ca_cons (ce_call (ok_l_found e 12) (hr.mono (by omega)) cx rfl (ca_cons (ce_op ov_add rs_rS (ce_var 5) (ce_tup (ca_cons (ce_ix cx.hu (ce_var 1) ce_int) ca_nil) (few_cons few_nil))) (ca_cons (ce_var 2) (ca_cons (ce_lst ca_nil few_nil) ca_nil)))) (ca_cons (ce_ix cx.hu (ce_var 6) ce_int) ca_nil)))))))) (css_one (cs_ret ce_bl)) css_nil)
    (css_one (cs_ret (ce_call (ok_l_is e 12) (hr.mono (by omega)) cx rfl (ca_cons (ce_call (ok_least_menu e) (hr.mono (by omega)) cx rfl (ca_cons (ce_op ov_add rs_rS (ce_var 5) (ce_tup (ca_cons (ce_ix cx.hu (ce_var 0) ce_int) ca_nil) (few_cons few_nil))) (ca_cons (ce_var 2) (ca_cons (ce_var 3) ca_nil)))) (ca_cons (ce_tup ca_nil few_nil) ca_nil))))))))))
theorem ok_l_fine (e : Fc P K mg) : Gf P w K mg base (37) "_law_fine" 4 (F_l_fine) := ⟨_, e.h_l_fine, fn_l_fine (Nat.le_refl _) e⟩
/-! ### _law_fixed -/
theorem fn_l_fixed {kk : Nat} (hk : 36 ≤ kk) (e : Fc P K mg) : Fn P w K mg base (kk + 1) (He.ga K "_law_fixed") 0 (G_l_fixed) := by
  obtain ⟨fd, F⟩ := e.f_l_fixed
  refine Pin.fn_ok (N := ["zero", "one", "notes", "stock", "menu", "rows", "some", "due", "name", "round_stock"]) (ps := []) F ⟨rfl, rfl, rfl, by decide +kernel, rfl, by decide +kernel, by decide +kernel⟩ (FunD.bindsN F fun _ _ _ _ _ _ us hl => match us, hl with | [], _ => rfl) fun cdv A outer s H E cx hr => ?_
  exact css_cons (cs_par2 0 1 cx (ca_cons (ce_call (ok_l_text e) (hr.mono (by omega)) cx rfl (ca_cons ce_str ca_nil)) (ca_cons (ce_call (ok_l_text e) (hr.mono (by omega)) cx rfl (ca_cons ce_str ca_nil)) ca_nil)))
    (css_cons (cs_set 2 cx (ce_tup (ca_cons (ce_tup (ca_cons ce_str (ca_cons (ce_tup (ca_cons (ce_tup (ca_cons ce_str (ca_cons (ce_var 0) ca_nil)) (few_cons (few_cons few_nil))) (ca_cons (ce_tup (ca_cons ce_str (ca_cons (ce_var 1) ca_nil)) (few_cons (few_cons few_nil))) ca_nil)) (few_cons (few_cons few_nil))) (ca_cons (ce_var 0) ca_nil))) (few_cons (few_cons (few_cons few_nil)))) (ca_cons (ce_tup (ca_cons ce_str (ca_cons (ce_tup (ca_cons (ce_tup (ca_cons ce_str (ca_cons (ce_var 1) ca_nil)) (few_cons (few_cons few_nil))) (ca_cons (ce_tup (ca_cons ce_str (ca_cons (ce_var 0) ca_nil)) (few_cons (few_cons few_nil))) ca_nil)) (few_cons (few_cons few_nil))) (ca_cons (ce_var 1) ca_nil))) (few_cons (few_cons (few_cons few_nil)))) ca_nil)) (few_cons (few_cons few_nil))))
    (css_cons (cs_set 3 cx (ce_tup (ca_cons (ce_tup (ca_cons (ce_tup (ca_cons ce_str (ca_cons (ce_tup ca_nil few_nil) ca_nil)) (few_cons (few_cons few_nil))) (ca_cons (ce_tup (ca_cons ce_str (ca_cons (ce_tup (ca_cons ce_str ca_nil) (few_cons few_nil)) ca_nil)) (few_cons (few_cons few_nil))) ca_nil)) (few_cons (few_cons few_nil))) (ca_cons (ce_tup (ca_cons (ce_tup (ca_cons ce_str (ca_cons ce_str ca_nil)) (few_cons (few_cons few_nil))) (ca_cons (ce_tup (ca_cons ce_str (ca_cons ce_str ca_nil)) (few_cons (few_cons few_nil))) ca_nil)) (few_cons (few_cons few_nil))) (ca_cons (ce_var 2) ca_nil))) (few_cons (few_cons (few_cons few_nil)))))
    (css_cons (cs_set 4 cx (ce_tup (ca_cons (ce_tup (ca_cons ce_str (ca_cons (ce_tup (ca_cons ce_str ca_nil) (few_cons few_nil)) ca_nil)) (few_cons (few_cons few_nil))) (ca_cons (ce_tup (ca_cons ce_str (ca_cons (ce_tup (ca_cons ce_str ca_nil) (few_cons few_nil)) ca_nil)) (few_cons (few_cons few_nil))) (ca_cons (ce_tup (ca_cons ce_str (ca_cons (ce_tup (ca_cons ce_str ca_nil) (few_cons few_nil)) ca_nil)) (few_cons (few_cons few_nil))) (ca_cons (ce_tup (ca_cons ce_str (ca_cons (ce_tup (ca_cons ce_str ca_nil) (few_cons few_nil)) ca_nil)) (few_cons (few_cons few_nil))) (ca_cons (ce_tup (ca_cons ce_str (ca_cons (ce_tup ca_nil few_nil) ca_nil)) (few_cons (few_cons few_nil))) ca_nil))))) (few_cons (few_cons (few_cons (few_cons (few_cons few_nil)))))))
    (css_cons (cs_set 5 cx (ce_alloc (cn_lst (ca_cons (ce_tup (ca_cons (ce_var 4) (ca_cons (ce_tup (ca_cons (ce_ix cx.hu (ce_var 4) ce_int) (ca_cons (ce_ix cx.hu (ce_var 4) ce_int) ca_nil)) (few_cons (few_cons few_nil))) ca_nil)) (few_cons (few_cons few_nil))) (ca_cons (ce_tup (ca_cons (ce_sl (ce_var 4) (co_some ce_int) co_none) (ca_cons (ce_tup (ca_cons (ce_ix cx.hu (ce_var 4) ce_int) (ca_cons (ce_ix cx.hu (ce_var 4) ce_int) ca_nil)) (few_cons (few_cons few_nil))) ca_nil)) (few_cons (few_cons few_nil))) (ca_cons (ce_tup (ca_cons (ce_sl (ce_var 4) co_none (co_some ce_int)) (ca_cons ce_non ca_nil)) (few_cons (few_cons few_nil))) (ca_cons (ce_tup (ca_cons (ce_op ov_add rs_rS (ce_var 4) (ce_tup (ca_cons (ce_tup (ca_cons ce_str (ca_cons (ce_tup (ca_cons ce_str ca_nil) (few_cons few_nil)) ca_nil)) (few_cons (few_cons few_nil))) ca_nil) (few_cons few_nil))) (ca_cons (ce_tup (ca_cons (ce_ix cx.hu (ce_var 4) ce_int) (ca_cons (ce_ix cx.hu (ce_var 4) ce_int) ca_nil)) (few_cons (few_cons few_nil))) ca_nil)) (few_cons (few_cons few_nil))) ca_nil)))) (few_cons (few_cons (few_cons (few_cons few_nil)))))))
    (css_cons (cs_expr (ce_extend (ce_var 5) (cn_lst (ca_cons (ce_tup (ca_cons (ce_tup ca_nil few_nil) (ca_cons ce_non ca_nil)) (few_cons (few_cons few_nil))) (ca_cons (ce_tup (ca_cons (ce_op ov_add rs_rS (ce_tup (ca_cons (ce_tup (ca_cons ce_str (ca_cons (ce_tup (ca_cons ce_str ca_nil) (few_cons few_nil)) ca_nil)) (few_cons (few_cons few_nil))) ca_nil) (few_cons few_nil)) (ce_sl (ce_var 4) (co_some ce_int) co_none)) (ca_cons (ce_tup (ca_cons (ce_tup (ca_cons ce_str (ca_cons (ce_tup (ca_cons ce_str ca_nil) (few_cons few_nil)) ca_nil)) (few_cons (few_cons few_nil))) ca_nil) (few_cons few_nil)) ca_nil)) (few_cons (few_cons few_nil))) (ca_cons (ce_tup (ca_cons (ce_sl (ce_var 4) (co_some ce_int) (co_some ce_int)) (ca_cons (ce_tup (ca_cons (ce_ix cx.hu (ce_var 4) ce_int) (ca_cons (ce_ix cx.hu (ce_var 4) ce_int) ca_nil)) (few_cons (few_cons few_nil))) ca_nil)) (few_cons (few_cons few_nil))) ca_nil))) (few_cons (few_cons (few_cons few_nil))))))
    (css_cons (cs_forR 100 cx (ce_var 5) (cg_tup (n := 2) cx.calm (cgs_cons (cg_name 6 cx.nd) (cgs_cons (cg_name 7 cx.nd) cgs_nil))) (css_one (cs_if (ct_not (ct_val (ce_call (ok_l_is e 12) (hr.mono (by omega)) cx rfl (ca_cons (ce_call (ok_least_menu e) (hr.mono (by omega)) cx rfl (ca_cons (ce_var 3) (ca_cons ce_str (ca_cons (ce_var 6) ca_nil)))) (ca_cons (ce_var 7) ca_nil))))) (css_one (cs_ret ce_bl)) css_nil)))
    (css_cons (cs_for cx (ci_seq (ce_tup (ca_cons ce_str (ca_cons ce_str (ca_cons ce_str ca_nil))) (few_cons (few_cons (few_cons few_nil))))) (cg_name 8 cx.nd) (css_one (cs_if (ct_not (ct_val (ce_call (ok_l_is e 12) (hr.mono (by omega)) cx rfl (ca_cons (ce_call (ok_least_menu e) (hr.mono (by omega)) cx rfl (ca_cons (ce_var 3) (ca_cons (ce_var 8) (ca_cons (ce_var 4) ca_nil)))) (ca_cons (ce_tup ca_nil few_nil) ca_nil))))) (css_one (cs_ret ce_bl)) css_nil)))
    (css_cons (cs_set 9 cx (ce_tup (ca_cons (ce_tup ca_nil few_nil) (ca_cons (ce_tup (ca_cons (ce_tup (ca_cons ce_str (ca_cons ce_str ca_nil)) (few_cons (few_cons few_nil))) ca_nil) (few_cons few_nil)) (ca_cons (ce_tup (ca_cons (ce_tup (ca_cons ce_str (ca_cons (ce_tup (ca_cons (ce_tup (ca_cons ce_str (ca_cons (ce_var 0) ca_nil)) (few_cons (few_cons few_nil))) ca_nil) (few_cons few_nil)) (ca_cons (ce_var 0) ca_nil))) (few_cons (few_cons (few_cons few_nil)))) ca_nil) (few_cons few_nil)) ca_nil))) (few_cons (few_cons (few_cons few_nil)))))
    (css_cons (cs_if (ct_not (ct_val (ce_call (ok_l_is e 12) (hr.mono (by omega)) cx rfl (ca_cons (ce_call (ok_least_menu e) (hr.mono (by omega)) cx rfl (ca_cons (ce_var 9) (ca_cons ce_str (ca_cons (ce_var 4) ca_nil)))) (ca_cons ce_non ca_nil))))) (css_one (cs_ret ce_bl)) css_nil)
    (css_one (cs_ret (ce_and (ce_call (ok_l_is e 12) (hr.mono (by omega)) cx rfl (ca_cons (ce_call (ok_least_menu e) (hr.mono (by omega)) cx rfl (ca_cons (ce_var 9) (ca_cons ce_str (ca_cons (ce_tup (ca_cons (ce_tup (ca_cons ce_str (ca_cons (ce_tup ca_nil few_nil) ca_nil)) (few_cons (few_cons few_nil))) (ca_cons (ce_tup (ca_cons ce_str (ca_cons (ce_tup (ca_cons ce_str ca_nil) (few_cons few_nil)) ca_nil)) (few_cons (few_cons few_nil))) ca_nil)) (few_cons (few_cons few_nil))) ca_nil)))) (ca_cons (ce_tup (ca_cons (ce_tup (ca_cons ce_str (ca_cons (ce_tup ca_nil few_nil) ca_nil)) (few_cons (few_cons few_nil))) ca_nil) (few_cons few_nil)) ca_nil))) (ce_one (ce_call (ok_l_is e 12) (hr.mono (by omega)) cx rfl (ca_cons (ce_call (ok_least_menu e) (hr.mono (by omega)) cx rfl (ca_cons (ce_var 3) (ca_cons ce_str (ca_cons (ce_sl (ce_var 4) (co_some ce_int) co_none) ca_nil)))) (ca_cons (ce_sl (ce_var 4) (co_some ce_int) (co_some ce_int)) ca_nil))))))))))))))))
theorem ok_l_fixed (e : Fc P K mg) : Gf P w K mg base (37) "_law_fixed" 0 (F_l_fixed) := ⟨_, e.h_l_fixed, fn_l_fixed (Nat.le_refl _) e⟩
/-! ### _law_crossed_stock -/
theorem fn_l_crossed_stock {kk : Nat} (hk : 9 ≤ kk) (e : Fc P K mg) : Fn P w K mg base (kk + 1) (He.ga K "_law_crossed_stock") 0 (G_l_crossed_stock) := by
  obtain ⟨fd, F⟩ := e.f_l_crossed_stock
  refine Pin.fn_ok (N := ["zero", "one", "notes"]) (ps := []) F ⟨rfl, rfl, rfl, by decide +kernel, rfl, by decide +kernel, by decide +kernel⟩ (FunD.bindsN F fun _ _ _ _ _ _ us hl => match us, hl with | [], _ => rfl) fun cdv A outer s H E cx hr => ?_
  exact css_cons (cs_par2 0 1 cx (ca_cons (ce_call (ok_l_text e) (hr.mono (by omega)) cx rfl (ca_cons ce_str ca_nil)) (ca_cons (ce_call (ok_l_text e) (hr.mono (by omega)) cx rfl (ca_cons ce_str ca_nil)) ca_nil)))
    (css_cons (cs_set 2 cx (ce_tup (ca_cons (ce_tup (ca_cons ce_str (ca_cons (ce_tup (ca_cons (ce_tup (ca_cons ce_str (ca_cons (ce_var 0) ca_nil)) (few_cons (few_cons few_nil))) ca_nil) (few_cons few_nil)) (ca_cons (ce_var 1) ca_nil))) (few_cons (few_cons (few_cons few_nil)))) (ca_cons (ce_tup (ca_cons ce_str (ca_cons (ce_tup (ca_cons (ce_tup (ca_cons ce_str (ca_cons (ce_var 0) ca_nil)) (few_cons (few_cons few_nil))) (ca_cons (ce_tup (ca_cons ce_str (ca_cons (ce_var 0) ca_nil)) (few_cons (few_cons few_nil))) ca_nil)) (few_cons (few_cons few_nil))) (ca_cons (ce_var 0) ca_nil))) (few_cons (few_cons (few_cons few_nil)))) ca_nil)) (few_cons (few_cons few_nil))))
    (css_one (cs_ret (ce_tup (ca_cons (ce_tup (ca_cons (ce_tup (ca_cons ce_str (ca_cons (ce_tup (ca_cons ce_str ca_nil) (few_cons few_nil)) ca_nil)) (few_cons (few_cons few_nil))) ca_nil) (few_cons few_nil)) (ca_cons (ce_tup (ca_cons (ce_tup (ca_cons ce_str (ca_cons ce_str ca_nil)) (few_cons (few_cons few_nil))) (ca_cons (ce_tup (ca_cons ce_str (ca_cons ce_str ca_nil)) (few_cons (few_cons few_nil))) (ca_cons (ce_tup (ca_cons ce_str (ca_cons ce_str ca_nil)) (few_cons (few_cons few_nil))) (ca_cons (ce_tup (ca_cons ce_str (ca_cons ce_str ca_nil)) (few_cons (few_cons few_nil))) ca_nil)))) (few_cons (few_cons (few_cons (few_cons few_nil))))) (ca_cons (ce_var 2) ca_nil))) (few_cons (few_cons (few_cons few_nil)))))))
theorem ok_l_crossed_stock (e : Fc P K mg) : Gf P w K mg base (10) "_law_crossed_stock" 0 (F_l_crossed_stock) := ⟨_, e.h_l_crossed_stock, fn_l_crossed_stock (Nat.le_refl _) e⟩
/-! ### _law_deep_stock -/
theorem fn_l_deep_stock {kk : Nat} (hk : 9 ≤ kk) (e : Fc P K mg) : Fn P w K mg base (kk + 1) (He.ga K "_law_deep_stock") 0 (G_l_deep_stock) := by
  obtain ⟨fd, F⟩ := e.f_l_deep_stock
  refine Pin.fn_ok (N := ["none", "late", "wrong", "two", "odd", "notes", "labels"]) (ps := []) F ⟨rfl, rfl, rfl, by decide +kernel, rfl, by decide +kernel, by decide +kernel⟩ (FunD.bindsN F fun _ _ _ _ _ _ us hl => match us, hl with | [], _ => rfl) fun cdv A outer s H E cx hr => ?_
  exact css_cons (cs_par cx (ca_cons (ce_tup (ca_cons ce_str (ca_cons ce_str ca_nil)) (few_cons (few_cons few_nil))) (ca_cons (ce_tup (ca_cons ce_str (ca_cons ce_str ca_nil)) (few_cons (few_cons few_nil))) (ca_cons (ce_tup (ca_cons ce_str (ca_cons ce_str ca_nil)) (few_cons (few_cons few_nil))) ca_nil))) (cgs_cons (cg_name 0 cx.nd) (cgs_cons (cg_name 1 cx.nd) (cgs_cons (cg_name 2 cx.nd) cgs_nil))) (few_cons (few_cons (few_cons few_nil))))
    (css_cons (cs_par2 3 4 cx (ca_cons (ce_tup (ca_cons ce_str (ca_cons (ce_tup (ca_cons ce_str (ca_cons ce_str ca_nil)) (few_cons (few_cons few_nil))) ca_nil)) (few_cons (few_cons few_nil))) (ca_cons (ce_call (ok_l_text e) (hr.mono (by omega)) cx rfl (ca_cons ce_str ca_nil)) ca_nil)))
    (css_cons (cs_set 5 cx (ce_alloc (cn_lst (ca_cons (ce_tup (ca_cons ce_str (ca_cons (ce_tup (ca_cons (ce_tup (ca_cons ce_str (ca_cons (ce_var 0) ca_nil)) (few_cons (few_cons few_nil))) ca_nil) (few_cons few_nil)) (ca_cons (ce_var 1) ca_nil))) (few_cons (few_cons (few_cons few_nil)))) ca_nil) (few_cons few_nil))))
    (css_cons (cs_expr (ce_append (ce_var 5) (ce_tup (ca_cons ce_str (ca_cons (ce_tup (ca_cons (ce_tup (ca_cons ce_str (ca_cons (ce_var 3) ca_nil)) (few_cons (few_cons few_nil))) (ca_cons (ce_tup (ca_cons ce_str (ca_cons (ce_var 1) ca_nil)) (few_cons (few_cons few_nil))) (ca_cons (ce_tup (ca_cons ce_str (ca_cons (ce_var 0) ca_nil)) (few_cons (few_cons few_nil))) (ca_cons (ce_tup (ca_cons ce_str (ca_cons (ce_var 0) ca_nil)) (few_cons (few_cons few_nil))) ca_nil)))) (few_cons (few_cons (few_cons (few_cons few_nil))))) (ca_cons (ce_var 2) ca_nil))) (few_cons (few_cons (few_cons few_nil))))))
    (css_cons (cs_expr (ce_append (ce_var 5) (ce_tup (ca_cons ce_str (ca_cons (ce_tup (ca_cons (ce_tup (ca_cons ce_str (ca_cons (ce_var 3) ca_nil)) (few_cons (few_cons few_nil))) (ca_cons (ce_tup (ca_cons ce_str (ca_cons (ce_var 1) ca_nil)) (few_cons (few_cons few_nil))) (ca_cons (ce_tup (ca_cons ce_str (ca_cons (ce_var 4) ca_nil)) (few_cons (few_cons few_nil))) ca_nil))) (few_cons (few_cons (few_cons few_nil)))) (ca_cons (ce_tup (ca_cons ce_str (ca_cons (ce_tup ca_nil few_nil) ca_nil)) (few_cons (few_cons few_nil))) ca_nil))) (few_cons (few_cons (few_cons few_nil))))))
    (css_cons (cs_expr (ce_append (ce_var 5) (ce_tup (ca_cons ce_str (ca_cons (ce_tup (ca_cons (ce_tup (ca_cons ce_str (ca_cons (ce_var 3) ca_nil)) (few_cons (few_cons few_nil))) (ca_cons (ce_tup (ca_cons ce_str (ca_cons (ce_tup (ca_cons ce_str (ca_cons (ce_tup ca_nil few_nil) ca_nil)) (few_cons (few_cons few_nil))) ca_nil)) (few_cons (few_cons few_nil))) ca_nil)) (few_cons (few_cons few_nil))) (ca_cons (ce_tup (ca_cons ce_str (ca_cons (ce_tup (ca_cons ce_str (ca_cons ce_str ca_nil)) (few_cons (few_cons few_nil))) ca_nil)) (few_cons (few_cons few_nil))) ca_nil))) (few_cons (few_cons (few_cons few_nil))))))
    (css_cons (cs_expr (ce_append (ce_var 5) (ce_tup (ca_cons ce_str (ca_cons (ce_tup (ca_cons (ce_tup (ca_cons ce_str (ca_cons (ce_var 2) ca_nil)) (few_cons (few_cons few_nil))) ca_nil) (few_cons few_nil)) (ca_cons (ce_call (ok_l_text e) (hr.mono (by omega)) cx rfl (ca_cons ce_str ca_nil)) ca_nil))) (few_cons (few_cons (few_cons few_nil))))))
    (css_cons (cs_set 6 cx (ce_tup (ca_cons (ce_tup (ca_cons ce_str (ca_cons ce_str ca_nil)) (few_cons (few_cons few_nil))) (ca_cons (ce_tup (ca_cons ce_str (ca_cons ce_str ca_nil)) (few_cons (few_cons few_nil))) (ca_cons (ce_tup (ca_cons ce_str (ca_cons ce_str ca_nil)) (few_cons (few_cons few_nil))) (ca_cons (ce_tup (ca_cons ce_str (ca_cons ce_str ca_nil)) (few_cons (few_cons few_nil))) (ca_cons (ce_tup (ca_cons ce_str (ca_cons ce_str ca_nil)) (few_cons (few_cons few_nil))) ca_nil))))) (few_cons (few_cons (few_cons (few_cons (few_cons few_nil)))))))
    (css_one (cs_ret (ce_tup (ca_cons (ce_tup (ca_cons (ce_tup (ca_cons ce_str (ca_cons (ce_tup (ca_cons ce_str (ca_cons ce_str ca_nil)) (few_cons (few_cons few_nil))) ca_nil)) (few_cons (few_cons few_nil))) (ca_cons (ce_tup (ca_cons ce_str (ca_cons (ce_tup ca_nil few_nil) ca_nil)) (few_cons (few_cons few_nil))) ca_nil)) (few_cons (few_cons few_nil))) (ca_cons (ce_var 6) (ca_cons (ce_callTy (x := "tuple") call_tupleZ rc_tuple rfl e.b_tuple boot_tuple (ca_cons (ce_var 5) ca_nil)) ca_nil))) (few_cons (few_cons (few_cons few_nil)))))))))))))
theorem ok_l_deep_stock (e : Fc P K mg) : Gf P w K mg base (10) "_law_deep_stock" 0 (F_l_deep_stock) := ⟨_, e.h_l_deep_stock, fn_l_deep_stock (Nat.le_refl _) e⟩
/-! ### _law_own_stock -/
theorem fn_l_own_stock {kk : Nat} (hk : 9 ≤ kk) (e : Fc P K mg) : Fn P w K mg base (kk + 1) (He.ga K "_law_own_stock") 0 (G_l_own_stock) := by
  obtain ⟨fd, F⟩ := e.f_l_own_stock
  refine Pin.fn_ok (N := ["zero"]) (ps := []) F ⟨rfl, rfl, rfl, by decide +kernel, rfl, by decide +kernel, by decide +kernel⟩ (FunD.bindsN F fun _ _ _ _ _ _ us hl => match us, hl with | [], _ => rfl) fun cdv A outer s H E cx hr => ?_
  exact css_cons (cs_set 0 cx (ce_call (ok_l_text e) (hr.mono (by omega)) cx rfl (ca_cons ce_str ca_nil)))
    (css_one (cs_ret (ce_tup (ca_cons (ce_tup ca_nil few_nil) (ca_cons (ce_tup (ca_cons (ce_tup (ca_cons ce_str (ca_cons ce_str ca_nil)) (few_cons (few_cons few_nil))) (ca_cons (ce_tup (ca_cons ce_str (ca_cons ce_str ca_nil)) (few_cons (few_cons few_nil))) (ca_cons (ce_tup (ca_cons ce_str (ca_cons ce_str ca_nil)) (few_cons (few_cons few_nil))) ca_nil))) (few_cons (few_cons (few_cons few_nil)))) (ca_cons (ce_tup (ca_cons (ce_tup (ca_cons ce_str (ca_cons (ce_tup (ca_cons (ce_tup (ca_cons ce_str (ca_cons (ce_var 0) ca_nil)) (few_cons (few_cons few_nil))) (ca_cons (ce_tup (ca_cons ce_str (ca_cons (ce_var 0) ca_nil)) (few_cons (few_cons few_nil))) ca_nil)) (few_cons (few_cons few_nil))) (ca_cons (ce_var 0) ca_nil))) (few_cons (few_cons (few_cons few_nil)))) ca_nil) (few_cons few_nil)) ca_nil))) (few_cons (few_cons (few_cons few_nil))))))
theorem ok_l_own_stock (e : Fc P K mg) : Gf P w K mg base (10) "_law_own_stock" 0 (F_l_own_stock) := ⟨_, e.h_l_own_stock, fn_l_own_stock (Nat.le_refl _) e⟩
/-! ### _law_late_stock -/
theorem fn_l_late_stock {kk : Nat} (hk : 9 ≤ kk) (e : Fc P K mg) : Fn P w K mg base (kk + 1) (He.ga K "_law_late_stock") 0 (G_l_late_stock) := by
  obtain ⟨fd, F⟩ := e.f_l_late_stock
  refine Pin.fn_ok (N := ["zero", "notes"]) (ps := []) F ⟨rfl, rfl, rfl, by decide +kernel, rfl, by decide +kernel, by decide +kernel⟩ (FunD.bindsN F fun _ _ _ _ _ _ us hl => match us, hl with | [], _ => rfl) fun cdv A outer s H E cx hr => ?_
  exact css_cons (cs_set 0 cx (ce_call (ok_l_text e) (hr.mono (by omega)) cx rfl (ca_cons ce_str ca_nil)))
    (css_cons (cs_set 1 cx (ce_tup (ca_cons (ce_tup (ca_cons ce_str (ca_cons (ce_tup ca_nil few_nil) (ca_cons (ce_call (ok_l_text e) (hr.mono (by omega)) cx rfl (ca_cons ce_str ca_nil)) ca_nil))) (few_cons (few_cons (few_cons few_nil)))) (ca_cons (ce_tup (ca_cons ce_str (ca_cons (ce_tup (ca_cons (ce_tup (ca_cons ce_str (ca_cons (ce_var 0) ca_nil)) (few_cons (few_cons few_nil))) ca_nil) (few_cons few_nil)) (ca_cons (ce_var 0) ca_nil))) (few_cons (few_cons (few_cons few_nil)))) (ca_cons (ce_tup (ca_cons ce_str (ca_cons (ce_tup (ca_cons (ce_tup (ca_cons ce_str (ca_cons (ce_var 0) ca_nil)) (few_cons (few_cons few_nil))) (ca_cons (ce_tup (ca_cons ce_str (ca_cons (ce_var 0) ca_nil)) (few_cons (few_cons few_nil))) ca_nil)) (few_cons (few_cons few_nil))) (ca_cons (ce_var 0) ca_nil))) (few_cons (few_cons (few_cons few_nil)))) ca_nil))) (few_cons (few_cons (few_cons few_nil)))))
    (css_one (cs_ret (ce_tup (ca_cons (ce_tup ca_nil few_nil) (ca_cons (ce_tup (ca_cons (ce_tup (ca_cons ce_str (ca_cons ce_str ca_nil)) (few_cons (few_cons few_nil))) (ca_cons (ce_tup (ca_cons ce_str (ca_cons ce_str ca_nil)) (few_cons (few_cons few_nil))) (ca_cons (ce_tup (ca_cons ce_str (ca_cons ce_str ca_nil)) (few_cons (few_cons few_nil))) ca_nil))) (few_cons (few_cons (few_cons few_nil)))) (ca_cons (ce_var 1) ca_nil))) (few_cons (few_cons (few_cons few_nil)))))))
theorem ok_l_late_stock (e : Fc P K mg) : Gf P w K mg base (10) "_law_late_stock" 0 (F_l_late_stock) := ⟨_, e.h_l_late_stock, fn_l_late_stock (Nat.le_refl _) e⟩
/-! ### _law_more -/
theorem fn_l_more {kk : Nat} (hk : 36 ≤ kk) (e : Fc P K mg) : Fn P w K mg base (kk + 1) (He.ga K "_law_more") 0 (G_l_more) := by
  obtain ⟨fd, F⟩ := e.f_l_more
  refine Pin.fn_ok (N := ["crossed", "deep", "own", "late", "both", "some", "rows", "menu", "texts", "stock", "name", "choices", "due", "fresh", "row"]) (ps := []) F ⟨rfl, rfl, rfl, by decide +kernel, rfl, by decide +kernel, by decide +kernel⟩ (FunD.bindsN F fun _ _ _ _ _ _ us hl => match us, hl with | [], _ => rfl) fun cdv A outer s H E cx hr => ?_
  exact css_cons (cs_par cx (ca_cons (ce_call0 (ok_l_crossed_stock e) (hr.mono (by omega)) cx rfl) (ca_cons (ce_call0 (ok_l_deep_stock e) (hr.mono (by omega)) cx rfl) (ca_cons (ce_call0 (ok_l_own_stock e) (hr.mono (by omega)) cx rfl) (ca_cons (ce_call0 (ok_l_late_stock e) (hr.mono (by omega)) cx rfl) ca_nil)))) (cgs_cons (cg_name 0 cx.nd) (cgs_cons (cg_name 1 cx.nd) (cgs_cons (cg_name 2 cx.nd) (cgs_cons (cg_name 3 cx.nd) cgs_nil)))) (few_cons (few_cons (few_cons (few_cons few_nil)))))
    (css_cons (cs_par cx (ca_cons (ce_tup (ca_cons (ce_tup (ca_cons ce_str (ca_cons (ce_tup (ca_cons ce_str ca_nil) (few_cons few_nil)) ca_nil)) (few_cons (few_cons few_nil))) (ca_cons (ce_tup (ca_cons ce_str (ca_cons (ce_tup (ca_cons ce_str ca_nil) (few_cons few_nil)) ca_nil)) (few_cons (few_cons few_nil))) ca_nil)) (few_cons (few_cons few_nil))) (ca_cons (ce_tup (ca_cons (ce_tup (ca_cons ce_str (ca_cons (ce_tup (ca_cons ce_str ca_nil) (few_cons few_nil)) ca_nil)) (few_cons (few_cons few_nil))) (ca_cons (ce_tup (ca_cons ce_str (ca_cons (ce_tup (ca_cons ce_str ca_nil) (few_cons few_nil)) ca_nil)) (few_cons (few_cons few_nil))) (ca_cons (ce_tup (ca_cons ce_str (ca_cons (ce_tup (ca_cons ce_str ca_nil) (few_cons few_nil)) ca_nil)) (few_cons (few_cons few_nil))) ca_nil))) (few_cons (few_cons (few_cons few_nil)))) ca_nil)) (cgs_cons (cg_name 4 cx.nd) (cgs_cons (cg_name 5 cx.nd) cgs_nil)) (few_cons (few_cons few_nil)))
    (css_cons (cs_set 6 cx (ce_alloc (cn_lst (ca_cons (ce_tup (ca_cons (ce_var 3) (ca_cons ce_str (ca_cons (ce_var 4) (ca_cons (ce_var 4) ca_nil)))) (few_cons (few_cons (few_cons (few_cons few_nil))))) (ca_cons (ce_tup (ca_cons (ce_var 3) (ca_cons ce_str (ca_cons (ce_tup (ca_cons (ce_ix cx.hu (ce_var 4) ce_int) (ca_cons (ce_tup (ca_cons ce_str (ca_cons (ce_tup (ca_cons ce_str ca_nil) (few_cons few_nil)) ca_nil)) (few_cons (few_cons few_nil))) ca_nil)) (few_cons (few_cons few_nil))) (ca_cons ce_non ca_nil)))) (few_cons (few_cons (few_cons (few_cons few_nil))))) (ca_cons (ce_tup (ca_cons (ce_var 3) (ca_cons ce_str (ca_cons (ce_op ov_add rs_rS (ce_tup (ca_cons (ce_tup (ca_cons ce_str (ca_cons (ce_tup ca_nil few_nil) ca_nil)) (few_cons (few_cons few_nil))) ca_nil) (few_cons few_nil)) (ce_sl (ce_var 4) (co_some ce_int) co_none)) (ca_cons ce_non ca_nil)))) (few_cons (few_cons (few_cons (few_cons few_nil))))) ca_nil))) (few_cons (few_cons (few_cons few_nil))))))
    (css_cons (cs_expr (ce_extend (ce_var 6) (cn_lst (ca_cons (ce_tup (ca_cons (ce_var 3) (ca_cons ce_str (ca_cons (ce_var 4) (ca_cons (ce_sl (ce_var 4) co_none (co_some ce_int)) ca_nil)))) (few_cons (few_cons (few_cons (few_cons few_nil))))) (ca_cons (ce_tup (ca_cons (ce_var 3) (ca_cons ce_str (ca_cons (ce_var 4) (ca_cons (ce_sl (ce_var 4) (co_some ce_int) co_none) ca_nil)))) (few_cons (few_cons (few_cons (few_cons few_nil))))) (ca_cons (ce_tup (ca_cons (ce_var 2) (ca_cons ce_str (ca_cons (ce_sl (ce_var 5) (co_some ce_int) co_none) (ca_cons (ce_sl (ce_var 5) (co_some ce_int) co_none) ca_nil)))) (few_cons (few_cons (few_cons (few_cons few_nil))))) (ca_cons (ce_tup (ca_cons (ce_var 2) (ca_cons ce_str (ca_cons (ce_var 5) (ca_cons (ce_sl (ce_var 5) (co_some ce_int) (co_some ce_int)) ca_nil)))) (few_cons (few_cons (few_cons (few_cons few_nil))))) ca_nil)))) (few_cons (few_cons (few_cons (few_cons few_nil)))))))
    (css_cons (cs_expr (ce_extend (ce_var 6) (cn_lst (ca_cons (ce_tup (ca_cons (ce_var 2) (ca_cons ce_str (ca_cons (ce_var 5) (ca_cons (ce_sl (ce_var 5) co_none (co_some ce_int)) ca_nil)))) (few_cons (few_cons (few_cons (few_cons few_nil))))) (ca_cons (ce_tup (ca_cons (ce_var 2) (ca_cons ce_str (ca_cons (ce_op ov_add rs_rS (ce_sl (ce_var 5) co_none (co_some ce_int)) (ce_sl (ce_var 5) (co_some ce_int) co_none)) (ca_cons ce_non ca_nil)))) (few_cons (few_cons (few_cons (few_cons few_nil))))) ca_nil)) (few_cons (few_cons few_nil)))))
    (css_cons (cs_expr (ce_append (ce_var 6) (ce_tup (ca_cons (ce_var 0) (ca_cons ce_str (ca_cons (ce_tup (ca_cons (ce_tup (ca_cons ce_str (ca_cons (ce_tup (ca_cons ce_str ca_nil) (few_cons few_nil)) ca_nil)) (few_cons (few_cons few_nil))) (ca_cons (ce_tup (ca_cons ce_str (ca_cons (ce_tup (ca_cons ce_str ca_nil) (few_cons few_nil)) ca_nil)) (few_cons (few_cons few_nil))) (ca_cons (ce_tup (ca_cons ce_str (ca_cons (ce_tup (ca_cons ce_str ca_nil) (few_cons few_nil)) ca_nil)) (few_cons (few_cons few_nil))) ca_nil))) (few_cons (few_cons (few_cons few_nil)))) (ca_cons (ce_tup (ca_cons (ce_tup (ca_cons ce_str (ca_cons (ce_tup (ca_cons ce_str ca_nil) (few_cons few_nil)) ca_nil)) (few_cons (few_cons few_nil))) ca_nil) (few_cons few_nil)) ca_nil)))) (few_cons (few_cons (few_cons (few_cons few_nil)))))))
    (css_cons (cs_expr (ce_append (ce_var 6) (ce_tup (ca_cons (ce_var 0) (ca_cons ce_str (ca_cons (ce_tup (ca_cons (ce_tup (ca_cons ce_str (ca_cons (ce_tup ca_nil few_nil) ca_nil)) (few_cons (few_cons few_nil))) (ca_cons (ce_tup (ca_cons ce_str (ca_cons (ce_tup (ca_cons ce_str ca_nil) (few_cons few_nil)) ca_nil)) (few_cons (few_cons few_nil))) ca_nil)) (few_cons (few_cons few_nil))) (ca_cons (ce_tup (ca_cons (ce_tup (ca_cons ce_str (ca_cons (ce_tup (ca_cons ce_str ca_nil) (few_cons few_nil)) ca_nil)) (few_cons (few_cons few_nil))) ca_nil) (few_cons few_nil)) ca_nil)))) (few_cons (few_cons (few_cons (few_cons few_nil)))))))
    (css_cons (cs_expr (ce_append (ce_var 6) (ce_tup (ca_cons (ce_var 0) (ca_cons ce_str (ca_cons (ce_tup (ca_cons (ce_tup (ca_cons ce_str (ca_cons (ce_tup (ca_cons ce_str ca_nil) (few_cons few_nil)) ca_nil)) (few_cons (few_cons few_nil))) (ca_cons (ce_tup (ca_cons ce_str (ca_cons (ce_tup (ca_cons ce_str ca_nil) (few_cons few_nil)) ca_nil)) (few_cons (few_cons few_nil))) (ca_cons (ce_tup (ca_cons ce_str (ca_cons (ce_tup (ca_cons ce_str ca_nil) (few_cons few_nil)) ca_nil)) (few_cons (few_cons few_nil))) ca_nil))) (few_cons (few_cons (few_cons few_nil)))) (ca_cons ce_non ca_nil)))) (few_cons (few_cons (few_cons (few_cons few_nil)))))))
    (css_cons (cs_expr (ce_append (ce_var 6) (ce_tup (ca_cons (ce_var 0) (ca_cons ce_str (ca_cons (ce_tup (ca_cons (ce_tup (ca_cons ce_str (ca_cons (ce_tup ca_nil few_nil) ca_nil)) (few_cons (few_cons few_nil))) (ca_cons (ce_tup (ca_cons ce_str (ca_cons (ce_tup (ca_cons ce_str ca_nil) (few_cons few_nil)) ca_nil)) (few_cons (few_cons few_nil))) (ca_cons (ce_tup (ca_cons ce_str (ca_cons (ce_tup (ca_cons ce_str ca_nil) (few_cons few_nil)) ca_nil)) (few_cons (few_cons few_nil))) ca_nil))) (few_cons (few_cons (few_cons few_nil)))) (ca_cons ce_non ca_nil)))) (few_cons (few_cons (few_cons (few_cons few_nil)))))))
    (css_cons (cs_expr (ce_extend (ce_var 6) (cn_lst (ca_cons (ce_tup (ca_cons (ce_var 0) (ca_cons ce_str (ca_cons (ce_tup (ca_cons (ce_tup (ca_cons ce_str (ca_cons (ce_tup (ca_cons ce_str ca_nil) (few_cons few_nil)) ca_nil)) (few_cons (few_cons few_nil))) ca_nil) (few_cons few_nil)) (ca_cons (ce_tup ca_nil few_nil) ca_nil)))) (few_cons (few_cons (few_cons (few_cons few_nil))))) (ca_cons (ce_tup (ca_cons (ce_var 0) (ca_cons ce_str (ca_cons (ce_tup (ca_cons (ce_tup (ca_cons ce_str (ca_cons (ce_tup ca_nil few_nil) ca_nil)) (few_cons (few_cons few_nil))) (ca_cons (ce_tup (ca_cons ce_str (ca_cons (ce_tup (ca_cons ce_str (ca_cons ce_str ca_nil)) (few_cons (few_cons few_nil))) ca_nil)) (few_cons (few_cons few_nil))) ca_nil)) (few_cons (few_cons few_nil))) (ca_cons (ce_tup (ca_cons (ce_tup (ca_cons ce_str (ca_cons (ce_tup (ca_cons ce_str (ca_cons ce_str ca_nil)) (few_cons (few_cons few_nil))) ca_nil)) (few_cons (few_cons few_nil))) ca_nil) (few_cons few_nil)) ca_nil)))) (few_cons (few_cons (few_cons (few_cons few_nil))))) ca_nil)) (few_cons (few_cons few_nil)))))
    (css_cons (cs_set 7 cx (ce_tup (ca_cons (ce_tup (ca_cons ce_str (ca_cons (ce_tup ca_nil few_nil) ca_nil)) (few_cons (few_cons few_nil))) (ca_cons (ce_tup (ca_cons ce_str (ca_cons (ce_tup (ca_cons ce_str ca_nil) (few_cons few_nil)) ca_nil)) (few_cons (few_cons few_nil))) (ca_cons (ce_tup (ca_cons ce_str (ca_cons (ce_tup (ca_cons ce_str ca_nil) (few_cons few_nil)) ca_nil)) (few_cons (few_cons few_nil))) ca_nil))) (few_cons (few_cons (few_cons few_nil)))))
    (css_cons (cs_expr (ce_extend (ce_var 6) (cn_lst (ca_cons (ce_tup (ca_cons (ce_var 1) (ca_cons ce_str (ca_cons (ce_var 7) (ca_cons (ce_sl (ce_var 7) co_none (co_some ce_int)) ca_nil)))) (few_cons (few_cons (few_cons (few_cons few_nil))))) (ca_cons (ce_tup (ca_cons (ce_var 1) (ca_cons ce_str (ca_cons (ce_sl (ce_var 7) (co_some ce_int) co_none) (ca_cons ce_non ca_nil)))) (few_cons (few_cons (few_cons (few_cons few_nil))))) (ca_cons (ce_tup (ca_cons (ce_var 1) (ca_cons ce_str (ca_cons (ce_var 7) (ca_cons ce_non ca_nil)))) (few_cons (few_cons (few_cons (few_cons few_nil))))) (ca_cons (ce_tup (ca_cons (ce_var 1) (ca_cons ce_str (ca_cons (ce_var 7) (ca_cons (ce_sl (ce_var 7) co_none (co_some ce_int)) ca_nil)))) (few_cons (few_cons (few_cons (few_cons few_nil))))) ca_nil)))) (few_cons (few_cons (few_cons (few_cons few_nil)))))))
    (css_cons (cs_expr (ce_extend (ce_var 6) (cn_lst (ca_cons (ce_tup (ca_cons (ce_var 1) (ca_cons ce_str (ca_cons (ce_tup (ca_cons (ce_tup (ca_cons ce_str (ca_cons (ce_tup (ca_cons ce_str ca_nil) (few_cons few_nil)) ca_nil)) (few_cons (few_cons few_nil))) ca_nil) (few_cons few_nil)) (ca_cons ce_non ca_nil)))) (few_cons (few_cons (few_cons (few_cons few_nil))))) (ca_cons (ce_tup (ca_cons (ce_var 1) (ca_cons ce_str (ca_cons (ce_tup (ca_cons (ce_tup (ca_cons ce_str (ca_cons (ce_tup (ca_cons ce_str ca_nil) (few_cons few_nil)) ca_nil)) (few_cons (few_cons few_nil))) (ca_cons (ce_tup (ca_cons ce_str (ca_cons (ce_tup (ca_cons ce_str ca_nil) (few_cons few_nil)) ca_nil)) (few_cons (few_cons few_nil))) ca_nil)) (few_cons (few_cons few_nil))) (ca_cons (ce_tup (ca_cons (ce_tup (ca_cons ce_str (ca_cons (ce_tup (ca_cons ce_str ca_nil) (few_cons few_nil)) ca_nil)) (few_cons (few_cons few_nil))) ca_nil) (few_cons few_nil)) ca_nil)))) (few_cons (few_cons (few_cons (few_cons few_nil))))) (ca_cons (ce_tup (ca_cons (ce_var 1) (ca_cons ce_str (ca_cons (ce_var 7) (ca_cons (ce_tup ca_nil few_nil) ca_nil)))) (few_cons (few_cons (few_cons (few_cons few_nil))))) ca_nil))) (few_cons (few_cons (few_cons few_nil))))))
    (css_cons (cs_set 8 cx (ce_tup (ca_cons (ce_tup (ca_cons ce_str (ca_cons (ce_tup ca_nil few_nil) ca_nil)) (few_cons (few_cons few_nil))) (ca_cons (ce_tup (ca_cons ce_str (ca_cons (ce_tup (ca_cons ce_str ca_nil) (few_cons few_nil)) ca_nil)) (few_cons (few_cons few_nil))) (ca_cons (ce_tup (ca_cons ce_str (ca_cons (ce_tup (ca_cons ce_str (ca_cons ce_str ca_nil)) (few_cons (few_cons few_nil))) ca_nil)) (few_cons (few_cons few_nil))) (ca_cons (ce_tup (ca_cons ce_str (ca_cons (ce_tup (ca_cons ce_str ca_nil) (few_cons few_nil)) ca_nil)) (few_cons (few_cons few_nil))) (ca_cons (ce_tup (ca_cons ce_str (ca_cons (ce_tup (ca_cons ce_str ca_nil) (few_cons few_nil)) ca_nil)) (few_cons (few_cons few_nil))) ca_nil))))) (few_cons (few_cons (few_cons (few_cons (few_cons few_nil)))))))
    (css_cons (cs_expr (ce_extend (ce_var 6) (cn_lst (ca_cons (ce_tup (ca_cons (ce_var 1) (ca_cons ce_str (ca_cons (ce_var 8) (ca_cons (ce_sl (ce_var 8) co_none (co_some ce_int)) ca_nil)))) (few_cons (few_cons (few_cons (few_cons few_nil))))) (ca_cons (ce_tup (ca_cons (ce_var 1) (ca_cons ce_str (ca_cons (ce_sl (ce_var 8) (co_some ce_int) co_none) (ca_cons (ce_sl (ce_var 8) (co_some ce_int) (co_some ce_int)) ca_nil)))) (few_cons (few_cons (few_cons (few_cons few_nil))))) (ca_cons (ce_tup (ca_cons (ce_tup (ca_cons (ce_tup ca_nil few_nil) (ca_cons (ce_tup ca_nil few_nil) (ca_cons (ce_tup ca_nil few_nil) ca_nil))) (few_cons (few_cons (few_cons few_nil)))) (ca_cons ce_str (ca_cons (ce_var 8) (ca_cons (ce_tup ca_nil few_nil) ca_nil)))) (few_cons (few_cons (few_cons (few_cons few_nil))))) (ca_cons (ce_tup (ca_cons (ce_var 1) (ca_cons ce_str (ca_cons (ce_var 8) (ca_cons ce_non ca_nil)))) (few_cons (few_cons (few_cons (few_cons few_nil))))) ca_nil)))) (few_cons (few_cons (few_cons (few_cons few_nil)))))))
    (css_cons (cs_forR 100 cx (ce_var 6) (cg_tup (n := 4) cx.calm (cgs_cons (cg_name 9 cx.nd) (cgs_cons (cg_name 10 cx.nd) (cgs_cons (cg_name 11 cx.nd) (cgs_cons (cg_name 12 cx.nd) cgs_nil))))) (css_one (cs_if (ct_not (ct_val (ce_call (ok_l_is e 12) (hr.mono (by omega)) cx rfl (ca_cons (ce_call (ok_least_menu e) (hr.mono (by omega)) cx rfl (ca_cons (ce_var 9) (ca_cons (ce_var 10) (ca_cons (ce_var 11) ca_nil)))) (ca_cons (ce_var 12) ca_nil))))) (css_one (cs_ret ce_bl)) css_nil)))
    (css_cons (cs_set 13 cx (ce_op ov_add rs_rS (ce_op ov_add rs_rS (ce_sl (ce_var 1) co_none (co_some ce_int)) (ce_tup (ca_cons (ce_callTy (x := "tuple") call_tupleZ rc_tuple rfl e.b_tuple boot_tuple (ca_cons (ce_frz (cn_comp cx (ci_seq (ce_ix cx.hu (ce_var 1) ce_int)) [("row", 14)] (by kernel_rfl) (fun _ _ _ _ _ => cgo_name 14 cx.nd) (fun _ _ _ _ _ => cts_one (ct_cmp (ov_ne (cx.blk _ _ _ _ _).hu) rs_rS (ce_ix (cx.blk _ _ _ _ _).hu (ce_var 14) ce_int) ce_str)) (fun _ _ _ _ _ => ce_var 14))) ca_nil)) ca_nil) (few_cons few_nil))) (ce_sl (ce_var 1) (co_some ce_int) co_none)))
    (css_cons (cs_if (ct_w (cw_or (ct_not (ct_val (ce_call (ok_l_is e 12) (hr.mono (by omega)) cx rfl (ca_cons (ce_call (ok_least_menu e) (hr.mono (by omega)) cx rfl (ca_cons (ce_var 13) (ca_cons ce_str (ca_cons (ce_var 7) ca_nil)))) (ca_cons (ce_tup ca_nil few_nil) ca_nil))))) (cw_or1 (ct_not (ct_val (ce_call (ok_l_is e 12) (hr.mono (by omega)) cx rfl (ca_cons (ce_call (ok_least_menu e) (hr.mono (by omega)) cx rfl (ca_cons (ce_var 1) (ca_cons ce_str (ca_cons (ce_sl (ce_var 7) (co_some ce_int) co_none) ca_nil)))) (ca_cons ce_non ca_nil)))))))) (css_one (cs_ret ce_bl)) css_nil)
    (css_one (cs_ret (ce_and (ce_call (ok_l_is e 12) (hr.mono (by omega)) cx rfl (ca_cons (ce_call (ok_least_menu e) (hr.mono (by omega)) cx rfl (ca_cons (ce_var 3) (ca_cons ce_str (ca_cons (ce_var 4) ca_nil)))) (ca_cons (ce_tup ca_nil few_nil) ca_nil))) (ce_one (ce_call (ok_l_is e 12) (hr.mono (by omega)) cx rfl (ca_cons (ce_call (ok_least_menu e) (hr.mono (by omega)) cx rfl (ca_cons (ce_var 0) (ca_cons ce_str (ca_cons (ce_tup (ca_cons (ce_tup (ca_cons ce_str (ca_cons (ce_tup (ca_cons ce_str ca_nil) (few_cons few_nil)) ca_nil)) (few_cons (few_cons few_nil))) (ca_cons (ce_tup (ca_cons ce_str (ca_cons (ce_tup (ca_cons ce_str ca_nil) (few_cons few_nil)) ca_nil)) (few_cons (few_cons few_nil))) ca_nil)) (few_cons (few_cons few_nil))) ca_nil)))) (ca_cons ce_non ca_nil))))))))))))))))))))))))
theorem ok_l_more (e : Fc P K mg) : Gf P w K mg base (37) "_law_more" 0 (F_l_more) := ⟨_, e.h_l_more, fn_l_more (Nat.le_refl _) e⟩
/-! ### law -/
theorem fn_law {kk : Nat} (hk : 37 ≤ kk) (e : Fc P K mg) : Fn P w K mg base (kk + 1) (He.ga K "law") 1 (G_law) := by
  obtain ⟨fd, F⟩ := e.f_law
  refine Pin.fn_ok (N := ["script", "k", "made", "turn", "stock", "crate", "menu", "name"]) (ps := ["script"]) F ⟨rfl, rfl, rfl, by decide +kernel, rfl, by decide +kernel, by decide +kernel⟩ (FunD.bindsN F fun _ _ _ _ _ _ us hl => match us, hl with | [_], _ => rfl) fun cdv A outer s H E cx hr => ?_
  exact css_cons (cs_for cx (ci_range e.b_range ce_int) (cg_name 1 cx.nd) (css_cons (cs_set 2 cx (ce_alloc (cn_disp (CP.cons (by decide +kernel) (ce_call (ok_l_draws e) (hr.mono (by omega)) cx rfl (ca_cons (ce_call (ok_l_cell e) (hr.mono (by omega)) cx rfl (ca_cons (ce_var 0) (ca_cons (ce_var 1) ca_nil))) (ca_cons ce_int ca_nil))) (CP.cons (by decide +kernel) ce_int CP.nil)))))
    (css_one (cs_for cx (ci_range e.b_range ce_int) (cg_name 3 cx.nd) (css_cons (cs_asg (ce_call (ok_l_stock e) (hr.mono (by omega)) cx rfl (ca_cons (ce_var 2) ca_nil)) (cg_tup (n := 2) cx.calm (cgs_cons (cg_name 4 cx.nd) (cgs_cons (cg_name 5 cx.nd) cgs_nil))))
    (css_cons (cs_set 6 cx (ce_call (ok_l_menu e) (hr.mono (by omega)) cx rfl (ca_cons (ce_var 2) ca_nil)))
    (css_one (cs_if (ct_not (ct_val (ce_callB (x := "all") (cr_all cx.calm) rc_all rfl e.b_all boot_all (ca_cons (ce_frz (cn_comp cx (ci_seq (ce_tup (ca_cons ce_str (ca_cons ce_str (ca_cons ce_str (ca_cons ce_str (ca_cons ce_str (ca_cons ce_str (ca_cons ce_str (ca_cons ce_str ca_nil)))))))) (few_cons (few_cons (few_cons (few_cons (few_cons (few_cons (few_cons (few_cons few_nil)))))))))) [("name", 7)] (by kernel_rfl) (fun _ _ _ _ _ => cgo_name 7 cx.nd) (fun _ _ _ _ _ => cts_nil) (fun _ _ _ _ _ => ce_call (ok_l_fine e) (hr.mono (by omega)) (cx.blk _ _ _ _ _) rfl (ca_cons (ce_var 4) (ca_cons (ce_var 5) (ca_cons (ce_var 7) (ca_cons (ce_var 6) ca_nil))))))) ca_nil)))) (css_one (cs_ret ce_bl)) css_nil))))))))
    (css_one (cs_ret (ce_and (ce_call0 (ok_l_fixed e) (hr.mono (by omega)) cx rfl) (ce_one (ce_call0 (ok_l_more e) (hr.mono (by omega)) cx rfl)))))
theorem ok_law (e : Fc P K mg) : Gf P w K mg base (38) "law" 1 (F_law) := ⟨_, e.h_law, fn_law (Nat.le_refl _) e⟩
theorem fn_lawX {kk : Nat} (hk : 37 ≤ kk) (e : Fc P K mg) : ∃ fd : FuncData, (∀ (s : Shared) (u : Value), BindsTo s fd ⟨[u], []⟩ [("script", u)]) ∧ ∀ base : Heap, FnOk P w K mg base (L2.CX P w) (kk + 1) (He.ga K "law") fd ["script"] (spF K 1 F_law) := by
  obtain ⟨fd, F⟩ := e.f_law
  refine ⟨fd, fun s u => FunD.bindsA (ps := ["script"]) F (fun _ _ _ _ _ _ us hl => match us, hl with | [_], _ => rfl) s [u] rfl, fun base => ?_⟩
  refine Pin.fn_okX (N := ["script", "k", "made", "turn", "stock", "crate", "menu", "name"]) (ps := ["script"]) F ⟨rfl, rfl, rfl, by decide +kernel, rfl, by decide +kernel, by decide +kernel⟩ fun cdv A outer s H E cx hr => ?_
  exact css_cons (cs_for cx (ci_range e.b_range ce_int) (cg_name 1 cx.nd) (css_cons (cs_set 2 cx (ce_alloc (cn_disp (CP.cons (by decide +kernel) (ce_call (ok_l_draws e) (hr.mono (by omega)) cx rfl (ca_cons (ce_call (ok_l_cell e) (hr.mono (by omega)) cx rfl (ca_cons (ce_var 0) (ca_cons (ce_var 1) ca_nil))) (ca_cons ce_int ca_nil))) (CP.cons (by decide +kernel) ce_int CP.nil)))))
    (css_one (cs_for cx (ci_range e.b_range ce_int) (cg_name 3 cx.nd) (css_cons (cs_asg (ce_call (ok_l_stock e) (hr.mono (by omega)) cx rfl (ca_cons (ce_var 2) ca_nil)) (cg_tup (n := 2) cx.calm (cgs_cons (cg_name 4 cx.nd) (cgs_cons (cg_name 5 cx.nd) cgs_nil))))
    (css_cons (cs_set 6 cx (ce_call (ok_l_menu e) (hr.mono (by omega)) cx rfl (ca_cons (ce_var 2) ca_nil)))
    (css_one (cs_if (ct_not (ct_val (ce_callB (x := "all") (cr_all cx.calm) rc_all rfl e.b_all boot_all (ca_cons (ce_frz (cn_comp cx (ci_seq (ce_tup (ca_cons ce_str (ca_cons ce_str (ca_cons ce_str (ca_cons ce_str (ca_cons ce_str (ca_cons ce_str (ca_cons ce_str (ca_cons ce_str ca_nil)))))))) (few_cons (few_cons (few_cons (few_cons (few_cons (few_cons (few_cons (few_cons few_nil)))))))))) [("name", 7)] (by kernel_rfl) (fun _ _ _ _ _ => cgo_name 7 cx.nd) (fun _ _ _ _ _ => cts_nil) (fun _ _ _ _ _ => ce_call (ok_l_fine e) (hr.mono (by omega)) (cx.blk _ _ _ _ _) rfl (ca_cons (ce_var 4) (ca_cons (ce_var 5) (ca_cons (ce_var 7) (ca_cons (ce_var 6) ca_nil))))))) ca_nil)))) (css_one (cs_ret ce_bl)) css_nil))))))))
    (css_one (cs_ret (ce_and (ce_call0 (ok_l_fixed e) (hr.mono (by omega)) cx rfl) (ce_one (ce_call0 (ok_l_more e) (hr.mono (by omega)) cx rfl)))))
end
end K96
end
-- K96B
section
set_option linter.all false
set_option maxRecDepth 100000
set_option maxHeartbeats 4000000
/-! K96, part B (printed by gen2.py): the facts, by the lists that a look at the opening gives. -/
namespace K96
open PySem PySem.Spec PyProof.Rows L2 Pin Ms
def dd_next_of : He.DefD := ⟨("next_of", none), "next_of", "next_of", defArgs (top 7), defBody (top 7), defScope (top 7), [], []⟩
def dd_Knowing_d___init__ : He.DefD := ⟨("Knowing", some "__init__"), "__init__", "Knowing.__init__", defArgs (inCls (top 8) 0), defBody (inCls (top 8) 0), defScope (inCls (top 8) 0), [], []⟩
def dd_Knowing_d_value : He.DefD := ⟨("Knowing", some "value"), "value", "Knowing.value", defArgs (inCls (top 8) 1), defBody (inCls (top 8) 1), defScope (inCls (top 8) 1), [], []⟩
def dd_Knowing_d_followed : He.DefD := ⟨("Knowing", some "followed"), "followed", "Knowing.followed", defArgs (inCls (top 8) 2), defBody (inCls (top 8) 2), defScope (inCls (top 8) 2), [], []⟩
def dd_Knowing_d_beyond : He.DefD := ⟨("Knowing", some "beyond"), "beyond", "Knowing.beyond", defArgs (inCls (top 8) 3), defBody (inCls (top 8) 3), defScope (inCls (top 8) 3), [], []⟩
def dd_known_of : He.DefD := ⟨("known_of", none), "known_of", "known_of", defArgs (top 9), defBody (top 9), defScope (top 9), [], []⟩
def dd_stock_given : He.DefD := ⟨("stock_given", none), "stock_given", "stock_given", defArgs (top 11), defBody (top 11), defScope (top 11), [], []⟩
def dd_least_menu : He.DefD := ⟨("least_menu", none), "least_menu", "least_menu", defArgs (top 12), defBody (top 12), defScope (top 12), [], []⟩
def dd_l_cell : He.DefD := ⟨("_law_cell", none), "_law_cell", "_law_cell", defArgs (top 14), defBody (top 14), defScope (top 14), [], []⟩
def dd_l_draws : He.DefD := ⟨("_law_draws", none), "_law_draws", "_law_draws", defArgs (top 15), defBody (top 15), defScope (top 15), [], []⟩
def dd_l_is_integer : He.DefD := ⟨("_law_is_integer", none), "_law_is_integer", "_law_is_integer", defArgs (top 16), defBody (top 16), defScope (top 16), [], []⟩
def dd_l_is : He.DefD := ⟨("_law_is", none), "_law_is", "_law_is", defArgs (top 17), defBody (top 17), defScope (top 17), [], []⟩
def dd_l_take : He.DefD := ⟨("_law_take", none), "_law_take", "_law_take", defArgs (top 18), defBody (top 18), defScope (top 18), [], []⟩
def dd_l_pool : He.DefD := ⟨("_law_pool", none), "_law_pool", "_law_pool", defArgs (top 19), defBody (top 19), defScope (top 19), [], []⟩
def dd_l_box : He.DefD := ⟨("_law_box", none), "_law_box", "_law_box", defArgs (top 20), defBody (top 20), defScope (top 20), [], []⟩
def dd_l_edited : He.DefD := ⟨("_law_edited", none), "_law_edited", "_law_edited", defArgs (top 21), defBody (top 21), defScope (top 21), [], []⟩
def dd_l_behind : He.DefD := ⟨("_law_behind", none), "_law_behind", "_law_behind", defArgs (top 22), defBody (top 22), defScope (top 22), [], []⟩
def dd_l_branch : He.DefD := ⟨("_law_branch", none), "_law_branch", "_law_branch", defArgs (top 23), defBody (top 23), defScope (top 23), [], []⟩
def dd_l_found : He.DefD := ⟨("_law_found", none), "_law_found", "_law_found", defArgs (top 24), defBody (top 24), defScope (top 24), [], []⟩
def dd_l_stock : He.DefD := ⟨("_law_stock", none), "_law_stock", "_law_stock", defArgs (top 25), defBody (top 25), defScope (top 25), [], []⟩
def dd_l_step : He.DefD := ⟨("_law_step", none), "_law_step", "_law_step", defArgs (top 26), defBody (top 26), defScope (top 26), [], []⟩
def dd_l_tells : He.DefD := ⟨("_law_tells", none), "_law_tells", "_law_tells", defArgs (top 27), defBody (top 27), defScope (top 27), [], []⟩
def dd_l_text : He.DefD := ⟨("_law_text", none), "_law_text", "_law_text", defArgs (top 28), defBody (top 28), defScope (top 28), [], []⟩
def dd_l_behind_choice : He.DefD := ⟨("_law_behind_choice", none), "_law_behind_choice", "_law_behind_choice", defArgs (top 29), defBody (top 29), defScope (top 29), [], []⟩
def dd_l_choices : He.DefD := ⟨("_law_choices", none), "_law_choices", "_law_choices", defArgs (top 30), defBody (top 30), defScope (top 30), [], []⟩
def dd_l_least_choice : He.DefD := ⟨("_law_least_choice", none), "_law_least_choice", "_law_least_choice", defArgs (top 31), defBody (top 31), defScope (top 31), [], []⟩
def dd_l_menu : He.DefD := ⟨("_law_menu", none), "_law_menu", "_law_menu", defArgs (top 32), defBody (top 32), defScope (top 32), [], []⟩
def dd_l_fine : He.DefD := ⟨("_law_fine", none), "_law_fine", "_law_fine", defArgs (top 33), defBody (top 33), defScope (top 33), [], []⟩
def dd_l_fixed : He.DefD := ⟨("_law_fixed", none), "_law_fixed", "_law_fixed", defArgs (top 34), defBody (top 34), defScope (top 34), [], []⟩
def dd_l_crossed_stock : He.DefD := ⟨("_law_crossed_stock", none), "_law_crossed_stock", "_law_crossed_stock", defArgs (top 35), defBody (top 35), defScope (top 35), [], []⟩
def dd_l_deep_stock : He.DefD := ⟨("_law_deep_stock", none), "_law_deep_stock", "_law_deep_stock", defArgs (top 36), defBody (top 36), defScope (top 36), [], []⟩
def dd_l_own_stock : He.DefD := ⟨("_law_own_stock", none), "_law_own_stock", "_law_own_stock", defArgs (top 37), defBody (top 37), defScope (top 37), [], []⟩
def dd_l_late_stock : He.DefD := ⟨("_law_late_stock", none), "_law_late_stock", "_law_late_stock", defArgs (top 38), defBody (top 38), defScope (top 38), [], []⟩
def dd_l_more : He.DefD := ⟨("_law_more", none), "_law_more", "_law_more", defArgs (top 39), defBody (top 39), defScope (top 39), [], []⟩
def dd_law : He.DefD := ⟨("law", none), "law", "law", defArgs (top 40), defBody (top 40), defScope (top 40), [], []⟩
def xa : List Xa := [.dat "CIRCLE" d_CIRCLE, .dat "NONE" d_NONE, .typ "combinations" "itertools.combinations", .exE "Endless", .xf "Unknown" "label"]
def fa : List He.Fa := [.free "abs", .free "all", .free "bool", .free "dict", .free "int", .free "isinstance", .free "len", .free "list", .free "min", .free "range", .free "set", .free "sorted", .free "str", .free "super", .free "tuple", .glo "Endless", .glo "Unknown", .keep "Unknown", .glo "Knowing", .cls "Knowing", .mkr "Knowing", .noat "Knowing" "given", .noat "Knowing" "made", .noat "Knowing" "notes", .noat "Knowing" "known", .noat "Knowing" "reads", .noat "Knowing" "begun", .exm "Unknown" "Unknown" true, .exm "Endless" "Unknown" false, .exm "Endless" "Endless" true, .glo "next_of", .meth "Knowing" "value", .meth "Knowing" "followed", .meth "Knowing" "beyond", .glo "known_of", .glo "stock_given", .glo "least_menu", .glo "_law_cell", .glo "_law_draws", .glo "_law_is_integer", .glo "_law_is", .glo "_law_take", .glo "_law_pool", .glo "_law_box", .glo "_law_edited", .glo "_law_behind", .glo "_law_branch", .glo "_law_found", .glo "_law_stock", .glo "_law_step", .glo "_law_tells", .glo "_law_text", .glo "_law_behind_choice", .glo "_law_choices", .glo "_law_least_choice", .glo "_law_menu", .glo "_law_fine", .glo "_law_fixed", .glo "_law_crossed_stock", .glo "_law_deep_stock", .glo "_law_own_stock", .glo "_law_late_stock", .glo "_law_more", .glo "law"]
def fn : List He.DefD := [dd_next_of, dd_Knowing_d___init__, dd_Knowing_d_value, dd_Knowing_d_followed, dd_Knowing_d_beyond, dd_known_of, dd_stock_given, dd_least_menu, dd_l_cell, dd_l_draws, dd_l_is_integer, dd_l_is, dd_l_take, dd_l_pool, dd_l_box, dd_l_edited, dd_l_behind, dd_l_branch, dd_l_found, dd_l_stock, dd_l_step, dd_l_tells, dd_l_text, dd_l_behind_choice, dd_l_choices, dd_l_least_choice, dd_l_menu, dd_l_fine, dd_l_fixed, dd_l_crossed_stock, dd_l_deep_stock, dd_l_own_stock, dd_l_late_stock, dd_l_more, dd_law]
theorem fc_of {P : Program} {K : KF} {h : Heap} {mg : Str → Option Value} (X : K.In h) (G : h.Ns mainGlobals mg) (s : SaysX xa fa fn K) (sb_Unknown : PySem.W.subIn K (.ref (He.ga K "Unknown")) (.type "BaseException") = some true) (ty_Unknown : PySem.W.typeIn K (.ref (He.ga K "Unknown")) = some (.type "type")) (T_Unknown : XvT P K ip_Unknown "Unknown.__init__" (He.ga K "Unknown") (He.ma K (He.ga K "Unknown") "__init__")) : Fc P K mg where
  b_abs := He.free_ok X G (s.d.fact 0)
  b_all := He.free_ok X G (s.d.fact 1)
  b_bool := He.free_ok X G (s.d.fact 2)
  b_dict := He.free_ok X G (s.d.fact 3)
  b_int := He.free_ok X G (s.d.fact 4)
  b_isinstance := He.free_ok X G (s.d.fact 5)
  b_len := He.free_ok X G (s.d.fact 6)
  b_list := He.free_ok X G (s.d.fact 7)
  b_min := He.free_ok X G (s.d.fact 8)
  b_range := He.free_ok X G (s.d.fact 9)
  b_set := He.free_ok X G (s.d.fact 10)
  b_sorted := He.free_ok X G (s.d.fact 11)
  b_str := He.free_ok X G (s.d.fact 12)
  b_super := He.free_ok X G (s.d.fact 13)
  b_tuple := He.free_ok X G (s.d.fact 14)
  k_CIRCLE := dat_ok X G (s.x 0)
  k_NONE := dat_ok X G (s.x 1)
  t_combinations := typ_ok X G (s.x 2)
  x_Endless := ⟨He.glo_ok X G (s.d.fact 15), (exE_ok (s.x 3)).1, (exE_ok (s.x 3)).2.1, (exE_ok (s.x 3)).2.2.1, (exE_ok (s.x 3)).2.2.2⟩
  x_Unknown := ⟨He.glo_ok X G (s.d.fact 16), He.keep_ok (s.d.fact 17), sb_Unknown, ty_Unknown, T_Unknown, He.free_ok X G (s.d.fact 13)⟩
  c_Knowing := He.cls_ok (s.d.fact 19)
  g_Knowing := He.glo_ok X G (s.d.fact 18)
  m_Knowing := He.mkr_ok (s.d.fact 20)
  a_Knowing_given := He.noat_ok (s.d.fact 21)
  a_Knowing_made := He.noat_ok (s.d.fact 22)
  a_Knowing_notes := He.noat_ok (s.d.fact 23)
  a_Knowing_known := He.noat_ok (s.d.fact 24)
  a_Knowing_reads := He.noat_ok (s.d.fact 25)
  a_Knowing_begun := He.noat_ok (s.d.fact 26)
  xf_Unknown := (xf_ok (s.x 4)).1
  xn_Unknown := (xf_ok (s.x 4)).2
  em_UU := He.exm_ok (s.d.fact 27)
  em_EU := He.exm_ok (s.d.fact 28)
  em_EE := He.exm_ok (s.d.fact 29)
  f_next_of := s.d.def_ 0
  h_next_of := He.glo_ok X G (s.d.fact 30)
  f_Knowing_d___init__ := s.d.def_ 1
  f_Knowing_d_value := s.d.def_ 2
  h_Knowing_d_value := He.meth_ok (s.d.fact 31)
  f_Knowing_d_followed := s.d.def_ 3
  h_Knowing_d_followed := He.meth_ok (s.d.fact 32)
  f_Knowing_d_beyond := s.d.def_ 4
  h_Knowing_d_beyond := He.meth_ok (s.d.fact 33)
  f_known_of := s.d.def_ 5
  h_known_of := He.glo_ok X G (s.d.fact 34)
  f_stock_given := s.d.def_ 6
  h_stock_given := He.glo_ok X G (s.d.fact 35)
  f_least_menu := s.d.def_ 7
  h_least_menu := He.glo_ok X G (s.d.fact 36)
  f_l_cell := s.d.def_ 8
  h_l_cell := He.glo_ok X G (s.d.fact 37)
  f_l_draws := s.d.def_ 9
  h_l_draws := He.glo_ok X G (s.d.fact 38)
  f_l_is_integer := s.d.def_ 10
  h_l_is_integer := He.glo_ok X G (s.d.fact 39)
  f_l_is := s.d.def_ 11
  h_l_is := He.glo_ok X G (s.d.fact 40)
  f_l_take := s.d.def_ 12
  h_l_take := He.glo_ok X G (s.d.fact 41)
  f_l_pool := s.d.def_ 13
  h_l_pool := He.glo_ok X G (s.d.fact 42)
  f_l_box := s.d.def_ 14
  h_l_box := He.glo_ok X G (s.d.fact 43)
  f_l_edited := s.d.def_ 15
  h_l_edited := He.glo_ok X G (s.d.fact 44)
  f_l_behind := s.d.def_ 16
  h_l_behind := He.glo_ok X G (s.d.fact 45)
  f_l_branch := s.d.def_ 17
  h_l_branch := He.glo_ok X G (s.d.fact 46)
  f_l_found := s.d.def_ 18
  h_l_found := He.glo_ok X G (s.d.fact 47)
  f_l_stock := s.d.def_ 19
  h_l_stock := He.glo_ok X G (s.d.fact 48)
  f_l_step := s.d.def_ 20
  h_l_step := He.glo_ok X G (s.d.fact 49)
  f_l_tells := s.d.def_ 21
  h_l_tells := He.glo_ok X G (s.d.fact 50)
  f_l_text := s.d.def_ 22
  h_l_text := He.glo_ok X G (s.d.fact 51)
  f_l_behind_choice := s.d.def_ 23
  h_l_behind_choice := He.glo_ok X G (s.d.fact 52)
  f_l_choices := s.d.def_ 24
  h_l_choices := He.glo_ok X G (s.d.fact 53)
  f_l_least_choice := s.d.def_ 25
  h_l_least_choice := He.glo_ok X G (s.d.fact 54)
  f_l_menu := s.d.def_ 26
  h_l_menu := He.glo_ok X G (s.d.fact 55)
  f_l_fine := s.d.def_ 27
  h_l_fine := He.glo_ok X G (s.d.fact 56)
  f_l_fixed := s.d.def_ 28
  h_l_fixed := He.glo_ok X G (s.d.fact 57)
  f_l_crossed_stock := s.d.def_ 29
  h_l_crossed_stock := He.glo_ok X G (s.d.fact 58)
  f_l_deep_stock := s.d.def_ 30
  h_l_deep_stock := He.glo_ok X G (s.d.fact 59)
  f_l_own_stock := s.d.def_ 31
  h_l_own_stock := He.glo_ok X G (s.d.fact 60)
  f_l_late_stock := s.d.def_ 32
  h_l_late_stock := He.glo_ok X G (s.d.fact 61)
  f_l_more := s.d.def_ 33
  h_l_more := He.glo_ok X G (s.d.fact 62)
  f_law := s.d.def_ 34
  h_law := He.glo_ok X G (s.d.fact 63)
theorem T_of {P : Program} {K : KF} {C f : Addr} (h1 : xvcB K C = true) (sa : PySem.W.findIn K (.ref C) "__setattr__" = some (some (.builtin "object.__setattr__"))) (nol : PySem.W.findIn K (.ref C) "label" = some none)
    (iC : PySem.W.findIn K (.ref C) "__init__" = some (some (.ref f))) (tI : PySem.W.typeIn K (.ref f) = some (.type "function")) (opq : PySem.W.nsIn K cStatics "thirdparty.any" = some none)
    (e : xvfO K f = some (("__init__" : Str), ("Unknown.__init__" : Str), iniA ip_Unknown.p1 ip_Unknown.p2, FuncBody.stmts (iniB ip_Unknown.q1 ip_Unknown.q2 ip_Unknown.q3 ip_Unknown.q4 ip_Unknown.q5 ip_Unknown.q6 ip_Unknown.q7 ip_Unknown.q8 ip_Unknown.q9 ip_Unknown.q10), iniS, mainGlobals, builtinsNs))
    (h : xvfB P K "Unknown.__init__" C f = true) (top : (P.main.scope.names.lookup ("super" : Str)).isSome = false) : XvT P K ip_Unknown "Unknown.__init__" C f :=
  ⟨xvcB_ok h1, sa, nol, iC, tI, opq, xvf_ok e h, fun L cd cc => ⟨_, rfl⟩, top⟩
end K96
end
-- Ev1
section
set_option linter.all false
set_option maxRecDepth 100000
/-! Ev, part 1: stepping through meanings: each rule moves one piece, with no piece opened ahead of its turn. -/
namespace Pin
open PySem PySem.Spec PyProof.Rows L2

/-! ### expressions -/
def consO (o : Out AV) (g : Fa) (env : Sl) : Out (List AV) := o.bind fun a h1 => (g env h1).bind fun as h2 => .ok (a :: as) h2
def consP (a : AV) (o : Out (List AV)) : Out (List AV) := o.bind fun as h2 => .ok (a :: as) h2
@[simp] theorem e_cons (f : Fe) (g : Fa) (env : Sl) (hp : AH) : consF f g env hp = consO (f env hp) g env := id rfl
@[simp] theorem e_consO (a : AV) (h : AH) (g : Fa) (env : Sl) : consO (.ok a h) g env = consP a (g env h) := id rfl
@[simp] theorem e_consX (x : Exn) (h : AH) (g : Fa) (env : Sl) : consO (.exc x h) g env = .exc x h := id rfl
@[simp] theorem e_consP (a : AV) (as : List AV) (h : AH) : consP a (.ok as h) = .ok (a :: as) h := id rfl
@[simp] theorem e_consPX (a : AV) (x : Exn) (h : AH) : consP a (.exc x h) = .exc x h := id rfl
@[simp] theorem e_nil (env : Sl) (hp : AH) : nilF env hp = .ok [] hp := id rfl
@[simp] theorem e_c (d : D) (env : Sl) (hp : AH) : cF d env hp = .ok (.d d) hp := id rfl
def vO (o : Option (Option AV)) (hp : AH) : Out AV := match o with
  | some (some a) => .ok a hp
  | _ => .bad
@[simp] theorem e_v (i : Nat) (env : Sl) (hp : AH) : vF i env hp = vO env[i]? hp := id rfl
@[simp] theorem e_vO (a : AV) (hp : AH) : vO (some (some a)) hp = .ok a hp := id rfl
def tupO (o : Out (List AV)) : Out AV := o.bind fun as h1 => match dats as with
  | some ds => .ok (.d (.tuple ds)) h1
  | none => .bad
def tupP (o : Option (List D)) (h : AH) : Out AV := match o with
  | some ds => .ok (.d (.tuple ds)) h
  | none => .bad
@[simp] theorem e_tup (g : Fa) (env : Sl) (hp : AH) : tupF g env hp = tupO (g env hp) := id rfl
@[simp] theorem e_tupO (as : List AV) (h : AH) : tupO (.ok as h) = tupP (dats as) h := id rfl
@[simp] theorem e_tupX (x : Exn) (h : AH) : tupO (.exc x h) = .exc x h := id rfl
@[simp] theorem e_tupP (ds : List D) (h : AH) : tupP (some ds) h = .ok (.d (.tuple ds)) h := id rfl
def lstO (o : Out (List AV)) : Out AV := o.bind fun as h1 => match dats as with
  | some ds => .ok (.d (.list ds)) h1
  | none => .bad
def lstP (o : Option (List D)) (h : AH) : Out AV := match o with
  | some ds => .ok (.d (.list ds)) h
  | none => .bad
@[simp] theorem e_lst (g : Fa) (env : Sl) (hp : AH) : lstF g env hp = lstO (g env hp) := id rfl
@[simp] theorem e_lstO (as : List AV) (h : AH) : lstO (.ok as h) = lstP (dats as) h := id rfl
@[simp] theorem e_lstP (ds : List D) (h : AH) : lstP (some ds) h = .ok (.d (.list ds)) h := id rfl
@[simp] theorem e_dats0 : dats [] = some [] := id rfl
@[simp] theorem e_dats (x : D) (r : List AV) : dats (.d x :: r) = (dats r).map (x :: ·) := id rfl
@[simp] theorem e_map {α β : Type} (f : α → β) (a : α) : (some a).map f = some (f a) := id rfl
def bO (c : AV → AV → AH → Out AV) (o : Out AV) (g : Fe) (env : Sl) : Out AV := o.bind fun a h1 => (g env h1).bind fun b h2 => c a b h2
def bP (c : AV → AV → AH → Out AV) (a : AV) (o : Out AV) : Out AV := o.bind fun b h2 => c a b h2
@[simp] theorem e_b (c : AV → AV → AH → Out AV) (f g : Fe) (env : Sl) (hp : AH) : bF c f g env hp = bO c (f env hp) g env := id rfl
@[simp] theorem e_bO (c : AV → AV → AH → Out AV) (a : AV) (h : AH) (g : Fe) (env : Sl) : bO c (.ok a h) g env = bP c a (g env h) := id rfl
@[simp] theorem e_bX (c : AV → AV → AH → Out AV) (x : Exn) (h : AH) (g : Fe) (env : Sl) : bO c (.exc x h) g env = .exc x h := id rfl
@[simp] theorem e_bP (c : AV → AV → AH → Out AV) (a b : AV) (h : AH) : bP c a (.ok b h) = c a b h := id rfl
@[simp] theorem e_bPX (c : AV → AV → AH → Out AV) (a : AV) (x : Exn) (h : AH) : bP c a (.exc x h) = .exc x h := id rfl
def tstO (o : Out AV) : Out Bool := o.bind fun a h1 => match a with
  | .d (.bool b) => .ok b h1
  | _ => .bad
@[simp] theorem e_tst (f : Fe) (env : Sl) (hp : AH) : tstF f env hp = tstO (f env hp) := id rfl
@[simp] theorem e_tstO (b : Bool) (h : AH) : tstO (.ok (.d (.bool b)) h) = .ok b h := id rfl
def andO (o : Out Bool) (g : Ft) (env : Sl) : Out Bool := o.bind fun b h1 => if b then g env h1 else .ok false h1
@[simp] theorem e_and (f g : Ft) (env : Sl) (hp : AH) : andT f g env hp = andO (f env hp) g env := id rfl
@[simp] theorem e_andO1 (h : AH) (g : Ft) (env : Sl) : andO (.ok true h) g env = g env h := id rfl
@[simp] theorem e_andO0 (h : AH) (g : Ft) (env : Sl) : andO (.ok false h) g env = .ok false h := id rfl
def orO (o : Out Bool) (g : Ft) (env : Sl) : Out Bool := o.bind fun b h1 => if b then .ok true h1 else g env h1
@[simp] theorem e_or (f g : Ft) (env : Sl) (hp : AH) : orT f g env hp = orO (f env hp) g env := id rfl
@[simp] theorem e_orO1 (h : AH) (g : Ft) (env : Sl) : orO (.ok true h) g env = .ok true h := id rfl
@[simp] theorem e_orO0 (h : AH) (g : Ft) (env : Sl) : orO (.ok false h) g env = g env h := id rfl
def notO (o : Out Bool) : Out Bool := o.bind fun b h1 => .ok (!b) h1
@[simp] theorem e_not (f : Ft) (env : Sl) (hp : AH) : notT f env hp = notO (f env hp) := id rfl
@[simp] theorem e_notO (b : Bool) (h : AH) : notO (.ok b h) = .ok (!b) h := id rfl
def andQ (o : Out AV) (g : Fe) (env : Sl) : Out AV := o.bind fun a h1 => match a with
  | .d (.bool true) => g env h1
  | .d (.bool false) => .ok (.d (.bool false)) h1
  | _ => .bad
@[simp] theorem e_andF (f g : Fe) (env : Sl) (hp : AH) : andF f g env hp = andQ (f env hp) g env := id rfl
@[simp] theorem e_andQ1 (h : AH) (g : Fe) (env : Sl) : andQ (.ok (.d (.bool true)) h) g env = g env h := id rfl
@[simp] theorem e_andQ0 (h : AH) (g : Fe) (env : Sl) : andQ (.ok (.d (.bool false)) h) g env = .ok (.d (.bool false)) h := id rfl
def orQ (o : Out AV) (g : Fe) (env : Sl) : Out AV := o.bind fun a h1 => match a with
  | .d (.bool false) => g env h1
  | .d (.bool true) => .ok (.d (.bool true)) h1
  | _ => .bad
@[simp] theorem e_orF (f g : Fe) (env : Sl) (hp : AH) : orF f g env hp = orQ (f env hp) g env := id rfl
@[simp] theorem e_orQ1 (h : AH) (g : Fe) (env : Sl) : orQ (.ok (.d (.bool true)) h) g env = .ok (.d (.bool true)) h := id rfl
@[simp] theorem e_orQ0 (h : AH) (g : Fe) (env : Sl) : orQ (.ok (.d (.bool false)) h) g env = g env h := id rfl
def notQ (o : Out AV) : Out AV := o.bind fun a h1 => match a with
  | .d (.bool b) => .ok (.d (.bool !b)) h1
  | _ => .bad
@[simp] theorem e_notF (f : Fe) (env : Sl) (hp : AH) : notF f env hp = notQ (f env hp) := id rfl
@[simp] theorem e_notQ (b : Bool) (h : AH) : notQ (.ok (.d (.bool b)) h) = .ok (.d (.bool !b)) h := id rfl
def ifO (o : Out Bool) (f g : Fe) (env : Sl) : Out AV := o.bind fun b h1 => if b then f env h1 else g env h1
@[simp] theorem e_ifF (c : Ft) (f g : Fe) (env : Sl) (hp : AH) : ifF c f g env hp = ifO (c env hp) f g env := id rfl
@[simp] theorem e_ifO1 (h : AH) (f g : Fe) (env : Sl) : ifO (.ok true h) f g env = f env h := id rfl
@[simp] theorem e_ifO0 (h : AH) (f g : Fe) (env : Sl) : ifO (.ok false h) f g env = g env h := id rfl
def callO (c : List AV → AH → Out AV) (o : Out (List AV)) : Out AV := o.bind fun as h1 => c as h1
@[simp] theorem e_call (c : List AV → AH → Out AV) (g : Fa) (env : Sl) (hp : AH) : callF c g env hp = callO c (g env hp) := id rfl
@[simp] theorem e_callO (c : List AV → AH → Out AV) (as : List AV) (h : AH) : callO c (.ok as h) = c as h := id rfl
@[simp] theorem e_callX (c : List AV → AH → Out AV) (x : Exn) (h : AH) : callO c (.exc x h) = .exc x h := id rfl
@[simp] theorem e_ar0 (F : List AV → AH → Out AV) (hp : AH) : arF 0 F [] hp = F [] hp := id rfl
@[simp] theorem e_ar1 (F : List AV → AH → Out AV) (a : AV) (hp : AH) : arF 1 F [a] hp = F [a] hp := id rfl
@[simp] theorem e_ar2 (F : List AV → AH → Out AV) (a b : AV) (hp : AH) : arF 2 F [a, b] hp = F [a, b] hp := id rfl
@[simp] theorem e_ar3 (F : List AV → AH → Out AV) (a b c : AV) (hp : AH) : arF 3 F [a, b, c] hp = F [a, b, c] hp := id rfl
@[simp] theorem e_ar4 (F : List AV → AH → Out AV) (a b c d : AV) (hp : AH) : arF 4 F [a, b, c, d] hp = F [a, b, c, d] hp := id rfl
@[simp] theorem e_ar5 (F : List AV → AH → Out AV) (a b c d e : AV) (hp : AH) : arF 5 F [a, b, c, d, e] hp = F [a, b, c, d, e] hp := id rfl
def smP (o : Out AV) : Out (Option Int) := o.bind fun a h1 => match a with
  | .d (.int i) => .ok (some i) h1
  | _ => .bad
@[simp] theorem e_sm (f : Fe) (env : Sl) (hp : AH) : smO f env hp = smP (f env hp) := id rfl
@[simp] theorem e_smP (i : Int) (h : AH) : smP (.ok (.d (.int i)) h) = .ok (some i) h := id rfl
@[simp] theorem e_noO (env : Sl) (hp : AH) : noO env hp = .ok none hp := id rfl
def slO (o : Out AV) (g h : Fo) (env : Sl) : Out AV := o.bind fun a h1 => (g env h1).bind fun lo h2 => (h env h2).bind fun hi h3 => cutV' a lo hi h3
def slP (a : AV) (o : Out (Option Int)) (h : Fo) (env : Sl) : Out AV := o.bind fun lo h2 => (h env h2).bind fun hi h3 => cutV' a lo hi h3
def slQ (a : AV) (lo : Option Int) (o : Out (Option Int)) : Out AV := o.bind fun hi h3 => cutV' a lo hi h3
@[simp] theorem e_sl (f : Fe) (g h : Fo) (env : Sl) (hp : AH) : slF f g h env hp = slO (f env hp) g h env := id rfl
@[simp] theorem e_slO (a : AV) (h1 : AH) (g h : Fo) (env : Sl) : slO (.ok a h1) g h env = slP a (g env h1) h env := id rfl
@[simp] theorem e_slP (a : AV) (lo : Option Int) (h1 : AH) (h : Fo) (env : Sl) : slP a (.ok lo h1) h env = slQ a lo (h env h1) := id rfl
@[simp] theorem e_slQ (a : AV) (lo hi : Option Int) (h : AH) : slQ a lo (.ok hi h) = cutV' a lo hi h := id rfl
@[simp] theorem e_cutT (xs : List D) (lo hi : Option Int) (hp : AH) : cutV' (.d (.tuple xs)) lo hi hp = .ok (.d (.tuple (cutD xs lo hi))) hp := id rfl
@[simp] theorem e_cutL (xs : List D) (lo hi : Option Int) (hp : AH) : cutV' (.d (.list xs)) lo hi hp = .ok (.d (.list (cutD xs lo hi))) hp := id rfl
def allocO (o : Out AObj) : Out AV := o.bind fun o h1 => .ok (.r h1.length) (h1 ++ [o])
@[simp] theorem e_alloc (f : Fnew) (env : Sl) (hp : AH) : allocF f env hp = allocO (f env hp) := id rfl
@[simp] theorem e_allocO (o : AObj) (h : AH) : allocO (.ok o h) = .ok (.r h.length) (h ++ [o]) := id rfl
def frzO (o : Out AObj) : Out AV := o.bind fun o h1 => match o with
  | .lst xs => .ok (.d (.list xs)) h1
  | _ => .bad
@[simp] theorem e_frz (f : Fnew) (env : Sl) (hp : AH) : frzF f env hp = frzO (f env hp) := id rfl
@[simp] theorem e_frzO (xs : List D) (h : AH) : frzO (.ok (.lst xs) h) = .ok (.d (.list xs)) h := id rfl
def lstNO (o : Out (List AV)) : Out AObj := o.bind fun as h1 => match dats as with
  | some ds => .ok (.lst ds) h1
  | none => .bad
def lstNP (o : Option (List D)) (h : AH) : Out AObj := match o with
  | some ds => .ok (.lst ds) h
  | none => .bad
@[simp] theorem e_lstN (g : Fa) (env : Sl) (hp : AH) : lstN g env hp = lstNO (g env hp) := id rfl
@[simp] theorem e_lstNO (as : List AV) (h : AH) : lstNO (.ok as h) = lstNP (dats as) h := id rfl
@[simp] theorem e_lstNP (ds : List D) (h : AH) : lstNP (some ds) h = .ok (.lst ds) h := id rfl
@[simp] theorem e_dct0 (env : Sl) (hp : AH) : dct0N env hp = .ok (.dct []) hp := id rfl
def dictO (o : Out AV) : Out AObj := o.bind fun a h1 => match a with
  | .d (.tuple xs) => match pairD xs with
    | some kvs => if kvs.length ≤ 500 then .ok (.dct (mergeD kvs)) h1 else .bad
    | none => .bad
  | _ => .bad
@[simp] theorem e_dict (f : Fe) (env : Sl) (hp : AH) : dictN f env hp = dictO (f env hp) := id rfl
theorem e_dictO {xs : List D} {kvs : List (Str × D)} (h : AH) (e : pairD xs = some kvs) (l : kvs.length ≤ 500) : dictO (.ok (.d (.tuple xs)) h) = .ok (.dct (mergeD kvs)) h := by
  show (match pairD xs with | some kvs => if kvs.length ≤ 500 then Out.ok (AObj.dct (mergeD kvs)) h else .bad | none => .bad) = _
  rw [e]; exact if_pos l
def ixNO (o : Out AObj) (ge : Fe) (env : Sl) : Out AV := o.bind fun o h1 => match o with
  | .dct kvs => (ge env h1).bind fun k h2 => match k with
    | .d (.str k) => match getD kvs k with
      | some d => .ok (.d d) h2
      | none => .bad
    | _ => .bad
  | _ => .bad
def ixNP (kvs : List (Str × D)) (o : Out AV) : Out AV := o.bind fun k h2 => match k with
    | .d (.str k) => match getD kvs k with
      | some d => .ok (.d d) h2
      | none => .bad
    | _ => .bad
@[simp] theorem e_ixN (f : Fnew) (ge : Fe) (env : Sl) (hp : AH) : Pin.ixN f ge env hp = ixNO (f env hp) ge env := id rfl
@[simp] theorem e_ixNO (kvs : List (Str × D)) (h : AH) (ge : Fe) (env : Sl) : ixNO (.ok (.dct kvs) h) ge env = ixNP kvs (ge env h) := id rfl
theorem e_ixNP {kvs : List (Str × D)} {k : Str} {d : D} (h : AH) (e : getD kvs k = some d) : ixNP kvs (.ok (.d (.str k)) h) = .ok (.d d) h := by
  show (match getD kvs k with | some d => Out.ok (AV.d d) h | none => .bad) = _
  rw [e]
def fldO (C f : Str) (o : Out AV) : Out AV := o.bind fun a h1 => match a with
  | .r i => match h1[i]? with
    | some (.ins C' fs) => if C' = C then match fs.lookup f with
      | some v => .ok v h1
      | none => .bad else .bad
    | _ => .bad
  | _ => .bad
@[simp] theorem e_fld (C f : Str) (fo : Fe) (env : Sl) (hp : AH) : fldF C f fo env hp = fldO C f (fo env hp) := id rfl
theorem e_fldO {C f : Str} {i : Nat} {h : AH} {fs : List (Str × AV)} {v : AV} (e : h[i]? = some (.ins C fs)) (e2 : fs.lookup f = some v) : fldO C f (.ok (.r i) h) = .ok v h := by
  show (match h[i]? with
    | some (.ins C' fs) => if C' = C then match fs.lookup f with
      | some v => Out.ok v h
      | none => .bad else .bad
    | _ => .bad) = _
  rw [e]; simp only [if_true, e2]

/-! ### statements -/
def toS1 (o : Out AV) (env : Sl) : OutS := o.toS env fun _ h => .nx env h
@[simp] theorem e_expr (f : Fe) (env : Sl) (hp : AH) : exprS f env hp = toS1 (f env hp) env := id rfl
@[simp] theorem e_toS1 (a : AV) (h : AH) (env : Sl) : toS1 (.ok a h) env = .nx env h := id rfl
@[simp] theorem e_toS1X (x : Exn) (h : AH) (env : Sl) : toS1 (.exc x h) env = .exc x env h := id rfl
def toSr (o : Out AV) (env : Sl) : OutS := o.toS env fun a h => .rt a h
@[simp] theorem e_ret (f : Fe) (env : Sl) (hp : AH) : retS f env hp = toSr (f env hp) env := id rfl
@[simp] theorem e_toSr (a : AV) (h : AH) (env : Sl) : toSr (.ok a h) env = .rt a h := id rfl
@[simp] theorem e_toSrX (x : Exn) (h : AH) (env : Sl) : toSr (.exc x h) env = .exc x env h := id rfl
@[simp] theorem e_retN (env : Sl) (hp : AH) : retN env hp = .rt (.d .none) hp := id rfl
@[simp] theorem e_nx (env : Sl) (hp : AH) : nxS env hp = .nx env hp := id rfl
@[simp] theorem e_brk (env : Sl) (hp : AH) : brkS env hp = .bk env hp := id rfl
@[simp] theorem e_cnt (env : Sl) (hp : AH) : cntS env hp = .ct env hp := id rfl
def seqO (o : OutS) (g : Fs) : OutS := match o with
  | .nx e h => g e h
  | o => o
@[simp] theorem e_seq (f g : Fs) (env : Sl) (hp : AH) : seqS f g env hp = seqO (f env hp) g := id rfl
@[simp] theorem e_seqO (e : Sl) (h : AH) (g : Fs) : seqO (.nx e h) g = g e h := id rfl
@[simp] theorem e_seqR (a : AV) (h : AH) (g : Fs) : seqO (.rt a h) g = .rt a h := id rfl
@[simp] theorem e_seqB (e : Sl) (h : AH) (g : Fs) : seqO (.bk e h) g = .bk e h := id rfl
@[simp] theorem e_seqC (e : Sl) (h : AH) (g : Fs) : seqO (.ct e h) g = .ct e h := id rfl
@[simp] theorem e_seqX (x : Exn) (e : Sl) (h : AH) (g : Fs) : seqO (.exc x e h) g = .exc x e h := id rfl
def ifSO (o : Out Bool) (f g : Fs) (env : Sl) : OutS := o.toS env fun b h => if b then f env h else g env h
@[simp] theorem e_if (c : Ft) (f g : Fs) (env : Sl) (hp : AH) : ifS c f g env hp = ifSO (c env hp) f g env := id rfl
@[simp] theorem e_ifSO1 (h : AH) (f g : Fs) (env : Sl) : ifSO (.ok true h) f g env = f env h := id rfl
@[simp] theorem e_ifSO0 (h : AH) (f g : Fs) (env : Sl) : ifSO (.ok false h) f g env = g env h := id rfl
def setO (i : Nat) (o : Out AV) (env : Sl) : OutS := o.toS env fun a h => .nx (env.set i (some a)) h
@[simp] theorem e_set (i : Nat) (f : Fe) (env : Sl) (hp : AH) : setS i f env hp = setO i (f env hp) env := id rfl
@[simp] theorem e_setO (i : Nat) (a : AV) (h : AH) (env : Sl) : setO i (.ok a h) env = .nx (env.set i (some a)) h := id rfl
@[simp] theorem e_setX (i : Nat) (x : Exn) (h : AH) (env : Sl) : setO i (.exc x h) env = .exc x env h := id rfl
def bndO (o : Option (Sl × AH)) : OutS := match o with
  | some (e, h) => .nx e h
  | none => .bad
@[simp] theorem e_bndO (e : Sl) (h : AH) : bndO (some (e, h)) = .nx e h := id rfl
def parO (bs : List Bt) (o : Out (List AV)) (env : Sl) : OutS := o.toS env fun as h => bndO (bindAll bs as env h)
@[simp] theorem e_par (bs : List Bt) (g : Fa) (env : Sl) (hp : AH) : parS bs g env hp = parO bs (g env hp) env := by
  unfold parS parO bndO
  cases g env hp with
  | ok as h => rfl
  | exc x h => rfl
  | bad => rfl
@[simp] theorem e_parO (bs : List Bt) (as : List AV) (h : AH) (env : Sl) : parO bs (.ok as h) env = bndO (bindAll bs as env h) := id rfl
def asgO (b : Bt) (o : Out AV) (env : Sl) : OutS := o.toS env fun a h => bndO (b a env h)
@[simp] theorem e_asg (b : Bt) (f : Fe) (env : Sl) (hp : AH) : asgS b f env hp = asgO b (f env hp) env := by
  unfold asgS asgO bndO
  cases f env hp <;> rfl
@[simp] theorem e_asgO (b : Bt) (a : AV) (h : AH) (env : Sl) : asgO b (.ok a h) env = bndO (b a env h) := id rfl
@[simp] theorem e_bindA0 (env : Sl) (hp : AH) : bindAll [] [] env hp = some (env, hp) := id rfl
def bindO (o : Option (Sl × AH)) (bs : List Bt) (as : List AV) : Option (Sl × AH) := match o with
  | some (e1, h1) => bindAll bs as e1 h1
  | none => none
@[simp] theorem e_bindA (b : Bt) (bs : List Bt) (a : AV) (as : List AV) (env : Sl) (hp : AH) : bindAll (b :: bs) (a :: as) env hp = bindO (b a env hp) bs as := id rfl
@[simp] theorem e_bindO (e : Sl) (h : AH) (bs : List Bt) (as : List AV) : bindO (some (e, h)) bs as = bindAll bs as e h := id rfl
@[simp] theorem e_nm (i : Nat) (a : AV) (env : Sl) (hp : AH) : nmB i a env hp = some (env.set i (some a), hp) := id rfl
@[simp] theorem e_tp2 (b1 b2 : Bt) (x y : D) (env : Sl) (hp : AH) : tpB [b1, b2] (.d (.tuple [x, y])) env hp = bindAll [b1, b2] [.d x, .d y] env hp := id rfl
@[simp] theorem e_tp3 (b1 b2 b3 : Bt) (x y z : D) (env : Sl) (hp : AH) : tpB [b1, b2, b3] (.d (.tuple [x, y, z])) env hp = bindAll [b1, b2, b3] [.d x, .d y, .d z] env hp := id rfl
/-! ### lists, slots -/
@[simp] theorem e_set0 {α : Type} (a b : α) (l : List α) : (a :: l).set 0 b = b :: l := id rfl
@[simp] theorem e_setS {α : Type} (a b : α) (l : List α) (n : Nat) : (a :: l).set (n + 1) b = a :: l.set n b := id rfl
@[simp] theorem e_at0 {α : Type} (a : α) (l : List α) : (a :: l)[0]? = some a := id rfl
@[simp] theorem e_atS {α : Type} (a : α) (l : List α) (n : Nat) : (a :: l)[n + 1]? = l[n]? := id rfl
@[simp] theorem e_start {N : Nat} (as : List AV) : startE N as = as.map some ++ List.replicate (N - as.length) none := id rfl
/-! ### what a def gives -/
def fnO (n : Nat) (hp : AH) (o : OutS) : Out AV := match o with
  | .nx _ h => trimA (.d .none) h n
  | .rt a h => trimA a h n
  | .exc x _ h => .exc x (if closedB n (h.take n) && decide (n ≤ h.length) then h.take n else h)
  | _ => .bad
@[simp] theorem e_fn (N : Nat) (g : Fs) (as : List AV) (hp : AH) : fnF N g as hp = fnO hp.length hp (g (startE N as) hp) := id rfl
@[simp] theorem e_fnN (n : Nat) (hp : AH) (e : Sl) (h : AH) : fnO n hp (.nx e h) = trimA (.d .none) h n := id rfl
@[simp] theorem e_fnR (n : Nat) (hp : AH) (a : AV) (h : AH) : fnO n hp (.rt a h) = trimA a h n := id rfl
/-- the heap is closed: its objects point into it -/
def Cl (hp : AH) : Prop := closedB hp.length hp = true
theorem trim_same {x : D} {hp : AH} (c : Cl hp) : trimA (.d x) hp hp.length = .ok (.d x) hp := by
  unfold trimA
  rw [List.take_length, c]
  simp
theorem trim_app {x : D} {hp l : AH} (c : Cl hp) : trimA (.d x) (hp ++ l) hp.length = .ok (.d x) hp := by
  unfold trimA
  rw [List.take_left' rfl, c]
  simp
theorem trim_lst {xs : List D} {i : Nat} {hp l : AH} (c : Cl hp) (h : l[i]? = some (.lst xs)) : trimA (.r (hp.length + i)) (hp ++ l) hp.length = .ok (.d (.list xs)) hp := by
  have e : (hp ++ l)[hp.length + i]? = some (.lst xs) := by rw [List.getElem?_append_right (by omega), Nat.add_sub_cancel_left, h]
  unfold trimA
  rw [List.take_left' rfl, c]
  simp [e]
theorem trim_lst0 {xs : List D} {hp l : AH} (c : Cl hp) : trimA (.r hp.length) (hp ++ .lst xs :: l) hp.length = .ok (.d (.list xs)) hp := trim_lst (i := 0) c rfl
theorem trim_any {x : D} {h : AH} {n : Nat} (l : n ≤ h.length) (c : closedB n (h.take n) = true) : trimA (.d x) h n = .ok (.d x) (h.take n) := by
  unfold trimA
  rw [c]
  simp [l]
end Pin
end
-- Ev2
section
set_option linter.all false
set_option maxRecDepth 100000
/-! Ev, part 2: the heap, loops. -/
namespace Pin
open PySem PySem.Spec PyProof.Rows L2

/-! ### heaps -/
@[simp] theorem h_at0 {α : Type} (hp l : List α) : (hp ++ l)[hp.length]? = l[0]? := by
  rw [List.getElem?_append_right (Nat.le_refl _), Nat.sub_self]
@[simp] theorem h_atS {α : Type} (hp l : List α) (i : Nat) : (hp ++ l)[hp.length + i]? = l[i]? := by
  rw [List.getElem?_append_right (by omega), Nat.add_sub_cancel_left]
theorem h_old {α : Type} {hp l : List α} {n : Nat} {o : α} (h : hp[n]? = some o) : (hp ++ l)[n]? = some o := by
  rw [List.getElem?_append_left (List.getElem?_eq_some_iff.mp h).1]; exact h
@[simp] theorem h_set0 {α : Type} (hp l : List α) (o : α) : (hp ++ l).set hp.length o = hp ++ l.set 0 o := by
  rw [List.set_append_right hp.length o (Nat.le_refl _), Nat.sub_self]
@[simp] theorem h_setS {α : Type} (hp l : List α) (i : Nat) (o : α) : (hp ++ l).set (hp.length + i) o = hp ++ l.set i o := by
  rw [List.set_append_right (hp.length + i) o (by omega), Nat.add_sub_cancel_left]
theorem h_setOld {α : Type} {hp l : List α} {n : Nat} {o : α} (h : n < hp.length) : (hp ++ l).set n o = hp.set n o ++ l := by
  rw [List.set_append_left n o h]
/-- no instance in it -/
def noIns (l : AH) : Bool := l.all fun o => match o with
  | .ins _ _ => false
  | _ => true
@[simp] theorem noIns_nil : noIns [] = true := id rfl
@[simp] theorem noIns_l (xs : List D) (l : AH) : noIns (.lst xs :: l) = noIns l := id rfl
@[simp] theorem noIns_d (xs : List (Str × D)) (l : AH) : noIns (.dct xs :: l) = noIns l := id rfl
def okO (n : Nat) (o : AObj) : Bool := match o with
  | .ins _ fs => fs.all fun q => avB n q.2
  | _ => true
theorem closed_all (n : Nat) (h : AH) : closedB n h = h.all (okO n) := rfl
theorem okO_mono {n m : Nat} (h : n ≤ m) {o : AObj} (e : okO n o = true) : okO m o = true := by
  cases o with
  | ins C fs =>
    simp only [okO, List.all_eq_true] at e ⊢
    intro q hq
    have := e q hq
    cases hv : q.2 with
    | d x => rfl
    | r i => rw [hv] at this; simp only [avB, decide_eq_true_eq] at this ⊢; omega
  | lst xs => rfl
  | dct xs => rfl
theorem closed_mono {n m : Nat} (h : n ≤ m) {l : AH} (e : closedB n l = true) : closedB m l = true := by
  rw [closed_all, List.all_eq_true] at e ⊢
  exact fun o ho => okO_mono h (e o ho)
theorem closed_noIns {n : Nat} {l : AH} (e : noIns l = true) : closedB n l = true := by
  rw [closed_all, List.all_eq_true]
  unfold noIns at e
  rw [List.all_eq_true] at e
  intro o ho
  have := e o ho
  cases o <;> simp_all [okO]
theorem closed_app {n : Nat} {h l : AH} (e : closedB n h = true) (e' : closedB n l = true) : closedB n (h ++ l) = true := by
  rw [closed_all] at *
  rw [List.all_append, e, e']; rfl
theorem Cl.app {hp l : AH} (c : Cl hp) (e : noIns l = true) : Cl (hp ++ l) := by
  unfold Cl
  rw [List.length_append]
  exact closed_app (closed_mono (Nat.le_add_right _ _) c) (closed_noIns e)
theorem Cl.app' {hp l : AH} (c : Cl hp) (e : closedB (hp.length + l.length) l = true) : Cl (hp ++ l) := by
  unfold Cl
  rw [List.length_append]
  exact closed_app (closed_mono (Nat.le_add_right _ _) c) e
theorem Cl.set {hp : AH} (c : Cl hp) {n : Nat} {o : AObj} (e : okO hp.length o = true) : Cl (hp.set n o) := by
  unfold Cl at *
  rw [List.length_set]
  rw [closed_all, List.all_eq_true] at c ⊢
  intro x hx
  rcases List.mem_or_eq_of_mem_set hx with h | h
  · exact c x h
  · rw [h]; exact e
theorem Cl.nil : Cl [] := rfl

theorem trim_eq {x : D} {h : AH} {n : Nat} (c : Cl h) (e : h.length = n) : trimA (.d x) h n = .ok (.d x) h := by subst e; exact trim_same c
theorem trim_apq {x : D} {h l : AH} {n : Nat} (c : Cl h) (e : h.length = n) : trimA (.d x) (h ++ l) n = .ok (.d x) h := by subst e; exact trim_app c
theorem trim_lsq {xs : List D} {h l : AH} {n : Nat} (c : Cl h) (e : h.length = n) : trimA (.r n) (h ++ .lst xs :: l) n = .ok (.d (.list xs)) h := by subst e; exact trim_lst0 c
theorem trim_lsqi {xs : List D} {h l : AH} {n i : Nat} (c : Cl h) (e : h.length = n) (q : l[i]? = some (.lst xs)) : trimA (.r (n + i)) (h ++ l) n = .ok (.d (.list xs)) h := by subst e; exact trim_lst c q
/-! ### loops -/
theorem forD_inv {b : Bt} {body : Fs} (I : List D → Sl → AH → Prop) (Q : OutS → Prop) (stop : ∀ env hp, I [] env hp → Q (.nx env hp))
    (step : ∀ d ds env hp, I (d :: ds) env hp → ∃ e1 h1, b (.d d) env hp = some (e1, h1) ∧ ((∃ e h, body e1 h1 = .nx e h ∧ I ds e h) ∨ (∃ e h, body e1 h1 = .ct e h ∧ I ds e h) ∨ (∃ e h, body e1 h1 = .bk e h ∧ Q (.nx e h)) ∨ (∃ a h, body e1 h1 = .rt a h ∧ Q (.rt a h)) ∨ (∃ x e h, body e1 h1 = .exc x e h ∧ Q (.exc x e h)))) :
    ∀ {ds env hp}, I ds env hp → Q (forD b body ds env hp)
  | [], env, hp, h => stop env hp h
  | d :: ds, env, hp, h => by
    obtain ⟨e1, h1, e, r⟩ := step d ds env hp h
    unfold forD
    rw [e]
    rcases r with ⟨e2, h2, q, i⟩ | ⟨e2, h2, q, i⟩ | ⟨e2, h2, q, i⟩ | ⟨a, h2, q, i⟩ | ⟨x, e2, h2, q, i⟩
    · simp only [q]; exact forD_inv I Q stop step i
    · simp only [q]; exact forD_inv I Q stop step i
    · simp only [q]; exact i
    · simp only [q]; exact i
    · simp only [q]; exact i
def forO (o : Out (List D)) (b : Bt) (body : Fs) (env : Sl) : OutS := o.toS env fun ds h => forD b body ds env h
@[simp] theorem e_for (it : Fi) (b : Bt) (body : Fs) (env : Sl) (hp : AH) : forS it b body env hp = forO (it env hp) b body env := id rfl
@[simp] theorem e_forO (ds : List D) (h : AH) (b : Bt) (body : Fs) (env : Sl) : forO (.ok ds h) b body env = forD b body ds env h := id rfl
def itO (o : Out AV) : Out (List D) := o.bind fun a h1 => match a with
  | .d (.list xs) => .ok xs h1
  | .d (.tuple xs) => .ok xs h1
  | _ => .bad
@[simp] theorem e_it (f : Fe) (env : Sl) (hp : AH) : itF f env hp = itO (f env hp) := id rfl
@[simp] theorem e_itT (xs : List D) (h : AH) : itO (.ok (.d (.tuple xs)) h) = .ok xs h := id rfl
@[simp] theorem e_itL (xs : List D) (h : AH) : itO (.ok (.d (.list xs)) h) = .ok xs h := id rfl
def rgO (o : Out AV) : Out (List D) := o.bind fun a h1 => match a with
  | .d (.int n) => if -1000000 < n ∧ n < 1000000 then .ok ((List.range n.toNat).map fun (i : Nat) => PyData.int (i : Int)) h1 else .bad
  | _ => .bad
@[simp] theorem e_rg (f : Fe) (env : Sl) (hp : AH) : rgF f env hp = rgO (f env hp) := id rfl
theorem rgO_int (n : Int) (h : AH) : rgO (.ok (.d (.int n)) h) = if -1000000 < n ∧ n < 1000000 then .ok ((List.range n.toNat).map fun (i : Nat) => PyData.int (i : Int)) h else .bad := rfl
theorem rg_le {n : Nat} (l : n < 100000) : -1000000 < (n : Int) ∧ (n : Int) < 1000000 := ⟨by omega, by omega⟩
theorem e_rgO {n : Nat} (h : AH) (l : n < 100000) : rgO (.ok (.d (.int n)) h) = .ok ((List.range n).map fun (i : Nat) => PyData.int (i : Int)) h := by
  rw [rgO_int, if_pos (rg_le l), Int.toNat_natCast]
theorem forR_inv {b : Bt} {body : Fs} {n : Nat} (I : Nat → Sl → AH → Prop) (Q : OutS → Prop) (stop : ∀ env hp, I n env hp → Q (.nx env hp))
    (step : ∀ k env hp, k < n → I k env hp → ∃ e1 h1, b (.d (.int (k : Int))) env hp = some (e1, h1) ∧ ((∃ e h, body e1 h1 = .nx e h ∧ I (k + 1) e h) ∨ (∃ e h, body e1 h1 = .ct e h ∧ I (k + 1) e h) ∨ (∃ e h, body e1 h1 = .bk e h ∧ Q (.nx e h)) ∨ (∃ a h, body e1 h1 = .rt a h ∧ Q (.rt a h)) ∨ (∃ x e h, body e1 h1 = .exc x e h ∧ Q (.exc x e h)))) {env : Sl} {hp : AH} (h0 : I 0 env hp) :
    Q (forD b body ((List.range n).map fun (i : Nat) => PyData.int (i : Int)) env hp) := by
  refine forD_inv (fun rem env hp => ∃ k, k ≤ n ∧ rem = ((List.range n).drop k).map (fun (i : Nat) => PyData.int (i : Int)) ∧ I k env hp) Q (fun env hp ⟨k, hk, e, i⟩ => ?_) (fun d ds env hp ⟨k, hk, e, i⟩ => ?_) ⟨0, Nat.zero_le _, rfl, h0⟩
  · have : k = n := by
      rcases Nat.lt_or_ge k n with h | h
      · rw [List.drop_eq_getElem_cons (by simpa using h)] at e; cases e
      · omega
    subst this; exact stop env hp i
  · have hk' : k < n := by
      rcases Nat.lt_or_ge k n with h | h
      · exact h
      · rw [List.drop_of_length_le (by simpa using h)] at e; cases e
    rw [List.drop_eq_getElem_cons (by simpa using hk')] at e
    simp only [List.getElem_range, List.map_cons, List.cons.injEq] at e
    obtain ⟨rfl, e2⟩ := e
    obtain ⟨e1, h1, q, r⟩ := step k env hp hk' i
    refine ⟨e1, h1, q, ?_⟩
    rcases r with ⟨e, h, q, i⟩ | ⟨e, h, q, i⟩ | r
    · exact .inl ⟨e, h, q, k + 1, hk', e2, i⟩
    · exact .inr (.inl ⟨e, h, q, k + 1, hk', e2, i⟩)
    · exact .inr (.inr r)
/-- a while, by its own recursion -/
theorem while_inv {c : Ft} {body : Fs} (I : Nat → Sl → AH → Prop) (Q : OutS → Prop)
    (step : ∀ k env hp, I k env hp → 0 < k ∧ ∃ t h, c env hp = .ok t h ∧ ((t = false ∧ Q (.nx env h)) ∨ (t = true ∧ ((∃ e h', body env h = .nx e h' ∧ I (k - 1) e h') ∨ (∃ e h', body env h = .ct e h' ∧ I (k - 1) e h') ∨ (∃ e h', body env h = .bk e h' ∧ Q (.nx e h')) ∨ (∃ a h', body env h = .rt a h' ∧ Q (.rt a h')) ∨ (∃ x e h', body env h = .exc x e h' ∧ Q (.exc x e h')))))) :
    ∀ {k env hp}, I k env hp → Q (whileD c body k env hp)
  | 0, env, hp, h => absurd (step 0 env hp h).1 (by omega)
  | k + 1, env, hp, h => by
    obtain ⟨_, t, h1, e, r⟩ := step _ env hp h
    unfold whileD
    rw [e]
    rcases r with ⟨rfl, q⟩ | ⟨rfl, r⟩
    · exact q
    · rcases r with ⟨e2, h2, q, i⟩ | ⟨e2, h2, q, i⟩ | ⟨e2, h2, q, i⟩ | ⟨a, h2, q, i⟩ | ⟨x, e2, h2, q, i⟩
      · simp only [Out.toS, q, if_true]; exact while_inv I Q step (k := k) i
      · simp only [Out.toS, q, if_true]; exact while_inv I Q step (k := k) i
      · simp only [Out.toS, q, if_true]; exact i
      · simp only [Out.toS, q, if_true]; exact i
      · simp only [Out.toS, q, if_true]; exact i

/-! ### comprehensions -/
/-- a comprehension that changes nothing -/
theorem compD_pure {b : Bt} {c : Ft} {elt : Fe} {env : Sl} {hp : AH} {p : D → Bool} {f : D → D} : ∀ {ds : List D}, (∀ d ∈ ds, ∃ e1, b (.d d) env hp = some (e1, hp) ∧ c e1 hp = .ok (p d) hp ∧ (p d = true → elt e1 hp = .ok (.d (f d)) hp)) → compD b c elt env ds hp = .ok ((ds.filter p).map f) hp
  | [], _ => rfl
  | d :: ds, h => by
    obtain ⟨e1, h1, h2, h3⟩ := h d (List.mem_cons_self)
    have ih := compD_pure (ds := ds) fun x hx => h x (List.mem_cons_of_mem _ hx)
    unfold compD
    rw [h1]
    simp only [h2]
    cases hp' : p d with
    | true =>
      simp only [h3 hp', ih]
      rw [List.filter_cons_of_pos hp', List.map_cons]
    | false =>
      simp only [ih]
      rw [List.filter_cons_of_neg (by simp [hp'])]
def compO (o : Out (List D)) (b : Bt) (c : Ft) (elt : Fe) (own : List Nat) (env : Sl) : Out AObj := o.bind fun ds h1 => if ds.length ≤ bigLen then match compD b c elt (wipeE env own) ds h1 with
    | .ok xs h2 => .ok (.lst xs) h2
    | _ => .bad else .bad
@[simp] theorem e_comp (it : Fi) (b : Bt) (c : Ft) (elt : Fe) (own : List Nat) (env : Sl) (hp : AH) : compN it b c elt own env hp = compO (it env hp) b c elt own env := id rfl
theorem e_compO {ds xs : List D} {h h2 : AH} {b : Bt} {c : Ft} {elt : Fe} {own : List Nat} {env : Sl} (l : ds.length ≤ bigLen) (e : compD b c elt (wipeE env own) ds h = .ok xs h2) : compO (.ok ds h) b c elt own env = .ok (.lst xs) h2 := by
  show (if ds.length ≤ bigLen then match compD b c elt (wipeE env own) ds h with | .ok xs h2 => Out.ok (AObj.lst xs) h2 | _ => .bad else .bad) = _
  rw [if_pos l, e]
@[simp] theorem e_wipe0 (env : Sl) : wipeE env [] = env := id rfl
@[simp] theorem e_wipeS (env : Sl) (v : Nat) (vs : List Nat) : wipeE env (v :: vs) = (wipeE env vs).set v none := id rfl
@[simp] theorem e_yes (env : Sl) (hp : AH) : yesT env hp = .ok true hp := id rfl
@[simp] theorem e_set0o (a : Option AV) (b : Option AV) (l : Sl) : (a :: l).set 0 b = b :: l := id rfl
/-- a comprehension whose items change things -/
theorem compD_rel {b : Bt} {c : Ft} {elt : Fe} {env : Sl} (I : AH → Prop) (R : D → D → Prop) : ∀ {ds : List D} {hp : AH}, (∀ d ∈ ds, ∀ hp, I hp → ∃ e1 h1, b (.d d) env hp = some (e1, h1) ∧ ((∃ h2, c e1 h1 = .ok false h2 ∧ I h2) ∨ ∃ h2 x h3, c e1 h1 = .ok true h2 ∧ elt e1 h2 = .ok (.d x) h3 ∧ R d x ∧ I h3)) → I hp → ∃ xs h', compD b c elt env ds hp = .ok xs h' ∧ I h' ∧ ∀ x ∈ xs, ∃ d ∈ ds, R d x
  | [], hp, _, i => ⟨[], hp, rfl, i, fun x hx => by cases hx⟩
  | d :: ds, hp, h, i => by
    obtain ⟨e1, h1, q, r⟩ := h d (List.mem_cons_self) hp i
    have hh := fun x (hx : x ∈ ds) => h x (List.mem_cons_of_mem _ hx)
    unfold compD
    rw [q]
    rcases r with ⟨h2, qc, i2⟩ | ⟨h2, x, h3, qc, qe, hr, i3⟩
    · obtain ⟨xs, h', e, i', r'⟩ := compD_rel I R (ds := ds) (hp := h2) hh i2
      simp only [qc, e]
      exact ⟨xs, h', rfl, i', fun x hx => let ⟨d', hd', q⟩ := r' x hx; ⟨d', List.mem_cons_of_mem _ hd', q⟩⟩
    · obtain ⟨xs, h', e, i', r'⟩ := compD_rel I R (ds := ds) (hp := h3) hh i3
      simp only [qc, qe, e]
      refine ⟨x :: xs, h', rfl, i', fun y hy => ?_⟩
      rcases List.mem_cons.mp hy with rfl | hy
      · exact ⟨d, List.mem_cons_self, hr⟩
      · obtain ⟨d', hd', q⟩ := r' y hy
        exact ⟨d', List.mem_cons_of_mem _ hd', q⟩
/-- .. each of which gives one -/
theorem compD_each {b : Bt} {c : Ft} {elt : Fe} {env : Sl} (I : AH → Prop) (R : D → D → Prop) : ∀ {ds : List D} {hp : AH}, (∀ d ∈ ds, ∀ hp, I hp → ∃ e1 h1 h2 x h3, b (.d d) env hp = some (e1, h1) ∧ c e1 h1 = .ok true h2 ∧ elt e1 h2 = .ok (.d x) h3 ∧ R d x ∧ I h3) → I hp → ∃ xs h', compD b c elt env ds hp = .ok xs h' ∧ I h' ∧ Paired R ds xs
  | [], hp, _, i => ⟨[], hp, rfl, i, .nil⟩
  | d :: ds, hp, h, i => by
    obtain ⟨e1, h1, h2, x, h3, q, qc, qe, hr, i3⟩ := h d (List.mem_cons_self) hp i
    obtain ⟨xs, h', e, i', r'⟩ := compD_each I R (ds := ds) (hp := h3) (fun x hx => h x (List.mem_cons_of_mem _ hx)) i3
    unfold compD
    rw [q]
    simp only [qc, qe, e]
    exact ⟨x :: xs, h', rfl, i', .cons hr r'⟩
end Pin
end
-- Ev3
section
set_option linter.all false
set_option maxRecDepth 100000
/-! Ev, part 3: operators on data; data of texts and tuples alone. -/
namespace Pin
open PySem PySem.Spec PyProof.Rows L2

/-! ### data of texts and tuples -/
mutual
def sd : D → Bool
  | .str _ => true
  | .tuple xs => sdAll xs
  | _ => false
def sdAll : List D → Bool
  | [] => true
  | x :: xs => sd x && sdAll xs
end
@[simp] theorem sd_str (s : Str) : sd (.str s) = true := by simp [sd]
@[simp] theorem sd_tup (xs : List D) : sd (.tuple xs) = sdAll xs := by simp [sd]
@[simp] theorem sdAll_nil : sdAll [] = true := by simp [sdAll]
@[simp] theorem sdAll_cons (x : D) (xs : List D) : sdAll (x :: xs) = (sd x && sdAll xs) := by simp [sdAll]
theorem sdAll_iff : ∀ {xs : List D}, sdAll xs = true ↔ ∀ x ∈ xs, sd x = true
  | [] => by simp
  | x :: xs => by simp [sdAll_iff (xs := xs)]
mutual
theorem eqv_sd : ∀ (x y : D), sd y = true → (PyData.eqv x y = true ↔ x = y)
  | x, .str s, _ => by cases x <;> simp [PyData.eqv]
  | x, .tuple ys, h => by
    have := fun xs => eqvAll_sd xs ys (by simpa using h)
    cases x <;> simp [PyData.eqv, this]
  | _, .none, h => by simp [sd] at h
  | _, .bool _, h => by simp [sd] at h
  | _, .int _, h => by simp [sd] at h
  | _, .list _, h => by simp [sd] at h
  | _, .dict _, h => by simp [sd] at h
theorem eqvAll_sd : ∀ (xs ys : List D), sdAll ys = true → (PyData.eqvAll xs ys = true ↔ xs = ys)
  | [], [], _ => by simp [PyData.eqvAll]
  | [], _ :: _, _ => by simp [PyData.eqvAll]
  | _ :: _, [], _ => by simp [PyData.eqvAll]
  | x :: xs, y :: ys, h => by
    have h' : sd y = true ∧ sdAll ys = true := by simpa using h
    simp [PyData.eqvAll, eqv_sd x y h'.1, eqvAll_sd xs ys h'.2]
end
theorem eqv_self {x : D} (h : sd x = true) : PyData.eqv x x = true := (eqv_sd x x h).mpr rfl
open Classical in
theorem eqv_dec {x y : D} (h : sd y = true) : PyData.eqv x y = decide (x = y) := by
  by_cases e : x = y
  · rw [decide_eq_true e]; exact (eqv_sd x y h).mpr e
  · rw [decide_eq_false e]
    cases q : PyData.eqv x y with
    | false => rfl
    | true => exact absurd ((eqv_sd x y h).mp q) e
@[simp] theorem eqv_str (a b : Str) : PyData.eqv (.str a) (.str b) = decide (a = b) := by
  simp only [PyData.eqv]; rfl
@[simp] theorem eqv_int (a b : Int) : PyData.eqv (.int a) (.int b) = decide (a = b) := by
  simp only [PyData.eqv]; rfl
@[simp] theorem eqv_bool (a b : Bool) : PyData.eqv (.bool a) (.bool b) = decide (a = b) := by
  simp only [PyData.eqv]; cases a <;> cases b <;> rfl

/-! ### operators -/
theorem eqV_ok {x y : D} {hp : AH} (h : x.depth ≤ 64 ∨ y.depth ≤ 64) : eqV (.d x) (.d y) hp = .ok (.d (.bool (PyData.eqv x y))) hp := by
  show (if min x.depth y.depth ≤ 64 then Out.ok (AV.d (.bool (PyData.eqv x y))) hp else .bad) = _
  rw [if_pos (by omega)]
theorem neV_ok {x y : D} {hp : AH} (h : x.depth ≤ 64 ∨ y.depth ≤ 64) : neV (.d x) (.d y) hp = .ok (.d (.bool !(PyData.eqv x y))) hp := by
  show (if min x.depth y.depth ≤ 64 then Out.ok (AV.d (.bool !(PyData.eqv x y))) hp else .bad) = _
  rw [if_pos (by omega)]
@[simp] theorem depth_str (s : Str) : (PyData.str s).depth = 0 := by simp [PyData.depth]
@[simp] theorem depth_int (s : Int) : (PyData.int s).depth = 0 := by simp [PyData.depth]
@[simp] theorem depth_bool (s : Bool) : (PyData.bool s).depth = 0 := by simp [PyData.depth]
@[simp] theorem depth_none : (PyData.none).depth = 0 := by simp [PyData.depth]
@[simp] theorem depth_tup (xs : List D) : (PyData.tuple xs).depth = PyData.depthAll xs + 1 := by simp [PyData.depth]
@[simp] theorem depth_lst (xs : List D) : (PyData.list xs).depth = PyData.depthAll xs + 1 := by simp [PyData.depth]
@[simp] theorem depthAll_nil : PyData.depthAll [] = 0 := by simp [PyData.depthAll]
@[simp] theorem depthAll_cons (x : D) (xs : List D) : PyData.depthAll (x :: xs) = max x.depth (PyData.depthAll xs) := by simp [PyData.depthAll]

theorem depthAll_iff : ∀ {xs : List D} {n : Nat}, PyData.depthAll xs ≤ n ↔ ∀ x ∈ xs, x.depth ≤ n
  | [], n => by simp
  | x :: xs, n => by simp [depthAll_iff (xs := xs), Nat.max_le]
theorem at_nat {α : Type} {xs : List α} {j : Nat} {v : α} (h : xs[j]? = some v) : atI xs (j : Int) = some v := by
  have l := (List.getElem?_eq_some_iff.mp h).1
  unfold atI L2.ixN
  rw [if_pos (by omega), if_pos (by omega)]
  simpa using h
theorem ixV_t {xs : List D} {i : Int} {d : D} {hp : AH} (e : atI xs i = some d) : ixV (.d (.tuple xs)) (.d (.int i)) hp = .ok (.d d) hp := by
  simp only [ixV, sqOf, tpOf, e]
theorem ixV_l {xs : List D} {i : Int} {d : D} {hp : AH} (e : atI xs i = some d) : ixV (.d (.list xs)) (.d (.int i)) hp = .ok (.d d) hp := by
  simp only [ixV, sqOf, tpOf, lsOf, e]
theorem ixV_lr {n : Nat} {xs : List D} {i : Int} {d : D} {hp : AH} (h : hp[n]? = some (.lst xs)) (e : atI xs i = some d) : ixV (.r n) (.d (.int i)) hp = .ok (.d d) hp := by
  simp only [ixV, sqOf, tpOf, lsOf, h, e]
theorem ixV_r {n : Nat} {kvs : List (Str × D)} {k : Str} {d : D} {hp : AH} (h : hp[n]? = some (.dct kvs)) (e : getD kvs k = some d) : ixV (.r n) (.d (.str k)) hp = .ok (.d d) hp := by
  simp only [ixV, dcOf, h, e]
/-! tuples that are written, and places in them -/
@[simp] theorem ix0 (x : D) (xs : List D) (hp : AH) : ixV (.d (.tuple (x :: xs))) (.d (.int 0)) hp = .ok (.d x) hp := ixV_t (at_nat (j := 0) rfl)
@[simp] theorem ix1 (x y : D) (xs : List D) (hp : AH) : ixV (.d (.tuple (x :: y :: xs))) (.d (.int 1)) hp = .ok (.d y) hp := ixV_t (at_nat (j := 1) rfl)
@[simp] theorem ix2 (x y z : D) (xs : List D) (hp : AH) : ixV (.d (.tuple (x :: y :: z :: xs))) (.d (.int 2)) hp = .ok (.d z) hp := ixV_t (at_nat (j := 2) rfl)
@[simp] theorem ix3 (x y z u : D) (xs : List D) (hp : AH) : ixV (.d (.tuple (x :: y :: z :: u :: xs))) (.d (.int 3)) hp = .ok (.d u) hp := ixV_t (at_nat (j := 3) rfl)
theorem inV_l {x : D} {ys : List D} {hp : AH} (h : x.depth ≤ 64 ∨ PyData.depthAll ys ≤ 64) : inV (.d x) (.d (.list ys)) hp = .ok (.d (.bool (ys.any fun y => PyData.eqv y x))) hp := by
  simp only [inV, sqOf, tpOf, lsOf]
  rw [if_pos (by omega)]
theorem inV_t {x : D} {ys : List D} {hp : AH} (h : x.depth ≤ 64 ∨ PyData.depthAll ys ≤ 64) : inV (.d x) (.d (.tuple ys)) hp = .ok (.d (.bool (ys.any fun y => PyData.eqv y x))) hp := by
  simp only [inV, sqOf, tpOf, lsOf]
  rw [if_pos (by omega)]
theorem inV_lr {n : Nat} {x : D} {ys : List D} {hp : AH} (q : hp[n]? = some (.lst ys)) (h : x.depth ≤ 64 ∨ PyData.depthAll ys ≤ 64) : inV (.d x) (.r n) hp = .ok (.d (.bool (ys.any fun y => PyData.eqv y x))) hp := by
  simp only [inV, sqOf, tpOf, lsOf, q]
  rw [if_pos (by omega)]
theorem inV_r {n : Nat} {k : Str} {kvs : List (Str × D)} {hp : AH} (q : hp[n]? = some (.dct kvs)) : inV (.d (.str k)) (.r n) hp = .ok (.d (.bool (getD kvs k).isSome)) hp := by
  simp only [inV, sqOf, tpOf, lsOf, dcOf, q]
theorem niV_l {x : D} {ys : List D} {hp : AH} (h : x.depth ≤ 64 ∨ PyData.depthAll ys ≤ 64) : niV (.d x) (.d (.list ys)) hp = .ok (.d (.bool !(ys.any fun y => PyData.eqv y x))) hp := by
  simp only [niV, sqOf, tpOf, lsOf]
  rw [if_pos (by omega)]
theorem niV_t {x : D} {ys : List D} {hp : AH} (h : x.depth ≤ 64 ∨ PyData.depthAll ys ≤ 64) : niV (.d x) (.d (.tuple ys)) hp = .ok (.d (.bool !(ys.any fun y => PyData.eqv y x))) hp := by
  simp only [niV, sqOf, tpOf, lsOf]
  rw [if_pos (by omega)]
theorem niV_lr {n : Nat} {x : D} {ys : List D} {hp : AH} (q : hp[n]? = some (.lst ys)) (h : x.depth ≤ 64 ∨ PyData.depthAll ys ≤ 64) : niV (.d x) (.r n) hp = .ok (.d (.bool !(ys.any fun y => PyData.eqv y x))) hp := by
  simp only [niV, sqOf, tpOf, lsOf, q]
  rw [if_pos (by omega)]
theorem niV_r {n : Nat} {k : Str} {kvs : List (Str × D)} {hp : AH} (q : hp[n]? = some (.dct kvs)) : niV (.d (.str k)) (.r n) hp = .ok (.d (.bool !(getD kvs k).isSome)) hp := by
  simp only [niV, sqOf, tpOf, lsOf, dcOf, q]
@[simp] theorem is_none (a : AV) (hp : AH) : isV a (.d .none) hp = .ok (.d (.bool (isNone a))) hp := id rfl
@[simp] theorem isnt_none (a : AV) (hp : AH) : isntV a (.d .none) hp = .ok (.d (.bool !(isNone a))) hp := id rfl
@[simp] theorem isNone_none : isNone (.d .none) = true := id rfl
@[simp] theorem isNone_tup (xs : List D) : isNone (.d (.tuple xs)) = false := id rfl
@[simp] theorem isNone_str (x : Str) : isNone (.d (.str x)) = false := id rfl
@[simp] theorem add_int (i j : Int) (hp : AH) : addV (.d (.int i)) (.d (.int j)) hp = .ok (.d (.int (i + j))) hp := id rfl
@[simp] theorem sub_int (i j : Int) (hp : AH) : subV (.d (.int i)) (.d (.int j)) hp = .ok (.d (.int (i - j))) hp := id rfl
theorem mul_int {i j : Int} {hp : AH} (h : i.natAbs.log2 + j.natAbs.log2 < 1000000) : mulV (.d (.int i)) (.d (.int j)) hp = .ok (.d (.int (i * j))) hp := by
  simp only [mulV]
  rw [if_pos h]
theorem mod_int {i j : Int} {hp : AH} (h : 0 < j) : modV (.d (.int i)) (.d (.int j)) hp = .ok (.d (.int (i % j))) hp := by
  simp only [modV]
  rw [if_pos h]
theorem fdiv_int {i j : Int} {hp : AH} (h : 0 < j ∧ j.natAbs.log2 < 9000) : fdivV (.d (.int i)) (.d (.int j)) hp = .ok (.d (.int (i / j))) hp := by
  simp only [fdivV]
  rw [if_pos h]
theorem add_tup {xs ys : List D} {hp : AH} (h : xs.length + ys.length ≤ bigLen) : addV (.d (.tuple xs)) (.d (.tuple ys)) hp = .ok (.d (.tuple (xs ++ ys))) hp := by
  simp only [addV]
  rw [if_pos h]
theorem add_lst {xs ys : List D} {hp : AH} (h : xs.length + ys.length ≤ bigLen) : addV (.d (.list xs)) (.d (.list ys)) hp = .ok (.d (.list (xs ++ ys))) hp := by
  simp only [addV, lsOf]
  rw [if_pos h]
@[simp] theorem cmp_int (p : Int → Int → Bool) (i j : Int) (hp : AH) : iCmp p (.d (.int i)) (.d (.int j)) hp = .ok (.d (.bool (p i j))) hp := id rfl
@[simp] theorem len_t (xs : List D) (hp : AH) : lenC [.d (.tuple xs)] hp = .ok (.d (.int xs.length)) hp := id rfl
@[simp] theorem len_l (xs : List D) (hp : AH) : lenC [.d (.list xs)] hp = .ok (.d (.int xs.length)) hp := id rfl
theorem len_lr {n : Nat} {xs : List D} {hp : AH} (h : hp[n]? = some (.lst xs)) : lenC [.r n] hp = .ok (.d (.int xs.length)) hp := by
  simp only [lenC, sqOf, tpOf, lsOf, h]
@[simp] theorem int_int (i : Int) (hp : AH) : intC [.d (.int i)] hp = .ok (.d (.int i)) hp := id rfl
@[simp] theorem abs_int (i : Int) (hp : AH) : absC [.d (.int i)] hp = .ok (.d (.int (if i < 0 then -i else i))) hp := id rfl
@[simp] theorem tuple_t (xs : List D) (hp : AH) : tupleC [.d (.tuple xs)] hp = .ok (.d (.tuple xs)) hp := id rfl
@[simp] theorem tuple_l (xs : List D) (hp : AH) : tupleC [.d (.list xs)] hp = .ok (.d (.tuple xs)) hp := id rfl
theorem tuple_lr {n : Nat} {xs : List D} {hp : AH} (h : hp[n]? = some (.lst xs)) : tupleC [.r n] hp = .ok (.d (.tuple xs)) hp := by
  simp only [tupleC, sqOf, tpOf, lsOf, h]
@[simp] theorem list_t (xs : List D) (hp : AH) : listC [.d (.tuple xs)] hp = .ok (.d (.list xs)) hp := id rfl
@[simp] theorem list_l (xs : List D) (hp : AH) : listC [.d (.list xs)] hp = .ok (.d (.list xs)) hp := id rfl
theorem bools_map (bs : List Bool) : bools (bs.map PyData.bool) = some bs := by
  induction bs with
  | nil => rfl
  | cons b bs ih => simp [bools, ih]
theorem all_bs (bs : List Bool) (hp : AH) : allC [.d (.list (bs.map PyData.bool))] hp = .ok (.d (.bool (bs.all id))) hp := by
  simp only [allC, lsOf, bools_map]
theorem any_bs (bs : List Bool) (hp : AH) : anyC [.d (.list (bs.map PyData.bool))] hp = .ok (.d (.bool (bs.any id))) hp := by
  simp only [anyC, lsOf, bools_map]
theorem all_f {α : Type} (f : α → Bool) (l : List α) (hp : AH) : allC [.d (.list (l.map fun x => PyData.bool (f x)))] hp = .ok (.d (.bool (l.all f))) hp := by
  have := all_bs (l.map f) hp
  simpa [List.map_map, Function.comp_def, List.all_map] using this
theorem isi_of (T : String) (f : Fe) {env : Sl} {hp h1 : AH} {x : D} {b : Bool} (e : f env hp = .ok (.d x) h1) (k : kitB (tyName x) T = some b) : isiF T f env hp = .ok (.d (.bool b)) h1 := by
  unfold isiF
  rw [e]
  simp only [Out.bind, k]
/-! ### objects -/
theorem big_lt {n : Nat} (h : n < 100000) : n < bigLen := Nat.lt_of_lt_of_le h (by decide)
theorem big_le {n : Nat} (h : n ≤ 100000) : n ≤ bigLen := Nat.le_trans h (by decide)
def putO (o : Out AV) (fd fk : Fe) (env : Sl) : OutS := (o.bind fun v h1 => (fd env h1).bind fun a h2 => (fk env h2).bind fun k h3 => match v, a, k with
    | .d v, .r n, .d (.str k) => match dcOf (.r n) h3 with
      | some kvs => if kvs.length < bigLen then Out.ok () (h3.set n (.dct (putD kvs k v))) else .bad
      | none => .bad
    | _, _, _ => .bad).toS env fun _ h => .nx env h
def putP (v : D) (o : Out AV) (fk : Fe) (env : Sl) : OutS := (o.bind fun a h2 => (fk env h2).bind fun k h3 => match a, k with
    | .r n, .d (.str k) => match dcOf (.r n) h3 with
      | some kvs => if kvs.length < bigLen then Out.ok () (h3.set n (.dct (putD kvs k v))) else .bad
      | none => .bad
    | _, _ => .bad).toS env fun _ h => .nx env h
def putQ (v : D) (n : Nat) (o : Out AV) (env : Sl) : OutS := (o.bind fun k h3 => match k with
    | .d (.str k) => match dcOf (.r n) h3 with
      | some kvs => if kvs.length < bigLen then Out.ok () (h3.set n (.dct (putD kvs k v))) else .bad
      | none => .bad
    | _ => .bad).toS env fun _ h => .nx env h
@[simp] theorem e_put (fd fk fv : Fe) (env : Sl) (hp : AH) : dputS fd fk fv env hp = putO (fv env hp) fd fk env := id rfl
@[simp] theorem e_putO (v : D) (h : AH) (fd fk : Fe) (env : Sl) : putO (.ok (.d v) h) fd fk env = putP v (fd env h) fk env := by
  simp only [putO, putP, Out.bind]
  generalize fd env h = o
  cases o with
  | ok a h2 =>
    simp only
    generalize fk env h2 = o
    cases o with
    | ok k h3 =>
      cases a with
      | d x => rfl
      | r n => cases k with
        | r i => rfl
        | d k => cases k <;> rfl
    | exc x h3 => rfl
    | bad => rfl
  | exc x h2 => rfl
  | bad => rfl
@[simp] theorem e_putP (v : D) (n : Nat) (h : AH) (fk : Fe) (env : Sl) : putP v (.ok (.r n) h) fk env = putQ v n (fk env h) env := by
  simp only [putP, putQ, Out.bind]
  generalize fk env h = o
  cases o with
  | ok k h3 => cases k with
    | r i => rfl
    | d k => cases k <;> rfl
  | exc x h3 => rfl
  | bad => rfl
theorem e_putQ {v : D} {n : Nat} {k : Str} {h : AH} {kvs : List (Str × D)} {env : Sl} (q : h[n]? = some (.dct kvs)) (l : kvs.length < 100000) : putQ v n (.ok (.d (.str k)) h) env = .nx env (h.set n (.dct (putD kvs k v))) := by
  simp only [putQ, Out.bind, dcOf, q]
  rw [if_pos (big_lt l)]; rfl
def appO (o : Out AV) (fe : Fe) (env : Sl) : Out AV := o.bind fun a h1 => match a with
  | .r n => match h1[n]? with
    | some (.lst _) => (fe env h1).bind fun v h2 => match v, h2[n]? with
      | .d x, some (.lst xs) => if xs.length < bigLen then .ok (.d .none) (h2.set n (.lst (xs ++ [x]))) else .bad
      | _, _ => .bad
    | _ => .bad
  | _ => .bad
def appP (n : Nat) (o : Out AV) : Out AV := o.bind fun v h2 => match v, h2[n]? with
      | .d x, some (.lst xs) => if xs.length < bigLen then .ok (.d .none) (h2.set n (.lst (xs ++ [x]))) else .bad
      | _, _ => .bad
@[simp] theorem e_app (fo fe : Fe) (env : Sl) (hp : AH) : appF fo fe env hp = appO (fo env hp) fe env := id rfl
theorem e_appO {n : Nat} {h1 : AH} {fe : Fe} {env : Sl} {ys : List D} (q : h1[n]? = some (.lst ys)) : appO (.ok (.r n) h1) fe env = appP n (fe env h1) := by
  simp only [appO, Out.bind, q]; rfl
theorem e_appP {n : Nat} {h2 : AH} {x : D} {xs : List D} (q : h2[n]? = some (.lst xs)) (l : xs.length < 100000) : appP n (.ok (.d x) h2) = .ok (.d .none) (h2.set n (.lst (xs ++ [x]))) := by
  simp only [appP, Out.bind, q]
  rw [if_pos (big_lt l)]
def popO (o : Out AV) : Out AV := o.bind fun a h1 => match a with
  | .r n => match h1[n]? with
    | some (.lst xs) => match xs[xs.length - 1]? with
      | some x => .ok (.d x) (h1.set n (.lst xs.dropLast))
      | none => .bad
    | _ => .bad
  | _ => .bad
@[simp] theorem e_pop (fo : Fe) (env : Sl) (hp : AH) : popF fo env hp = popO (fo env hp) := id rfl
theorem e_popO {n : Nat} {h1 : AH} {xs : List D} {x : D} (q : h1[n]? = some (.lst (xs ++ [x]))) : popO (.ok (.r n) h1) = .ok (.d x) (h1.set n (.lst xs)) := by
  simp only [popO, Out.bind, q]
  simp
def dgetO (o : Out AV) (fk : Fe) (env : Sl) : Out AV := o.bind fun a h1 => match dcOf a h1 with
  | some _ => (fk env h1).bind fun k h2 => match k, dcOf a h2 with
    | .d (.str k), some kvs => .ok (.d ((getD kvs k).getD .none)) h2
    | _, _ => .bad
  | none => .bad
def dgetP (n : Nat) (o : Out AV) : Out AV := o.bind fun k h2 => match k, dcOf (.r n) h2 with
    | .d (.str k), some kvs => .ok (.d ((getD kvs k).getD .none)) h2
    | _, _ => .bad
@[simp] theorem e_dget (fo fk : Fe) (env : Sl) (hp : AH) : dgetF fo fk env hp = dgetO (fo env hp) fk env := id rfl
theorem e_dgetO {n : Nat} {h1 : AH} {fk : Fe} {env : Sl} {kvs : List (Str × D)} (q : h1[n]? = some (.dct kvs)) : dgetO (.ok (.r n) h1) fk env = dgetP n (fk env h1) := by
  simp only [dgetO, Out.bind, dcOf, q]; rfl
theorem e_dgetP {n : Nat} {h2 : AH} {k : Str} {kvs : List (Str × D)} (q : h2[n]? = some (.dct kvs)) : dgetP n (.ok (.d (.str k)) h2) = .ok (.d ((getD kvs k).getD .none)) h2 := by
  simp only [dgetP, Out.bind, dcOf, q]
/-! ### dicts -/
@[simp] theorem getD_nil (k : Str) : getD [] k = none := id rfl
theorem getD_cons (k j : Str) (d : D) (l : List (Str × D)) : getD ((j, d) :: l) k = if j = k then some d else getD l k := by
  unfold getD
  rw [List.find?_cons]
  by_cases h : j = k <;> simp [h]
@[simp] theorem getD_same (k : Str) (d : D) (l : List (Str × D)) : getD ((k, d) :: l) k = some d := by rw [getD_cons, if_pos rfl]
theorem getD_ne {k j : Str} {d : D} {l : List (Str × D)} (h : j ≠ k) : getD ((j, d) :: l) k = getD l k := by rw [getD_cons, if_neg h]
theorem getD_app (l l' : List (Str × D)) (k : Str) : getD (l ++ l') k = (getD l k).or (getD l' k) := by
  induction l with
  | nil => simp
  | cons p l ih =>
    obtain ⟨j, d⟩ := p
    rw [List.cons_append, getD_cons, getD_cons]
    by_cases h : j = k <;> simp [h, ih]
theorem getD_put (kvs : List (Str × D)) (k j : Str) (v : D) : getD (putD kvs k v) j = if k = j then some v else getD kvs j := by
  unfold putD
  split
  · rename_i h
    induction kvs with
    | nil => simp at h
    | cons p l ih =>
      obtain ⟨i, d⟩ := p
      rw [List.map_cons]
      by_cases hi : i = k
      · subst hi
        simp only [if_true]
        rw [getD_cons, getD_cons]
        by_cases hj : i = j
        · simp [hj]
        · simp only [if_neg hj]
          clear ih h
          induction l with
          | nil => simp
          | cons q l ih2 =>
            obtain ⟨i2, d2⟩ := q
            rw [List.map_cons]
            by_cases h2 : i2 = i
            · subst h2; simp only [if_true]; rw [getD_cons, getD_cons, if_neg hj, if_neg hj]; exact ih2
            · simp only [if_neg h2]; rw [getD_cons, getD_cons, ih2]
      · simp only [if_neg hi]
        rw [getD_cons, getD_cons]
        have h' : (l.any fun kv => decide (kv.1 = k)) = true := by simpa [hi] using h
        rw [ih h']
        by_cases hj : i = j
        · subst hj; simp [Ne.symm hi]
        · simp [hj]
  · rename_i h
    rw [getD_app]
    by_cases hj : k = j
    · subst hj
      have : getD kvs k = none := by
        unfold getD
        rw [List.find?_eq_none.mpr]
        · rfl
        · intro x hx; simp only [List.any_eq_true, not_exists, decide_eq_true_eq, not_and] at h; simpa using h x hx
      simp [this]
    · rw [if_neg hj, getD_ne hj]; simp
theorem getD_del (kvs : List (Str × D)) (k j : Str) : getD (delD kvs k) j = if k = j then none else getD kvs j := by
  unfold delD
  induction kvs with
  | nil => simp
  | cons p l ih =>
    obtain ⟨i, d⟩ := p
    rw [List.filter_cons]
    by_cases h : i = k
    · subst h
      simp only [ne_eq, not_true, decide_false, Bool.false_eq_true, if_false]
      rw [ih, getD_cons]
      by_cases hj : i = j <;> simp [hj]
    · simp only [ne_eq, h, not_false_eq_true, decide_true, if_true]
      rw [getD_cons, getD_cons, ih]
      by_cases hj : i = j
      · subst hj; simp [Ne.symm h]
      · simp [hj]
/-- a comprehension over written things that changes nothing -/
theorem compD_map {α : Type} {b : Bt} {c : Ft} {elt : Fe} {env : Sl} {hp : AH} {e : α → D} {p : α → Bool} {f : α → D} : ∀ {l : List α}, (∀ a ∈ l, ∃ e1, b (.d (e a)) env hp = some (e1, hp) ∧ c e1 hp = .ok (p a) hp ∧ (p a = true → elt e1 hp = .ok (.d (f a)) hp)) → compD b c elt env (l.map e) hp = .ok ((l.filter p).map f) hp
  | [], _ => rfl
  | a :: l, h => by
    obtain ⟨e1, h1, h2, h3⟩ := h a (List.mem_cons_self)
    have ih := compD_map (l := l) fun x hx => h x (List.mem_cons_of_mem _ hx)
    rw [List.map_cons]
    unfold compD
    rw [h1]
    simp only [h2]
    cases hp' : p a with
    | true =>
      simp only [h3 hp', ih]
      rw [List.filter_cons_of_pos hp', List.map_cons]
    | false =>
      simp only [ih]
      rw [List.filter_cons_of_neg (by simp [hp'])]
/-- .. all of them -/
theorem compD_mapT {α : Type} {b : Bt} {elt : Fe} {env : Sl} {hp : AH} {e f : α → D} {l : List α} (h : ∀ a ∈ l, ∃ e1, b (.d (e a)) env hp = some (e1, hp) ∧ elt e1 hp = .ok (.d (f a)) hp) : compD b yesT elt env (l.map e) hp = .ok (l.map f) hp := by
  have q := compD_map (c := yesT) (p := fun _ => true) (f := f) (b := b) (elt := elt) (env := env) (hp := hp) (e := e) (l := l) fun a ha => let ⟨e1, h1, h2⟩ := h a ha; ⟨e1, h1, rfl, fun _ => h2⟩
  rw [q, List.filter_eq_self.mpr fun _ _ => rfl]
end Pin
end
-- Sp1
section
set_option linter.all false
set_option maxRecDepth 100000
/-! Sp, part 1: draws. -/
namespace Pin
open PySem PySem.Spec PyProof.Rows L2 Ms

/-- the dict of draws, so many of them taken -/
def md (ds : List Int) (at_ : Nat) : AObj := .dct [("draws", .list (ds.map .int)), ("at", .int at_)]
/-- the draws' own condition -/
structure DrawsOk (ds : List Int) : Prop where
  ne : ds ≠ []
  len : ds.length < 1000
/-- the heap with so many draws taken -/
def HM (hp : AH) (n : Nat) (ds : List Int) (k : Nat) : AH := hp.set n (md ds k)
@[simp] theorem HM_len (hp : AH) (n : Nat) (ds : List Int) (k : Nat) : (HM hp n ds k).length = hp.length := by simp [HM]
theorem HM_app {hp l : AH} {n : Nat} {ds : List Int} {k : Nat} (h : n < hp.length) : HM (hp ++ l) n ds k = HM hp n ds k ++ l := h_setOld h
theorem HM_at {hp : AH} {n : Nat} {ds : List Int} {k : Nat} (h : n < hp.length) : (HM hp n ds k)[n]? = some (md ds k) := by simp [HM, h]
theorem HM_set {hp : AH} {n : Nat} {ds : List Int} {k j : Nat} : (HM hp n ds k).set n (md ds j) = HM hp n ds j := by simp [HM]
theorem HM_cl {hp : AH} {n : Nat} {ds : List Int} {k : Nat} (c : Cl hp) : Cl (HM hp n ds k) := c.set rfl
theorem HM_other {hp : AH} {n i : Nat} {ds : List Int} {k : Nat} (h : i ≠ n) : (HM hp n ds k)[i]? = hp[i]? := by simp [HM, List.getElem?_set_ne (Ne.symm h)]
theorem log2_small {i : Int} (h : i.natAbs < 2 ^ 64) : i.natAbs.log2 < 64 := by
  by_cases h0 : i.natAbs = 0
  · rw [h0]; decide
  · exact (Nat.log2_lt h0).mpr h
theorem getD_at (ds : List Int) (k : Nat) : getD [("draws", PyData.list (ds.map .int)), ("at", .int k)] "at" = some (.int k) := by
  rw [getD_ne (by decide +kernel), getD_same]
theorem getD_draws (ds : List Int) (k : Nat) : getD [("draws", PyData.list (ds.map .int)), ("at", .int k)] "draws" = some (.list (ds.map .int)) := getD_same _ _ _
theorem putD_at (ds : List Int) (k : Nat) (j : Int) : putD [((("draws" : Str)), PyData.list (ds.map .int)), ("at", .int k)] "at" (.int j) = [((("draws" : Str)), PyData.list (ds.map .int)), ("at", .int j)] := by
  have h1 : ¬ (("draws" : Str) = "at") := by decide +kernel
  simp [putD, h1]
theorem atI_mod {xs : List D} {k : Nat} (h : xs ≠ []) : ∃ d ∈ xs, atI xs ((k : Int) % (xs.length : Int)) = some d := by
  have hl : 0 < xs.length := List.length_pos_iff.mpr h
  have e : ((k : Int) % (xs.length : Int)) = ((k % xs.length : Nat) : Int) := by omega
  have hk : k % xs.length < xs.length := Nat.mod_lt _ hl
  exact ⟨xs[k % xs.length], List.getElem_mem hk, by rw [e]; exact at_nat (List.getElem?_eq_getElem hk)⟩
theorem atI_four {a b c d : D} (k : Int) : ∃ x, (x = a ∨ x = b ∨ x = c ∨ x = d) ∧ atI [a, b, c, d] (k % 4) = some x := by
  have h : k % 4 = 0 ∨ k % 4 = 1 ∨ k % 4 = 2 ∨ k % 4 = 3 := by omega
  rcases h with h | h | h | h <;> rw [h]
  · exact ⟨a, by simp, at_nat (j := 0) rfl⟩
  · exact ⟨b, by simp, at_nat (j := 1) rfl⟩
  · exact ⟨c, by simp, at_nat (j := 2) rfl⟩
  · exact ⟨d, by simp, at_nat (j := 3) rfl⟩
theorem take_ok {hp : AH} {n k : Nat} {ds : List Int} {m : Int} (c : Cl hp) (hn : n < hp.length) (dk : DrawsOk ds) (h0 : 0 < m) :
    ∃ r : Int, 0 ≤ r ∧ r < m ∧ F_l_take [.r n, .d (.int m)] (HM hp n ds k) = .ok (.d (.int r)) (HM hp n ds (k + 1)) := by
  obtain ⟨x, hx, ex⟩ := atI_mod (xs := ds.map PyData.int) (k := k) (by simpa using dk.ne)
  obtain ⟨z, hz, rfl⟩ := List.mem_map.mp hx
  obtain ⟨y, hy, ey⟩ := atI_four (a := .int 1) (b := .int 7) (c := .int 59) (d := .int 211) ((k : Int) / (ds.length : Int))
  have hl : 0 < ds.length := List.length_pos_iff.mpr dk.ne
  have hy' : ∃ y' : Int, y = .int y' ∧ 0 < y' ∧ y'.natAbs.log2 < 9000 := by
    rcases hy with rfl | rfl | rfl | rfl
    · exact ⟨1, rfl, by decide, by decide⟩
    · exact ⟨7, rfl, by decide, by decide⟩
    · exact ⟨59, rfl, by decide, by decide⟩
    · exact ⟨211, rfl, by decide, by decide⟩
  obtain ⟨y', rfl, y0, y1⟩ := hy'
  have l1 : (0 : Int) < (ds.length : Int) ∧ ((ds.length : Int)).natAbs.log2 < 9000 := ⟨by omega, Nat.lt_trans (log2_small (by have := dk.len; omega)) (by decide)⟩
  have l2 : (4 : Int).natAbs.log2 + ((ds.length : Int)).natAbs.log2 < 1000000 := by
    have h4 : (4 : Int).natAbs.log2 < 64 := log2_small (by decide)
    have h5 : ((ds.length : Int)).natAbs.log2 < 64 := log2_small (by have := dk.len; omega)
    omega
  have l3 : (0 : Int) < 4 * (ds.length : Int) ∧ (4 * (ds.length : Int)).natAbs.log2 < 9000 := ⟨by omega, Nat.lt_trans (log2_small (by have := dk.len; omega)) (by decide)⟩
  have hat := HM_at (k := k) (ds := ds) hn
  have hat' := HM_at (k := k + 1) (ds := ds) hn
  refine ⟨(z / y' + (k : Int) / (4 * (ds.length : Int))) % m, Int.emod_nonneg _ (by omega), Int.emod_lt_of_pos _ h0, ?_⟩
  unfold F_l_take G_l_take b_l_take
  have ex' : atI (ds.map PyData.int) ((k : Int) % (ds.length : Int)) = some (.int z) := by simpa using ex
  have q1 := ixV_r (hp := HM hp n ds k) hat (getD_at ds k)
  have q2 := ixV_r (hp := HM hp n ds (k + 1)) hat' (getD_draws ds (k + 1))
  have q3 := e_putQ (v := .int ((k : Int) + 1)) (k := "at") (env := [some (.r n), some (.d (.int m)), some (.d (.int k)), none]) hat (by show 2 < 100000; decide)
  rw [putD_at, show AObj.dct [((("draws" : Str)), PyData.list (ds.map .int)), ("at", .int ((k : Int) + 1))] = md ds (k + 1) by simp [md], HM_set] at q3
  simp [q1, q2, q3, ixV_l ex', ixV_t ey, mod_int, fdiv_int l1, fdiv_int l3, fdiv_int ⟨y0, y1⟩, mul_int l2, mod_int (show (0 : Int) < (ds.length : Int) by omega), mod_int h0]
  exact trim_eq (HM_cl c) (by simp)
theorem cell_ok {hp : AH} (c : Cl hp) (ns : List Int) (k : Nat) (hk : k < 100) : ∃ z : Int, F_l_cell [.d (.list (ns.map .int)), .d (.int k)] hp = .ok (.d (.int z)) hp := by
  unfold F_l_cell G_l_cell b_l_cell
  by_cases h : k < ns.length
  · have e : atI (ns.map PyData.int) (k : Int) = some (.int ns[k]) := at_nat (by simp [h])
    refine ⟨ns[k], ?_⟩
    simp [h, ixV_l e]
    exact trim_eq c rfl
  · have l : (5 : Int).natAbs.log2 + (k : Int).natAbs.log2 < 1000000 := by
      have h4 : (5 : Int).natAbs.log2 < 64 := log2_small (by decide)
      have h5 : (k : Int).natAbs.log2 < 64 := log2_small (by omega)
      omega
    refine ⟨5 * k + 3, ?_⟩
    simp [h, mul_int l]
    exact trim_eq c rfl
theorem log2_lt {i : Int} {m : Nat} (h : i.natAbs < 2 ^ m) (h0 : 0 < m) : i.natAbs.log2 < m := by
  by_cases q : i.natAbs = 0
  · rw [q]; simpa using h0
  · exact (Nat.log2_lt q).mpr h
theorem bigM : ∃ M : Nat, (∀ k, k < 1000 → 5040 ^ k < M) ∧ 1000000000000000000 ≤ M ∧ ∀ i : Int, i.natAbs < M → i.natAbs.log2 < 14000 := by
  obtain ⟨m, hm⟩ : ∃ m : Nat, m = 14000 := ⟨_, rfl⟩
  rw [← hm]
  refine ⟨2 ^ m, fun k h => ?_, Nat.le_trans (show 1000000000000000000 ≤ 2 ^ 64 by decide) (Nat.pow_le_pow_right (by decide) (by omega)), fun i h => log2_lt h (by omega)⟩
  have h1 : (5040 ^ k : Nat) ≤ (2 ^ 13) ^ k := Nat.pow_le_pow_left (by decide) k
  rw [← Nat.pow_mul] at h1
  exact Nat.lt_of_le_of_lt h1 (Nat.pow_lt_pow_right (by decide) (by omega))
theorem pow18 (hp : AH) : powV (.d (.int 10)) (.d (.int 18)) hp = .ok (.d (.int 1000000000000000000)) hp := by
  simp only [powV]
  rw [if_pos (by decide), show ((10 : Int) ^ (18 : Int).toNat) = 1000000000000000000 by decide]
theorem draws_ok {hp : AH} (c : Cl hp) (z : Int) (n : Nat) (hn : n < 1000) : ∃ ds : List Int, ds.length = n ∧ F_l_draws [.d (.int z), .d (.int n)] hp = .ok (.d (.list (ds.map .int))) hp := by
  have hz : ∃ s : Nat, (if z < 0 then -z else z) = (s : Int) := ⟨z.natAbs, by split <;> omega⟩
  obtain ⟨s, hs⟩ := hz
  obtain ⟨M, M1, M2, M3⟩ := bigM
  unfold F_l_draws G_l_draws b_l_draws
  simp [pow18, hs, e_rgO (n := n) _ (by omega)]
  refine forR_inv (n := n) (fun k env h => ∃ (ds : List Int) (rest : Nat) (b : Bool) (x y : Option AV), ds.length = k ∧ (b = true → rest = s / 5040 ^ k) ∧ (b = false → s < 1000000000000000000) ∧ env = [some (.d (.int z)), some (.d (.int n)), some (.d (.int rest)), some (.d (.bool b)), some (.d (.int s)), some (.r hp.length), x, y] ∧ h = hp ++ [.lst (ds.map .int)])
    (fun o => ∃ ds : List Int, ds.length = n ∧ fnO hp.length hp (seqO o (retS (vF 5))) = .ok (.d (.list (ds.map .int))) hp) ?_ ?_ ?_
  · rintro env h ⟨ds, rest, b, x, y, hl, _, _, rfl, rfl⟩
    refine ⟨ds, hl, ?_⟩
    simp
    exact trim_lsq c rfl
  · rintro k env h hk ⟨ds, rest, b, x, y, hl, hb, hb', rfl, rfl⟩
    refine ⟨_, _, rfl, .inl ?_⟩
    have a1 : ∀ (h : AH) (i : Int), h = hp ++ [.lst (ds.map .int)] → appP hp.length (.ok (.d (.int i)) h) = .ok (.d .none) (hp ++ [.lst ((ds ++ [i]).map .int)]) := fun h i e => by
      subst e
      rw [e_appP (xs := ds.map .int) (by simp) (by simp; omega)]
      simp
    have a0 : ∀ (h : AH) (fe : Fe) (env : Sl), h = hp ++ [.lst (ds.map .int)] → appO (.ok (.r hp.length) h) fe env = appP hp.length (fe env h) := fun h fe env e => by
      subst e
      exact e_appO (ys := ds.map .int) (by simp)
    by_cases q : b = true ∧ 0 < rest
    · obtain ⟨rfl, q⟩ := q
      refine ⟨[some (.d (.int z)), some (.d (.int n)), some (.d (.int ((rest / 5040 : Nat) : Int))), some (.d (.bool true)), some (.d (.int s)), some (.r hp.length), some (.d (.int k)), y], hp ++ [.lst ((ds ++ [(rest : Int) % 5040]).map .int)], ?_, ds ++ [(rest : Int) % 5040], rest / 5040, true, _, _, by simp [hl], fun _ => ?_, by simp, rfl, rfl⟩
      · simp [q, a0, a1, mod_int, fdiv_int (show (0 : Int) < 5040 ∧ (5040 : Int).natAbs.log2 < 9000 by decide)]
      · rw [hb rfl, Nat.div_div_eq_div_mul, Nat.pow_succ]
    · have hsm : s < M := by
        cases b with
        | false => exact Nat.lt_of_lt_of_le (hb' rfl) M2
        | true =>
          have r0 : rest = 0 := by
            rcases Nat.eq_zero_or_pos rest with h | h
            · exact h
            · exact absurd ⟨rfl, h⟩ q
          have := hb rfl
          rw [r0] at this
          have h5 : 0 < 5040 ^ k := Nat.pow_pos (by decide)
          have := (Nat.div_eq_zero_iff.mp this.symm).resolve_left (by omega)
          exact Nat.lt_trans this (M1 k (by omega))
      have m1 : (s : Int).natAbs.log2 + (48271 : Int).natAbs.log2 < 1000000 := by
        have h4 : (48271 : Int).natAbs.log2 < 64 := log2_small (by decide)
        have h5 : (s : Int).natAbs.log2 < 14000 := M3 s (by simpa using hsm)
        omega
      have m2 : ((k : Int) + 1).natAbs.log2 + (69621 : Int).natAbs.log2 < 1000000 := by
        have h4 : (69621 : Int).natAbs.log2 < 64 := log2_small (by decide)
        have h5 : ((k : Int) + 1).natAbs.log2 < 64 := log2_small (by omega)
        omega
      have m3 : ∀ m : Int, 0 ≤ m → m < 2147483647 → m.natAbs.log2 + m.natAbs.log2 < 1000000 := fun m h h' => by
        have h5 : m.natAbs.log2 < 64 := log2_small (by omega)
        omega
      have m4 : (40692 : Int).natAbs.log2 + ((k : Int) + 3).natAbs.log2 < 1000000 := by
        have h4 : (40692 : Int).natAbs.log2 < 64 := log2_small (by decide)
        have h5 : ((k : Int) + 3).natAbs.log2 < 64 := log2_small (by omega)
        omega
      have hcond : ∀ hq : AH, andO (.ok b hq) (tstF (bF gtV (vF 2) (cF (.int 0)))) [some (.d (.int z)), some (.d (.int n)), some (.d (.int rest)), some (.d (.bool b)), some (.d (.int s)), some (.r hp.length), some (.d (.int k)), y] = .ok false hq := fun hq => by
        cases b with
        | false => rfl
        | true =>
          have : ¬ 0 < rest := fun h => q ⟨rfl, h⟩
          simp; omega
      have n1 : (0 : Int) ≤ ((s : Int) * 48271 + (k + 1) * 69621 + 11) % 2147483647 := Int.emod_nonneg _ (by decide)
      have n2 : ((s : Int) * 48271 + (k + 1) * 69621 + 11) % 2147483647 < 2147483647 := Int.emod_lt_of_pos _ (by decide)
      let mx : Int := ((s : Int) * 48271 + (k + 1) * 69621 + 11) % 2147483647
      let my : Int := (mx * mx + 40692 * (k + 3)) % 2147483399
      refine ⟨[some (.d (.int z)), some (.d (.int n)), some (.d (.int rest)), some (.d (.bool b)), some (.d (.int s)), some (.r hp.length), some (.d (.int k)), some (.d (.int my))], hp ++ [.lst ((ds ++ [my / 64 % 5040]).map .int)], ?_, ds ++ [my / 64 % 5040], rest, b, _, _, by simp [hl], fun e => ?_, hb', rfl, rfl⟩
      · simp [mx, my, hcond, a0, a1, mul_int m1, mul_int m2, mul_int m4, mod_int, mul_int (m3 _ n1 n2), fdiv_int (show (0 : Int) < 64 ∧ (64 : Int).natAbs.log2 < 9000 by decide)]
      · have r0 : rest = 0 := by
            rcases Nat.eq_zero_or_pos rest with h | h
            · exact h
            · exact absurd ⟨e, h⟩ q
        rw [r0]
        have := hb e
        rw [r0] at this
        rw [Nat.pow_succ, ← Nat.div_div_eq_div_mul, ← this]
  · exact ⟨[], s, _, _, _, rfl, fun _ => by simp, fun h => by have := of_decide_eq_false h; omega, rfl, rfl⟩
end Pin
end
-- Ord1
section
set_option linter.all false
set_option maxRecDepth 100000
/-! Ord, part 1: the order of data of texts and tuples; sorting. -/
namespace Pin
open PySem PySem.Spec PyProof.Rows L2 PySem.W

theorem kt_str (s : Str) : keyToks (.str s) = [.inr s.cps.toList] := by simp [keyToks]
theorem kt_int (i : Int) : keyToks (.int i) = [.inl i] := by simp [keyToks]
theorem kt_tup (xs : List D) : keyToks (.tuple xs) = keyToksAll xs := by simp [keyToks]
theorem kt_nil : keyToksAll [] = [.inl 0] := by simp [keyToksAll]
theorem kt_cons (x : D) (xs : List D) : keyToksAll (x :: xs) = .inl 1 :: (keyToks x ++ keyToksAll xs) := by simp [keyToksAll]
abbrev Lx (a b : List (Int ⊕ List Nat)) : Bool := lexLt itemOrd a b
theorem lx_pre (p a b : List (Int ⊕ List Nat)) : Lx (p ++ a) (p ++ b) = Lx a b := lex_pre p a b
theorem lx_self (x : Int ⊕ List Nat) (a b : List (Int ⊕ List Nat)) : Lx (x :: a) (x :: b) = Lx a b := lex_self (O := itemOrd) x a b
theorem lx_diff {x y : Int ⊕ List Nat} (h : x ≠ y) (a b c d : List (Int ⊕ List Nat)) : Lx (x :: a) (y :: b) = Lx (x :: c) (y :: d) := (lex_diff (O := itemOrd) h).trans (lex_diff (O := itemOrd) h).symm
theorem lx_lt {a b : Int} (h : a < b) (l m : List (Int ⊕ List Nat)) : Lx (.inl a :: l) (.inl b :: m) = true := by
  have : (Sum.inl a : Int ⊕ List Nat) ≠ .inl b := fun e => by cases e; omega
  exact (lex_diff (O := itemOrd) this).trans (decide_eq_true h)
theorem lx_gt {a b : Int} (h : a < b) (l m : List (Int ⊕ List Nat)) : Lx (.inl b :: l) (.inl a :: m) = false := by
  have : (Sum.inl b : Int ⊕ List Nat) ≠ .inl a := fun e => by cases e; omega
  exact (lex_diff (O := itemOrd) this).trans (decide_eq_false (by omega))
mutual
/-- data of texts and tuples: none's signs are the beginning of another's -/
theorem toks_sd : ∀ (x y : D), sd x = true → sd y = true → x ≠ y → ∀ l m, Lx (keyToks x ++ l) (keyToks y ++ m) = Lx (keyToks x) (keyToks y)
  | .str a, .str b, _, _, n, l, m => by
    have : (Sum.inr a.cps.toList : Int ⊕ List Nat) ≠ .inr b.cps.toList := fun e => n (by rw [str_of_cps (Sum.inr.inj e)])
    rw [kt_str, kt_str]
    exact lx_diff this _ _ _ _
  | .str a, .tuple ys, _, _, _, l, m => by
    rw [kt_str, kt_tup]
    cases ys with
    | nil => rw [kt_nil]; exact lx_diff (by simp) _ _ _ _
    | cons y ys => rw [kt_cons]; exact lx_diff (by simp) _ _ _ _
  | .tuple xs, .str b, _, _, _, l, m => by
    rw [kt_str, kt_tup]
    cases xs with
    | nil => rw [kt_nil]; exact lx_diff (by simp) _ _ _ _
    | cons y ys => rw [kt_cons]; exact lx_diff (by simp) _ _ _ _
  | .tuple xs, .tuple ys, h, h', n, l, m => by
    rw [kt_tup, kt_tup]
    exact toksAll_sd xs ys (by simpa using h) (by simpa using h') (fun e => n (by rw [e])) l m
  | .none, _, h, _, _, _, _ => by simp [sd] at h
  | .bool _, _, h, _, _, _, _ => by simp [sd] at h
  | .int _, _, h, _, _, _, _ => by simp [sd] at h
  | .list _, _, h, _, _, _, _ => by simp [sd] at h
  | .dict _, _, h, _, _, _, _ => by simp [sd] at h
  | .str _, .none, _, h, _, _, _ => by simp [sd] at h
  | .str _, .bool _, _, h, _, _, _ => by simp [sd] at h
  | .str _, .int _, _, h, _, _, _ => by simp [sd] at h
  | .str _, .list _, _, h, _, _, _ => by simp [sd] at h
  | .str _, .dict _, _, h, _, _, _ => by simp [sd] at h
  | .tuple _, .none, _, h, _, _, _ => by simp [sd] at h
  | .tuple _, .bool _, _, h, _, _, _ => by simp [sd] at h
  | .tuple _, .int _, _, h, _, _, _ => by simp [sd] at h
  | .tuple _, .list _, _, h, _, _, _ => by simp [sd] at h
  | .tuple _, .dict _, _, h, _, _, _ => by simp [sd] at h
theorem toksAll_sd : ∀ (xs ys : List D), sdAll xs = true → sdAll ys = true → xs ≠ ys → ∀ l m, Lx (keyToksAll xs ++ l) (keyToksAll ys ++ m) = Lx (keyToksAll xs) (keyToksAll ys)
  | [], [], _, _, n, _, _ => absurd rfl n
  | [], y :: ys, _, _, _, l, m => by
    rw [kt_nil, kt_cons]; exact lx_diff (by simp) _ _ _ _
  | x :: xs, [], _, _, _, l, m => by
    rw [kt_nil, kt_cons]; exact lx_diff (by simp) _ _ _ _
  | x :: xs, y :: ys, h, h', n, l, m => by
    have hx : sd x = true ∧ sdAll xs = true := by simpa using h
    have hy : sd y = true ∧ sdAll ys = true := by simpa using h'
    rw [kt_cons, kt_cons, List.cons_append, List.cons_append, lx_self, lx_self]
    by_cases e : x = y
    · subst e
      have n' : xs ≠ ys := fun q => n (by rw [q])
      rw [List.append_assoc, List.append_assoc, lx_pre, lx_pre]
      exact toksAll_sd xs ys hx.2 hy.2 n' l m
    · rw [List.append_assoc, List.append_assoc, toks_sd x y hx.1 hy.1 e, toks_sd x y hx.1 hy.1 e]
end
mutual
theorem toks_inj : ∀ (x y : D), sd x = true → sd y = true → ∀ l m, keyToks x ++ l = keyToks y ++ m → x = y ∧ l = m
  | .str a, .str b, _, _, l, m, e => by
    rw [kt_str, kt_str] at e
    simp only [List.cons_append, List.nil_append, List.cons.injEq, Sum.inr.injEq] at e
    exact ⟨by rw [str_of_cps e.1], e.2⟩
  | .str a, .tuple ys, _, _, l, m, e => by
    rw [kt_str, kt_tup] at e
    cases ys with
    | nil => rw [kt_nil] at e; simp at e
    | cons y ys => rw [kt_cons] at e; simp at e
  | .tuple xs, .str b, _, _, l, m, e => by
    rw [kt_str, kt_tup] at e
    cases xs with
    | nil => rw [kt_nil] at e; simp at e
    | cons y ys => rw [kt_cons] at e; simp at e
  | .tuple xs, .tuple ys, h, h', l, m, e => by
    rw [kt_tup, kt_tup] at e
    obtain ⟨e1, e2⟩ := toksAll_inj xs ys (by simpa using h) (by simpa using h') l m e
    exact ⟨by rw [e1], e2⟩
  | .none, _, h, _, _, _, _ => by simp [sd] at h
  | .bool _, _, h, _, _, _, _ => by simp [sd] at h
  | .int _, _, h, _, _, _, _ => by simp [sd] at h
  | .list _, _, h, _, _, _, _ => by simp [sd] at h
  | .dict _, _, h, _, _, _, _ => by simp [sd] at h
  | .str _, .none, _, h, _, _, _ => by simp [sd] at h
  | .str _, .bool _, _, h, _, _, _ => by simp [sd] at h
  | .str _, .int _, _, h, _, _, _ => by simp [sd] at h
  | .str _, .list _, _, h, _, _, _ => by simp [sd] at h
  | .str _, .dict _, _, h, _, _, _ => by simp [sd] at h
  | .tuple _, .none, _, h, _, _, _ => by simp [sd] at h
  | .tuple _, .bool _, _, h, _, _, _ => by simp [sd] at h
  | .tuple _, .int _, _, h, _, _, _ => by simp [sd] at h
  | .tuple _, .list _, _, h, _, _, _ => by simp [sd] at h
  | .tuple _, .dict _, _, h, _, _, _ => by simp [sd] at h
theorem toksAll_inj : ∀ (xs ys : List D), sdAll xs = true → sdAll ys = true → ∀ l m, keyToksAll xs ++ l = keyToksAll ys ++ m → xs = ys ∧ l = m
  | [], [], _, _, _, _, e => by rw [kt_nil] at e; simp at e; exact ⟨rfl, e⟩
  | [], y :: ys, _, _, l, m, e => by rw [kt_nil, kt_cons] at e; simp at e
  | x :: xs, [], _, _, l, m, e => by rw [kt_nil, kt_cons] at e; simp at e
  | x :: xs, y :: ys, h, h', l, m, e => by
    have hx : sd x = true ∧ sdAll xs = true := by simpa using h
    have hy : sd y = true ∧ sdAll ys = true := by simpa using h'
    rw [kt_cons, kt_cons, List.cons_append, List.cons_append, List.append_assoc, List.append_assoc] at e
    obtain ⟨e1, e2⟩ := toks_inj x y hx.1 hy.1 _ _ (List.cons.inj e).2
    obtain ⟨e3, e4⟩ := toksAll_inj xs ys hx.2 hy.2 _ _ e2
    exact ⟨by rw [e1, e3], e4⟩
end
theorem dlt_irr (x : D) : dataLt x x = false := lex_irrefl _
theorem dlt_trans {x y z : D} (h : dataLt x y = true) (h' : dataLt y z = true) : dataLt x z = true := lex_trans _ _ _ h h'
theorem dlt_asymm {x y : D} (h : dataLt x y = true) : dataLt y x = false := by
  cases e : dataLt y x with
  | false => rfl
  | true => have := dlt_trans h e; rw [dlt_irr] at this; cases this
theorem dlt_neg {x y z : D} (h : dataLt x z = true) : dataLt x y = true ∨ dataLt y z = true := lex_negTrans _ _ _ h
theorem dlt_total {x y : D} (hx : sd x = true) (hy : sd y = true) (h : dataLt x y = false) (h' : dataLt y x = false) : x = y := by
  have := lex_total _ _ h h'
  exact (toks_inj x y hx hy [] [] (by rw [List.append_nil, List.append_nil]; exact this)).1
theorem dlt_tup (xs ys : List D) : dataLt (.tuple xs) (.tuple ys) = Lx (keyToksAll xs) (keyToksAll ys) := by rw [dataLt, kt_tup, kt_tup]
theorem dlt_nil (y : D) (ys : List D) : dataLt (.tuple []) (.tuple (y :: ys)) = true := by
  rw [dlt_tup, kt_nil, kt_cons]; exact lx_lt (by decide) _ _
theorem dlt_nil' (xs : List D) : dataLt (.tuple xs) (.tuple []) = false := by
  rw [dlt_tup, kt_nil]
  cases xs with
  | nil => rw [kt_nil]; exact lex_irrefl _
  | cons x xs => rw [kt_cons]; exact lx_gt (by decide) _ _
theorem dlt_same (x : D) (xs ys : List D) : dataLt (.tuple (x :: xs)) (.tuple (x :: ys)) = dataLt (.tuple xs) (.tuple ys) := by
  rw [dlt_tup, dlt_tup, kt_cons, kt_cons, lx_self, lx_pre]
theorem dlt_ne {x y : D} (hx : sd x = true) (hy : sd y = true) (n : x ≠ y) (xs ys : List D) : dataLt (.tuple (x :: xs)) (.tuple (y :: ys)) = dataLt x y := by
  rw [dlt_tup, kt_cons, kt_cons, lx_self, toks_sd x y hx hy n]; rfl
theorem dlt_int (i j : Int) : dataLt (.int i) (.int j) = decide (i < j) := dataLt_int i j
theorem dlt_intT {i j : Int} (n : i ≠ j) (xs ys : List D) : dataLt (.tuple (.int i :: xs)) (.tuple (.int j :: ys)) = decide (i < j) := by
  rw [dlt_tup, kt_cons, kt_cons, lx_self, kt_int, kt_int, ← dlt_int]
  have : (Sum.inl i : Int ⊕ List Nat) ≠ .inl j := fun e => n (Sum.inl.inj e)
  rw [dataLt, kt_int, kt_int]
  exact lx_diff this _ _ _ _

/-! ### sorting -/
theorem insD_perm (x : D) : ∀ l : List D, (insD x l).Perm (x :: l)
  | [] => List.Perm.refl _
  | y :: ys => by
    unfold insD
    split
    · exact List.Perm.refl _
    · exact ((insD_perm x ys).cons y).trans (List.Perm.swap x y ys)
theorem isort_go : ∀ (xs acc : List D), (xs.foldl (fun acc x => insD x acc) acc).Perm (xs ++ acc)
  | [], acc => List.Perm.refl _
  | x :: xs, acc => (isort_go xs (insD x acc)).trans ((List.Perm.append_left xs (insD_perm x acc)).trans List.perm_middle)
theorem isort_perm (xs : List D) : (isortD xs).Perm xs := by
  have := isort_go xs []
  rwa [List.append_nil] at this
/-- none of the later ones is less -/
def Srt (l : List D) : Prop := l.Pairwise fun a b => dataLt b a = false
theorem insD_srt (x : D) : ∀ {l : List D}, Srt l → Srt (insD x l)
  | [], _ => List.pairwise_singleton _ _
  | y :: ys, h => by
    obtain ⟨h1, h2⟩ := List.pairwise_cons.mp h
    unfold insD
    split
    · rename_i q
      refine List.pairwise_cons.mpr ⟨fun z hz => ?_, h⟩
      rcases List.mem_cons.mp hz with rfl | hz
      · exact dlt_asymm q
      · cases e : dataLt z x with
        | false => rfl
        | true => have := dlt_trans e q; rw [h1 z hz] at this; cases this
    · rename_i q
      refine List.pairwise_cons.mpr ⟨fun z hz => ?_, insD_srt x h2⟩
      rcases List.mem_cons.mp ((insD_perm x ys).mem_iff.mp hz) with rfl | hz
      · simpa using q
      · exact h1 z hz
theorem isort_srt (xs : List D) : Srt (isortD xs) := by
  have : ∀ (xs acc : List D), Srt acc → Srt (xs.foldl (fun acc x => insD x acc) acc) := by
    intro xs
    induction xs with
    | nil => exact fun acc h => h
    | cons x xs ih => exact fun acc h => ih _ (insD_srt x h)
  exact this xs [] List.Pairwise.nil
/-- each less than the later ones -/
def Ris (l : List D) : Prop := l.Pairwise fun a b => dataLt a b = true
theorem srt_ris {l : List D} (h : Srt l) (s : ∀ x ∈ l, sd x = true) (n : l.Nodup) : Ris l := by
  induction l with
  | nil => exact List.Pairwise.nil
  | cons x l ih =>
    obtain ⟨h1, h2⟩ := List.pairwise_cons.mp h
    obtain ⟨n1, n2⟩ := List.nodup_cons.mp n
    refine List.pairwise_cons.mpr ⟨fun y hy => ?_, ih h2 (fun z hz => s z (List.mem_cons_of_mem _ hz)) n2⟩
    cases e : dataLt x y with
    | true => rfl
    | false =>
      have := dlt_total (s x List.mem_cons_self) (s y (List.mem_cons_of_mem _ hy)) e (h1 y hy)
      subst this; exact absurd hy n1
theorem isort_ris {xs : List D} (s : ∀ x ∈ xs, sd x = true) (n : xs.Nodup) : Ris (isortD xs) :=
  srt_ris (isort_srt xs) (fun x hx => s x ((isort_perm xs).mem_iff.mp hx)) ((isort_perm xs).nodup_iff.mpr n)
theorem isort_mem {xs : List D} {x : D} : x ∈ isortD xs ↔ x ∈ xs := (isort_perm xs).mem_iff
/-- sorted lists of the same things are the same -/
theorem ris_uniq : ∀ {l m : List D}, Ris l → Ris m → (∀ x, x ∈ l ↔ x ∈ m) → l = m
  | [], [], _, _, _ => rfl
  | [], y :: m, _, _, h => by have := (h y).mpr List.mem_cons_self; cases this
  | x :: l, [], _, _, h => by have := (h x).mp List.mem_cons_self; cases this
  | x :: l, y :: m, a, b, h => by
    obtain ⟨a1, a2⟩ := List.pairwise_cons.mp a
    obtain ⟨b1, b2⟩ := List.pairwise_cons.mp b
    have e : x = y := by
      rcases List.mem_cons.mp ((h x).mp List.mem_cons_self) with e | hx
      · exact e
      · rcases List.mem_cons.mp ((h y).mpr List.mem_cons_self) with e | hy
        · exact e.symm
        · have := dlt_asymm (b1 x hx); rw [a1 y hy] at this; cases this
    subst e
    rw [ris_uniq a2 b2 fun z => ?_]
    constructor
    · intro hz
      rcases List.mem_cons.mp ((h z).mp (List.mem_cons_of_mem _ hz)) with e | hz'
      · subst e; have := a1 z hz; rw [dlt_irr] at this; cases this
      · exact hz'
    · intro hz
      rcases List.mem_cons.mp ((h z).mpr (List.mem_cons_of_mem _ hz)) with e | hz'
      · subst e; have := b1 z hz; rw [dlt_irr] at this; cases this
      · exact hz'
theorem ris_sort {l : List D} (h : Ris l) (s : ∀ x ∈ l, sd x = true) : isortD l = l := by
  have n : l.Nodup := by
    refine List.Pairwise.imp (fun {a b} q e => ?_) h
    subst e; rw [dlt_irr] at q; cases q
  exact ris_uniq (isort_ris s n) h fun x => isort_mem
end Pin
end
-- Pl1
section
set_option linter.all false
/-! Pl, part 1: following notes or boxes, in plain Lean: what is known of a name. -/
namespace Pl
open PySem Pin

inductive Step where
  | tells (v : D)
  | asks (c : Str)
structure Sys where
  given : Str → Option D
  made : Str → Option Str
  nx : Str → List (Str × D) → Option Step
/-- what one comes to: a value, or the labels down to one whose notes end -/
inductive Res where
  | known (v : D)
  | run (ch : List Str)
def vNONE : D := .tuple [.str "fault", .str "none"]
def vText (w : D) : D := .tuple [.str "text", w]

def fol (S : Sys) (e : Str → Option Res) (l : Str) : Nat → List (Str × D) → Option Res
  | 0, _ => none
  | m + 1, rs => match S.nx l rs with
    | none => some (.run [l])
    | some (.tells v) => some (.known v)
    | some (.asks c) => match e c with
      | none => none
      | some (.known v) => fol S e l m (rs ++ [(c, v)])
      | some (.run ch) => some (.run (l :: ch))
def folMax : Nat := 100
def ev (S : Sys) : Nat → Str → Option Res
  | 0, x => match S.given x with
    | some w => some (.known (vText w))
    | none => match S.made x with
      | none => some (.known vNONE)
      | some _ => none
  | n + 1, x => match S.given x with
    | some w => some (.known (vText w))
    | none => match S.made x with
      | none => some (.known vNONE)
      | some l => fol S (ev S n) l folMax []

theorem fol_mono {S : Sys} {e e' : Str → Option Res} (h : ∀ c r, e c = some r → e' c = some r) {l : Str} : ∀ {m : Nat} {rs : List (Str × D)} {r : Res}, fol S e l m rs = some r → fol S e' l m rs = some r
  | 0, _, _, q => by cases q
  | m + 1, rs, r, q => by
    unfold fol at q ⊢
    split at q
    · exact q
    · exact q
    · rename_i c hc
      cases he : e c with
      | none => rw [he] at q; cases q
      | some r' =>
        rw [he] at q; rw [h c r' he]
        cases r' with
        | known v => exact fol_mono h q
        | run ch => exact q
theorem ev_succ {S : Sys} : ∀ {n : Nat} {x : Str} {r : Res}, ev S n x = some r → ev S (n + 1) x = some r
  | 0, x, r, h => by
    unfold ev at h ⊢
    split <;> simp_all
    split <;> simp_all
  | n + 1, x, r, h => by
    unfold ev at h ⊢
    split
    · simp_all
    · rename_i hg
      rw [hg] at h
      simp only at h
      split
      · simp_all
      · rename_i l hm
        rw [hm] at h
        exact fol_mono (fun c r q => ev_succ q) h
theorem ev_le {S : Sys} {n m : Nat} {x : Str} {r : Res} (h : n ≤ m) (e : ev S n x = some r) : ev S m x = some r := by
  induction h with
  | refl => exact e
  | step _ ih => exact ev_succ ih
theorem ev_fun {S : Sys} {n m : Nat} {x : Str} {r r' : Res} (h : ev S n x = some r) (h' : ev S m x = some r') : r = r' := by
  have a := ev_le (Nat.le_max_left n m) h
  have b := ev_le (Nat.le_max_right n m) h'
  rw [a] at b; exact Option.some.inj b

open Classical in
/-- what one comes to in the end, none for a ring -/
noncomputable def lim (S : Sys) (x : Str) : Option Res := if h : ∃ r, ∃ n, ev S n x = some r then some h.choose else none
theorem lim_of {S : Sys} {n : Nat} {x : Str} {r : Res} (h : ev S n x = some r) : lim S x = some r := by
  have q : ∃ r, ∃ n, ev S n x = some r := ⟨r, n, h⟩
  unfold lim
  rw [dif_pos q]
  obtain ⟨m, e⟩ := q.choose_spec
  exact congrArg some (ev_fun e h)
theorem lim_ex {S : Sys} {x : Str} {r : Res} (h : lim S x = some r) : ∃ n, ev S n x = some r := by
  unfold lim at h
  split at h
  · rename_i q
    obtain ⟨m, e⟩ := q.choose_spec
    exact ⟨m, e.trans (by rw [← h])⟩
  · cases h
theorem lim_none {S : Sys} {x : Str} (h : lim S x = none) (n : Nat) : ev S n x = none := by
  cases e : ev S n x with
  | none => rfl
  | some r => rw [lim_of e] at h; cases h
theorem lim_no {S : Sys} {x : Str} (h : ∀ n, ev S n x = none) : lim S x = none := by
  cases e : lim S x with
  | none => rfl
  | some r => obtain ⟨n, q⟩ := lim_ex e; rw [h n] at q; cases q

theorem lim_given {S : Sys} {x : Str} {w : D} (h : S.given x = some w) : lim S x = some (.known (vText w)) := lim_of (n := 0) (by unfold ev; rw [h])
theorem lim_free {S : Sys} {x : Str} (h : S.given x = none) (h' : S.made x = none) : lim S x = some (.known vNONE) := lim_of (n := 0) (by unfold ev; rw [h, h'])
theorem fol_fin {S : Sys} {l : Str} : ∀ {m : Nat} {rs : List (Str × D)} {r : Res}, fol S (lim S) l m rs = some r → ∃ n, fol S (ev S n) l m rs = some r
  | 0, _, _, q => by cases q
  | m + 1, rs, r, q => by
    unfold fol at q
    unfold fol
    split at q
    · exact ⟨0, q⟩
    · exact ⟨0, q⟩
    · rename_i c hc
      cases he : lim S c with
      | none => rw [he] at q; cases q
      | some r' =>
        rw [he] at q
        obtain ⟨n, en⟩ := lim_ex he
        cases r' with
        | run ch => exact ⟨n, by rw [en]; exact q⟩
        | known v =>
          obtain ⟨k, ek⟩ := fol_fin q
          refine ⟨max n k, ?_⟩
          rw [ev_le (Nat.le_max_left n k) en]
          exact fol_mono (fun c r e => ev_le (Nat.le_max_right n k) e) ek
/-- the label's own equation -/
theorem lim_made {S : Sys} {x l : Str} (h : S.given x = none) (h' : S.made x = some l) : lim S x = fol S (lim S) l folMax [] := by
  cases e : fol S (lim S) l folMax [] with
  | some r =>
    obtain ⟨n, en⟩ := fol_fin e
    exact lim_of (n := n + 1) (by unfold ev; rw [h, h']; exact en)
  | none =>
    refine lim_no fun n => ?_
    cases en : ev S n x with
    | none => rfl
    | some r =>
      have en' := ev_succ en
      unfold ev at en'
      rw [h, h'] at en'
      have := fol_mono (e' := lim S) (fun c r q => lim_of q) en'
      rw [e] at this; cases this
/-- the labels that have begun end only behind l -/
def Dom (S : Sys) (B : List Str) (l : Str) : Prop := ∀ b ∈ B, ∀ n r, fol S (ev S n) b folMax [] = some r → ∃ k, k < n ∧ ∃ r', fol S (ev S k) l folMax [] = some r'
theorem Dom.nil {S : Sys} {l : Str} : Dom S [] l := fun b h => by cases h
theorem Dom.ring {S : Sys} {B : List Str} {l : Str} (h : Dom S B l) (m : l ∈ B) (n : Nat) : fol S (ev S n) l folMax [] = none := by
  induction n using Nat.strongRecOn with
  | _ n ih =>
    cases e : fol S (ev S n) l folMax [] with
    | none => rfl
    | some r =>
      obtain ⟨k, hk, r', q⟩ := h l m n r e
      rw [ih k hk] at q; cases q
theorem Dom.lim {S : Sys} {B : List Str} {l : Str} (h : Dom S B l) (m : l ∈ B) : fol S (lim S) l folMax [] = none := by
  cases e : fol S (Pl.lim S) l folMax [] with
  | none => rfl
  | some r => obtain ⟨n, q⟩ := fol_fin e; rw [h.ring m n] at q; cases q
/-- where one is on a label's way: each end of the label comes by here -/
def On (S : Sys) (l : Str) (m : Nat) (rs : List (Str × D)) : Prop := ∀ n r, fol S (ev S n) l folMax [] = some r → fol S (ev S n) l m rs = some r
theorem On.start {S : Sys} {l : Str} : On S l folMax [] := fun n r h => h
theorem On.next {S : Sys} {l c : Str} {m : Nat} {rs : List (Str × D)} {v : D} (h : On S l (m + 1) rs) (hc : S.nx l rs = some (.asks c)) (hv : Pl.lim S c = some (.known v)) : On S l m (rs ++ [(c, v)]) := fun n r q => by
  have := h n r q
  unfold fol at this
  rw [hc] at this
  simp only at this
  cases e : ev S n c with
  | none => rw [e] at this; cases this
  | some r' =>
    have e' := lim_of e
    rw [hv] at e'; cases e'
    rw [e] at this; exact this
/-- what is asked there ends earlier -/
theorem On.dom {S : Sys} {l c l' : Str} {B : List Str} {m : Nat} {rs : List (Str × D)} (h : On S l (m + 1) rs) (hc : S.nx l rs = some (.asks c)) (hg : S.given c = none) (hm : S.made c = some l') (hB : Dom S B l) : Dom S (B ++ [l]) l' := fun b hb n r q => by
  have own : ∀ n r, fol S (ev S n) l folMax [] = some r → ∃ k, k < n ∧ ∃ r', fol S (ev S k) l' folMax [] = some r' := fun n r q => by
    have := h n r q
    unfold fol at this
    rw [hc] at this
    simp only at this
    cases e : ev S n c with
    | none => rw [e] at this; cases this
    | some r' =>
      cases n with
      | zero => unfold ev at e; rw [hg, hm] at e; cases e
      | succ n => unfold ev at e; rw [hg, hm] at e; exact ⟨n, Nat.lt_succ_self n, r', e⟩
  rcases List.mem_append.mp hb with hb | hb
  · obtain ⟨k, hk, r', e⟩ := hB b hb n r q
    obtain ⟨k', hk', r'', e'⟩ := own k r' e
    exact ⟨k', Nat.lt_trans hk' hk, r'', e'⟩
  · rw [List.mem_singleton.mp hb] at q
    exact own n r q
end Pl
end
-- Sp2
section
set_option linter.all false
set_option maxRecDepth 100000
/-! Sp, part 2: how stocks and crates are written; boxes; values in a crate. -/
namespace Pin
open PySem PySem.Spec PyProof.Rows L2 Ms Pl

@[simp] theorem eqV_sl (a : Str) (y : D) (hp : AH) : eqV (.d (.str a)) (.d y) hp = .ok (.d (.bool (PyData.eqv (.str a) y))) hp := eqV_ok (.inl (by simp))
@[simp] theorem eqV_sr (a : Str) (y : D) (hp : AH) : eqV (.d y) (.d (.str a)) hp = .ok (.d (.bool (PyData.eqv y (.str a)))) hp := eqV_ok (.inr (by simp))
@[simp] theorem neV_sl (a : Str) (y : D) (hp : AH) : neV (.d (.str a)) (.d y) hp = .ok (.d (.bool !(PyData.eqv (.str a) y))) hp := neV_ok (.inl (by simp))
@[simp] theorem neV_sr (a : Str) (y : D) (hp : AH) : neV (.d y) (.d (.str a)) hp = .ok (.d (.bool !(PyData.eqv y (.str a)))) hp := neV_ok (.inr (by simp))
@[simp] theorem eqV_il (a : Int) (y : D) (hp : AH) : eqV (.d (.int a)) (.d y) hp = .ok (.d (.bool (PyData.eqv (.int a) y))) hp := eqV_ok (.inl (by simp))
@[simp] theorem neV_il (a : Int) (y : D) (hp : AH) : neV (.d (.int a)) (.d y) hp = .ok (.d (.bool !(PyData.eqv (.int a) y))) hp := neV_ok (.inl (by simp))
@[simp] theorem l_ta : (("tells" : Str) = "asks") = False := eq_false (by decide +kernel)
@[simp] theorem l_at : (("asks" : Str) = "tells") = False := eq_false (by decide +kernel)
@[simp] theorem l_kr : (("known" : Str) = "run") = False := eq_false (by decide +kernel)
@[simp] theorem l_rk : (("run" : Str) = "known") = False := eq_false (by decide +kernel)
@[simp] theorem l_ke : (("known" : Str) = "endless") = False := eq_false (by decide +kernel)
@[simp] theorem l_ek : (("endless" : Str) = "known") = False := eq_false (by decide +kernel)
@[simp] theorem l_er : (("endless" : Str) = "run") = False := eq_false (by decide +kernel)
@[simp] theorem l_re : (("run" : Str) = "endless") = False := eq_false (by decide +kernel)
@[simp] theorem l_ft : (("fault" : Str) = "text") = False := eq_false (by decide +kernel)
@[simp] theorem l_tf : (("text" : Str) = "fault") = False := eq_false (by decide +kernel)
@[simp] theorem l_nc : (("none" : Str) = "circle") = False := eq_false (by decide +kernel)

/-! ### how things are written -/
def encG (g : List (Str × D)) : D := .tuple (g.map fun p => .tuple [.str p.1, p.2])
def encM (m : List (Str × Str)) : D := .tuple (m.map fun p => .tuple [.str p.1, .str p.2])
abbrev Note := Str × List (Str × D) × D
def encN (n : Note) : D := .tuple [.str n.1, encG n.2.1, n.2.2]
def encNs (ns : List Note) : D := .tuple (ns.map encN)
def stl (B : List Str) : List D := B.map .str
theorem pairD_G (g : List (Str × D)) : pairD (g.map fun p => .tuple [.str p.1, p.2]) = some g := by
  induction g with
  | nil => rfl
  | cons p g ih => simp [pairD, ih]
theorem pairD_M (m : List (Str × Str)) : pairD (m.map fun p => .tuple [.str p.1, .str p.2]) = some (m.map fun p => (p.1, .str p.2)) := by
  induction m with
  | nil => rfl
  | cons p m ih => simp [pairD, ih]
theorem putD_new {kvs : List (Str × D)} {k : Str} {v : D} (h : k ∉ kvs.map (·.1)) : putD kvs k v = kvs ++ [(k, v)] := by
  unfold putD
  rw [if_neg]
  simp only [List.any_eq_true, decide_eq_true_eq, not_exists, not_and]
  exact fun p hp e => h (List.mem_map.mpr ⟨p, hp, e⟩)
theorem merge_go : ∀ (kvs acc : List (Str × D)), ((acc ++ kvs).map (·.1)).Nodup → kvs.foldl (fun acc kv => putD acc kv.1 kv.2) acc = acc ++ kvs
  | [], acc, _ => by simp
  | (k, v) :: kvs, acc, h => by
    have hk : k ∉ acc.map (·.1) := fun q => by
      rw [List.map_append, List.nodup_append] at h
      exact h.2.2 k q k (by simp) rfl
    rw [List.foldl_cons, putD_new hk, merge_go kvs (acc ++ [(k, v)]) (by simpa using h)]
    simp
theorem merge_nd {kvs : List (Str × D)} (h : (kvs.map (·.1)).Nodup) : mergeD kvs = kvs := by
  unfold mergeD
  rw [merge_go kvs [] (by simpa using h)]; simp
/-- the label of a name -/
def mK (m : List (Str × Str)) (x : Str) : Option Str := (m.find? fun p => decide (p.1 = x)).map (·.2)
theorem getD_mK (m : List (Str × Str)) (x : Str) : getD (m.map fun p => (p.1, .str p.2)) x = (mK m x).map .str := by
  unfold getD mK
  rw [List.find?_map]
  cases h : m.find? ((fun kv : Str × D => decide (kv.1 = x)) ∘ fun p => (p.1, PyData.str p.2)) with
  | none =>
    have : m.find? (fun p => decide (p.1 = x)) = none := h
    rw [this]; rfl
  | some p =>
    have : m.find? (fun p => decide (p.1 = x)) = some p := h
    rw [this]; rfl
theorem mK_mem {m : List (Str × Str)} {x l : Str} (h : mK m x = some l) : (x, l) ∈ m := by
  unfold mK at h
  cases q : m.find? fun p => decide (p.1 = x) with
  | none => rw [q] at h; cases h
  | some p =>
    rw [q] at h
    obtain ⟨px, pl⟩ := p
    have hm := List.mem_of_find?_eq_some q
    have hx := List.find?_some q
    simp only [decide_eq_true_eq] at hx
    simp only [Option.map_some, Option.some.injEq] at h
    subst hx h; exact hm
theorem getD_mem {g : List (Str × D)} {x : Str} {d : D} (h : getD g x = some d) : (x, d) ∈ g := by
  unfold getD at h
  cases q : g.find? fun p => decide (p.1 = x) with
  | none => rw [q] at h; cases h
  | some p =>
    rw [q] at h
    obtain ⟨px, pl⟩ := p
    have hm := List.mem_of_find?_eq_some q
    have hx := List.find?_some q
    simp only [decide_eq_true_eq] at hx
    simp only [Option.map_some, Option.some.injEq] at h
    subst hx h; exact hm
theorem getD_none {g : List (Str × D)} {x : Str} : getD g x = none ↔ x ∉ g.map (·.1) := by
  unfold getD
  rw [Option.map_eq_none_iff, List.find?_eq_none]
  simp only [decide_eq_true_eq, List.mem_map, not_exists, not_and]
theorem mK_none {g : List (Str × Str)} {x : Str} : mK g x = none ↔ x ∉ g.map (·.1) := by
  unfold mK
  rw [Option.map_eq_none_iff, List.find?_eq_none]
  simp only [decide_eq_true_eq, List.mem_map, not_exists, not_and]
theorem mem_getD {g : List (Str × D)} {x : Str} {d : D} (nd : (g.map (·.1)).Nodup) (h : (x, d) ∈ g) : getD g x = some d := by
  induction g with
  | nil => cases h
  | cons p g ih =>
    obtain ⟨y, e⟩ := p
    rw [List.map_cons, List.nodup_cons] at nd
    rcases List.mem_cons.mp h with q | q
    · cases q; exact getD_same _ _ _
    · rw [getD_ne (fun e => nd.1 (by rw [e]; exact List.mem_map.mpr ⟨_, q, rfl⟩))]; exact ih nd.2 q
theorem mem_mK {g : List (Str × Str)} {x : Str} {d : Str} (nd : (g.map (·.1)).Nodup) (h : (x, d) ∈ g) : mK g x = some d := by
  have := mem_getD (g := g.map fun p => (p.1, PyData.str p.2)) (x := x) (d := .str d) (by simpa [List.map_map, Function.comp_def] using nd) (List.mem_map.mpr ⟨_, h, rfl⟩)
  rw [getD_mK] at this
  cases q : mK g x with
  | none => rw [q] at this; cases this
  | some l => rw [q] at this; cases this; rfl

/-! ### values -/
def okV (v : D) : Prop := (∃ r : Str, r ≠ "circle" ∧ v = .tuple [.str "fault", .str r]) ∨ ∃ ws : List Str, ws.length ≤ 100 ∧ v = .tuple [.str "text", .tuple (stl ws)]
/-- a text: not too long -/
def isW (w : D) : Prop := ∃ ws : List Str, ws.length ≤ 100 ∧ w = .tuple (stl ws)
theorem sd_stl (ws : List Str) : sdAll (stl ws) = true := sdAll_iff.mpr fun x hx => by obtain ⟨w, _, rfl⟩ := List.mem_map.mp hx; simp
theorem depth_stl (ws : List Str) : PyData.depthAll (stl ws) ≤ 0 := depthAll_iff.mpr fun x hx => by obtain ⟨w, _, rfl⟩ := List.mem_map.mp hx; simp
theorem okV.sd {v : D} (h : okV v) : sd v = true := by
  rcases h with ⟨r, _, rfl⟩ | ⟨ws, _, rfl⟩ <;> simp [sd_stl]
theorem okV.depth {v : D} (h : okV v) : v.depth ≤ 2 := by
  have := depth_stl
  rcases h with ⟨r, _, rfl⟩ | ⟨ws, _, rfl⟩
  · simp
  · have := depth_stl ws; simp; omega
theorem okV_none : okV vNONE := .inl ⟨_, by decide +kernel, rfl⟩
theorem okV.ne {v : D} (h : okV v) : isNone (.d v) = false := by
  rcases h with ⟨r, _, rfl⟩ | ⟨ws, _, rfl⟩ <;> rfl

/-! ### boxes -/
def boxStep (d : D) : Pl.Step := match d with
  | .tuple [_, v] => .tells v
  | .tuple [_, .str n, _, _] => .asks n
  | _ => .tells .none
def rowIs (v r : D) : Bool := match r with
  | .tuple [k, _] => PyData.eqv k v
  | _ => false
@[simp] theorem rowIs_t (v k b : D) : rowIs v (.tuple [k, b]) = PyData.eqv k v := rfl
def rowBox (o : Option D) (last : D) : D := match o with
  | some (.tuple [_, b]) => b
  | _ => last
@[simp] theorem rowBox_s (k b l : D) : rowBox (some (.tuple [k, b])) l = b := rfl
@[simp] theorem rowBox_n (l : D) : rowBox none l = l := rfl
def boxGo (d v : D) : D := match d with
  | .tuple [_, _, .tuple rows, last] => rowBox (rows.find? (rowIs v)) last
  | _ => .none
@[simp] theorem boxGo_t (x y : D) (rows : List D) (last v : D) : boxGo (.tuple [x, y, .tuple rows, last]) v = rowBox (rows.find? (rowIs v)) last := rfl
def boxAt (d : D) (rs : List (Str × D)) : D := rs.foldl (fun d p => boxGo d p.2) d
theorem boxAt_snoc (d : D) (rs : List (Str × D)) (c : Str) (v : D) : boxAt d (rs ++ [(c, v)]) = boxGo (boxAt d rs) v := by simp [boxAt]
/-- a box that asks none of some names, so deep at most; the names it may ask -/
def IsBox (NM : List Str) : Nat → List Str → D → Prop
  | 0, _, d => ∃ v, okV v ∧ d = .tuple [.str "tells", v]
  | k + 1, A, d => (∃ v, okV v ∧ d = .tuple [.str "tells", v]) ∨ ∃ n rows last, d = .tuple [.str "asks", .str n, .tuple rows, last] ∧ n ∉ A ∧ n ∈ NM ∧ rows.length ≤ 100 ∧ (∀ r ∈ rows, ∃ v b, r = .tuple [v, b] ∧ okV v ∧ IsBox NM k (A ++ [n]) b) ∧ IsBox NM k (A ++ [n]) last
theorem IsBox.two {NM : List Str} : ∀ {k : Nat} {A : List Str} {d : D}, IsBox NM k A d → (∃ v, okV v ∧ d = .tuple [.str "tells", v]) ∨ ∃ k' n rows last, k = k' + 1 ∧ d = .tuple [.str "asks", .str n, .tuple rows, last] ∧ n ∉ A ∧ n ∈ NM ∧ rows.length ≤ 100 ∧ (∀ r ∈ rows, ∃ v b, r = .tuple [v, b] ∧ okV v ∧ IsBox NM k' (A ++ [n]) b) ∧ IsBox NM k' (A ++ [n]) last
  | 0, _, _, h => .inl h
  | k + 1, _, _, h => by
    rcases h with h | ⟨n, rows, last, h1, h2, h3, h4, h5, h6⟩
    · exact .inl h
    · exact .inr ⟨k, n, rows, last, rfl, h1, h2, h3, h4, h5, h6⟩
theorem IsBox.go {NM : List Str} {k : Nat} {A : List Str} {rows : List D} {last v : D} (hr : ∀ r ∈ rows, ∃ v b, r = .tuple [v, b] ∧ okV v ∧ IsBox NM k A b) (hl : IsBox NM k A last) (x y : D) : IsBox NM k A (boxGo (.tuple [x, y, .tuple rows, last]) v) := by
  rw [boxGo_t]
  cases q : rows.find? (rowIs v) with
  | none => exact hl
  | some r =>
    obtain ⟨v', b, rfl, _, hb⟩ := hr r (List.mem_of_find?_eq_some q)
    exact hb
/-- _law_behind -/
theorem behind_ok {NM : List Str} {hp : AH} (c : Cl hp) {k : Nat} {A : List Str} {rows : List D} {last v : D} {n : Str} (hr : ∀ r ∈ rows, ∃ v b, r = .tuple [v, b] ∧ okV v ∧ IsBox NM k A b) (hv : okV v) :
    F_l_behind [.d (.tuple [.str "asks", .str n, .tuple rows, last]), .d v] hp = .ok (.d (boxGo (.tuple [.str "asks", .str n, .tuple rows, last]) v)) hp := by
  unfold F_l_behind G_l_behind b_l_behind
  rw [boxGo_t]
  simp
  refine forD_inv (fun rem env h => ∃ x y, env = [some (.d (.tuple [.str "asks", .str n, .tuple rows, last])), some (.d v), x, y] ∧ h = hp ∧ (∀ r ∈ rem, ∃ v b, r = .tuple [v, b] ∧ okV v ∧ IsBox NM k A b) ∧ rows.find? (rowIs v) = rem.find? (rowIs v)) (fun o => fnO hp.length hp (seqO o (retS (bF ixV (vF 0) (cF (.int 3))))) = _) ?_ ?_ ⟨none, none, rfl, rfl, hr, rfl⟩
  · rintro env h ⟨x, y, rfl, rfl, _, e⟩
    rw [e]
    simp
    exact trim_same c
  · rintro d ds env h ⟨x, y, rfl, rfl, hall, e⟩
    obtain ⟨v', b, rfl, hv', hb⟩ := hall d List.mem_cons_self
    have hq : ∀ hq : AH, eqV (.d v') (.d v) hq = .ok (.d (.bool (PyData.eqv v' v))) hq := fun hq => eqV_ok (.inr (by have := hv.depth; omega))
    refine ⟨_, _, by simp; exact ⟨rfl, rfl⟩, ?_⟩
    rw [e]
    cases q : PyData.eqv v' v with
    | true =>
      refine .inr (.inr (.inr (.inl ⟨.d b, h, by simp [hq, q], ?_⟩)))
      simp [q]
      exact trim_same c
    | false =>
      refine .inl ⟨[some (.d (.tuple [.str "asks", .str n, .tuple rows, last])), some (.d v), some (.d v'), some (.d b)], h, by simp [hq, q], _, _, rfl, rfl, fun r hr => hall r (List.mem_cons_of_mem _ hr), ?_⟩
      simp [q]
end Pin
end
-- Sp3
section
set_option linter.all false
set_option maxRecDepth 100000
/-! Sp, part 3: values and branches in a crate (_law_found, _law_branch). -/
namespace Pin
open PySem PySem.Spec PyProof.Rows L2 Ms Pl

def crSys (g : List (Str × D)) (m : List (Str × Str)) (bs : List (Str × D)) : Sys := ⟨getD g, mK m, fun l rs => (getD bs l).map fun b => boxStep (boxAt b rs)⟩
def encC (g : List (Str × D)) (m : List (Str × Str)) (bs : List (Str × D)) : D := .tuple [encG g, encM m, encG bs]
structure BaseOk (g : List (Str × D)) (m : List (Str × Str)) (LS : List Str) : Prop where
  gn : (g.map (·.1)).Nodup
  mn : (m.map (·.1)).Nodup
  dj : ∀ x, x ∈ g.map (·.1) → x ∉ m.map (·.1)
  gl : g.length ≤ 100
  ml : m.length ≤ 100
  sl : LS.length ≤ 50
  gw : ∀ p ∈ g, isW p.2
  ls : ∀ p ∈ m, p.2 ∈ LS
structure BoxesOk (NM : List Str) (bs : List (Str × D)) (LS : List Str) : Prop where
  bn : (bs.map (·.1)).Nodup
  bl : bs.length ≤ 100
  lb : ∀ l ∈ LS, ∃ b, getD bs l = some b ∧ IsBox NM 8 [] b
def brn (S : Sys) (e : Str → Option Res) (l : Str) : Nat → List (Str × D) → Option (List (Str × D) × D)
  | 0, _ => none
  | m + 1, rs => match S.nx l rs with
    | none => none
    | some (.tells v) => some (rs, v)
    | some (.asks c) => match e c with
      | some (.known v) => brn S e l m (rs ++ [(c, v)])
      | _ => none
theorem brn_tells {S : Sys} {e : Str → Option Res} {l : Str} {m : Nat} {rs : List (Str × D)} {v : D} (h : S.nx l rs = some (.tells v)) : brn S e l (m + 1) rs = some (rs, v) := by
  rw [brn, h]
theorem brn_known {S : Sys} {e : Str → Option Res} {l c : Str} {m : Nat} {rs : List (Str × D)} {v : D} (h : S.nx l rs = some (.asks c)) (q : e c = some (.known v)) : brn S e l (m + 1) rs = brn S e l m (rs ++ [(c, v)]) := by
  rw [brn, h]; simp only [q]
theorem brn_stuck {S : Sys} {e : Str → Option Res} {l c : Str} {m : Nat} {rs : List (Str × D)} (h : S.nx l rs = some (.asks c)) (q : e c = none) : brn S e l (m + 1) rs = none := by
  rw [brn, h]; simp only [q]
def resV : Option Res → D
  | some (.known v) => v
  | _ => .none
def brD : Option (List (Str × D) × D) → D
  | some (rs, v) => .tuple [encG rs, v]
  | none => .none
theorem boxStep_t (x v : D) : boxStep (.tuple [x, v]) = .tells v := rfl
theorem boxStep_a (x : D) (n : Str) (r l : D) : boxStep (.tuple [x, .str n, r, l]) = .asks n := rfl
theorem IsBox.mono {NM : List Str} : ∀ {k : Nat} {A : List Str} {d : D}, IsBox NM k A d → IsBox NM (k + 1) A d
  | 0, _, _, h => .inl h
  | k + 1, _, _, h => by
    rcases h with h | ⟨n, rows, last, h1, h2, h3, h4, h5, h6⟩
    · exact .inl h
    · exact .inr ⟨n, rows, last, h1, h2, h3, h4, fun r hr => let ⟨v, b, e, hv, hb⟩ := h5 r hr; ⟨v, b, e, hv, hb.mono⟩, h6.mono⟩
section
variable {NM : List Str} {g : List (Str × D)} {m : List (Str × Str)} {bs : List (Str × D)} {LS : List Str}
theorem cr_nx (X : BoxesOk NM bs LS) {l : Str} (h : l ∈ LS) (rs : List (Str × D)) : ∃ s, (crSys g m bs).nx l rs = some s := by
  obtain ⟨b, e, _⟩ := X.lb l h
  exact ⟨_, by show (getD bs l).map _ = _; rw [e]; rfl⟩
/-- nothing is unknown in a crate -/
theorem fol_norun {S : Sys} {e : Str → Option Res} {l : Str} (hn : ∀ rs, ∃ s, S.nx l rs = some s) (he : ∀ c ch, e c ≠ some (.run ch)) : ∀ {k : Nat} {rs : List (Str × D)} {ch : List Str}, fol S e l k rs ≠ some (.run ch)
  | 0, _, _, q => by cases q
  | k + 1, rs, ch, q => by
    unfold fol at q
    obtain ⟨s, hs⟩ := hn rs
    rw [hs] at q
    cases s with
    | tells v => cases q
    | asks c =>
      simp only at q
      cases h : e c with
      | none => rw [h] at q; cases q
      | some r =>
        rw [h] at q
        cases r with
        | known v => exact fol_norun hn he q
        | run ch' => exact he c ch' h
theorem ev_norun (B : BaseOk g m LS) (X : BoxesOk NM bs LS) : ∀ (n : Nat) (x : Str) (ch : List Str), ev (crSys g m bs) n x ≠ some (.run ch)
  | 0, x, ch, q => by
    unfold ev at q
    split at q
    · cases q
    · split at q <;> cases q
  | n + 1, x, ch, q => by
    unfold ev at q
    split at q
    · cases q
    · split at q
      · cases q
      · rename_i l hl
        exact fol_norun (fun rs => cr_nx X (B.ls _ (mK_mem hl)) rs) (fun c ch => ev_norun B X n c ch) q
theorem lim_norun (B : BaseOk g m LS) (X : BoxesOk NM bs LS) (x : Str) (ch : List Str) : lim (crSys g m bs) x ≠ some (.run ch) := fun q => let ⟨n, e⟩ := lim_ex q; ev_norun B X n x ch e
/-- the values are texts or faults -/
theorem fol_okV {e : Str → Option Res} {l : Str} {b : D} (hb : getD bs l = some b) (he : ∀ c v, e c = some (.known v) → okV v) : ∀ {k j : Nat} {A : List Str} {rs : List (Str × D)} {v : D}, IsBox NM j A (boxAt b rs) → fol (crSys g m bs) e l k rs = some (.known v) → okV v
  | 0, _, _, _, _, _, q => by cases q
  | k + 1, j, A, rs, v, hx, q => by
    unfold fol at q
    have hs : (crSys g m bs).nx l rs = some (boxStep (boxAt b rs)) := by show (getD bs l).map _ = _; rw [hb]; rfl
    rw [hs] at q
    rcases hx.two with ⟨v', hv', e'⟩ | ⟨j', n, rows, last, rfl, e', _, _, _, h5, h6⟩
    · rw [e', boxStep_t] at q
      cases q; exact hv'
    · rw [e', boxStep_a] at q
      simp only at q
      cases h : e n with
      | none => rw [h] at q; cases q
      | some r =>
        rw [h] at q
        cases r with
        | run ch' => cases q
        | known w => exact fol_okV hb he (rs := rs ++ [(n, w)]) (by rw [boxAt_snoc, e']; exact IsBox.go h5 h6 _ _) q
theorem ev_okV (B : BaseOk g m LS) (X : BoxesOk NM bs LS) : ∀ (n : Nat) (x : Str) (v : D), ev (crSys g m bs) n x = some (.known v) → okV v
  | n, x, v, q => by
    have hgiven : ∀ w, (crSys g m bs).given x = some w → okV (vText w) := fun w h => by
      obtain ⟨ws, hl, e⟩ := B.gw _ (getD_mem (show getD g x = some w from h))
      exact .inr ⟨ws, hl, by rw [vText]; simp only at e; rw [e]⟩
    cases n with
    | zero =>
      unfold ev at q
      split at q
      · rename_i w h; cases q; exact hgiven w h
      · split at q
        · cases q; exact okV_none
        · cases q
    | succ n =>
      unfold ev at q
      split at q
      · rename_i w h; cases q; exact hgiven w h
      · split at q
        · cases q; exact okV_none
        · rename_i l hl
          obtain ⟨b, hb, hx⟩ := X.lb l (B.ls _ (mK_mem hl))
          exact fol_okV hb (fun c v h => ev_okV B X n c v h) (rs := []) hx q
theorem lim_okV (B : BaseOk g m LS) (X : BoxesOk NM bs LS) {x : Str} {v : D} (h : lim (crSys g m bs) x = some (.known v)) : okV v := let ⟨n, e⟩ := lim_ex h; ev_okV B X n x v e
theorem fol_brn {S : Sys} {e : Str → Option Res} {l : Str} (hn : ∀ rs, ∃ s, S.nx l rs = some s) (he : ∀ c ch, e c ≠ some (.run ch)) : ∀ (k : Nat) (rs : List (Str × D)), fol S e l k rs = (brn S e l k rs).map fun p => .known p.2
  | 0, _ => rfl
  | k + 1, rs => by
    unfold fol brn
    obtain ⟨s, hs⟩ := hn rs
    rw [hs]
    cases s with
    | tells v => rfl
    | asks c =>
      simp only
      cases h : e c with
      | none => rfl
      | some r =>
        cases r with
        | known v => exact fol_brn hn he k _
        | run ch => exact absurd h (he c ch)
theorem nd_len : ∀ {B LS : List Str}, B.Nodup → (∀ b ∈ B, b ∈ LS) → B.length ≤ LS.length
  | [], _, _, _ => Nat.zero_le _
  | b :: B, LS, nd, sub => by
    obtain ⟨n1, n2⟩ := List.nodup_cons.mp nd
    have hb := sub b List.mem_cons_self
    have ih := nd_len (LS := LS.erase b) n2 fun x hx => (List.mem_erase_of_ne (fun e => n1 (by rw [← e]; exact hx))).mpr (sub x (List.mem_cons_of_mem _ hx))
    rw [List.length_erase_of_mem hb] at ih
    have : 0 < LS.length := List.length_pos_of_mem hb
    rw [List.length_cons]; omega
/-- the end of a fuel -/
theorem fuel_end {LS B : List Str} (nd : B.Nodup) (sub : ∀ b ∈ B, b ∈ LS) : ¬ LS.length < B.length := fun h => by
  have := nd_len nd sub
  omega
def FoundOk (g : List (Str × D)) (m : List (Str × Str)) (bs : List (Str × D)) (LS : List Str) (k : Nat) : Prop := ∀ (B : List Str) (x : Str) (hp : AH), Cl hp → B.Nodup → (∀ b ∈ B, b ∈ LS) → LS.length < k + B.length →
  (∀ l, getD g x = none → mK m x = some l → Dom (crSys g m bs) B l) → F_l_found k [.d (encC g m bs), .d (.str x), .d (.list (stl B))] hp = .ok (.d (resV (lim (crSys g m bs) x))) hp
theorem stl_snoc (B : List Str) (l : Str) : stl B ++ [.str l] = stl (B ++ [l]) := by simp [stl]
theorem any_str (B : List Str) (l : Str) : ((stl B).any fun y => PyData.eqv y (.str l)) = decide (l ∈ B) := by
  induction B with
  | nil => rfl
  | cons b B ih =>
    have ih' : ((List.map PyData.str B).any fun y => PyData.eqv y (.str l)) = decide (l ∈ B) := ih
    by_cases h : b = l
    · subst h; simp [stl]
    · simp [stl, h, ih', Ne.symm h]
theorem encG_snoc {rs : List (Str × D)} {c : Str} {v : D} {hp : AH} (h : rs.length ≤ 1000) : addV (.d (encG rs)) (.d (.tuple [.tuple [.str c, v]])) hp = .ok (.d (encG (rs ++ [(c, v)]))) hp := by
  unfold encG
  rw [add_tup (by simp; exact big_le (by omega))]
  simp
theorem branch_ok (B : BaseOk g m LS) (X : BoxesOk NM bs LS) {k : Nat} (hf : FoundOk g m bs LS k) {Bg : List Str} {l : Str} {hp : AH} (c : Cl hp) (nd : Bg.Nodup) (sub : ∀ b ∈ Bg, b ∈ LS) (hl : l ∈ LS) (hnl : l ∉ Bg) (hk : LS.length < k + 1 + Bg.length) (hd : Dom (crSys g m bs) Bg l) :
    F_l_branch k [.d (encC g m bs), .d (.str l), .d (.list (stl Bg))] hp = .ok (.d (brD (brn (crSys g m bs) (lim (crSys g m bs)) l folMax []))) hp := by
  obtain ⟨b0, hb0, hx0⟩ := X.lb l hl
  have hlen := nd_len nd sub
  have hsl := B.sl
  unfold F_l_branch G_l_branch b_l_branch
  have hd1 : ∀ hq : AH, dictO (.ok (.d (encG bs)) hq) = .ok (.dct bs) hq := fun hq => by
    rw [encG, e_dictO hq (pairD_G bs) (by have := X.bl; omega), merge_nd X.bn]
  have hix : ∀ hq : AH, ixNP bs (.ok (.d (.str l)) hq) = .ok (.d b0) hq := fun hq => e_ixNP hq hb0
  have hadd : ∀ hq : AH, addV (.d (.list (stl Bg))) (.d (.list [.str l])) hq = .ok (.d (.list (stl (Bg ++ [l])))) hq := fun hq => by
    rw [add_lst (by simp [stl]; exact big_le (by omega)), stl_snoc]
  simp [encC, hd1, hix]
  have hnx : ∀ rs, (crSys g m bs).nx l rs = some (boxStep (boxAt b0 rs)) := fun rs => by show (getD bs l).map _ = _; rw [hb0]; rfl
  refine while_inv (fun k' env h => h = hp ∧ ∃ (rs : List (Str × D)) (j : Nat) (A : List Str) (y : Option AV), env = [some (.d (encC g m bs)), some (.d (.str l)), some (.d (.list (stl Bg))), some (.d (boxAt b0 rs)), some (.d (encG rs)), y] ∧ IsBox NM j A (boxAt b0 rs) ∧ j + rs.length ≤ 8 ∧ k' + rs.length = folMax ∧ On (crSys g m bs) l k' rs ∧ brn (crSys g m bs) (lim (crSys g m bs)) l k' rs = brn (crSys g m bs) (lim (crSys g m bs)) l folMax [])
    (fun o => fnO hp.length hp (seqO o (retS (tupF (consF (vF 4) (consF (bF ixV (vF 3) (cF (.int 1))) nilF))))) = _) ?_ ⟨rfl, [], 8, [], none, rfl, hx0, Nat.le_refl _, rfl, On.start, rfl⟩
  rintro k' env h ⟨rfl, rs, j, A, y, rfl, hx, hj, hkk, hon, hb⟩
  have k0 : 0 < k' := by unfold folMax at hkk; omega
  obtain ⟨k', rfl⟩ : ∃ q, k' = q + 1 := ⟨k' - 1, by omega⟩
  refine ⟨k0, ?_⟩
  rw [Nat.add_sub_cancel]
  rcases hx.two with ⟨v, hv, e'⟩ | ⟨j', n, rows, last, rfl, e', h2, h3, h4, h5, h6⟩
  · -- it tells
    refine ⟨false, h, by simp [e'], .inl ⟨rfl, ?_⟩⟩
    have hst := hnx rs
    rw [e', boxStep_t] at hst
    rw [← hb, brn_tells hst]
    simp [encG, brD, e']
    exact trim_same c
  · have hst := hnx rs
    rw [e', boxStep_a] at hst
    refine ⟨true, h, by simp [e'], .inr ⟨rfl, ?_⟩⟩
    have hfd := hf (Bg ++ [l]) n h c (List.nodup_append.mpr ⟨nd, by simp, fun a ha b hb e => hnl (by rw [← List.mem_singleton.mp hb, ← e]; exact ha)⟩) (fun b hb => by
      rcases List.mem_append.mp hb with q | q
      · exact sub b q
      · rw [List.mem_singleton.mp q]; exact hl) (by simp; omega) (fun l' h1 h2 => hon.dom hst h1 h2 hd)
    cases hlim : lim (crSys g m bs) n with
    | none =>
      have hb' := (brn_stuck (m := k') hst hlim).symm.trans hb
      rw [hlim] at hfd
      refine .inr (.inr (.inr (.inl ⟨.d .none, h, ?_, ?_⟩)))
      · simp [e', hadd, e_ar3, hfd, resV]
      · rw [← hb']
        simp [brD]
        exact trim_same c
    | some r =>
      cases r with
      | run ch => exact absurd hlim (lim_norun B X n ch)
      | known v =>
        have hb' := (brn_known (m := k') hst hlim).symm.trans hb
        rw [hlim] at hfd
        have hv := lim_okV B X hlim
        have hbe := behind_ok (NM := NM) (hp := h) c (n := n) (last := last) h5 hv
        refine .inl ⟨[some (.d (encC g m bs)), some (.d (.str l)), some (.d (.list (stl Bg))), some (.d (boxAt b0 (rs ++ [(n, v)]))), some (.d (encG (rs ++ [(n, v)]))), some (.d v)], h, ?_, rfl, rs ++ [(n, v)], j', A ++ [n], some (.d v), rfl, ?_, ?_, ?_, hon.next hst hlim, hb'⟩
        · simp [e', hadd, hfd, resV, hv.ne, encG_snoc (show rs.length ≤ 1000 by omega), hbe, boxAt_snoc]
        · rw [boxAt_snoc, e']; exact IsBox.go h5 h6 _ _
        · simp; omega
        · simp; omega
theorem found_ok (B : BaseOk g m LS) (X : BoxesOk NM bs LS) : ∀ k, FoundOk g m bs LS k
  | 0, Bg, x, hp, c, nd, sub, hk, _ => absurd (by omega : LS.length < Bg.length) (fuel_end nd sub)
  | k + 1, Bg, x, hp, c, nd, sub, hk, hd => by
    have ih := found_ok B X k
    have hlen := nd_len nd sub
    have hsl := B.sl
    unfold F_l_found
    rw [show G_l_branch (F_l_found k) = F_l_branch k from rfl]
    unfold G_l_found b_l_found
    have hd1 : ∀ hq : AH, dictO (.ok (.d (encG g)) hq) = .ok (.dct g) hq := fun hq => by
      rw [encG, e_dictO hq (pairD_G g) (by have := B.gl; omega), merge_nd B.gn]
    have hd2 : ∀ hq : AH, dictO (.ok (.d (encM m)) hq) = .ok (.dct (m.map fun p => (p.1, .str p.2))) hq := fun hq => by
      rw [encM, e_dictO hq (pairD_M m) (by have := B.ml; simp; omega), merge_nd (by simpa [List.map_map, Function.comp_def] using B.mn)]
    have c2 : Cl (hp ++ [.dct g, .dct (m.map fun p => (p.1, .str p.2))]) := c.app (by simp)
    have hin : ∀ (i : Nat) (kvs : List (Str × D)) (hq : AH), hq[i]? = some (.dct kvs) → inV (.d (.str x)) (.r i) hq = .ok (.d (.bool (getD kvs x).isSome)) hq := fun i kvs hq h => inV_r h
    have hni : ∀ (i : Nat) (kvs : List (Str × D)) (hq : AH), hq[i]? = some (.dct kvs) → niV (.d (.str x)) (.r i) hq = .ok (.d (.bool !(getD kvs x).isSome)) hq := fun i kvs hq h => niV_r h
    simp [encC, hd1, hd2]
    have i1 := hin hp.length g (hp ++ [.dct g, .dct (m.map fun p => (p.1, .str p.2))]) (by simp)
    have i2 := hni (hp.length + 1) (m.map fun p => (p.1, .str p.2)) (hp ++ [.dct g, .dct (m.map fun p => (p.1, .str p.2))]) (by simp)
    cases hg : getD g x with
    | some w =>
      rw [lim_given (S := crSys g m bs) hg]
      have i3 := ixV_r (hp := hp ++ [.dct g, .dct (m.map fun p => (p.1, .str p.2))]) (n := hp.length) (k := x) (by simp) hg
      simp [i1, hg, i3, resV, vText]
      exact trim_app c
    | none =>
      cases hm : mK m x with
      | none =>
        rw [lim_free (S := crSys g m bs) hg hm]
        simp [i1, i2, hg, getD_mK, hm, resV, vNONE]
        exact trim_app c
      | some l =>
        rw [lim_made (S := crSys g m bs) hg hm]
        have hl := B.ls _ (mK_mem hm)
        simp only at hl
        have hgm : getD (m.map fun p => (p.1, PyData.str p.2)) x = some (.str l) := by rw [getD_mK, hm]; rfl
        have i3 := ixV_r (hp := hp ++ [.dct g, .dct (m.map fun p => (p.1, .str p.2))]) (n := hp.length + 1) (k := x) (by simp) hgm
        have i4 := inV_l (x := .str l) (ys := stl Bg) (hp := hp ++ [.dct g, .dct (m.map fun p => (p.1, .str p.2))]) (.inl (by simp))
        rw [any_str] at i4
        have hnr : ∀ c ch, lim (crSys g m bs) c ≠ some (.run ch) := lim_norun B X
        rw [fol_brn (fun rs => cr_nx X hl rs) hnr]
        by_cases hb : l ∈ Bg
        · have hr := (hd l hg hm).lim hb
          rw [fol_brn (fun rs => cr_nx X hl rs) hnr] at hr
          rw [hr]
          simp [i1, i2, i3, i4, hg, hgm, hb, resV]
          exact trim_app c
        · have hbr := branch_ok B X ih (Bg := Bg) c2 nd sub hl hb (by omega) (hd l hg hm)
          rw [encC] at hbr
          simp [i1, i2, i3, i4, hg, hgm, hb, hbr]
          cases hq : brn (crSys g m bs) (lim (crSys g m bs)) l folMax [] with
          | none => simp [brD, resV]; exact trim_app c
          | some p =>
            obtain ⟨rs, v⟩ := p
            simp [brD, resV]; exact trim_app c
end
end Pin
end
-- Sp4
section
set_option linter.all false
set_option maxRecDepth 100000
/-! Sp, part 4: what notes tell (_law_step, next_of, _law_tells). -/
namespace Pin
open PySem PySem.Spec PyProof.Rows L2 Ms Pl

def noteIs (l : Str) (rs : List (Str × D)) (n : Note) : Bool := decide (n.1 = l) && PyData.eqv (encG (n.2.1.take rs.length)) (encG rs)
def noteStep (k : Nat) (n : Note) : Pl.Step := if n.2.1.length = k then .tells n.2.2 else .asks (n.2.1.getD k ("", .none)).1
def nxN (ns : List Note) (l : Str) (rs : List (Str × D)) : Option Pl.Step := (ns.find? (noteIs l rs)).map (noteStep rs.length)
def stSys (g : List (Str × D)) (m : List (Str × Str)) (ns : List Note) : Sys := ⟨getD g, mK m, nxN ns⟩
def encS (g : List (Str × D)) (m : List (Str × Str)) (ns : List Note) : D := .tuple [encG g, encM m, encNs ns]
def stepD : Option Pl.Step → D
  | none => .none
  | some (.tells v) => .tuple [.str "tells", v]
  | some (.asks c) => .tuple [.str "asks", .str c]
def OkR (rs : List (Str × D)) : Prop := ∀ p ∈ rs, okV p.2
structure NotesOk (ns : List Note) : Prop where
  nl : ns.length ≤ 100
  rl : ∀ n ∈ ns, n.2.1.length ≤ 20
  rv : ∀ n ∈ ns, OkR n.2.1
  vv : ∀ n ∈ ns, okV n.2.2
theorem OkR.sd {rs : List (Str × D)} (h : OkR rs) : sd (encG rs) = true := by
  rw [encG, sd_tup, sdAll_iff]
  intro x hx
  obtain ⟨p, hp, rfl⟩ := List.mem_map.mp hx
  simp [(h p hp).sd]
theorem OkR.depth {rs : List (Str × D)} (h : OkR rs) : (encG rs).depth ≤ 4 := by
  rw [encG, depth_tup]
  have : PyData.depthAll (rs.map fun p => PyData.tuple [.str p.1, p.2]) ≤ 3 := depthAll_iff.mpr fun x hx => by
    obtain ⟨p, hp, rfl⟩ := List.mem_map.mp hx
    have := (h p hp).depth
    simp; omega
  omega
theorem encG_inj {a b : List (Str × D)} (h : encG a = encG b) : a = b := by
  unfold encG at h
  injection h with h
  induction a generalizing b with
  | nil => cases b with
    | nil => rfl
    | cons _ _ => simp at h
  | cons p a ih => cases b with
    | nil => simp at h
    | cons q b =>
      simp only [List.map_cons, List.cons.injEq, PyData.tuple.injEq, PyData.str.injEq, and_true] at h
      obtain ⟨⟨h1, h2⟩, h3⟩ := h
      rw [ih h3]
      cases p; cases q; simp_all
theorem noteIs_iff {l : Str} {rs : List (Str × D)} (h : OkR rs) (n : Note) : noteIs l rs n = true ↔ n.1 = l ∧ n.2.1.take rs.length = rs := by
  unfold noteIs
  rw [Bool.and_eq_true, decide_eq_true_eq, eqv_sd _ _ h.sd]
  exact ⟨fun ⟨a, b⟩ => ⟨a, encG_inj b⟩, fun ⟨a, b⟩ => ⟨a, by rw [b]⟩⟩
theorem OkR.snoc {rs : List (Str × D)} {c : Str} {v : D} (h : OkR rs) (hv : okV v) : OkR (rs ++ [(c, v)]) := fun p hp => by
  rcases List.mem_append.mp hp with q | q
  · exact h p q
  · rw [List.mem_singleton.mp q]; exact hv
theorem OkR.nil : OkR [] := fun p hp => by cases hp
theorem cutD_take (xs : List D) (k : Nat) : cutD xs none (some (k : Int)) = xs.take k := by
  unfold cutD
  rw [HT.sIx_nat, HT.sIx_none, List.drop_zero, Nat.sub_zero]
  rcases Nat.le_total k xs.length with h | h
  · rw [Nat.min_eq_left h]
  · rw [Nat.min_eq_right h, List.take_of_length_le (Nat.le_refl _), List.take_of_length_le h]
theorem encG_take (rs : List (Str × D)) (k : Nat) : (.tuple ((rs.map fun p => PyData.tuple [.str p.1, p.2]).take k) : D) = encG (rs.take k) := by simp [encG, List.map_take]
theorem note_at {n : Note} {rs : List (Str × D)} (h : n.2.1.take rs.length = rs) (h2 : n.2.1.length ≠ rs.length) : ∃ v, (n.2.1.map fun p => PyData.tuple [.str p.1, p.2])[rs.length]? = some (.tuple [.str (n.2.1.getD rs.length ("", .none)).1, v]) := by
  have hl : rs.length < n.2.1.length := by
    have := congrArg List.length h
    rw [List.length_take] at this
    omega
  exact ⟨n.2.1[rs.length].2, by simp [hl]⟩
theorem step_ok {ns : List Note} {l : Str} {rs : List (Str × D)} {hp : AH} (c : Cl hp) (hr : OkR rs) : F_l_step [.d (encNs ns), .d (.str l), .d (encG rs)] hp = .ok (.d (stepD (nxN ns l rs))) hp := by
  unfold F_l_step G_l_step b_l_step nxN
  rw [encNs]
  have hlen : ∀ hq : AH, lenC [.d (encG rs)] hq = .ok (.d (.int rs.length)) hq := fun hq => by rw [encG, len_t]; simp
  simp
  refine forD_inv (fun rem env h => ∃ rem' x y z, env = [some (.d (.tuple (ns.map encN))), some (.d (.str l)), some (.d (encG rs)), x, y, z] ∧ h = hp ∧ rem = rem'.map encN ∧ ns.find? (noteIs l rs) = rem'.find? (noteIs l rs)) (fun o => fnO hp.length hp (seqO o (retS (cF .none))) = _) ?_ ?_ ⟨ns, none, none, none, rfl, rfl, rfl, rfl⟩
  · rintro env h ⟨rem', x, y, z, rfl, rfl, e0, e⟩
    have : rem' = [] := by cases rem' <;> simp_all
    subst this
    rw [e]
    simp [stepD]
    exact trim_same c
  · rintro d ds env h ⟨rem', x, y, z, rfl, rfl, e0, e⟩
    cases rem' with
    | nil => simp at e0
    | cons n rem' =>
      rw [List.map_cons, List.cons.injEq] at e0
      obtain ⟨rfl, rfl⟩ := e0
      obtain ⟨n1, n2, n3⟩ := n
      refine ⟨[some (.d (.tuple (ns.map encN))), some (.d (.str l)), some (.d (encG rs)), some (.d (.str n1)), some (.d (encG n2)), some (.d n3)], h, by simp [encN], ?_⟩
      rw [e]
      have hq : ∀ hq : AH, eqV (.d (encG (n2.take rs.length))) (.d (encG rs)) hq = .ok (.d (.bool (PyData.eqv (encG (n2.take rs.length)) (encG rs)))) hq := fun hq => eqV_ok (.inr (by have := hr.depth; omega))
      have hcut : ∀ hq : AH, cutV' (.d (encG n2)) none (some (rs.length : Int)) hq = .ok (.d (encG (n2.take rs.length))) hq := fun hq => by
        rw [encG, e_cutT, cutD_take, encG_take]
      by_cases h1 : n1 = l
      · subst h1
        cases q : PyData.eqv (encG (n2.take rs.length)) (encG rs) with
        | false =>
          refine .inl ⟨[some (.d (.tuple (ns.map encN))), some (.d (.str n1)), some (.d (encG rs)), some (.d (.str n1)), some (.d (encG n2)), some (.d n3)], h, by simp [hlen, hcut, hq, q], rem', _, _, _, rfl, rfl, rfl, ?_⟩
          rw [List.find?_cons_of_neg (by simp [noteIs, q])]
        | true =>
          have ht : noteIs n1 rs (n1, n2, n3) = true := by simp [noteIs, q]
          rw [List.find?_cons_of_pos ht]
          have hlen2 : ∀ hq : AH, lenC [.d (encG n2)] hq = .ok (.d (.int n2.length)) hq := fun hq => by rw [encG, len_t]; simp
          by_cases hl : n2.length = rs.length
          · refine .inr (.inr (.inr (.inl ⟨.d (.tuple [.str "tells", n3]), h, by simp [hlen, hlen2, hcut, hq, q, hl], ?_⟩)))
            simp [stepD, noteStep, hl]
            exact trim_same c
          · obtain ⟨v, hv⟩ := note_at (n := (n1, n2, n3)) ((noteIs_iff hr _).mp ht).2 hl
            have hv' : ∀ hq : AH, ixV (.d (encG n2)) (.d (.int (rs.length : Int))) hq = .ok (.d (.tuple [.str (n2.getD rs.length ("", .none)).1, v])) hq := fun hq => by
              rw [encG]; exact ixV_t (at_nat hv)
            refine .inr (.inr (.inr (.inl ⟨.d (.tuple [.str "asks", .str (n2.getD rs.length ("", .none)).1]), h, by simp [hlen, hlen2, hcut, hq, q, hl, hv', show ¬ ((n2.length : Int) = rs.length) by omega], ?_⟩)))
            simp only [Option.map_some, stepD, noteStep, hl, if_false, e_seqR, e_fnR]
            exact trim_same c
      · refine .inl ⟨[some (.d (.tuple (ns.map encN))), some (.d (.str l)), some (.d (encG rs)), some (.d (.str n1)), some (.d (encG n2)), some (.d n3)], h, by simp [h1], rem', _, _, _, rfl, rfl, rfl, ?_⟩
        rw [List.find?_cons_of_neg (by simp [noteIs, h1])]
end Pin
end
-- Sp5
section
set_option linter.all false
set_option maxRecDepth 100000
/-! Sp, part 5: _law_tells. -/
namespace Pin
open PySem PySem.Spec PyProof.Rows L2 Ms Pl

theorem fol_end {S : Sys} {e : Str → Option Res} {l : Str} {m : Nat} {rs : List (Str × D)} (h : S.nx l rs = none) : fol S e l (m + 1) rs = some (.run [l]) := by rw [fol, h]
theorem fol_tells {S : Sys} {e : Str → Option Res} {l : Str} {m : Nat} {rs : List (Str × D)} {v : D} (h : S.nx l rs = some (.tells v)) : fol S e l (m + 1) rs = some (.known v) := by rw [fol, h]
theorem fol_stuck {S : Sys} {e : Str → Option Res} {l c : Str} {m : Nat} {rs : List (Str × D)} (h : S.nx l rs = some (.asks c)) (q : e c = none) : fol S e l (m + 1) rs = none := by rw [fol, h]; simp only [q]
theorem fol_known {S : Sys} {e : Str → Option Res} {l c : Str} {m : Nat} {rs : List (Str × D)} {v : D} (h : S.nx l rs = some (.asks c)) (q : e c = some (.known v)) : fol S e l (m + 1) rs = fol S e l m (rs ++ [(c, v)]) := by rw [fol, h]; simp only [q]
theorem fol_run {S : Sys} {e : Str → Option Res} {l c : Str} {m : Nat} {rs : List (Str × D)} {ch : List Str} (h : S.nx l rs = some (.asks c)) (q : e c = some (.run ch)) : fol S e l (m + 1) rs = some (.run (l :: ch)) := by rw [fol, h]; simp only [q]

section
variable {g : List (Str × D)} {m : List (Str × Str)} {ns : List Note} {LS : List Str}
/-- what notes tell is a value; they ask no longer than they are -/
theorem nx_tells (N : NotesOk ns) {l : Str} {rs : List (Str × D)} {v : D} (h : nxN ns l rs = some (.tells v)) : okV v := by
  unfold nxN at h
  cases q : ns.find? (noteIs l rs) with
  | none => rw [q] at h; cases h
  | some n =>
    rw [q] at h
    simp only [Option.map_some, Option.some.injEq] at h
    unfold noteStep at h
    split at h
    · cases h; exact N.vv n (List.mem_of_find?_eq_some q)
    · cases h
theorem nx_asks (N : NotesOk ns) {l c : Str} {rs : List (Str × D)} (hr : OkR rs) (h : nxN ns l rs = some (.asks c)) : rs.length < 20 := by
  unfold nxN at h
  cases q : ns.find? (noteIs l rs) with
  | none => rw [q] at h; cases h
  | some n =>
    rw [q] at h
    simp only [Option.map_some, Option.some.injEq] at h
    unfold noteStep at h
    split at h
    · cases h
    · rename_i hl
      have h1 := ((noteIs_iff hr n).mp (List.find?_some q)).2
      have h2 := N.rl n (List.mem_of_find?_eq_some q)
      have := congrArg List.length h1
      rw [List.length_take] at this
      omega
theorem fol_okN (N : NotesOk ns) {e : Str → Option Res} (he : ∀ c v, e c = some (.known v) → okV v) {l : Str} : ∀ {k : Nat} {rs : List (Str × D)} {v : D}, fol (stSys g m ns) e l k rs = some (.known v) → okV v
  | 0, _, _, q => by cases q
  | k + 1, rs, v, q => by
    cases hs : (stSys g m ns).nx l rs with
    | none => rw [fol_end hs] at q; cases q
    | some s =>
      cases s with
      | tells v' => rw [fol_tells hs] at q; cases q; exact nx_tells N hs
      | asks c =>
        cases h : e c with
        | none => rw [fol_stuck hs h] at q; cases q
        | some r =>
          cases r with
          | run ch => rw [fol_run hs h] at q; cases q
          | known w => rw [fol_known hs h] at q; exact fol_okN N he q
theorem ev_okN (B : BaseOk g m LS) (N : NotesOk ns) : ∀ (n : Nat) (x : Str) (v : D), ev (stSys g m ns) n x = some (.known v) → okV v
  | n, x, v, q => by
    have hgiven : ∀ w, (stSys g m ns).given x = some w → okV (vText w) := fun w h => by
      obtain ⟨ws, hl, e⟩ := B.gw _ (getD_mem (show getD g x = some w from h))
      exact .inr ⟨ws, hl, by rw [vText]; simp only at e; rw [e]⟩
    cases n with
    | zero =>
      unfold ev at q
      split at q
      · rename_i w h; cases q; exact hgiven w h
      · split at q
        · cases q; exact okV_none
        · cases q
    | succ n =>
      unfold ev at q
      split at q
      · rename_i w h; cases q; exact hgiven w h
      · split at q
        · cases q; exact okV_none
        · exact fol_okN N (fun c v h => ev_okN B N n c v h) q
theorem lim_okN (B : BaseOk g m LS) (N : NotesOk ns) {x : Str} {v : D} (h : lim (stSys g m ns) x = some (.known v)) : okV v := let ⟨n, e⟩ := lim_ex h; ev_okN B N n x v e

def telD (B : List Str) : Option Res → D
  | some (.known v) => .tuple [.str "known", v]
  | some (.run ch) => .tuple [.str "run", .tuple (stl (B ++ ch))]
  | none => .tuple [.str "endless"]
def TellsOk (g : List (Str × D)) (m : List (Str × Str)) (ns : List Note) (LS : List Str) (k : Nat) : Prop := ∀ (B : List Str) (x : Str) (hp : AH), Cl hp → B.Nodup → (∀ b ∈ B, b ∈ LS) → LS.length < k + B.length →
  (∀ l, getD g x = none → mK m x = some l → Dom (stSys g m ns) B l) → F_l_tells k [.d (encS g m ns), .d (.str x), .d (.tuple (stl B))] hp = .ok (.d (telD B (lim (stSys g m ns) x))) hp
theorem tells_ok (B : BaseOk g m LS) (N : NotesOk ns) : ∀ k, TellsOk g m ns LS k
  | 0, Bg, x, hp, c, nd, sub, hk, _ => absurd (by omega : LS.length < Bg.length) (fuel_end nd sub)
  | k + 1, Bg, x, hp, c, nd, sub, hk, hd => by
    have ih := tells_ok B N k
    have hlen := nd_len nd sub
    have hsl := B.sl
    unfold F_l_tells G_l_tells b_l_tells
    have hd1 : ∀ hq : AH, dictO (.ok (.d (encG g)) hq) = .ok (.dct g) hq := fun hq => by
      rw [encG, e_dictO hq (pairD_G g) (by have := B.gl; omega), merge_nd B.gn]
    have hd2 : ∀ hq : AH, dictO (.ok (.d (encM m)) hq) = .ok (.dct (m.map fun p => (p.1, .str p.2))) hq := fun hq => by
      rw [encM, e_dictO hq (pairD_M m) (by have := B.ml; simp; omega), merge_nd (by simpa [List.map_map, Function.comp_def] using B.mn)]
    let hq : AH := hp ++ [.dct g, .dct (m.map fun p => (p.1, .str p.2))]
    have c2 : Cl hq := c.app (by simp)
    have i1 : inV (.d (.str x)) (.r hp.length) hq = .ok (.d (.bool (getD g x).isSome)) hq := inV_r (by simp [hq])
    have i2 : niV (.d (.str x)) (.r (hp.length + 1)) hq = .ok (.d (.bool !(getD (m.map fun p => (p.1, PyData.str p.2)) x).isSome)) hq := niV_r (by simp [hq])
    simp [encS, hd1, hd2]
    show fnO hp.length hp (seqO (ifSO (orO (tstO (inV (.d (.str x)) (.r hp.length) hq)) _ _) _ _ _) _) = _
    cases hg : getD g x with
    | some w =>
      rw [lim_given (S := stSys g m ns) hg]
      have i3 := ixV_r (hp := hq) (n := hp.length) (k := x) (by simp [hq]) hg
      rw [hg] at i1
      simp [i1, i3, telD, vText]
      exact trim_app c
    | none =>
      rw [hg] at i1
      cases hm : mK m x with
      | none =>
        rw [lim_free (S := stSys g m ns) hg hm]
        rw [getD_mK, hm] at i2
        simp [i1, i2, telD, vNONE]
        exact trim_app c
      | some l =>
        rw [lim_made (S := stSys g m ns) hg hm]
        have hl := B.ls _ (mK_mem hm)
        simp only at hl
        have hgm : getD (m.map fun p => (p.1, PyData.str p.2)) x = some (.str l) := by rw [getD_mK, hm]; rfl
        rw [hgm] at i2
        have i3 := ixV_r (hp := hq) (n := hp.length + 1) (k := x) (by simp [hq]) hgm
        have i4 := inV_t (x := .str l) (ys := stl Bg) (hp := hq) (.inl (by simp))
        rw [any_str] at i4
        by_cases hb : l ∈ Bg
        · have hr := (hd l hg hm).lim hb
          rw [hr]
          simp [i1, i2, i3, i4, hb, telD]
          exact trim_app c
        · have hst0 : ∀ rs, OkR rs → F_l_step [.d (encNs ns), .d (.str l), .d (encG rs)] hq = .ok (.d (stepD (nxN ns l rs))) hq := fun rs hr => step_ok c2 hr
          have hst1 := hst0 [] OkR.nil
          have e0 : encG [] = .tuple [] := rfl
          rw [e0] at hst1
          have hadd : addV (.d (.tuple (stl Bg))) (.d (.tuple [.str l])) hq = .ok (.d (.tuple (stl (Bg ++ [l])))) hq := by
            rw [add_tup (by simp [stl]; exact big_le (by omega)), stl_snoc]
          simp [i1, i2, i3, i4, hb, hst1]
          refine while_inv (fun k' env h => h = hq ∧ ∃ (rs : List (Str × D)) (y : Option AV), env = [some (.d (.tuple [encG g, encM m, encNs ns])), some (.d (.str x)), some (.d (.tuple (stl Bg))), some (.r hp.length), some (.r (hp.length + 1)), some (.d (.str l)), some (.d (encG rs)), some (.d (stepD (nxN ns l rs))), y] ∧ OkR rs ∧ k' + rs.length = folMax ∧ rs.length ≤ 20 ∧ On (stSys g m ns) l k' rs ∧ fol (stSys g m ns) (lim (stSys g m ns)) l k' rs = fol (stSys g m ns) (lim (stSys g m ns)) l folMax [])
            (fun o => fnO hp.length hp (seqO o (retS (ifF (tstF (bF isV (vF 7) (cF .none))) (tupF (consF (cF (.str "run")) (consF (bF addV (vF 2) (tupF (consF (vF 5) nilF))) nilF))) (tupF (consF (cF (.str "known")) (consF (bF ixV (vF 7) (cF (.int 1))) nilF)))))) = _) ?_ ⟨rfl, [], none, rfl, OkR.nil, rfl, by simp, On.start, rfl⟩
          rintro k' env h ⟨rfl, rs, y, rfl, hr, hkk, hrl, hon, hf⟩
          have k0 : 0 < k' := by unfold folMax at hkk; omega
          obtain ⟨k', rfl⟩ : ∃ q, k' = q + 1 := ⟨k' - 1, by omega⟩
          refine ⟨k0, ?_⟩
          rw [Nat.add_sub_cancel]
          cases hs : nxN ns l rs with
          | none =>
            have hs' : (stSys g m ns).nx l rs = none := hs
            refine ⟨false, hq, by simp [stepD], .inl ⟨rfl, ?_⟩⟩
            rw [← hf, fol_end hs']
            simp [stepD, hadd, telD]
            exact trim_app c
          | some s =>
            cases s with
            | tells v =>
              have hs' : (stSys g m ns).nx l rs = some (.tells v) := hs
              refine ⟨false, hq, by simp [stepD], .inl ⟨rfl, ?_⟩⟩
              rw [← hf, fol_tells hs']
              simp [stepD, telD]
              exact trim_app c
            | asks n =>
              have hs' : (stSys g m ns).nx l rs = some (.asks n) := hs
              refine ⟨true, hq, by simp [stepD], .inr ⟨rfl, ?_⟩⟩
              have hfd := ih (Bg ++ [l]) n hq c2 (List.nodup_append.mpr ⟨nd, by simp, fun a ha b hb' e => hb (by rw [← List.mem_singleton.mp hb', ← e]; exact ha)⟩) (fun b hb => by
                rcases List.mem_append.mp hb with q | q
                · exact sub b q
                · rw [List.mem_singleton.mp q]; exact hl) (by simp; omega) (fun l' h1 h2 => hon.dom hs' h1 h2 (hd l hg hm))
              rw [encS] at hfd
              cases hlim : lim (stSys g m ns) n with
              | none =>
                rw [hlim] at hfd
                refine .inr (.inr (.inr (.inl ⟨.d (.tuple [.str "endless"]), hq, by simp [stepD, hadd, hfd, telD], ?_⟩)))
                rw [← hf, fol_stuck hs' hlim]
                simp [telD]
                exact trim_app c
              | some r =>
                cases r with
                | run ch =>
                  rw [hlim] at hfd
                  refine .inr (.inr (.inr (.inl ⟨.d (.tuple [.str "run", .tuple (stl (Bg ++ [l] ++ ch))]), hq, by simp [stepD, hadd, hfd, telD], ?_⟩)))
                  rw [← hf, fol_run hs' hlim]
                  simp [telD]
                  exact trim_app c
                | known v =>
                  rw [hlim] at hfd
                  have hv := lim_okN B N hlim
                  have hst2 := hst0 (rs ++ [(n, v)]) (hr.snoc hv)
                  refine .inl ⟨[some (.d (.tuple [encG g, encM m, encNs ns])), some (.d (.str x)), some (.d (.tuple (stl Bg))), some (.r hp.length), some (.r (hp.length + 1)), some (.d (.str l)), some (.d (encG (rs ++ [(n, v)]))), some (.d (stepD (nxN ns l (rs ++ [(n, v)])))), some (.d (.tuple [.str "known", v]))], hq, ?_, rfl, rs ++ [(n, v)], _, rfl, hr.snoc hv, by simp; omega, ?_, hon.next hs' hlim, (fol_known hs' hlim).symm.trans hf⟩
                  · simp [stepD, hadd, hfd, telD, encG_snoc (show rs.length ≤ 1000 by omega), hst2]
                  · have := nx_asks N hr hs; simp; omega
end
end Pin
end
-- Ev4
section
set_option linter.all false
set_option maxRecDepth 100000
/-! Ev, part 4: objects of classes, exceptions. -/
namespace Pin
open PySem PySem.Spec PyProof.Rows L2

def methO (C mn : Str) (n : Nat) (F : List AV → AH → Out AV) (o : Out AV) (g : Fa) (env : Sl) : Out AV := o.bind fun a h1 => match a with
  | .r i => match h1[i]? with
    | some (.ins C' fs) => if C' = C ∧ (fs.lookup mn).isNone = true then (g env h1).bind fun as h2 => arF n F (.r i :: as) h2 else .bad
    | _ => .bad
  | _ => .bad
def methP (n : Nat) (F : List AV → AH → Out AV) (i : Nat) (o : Out (List AV)) : Out AV := o.bind fun as h2 => arF n F (.r i :: as) h2
@[simp] theorem e_meth (C mn : Str) (n : Nat) (F : List AV → AH → Out AV) (fo : Fe) (g : Fa) (env : Sl) (hp : AH) : methF C mn n F fo g env hp = methO C mn n F (fo env hp) g env := id rfl
theorem e_methO {C mn : Str} {n : Nat} {F : List AV → AH → Out AV} {i : Nat} {h1 : AH} {fs : List (Str × AV)} {g : Fa} {env : Sl} (q : h1[i]? = some (.ins C fs)) (l : (fs.lookup mn).isNone = true) : methO C mn n F (.ok (.r i) h1) g env = methP n F i (g env h1) := by
  simp only [methO, Out.bind, q]
  rw [if_pos ⟨trivial, l⟩]; rfl
@[simp] theorem e_methP (n : Nat) (F : List AV → AH → Out AV) (i : Nat) (as : List AV) (h : AH) : methP n F i (.ok as h) = arF n F (.r i :: as) h := id rfl
def makeO (C : Str) (n : Nat) (F : List AV → AH → Out AV) (o : Out (List AV)) : Out AV := o.bind fun as h1 => (arF n F (.r h1.length :: as) (h1 ++ [.ins C []])).bind fun v h2 => match v with
  | .d .none => .ok (.r h1.length) h2
  | _ => .bad
def makeP (i : Nat) (o : Out AV) : Out AV := o.bind fun v h2 => match v with
  | .d .none => .ok (.r i) h2
  | _ => .bad
@[simp] theorem e_make (C : Str) (n : Nat) (F : List AV → AH → Out AV) (g : Fa) (env : Sl) (hp : AH) : makeF C n F g env hp = makeO C n F (g env hp) := id rfl
@[simp] theorem e_makeO (C : Str) (n : Nat) (F : List AV → AH → Out AV) (as : List AV) (h : AH) : makeO C n F (.ok as h) = makeP h.length (arF n F (.r h.length :: as) (h ++ [.ins C []])) := id rfl
@[simp] theorem e_makeP (i : Nat) (h : AH) : makeP i (.ok (.d .none) h) = .ok (.r i) h := id rfl
def fldBO (C f : Str) (v : AV) (o : Option (Option AV)) (env : Sl) (hp : AH) : Option (Sl × AH) := match o with
  | some (some (.r n)) => match hp[n]? with
    | some (.ins C' fs) => if C' = C ∧ fs.length < 900 then some (env, hp.set n (.ins C (putA f v fs))) else none
    | _ => none
  | _ => none
@[simp] theorem e_fldB (C f : Str) (i : Nat) (v : AV) (env : Sl) (hp : AH) : fldB C f i v env hp = fldBO C f v env[i]? env hp := id rfl
def fldBP (C f : Str) (v : AV) (n : Nat) (o : Option AObj) (env : Sl) (hp : AH) : Option (Sl × AH) := match o with
    | some (.ins C' fs) => if C' = C ∧ fs.length < 900 then some (env, hp.set n (.ins C (putA f v fs))) else none
    | _ => none
@[simp] theorem e_fldBO (C f : Str) (v : AV) (n : Nat) (env : Sl) (hp : AH) : fldBO C f v (some (some (.r n))) env hp = fldBP C f v n hp[n]? env hp := id rfl
theorem e_fldBP {C f : Str} {v : AV} {n : Nat} {fs : List (Str × AV)} {env : Sl} {hp : AH} (l : fs.length < 900) : fldBP C f v n (some (.ins C fs)) env hp = some (env, hp.set n (.ins C (putA f v fs))) := by
  simp only [fldBP]
  rw [if_pos ⟨trivial, l⟩]
@[simp] theorem putA_nil (f : Str) (v : AV) : putA f v [] = [(f, v)] := rfl
theorem putA_ne {f g : Str} {v x : AV} {r : List (Str × AV)} (h : g ≠ f) : putA f v ((g, x) :: r) = (g, x) :: putA f v r := by
  rw [putA, if_neg h]
theorem putA_eq {f : Str} {v x : AV} {r : List (Str × AV)} : putA f v ((f, x) :: r) = (f, v) :: r := by
  rw [putA, if_pos rfl]
theorem lk_eq {f : Str} {v : AV} {r : List (Str × AV)} : ((f, v) :: r).lookup f = some v := by simp [List.lookup]
theorem lk_ne {f g : Str} {v : AV} {r : List (Str × AV)} (h : g ≠ f) : ((g, v) :: r).lookup f = r.lookup f := by
  have : (f == g) = false := by simpa using fun e => h e.symm
  simp [List.lookup, this]
/-! exceptions -/
@[simp] theorem e_raise (C : Str) (env : Sl) (hp : AH) : raiseS C env hp = .exc ⟨C, []⟩ env hp := id rfl
def raiseO (C f : Str) (o : Out AV) (env : Sl) : OutS := o.toS env fun a h => match a with
  | .d d => .exc ⟨C, [(f, d)]⟩ env h
  | _ => .bad
@[simp] theorem e_raiseV (C f : Str) (fe : Fe) (env : Sl) (hp : AH) : raiseV C f fe env hp = raiseO C f (fe env hp) env := id rfl
@[simp] theorem e_raiseO (C f : Str) (d : D) (h : AH) (env : Sl) : raiseO C f (.ok (.d d) h) env = .exc ⟨C, [(f, d)]⟩ env h := id rfl
theorem e_fnX {n : Nat} {hp : AH} {x : Exn} {e : Sl} {h : AH} (l : h.length = n) : fnO n hp (.exc x e h) = .exc x h := by
  unfold fnO
  subst l
  simp
theorem e_fnXc {n : Nat} {hp : AH} {x : Exn} {e : Sl} {h l : AH} (c : Cl h) (q : h.length = n) : fnO n hp (.exc x e (h ++ l)) = .exc x h := by
  unfold fnO
  subst q
  have : closedB h.length h = true := c
  simp [List.take_left' rfl, this]
def tryO (o : OutS) (C1 : Str) (i : Nat) (t f C2 : Str) (g2 : Fs) : OutS := match o with
  | .exc x e h => if x.cls = C1 then (match x.fs.lookup f with
      | some d => if i < e.length then .rt (.d (.tuple [.str t, d])) h else .bad
      | none => .bad)
    else if x.cls = C2 then g2 e h else .bad
  | o => o
@[simp] theorem e_try (body g2 : Fs) (C1 t f C2 : Str) (i : Nat) (env : Sl) (hp : AH) : tryX body C1 i t f C2 g2 env hp = tryO (body env hp) C1 i t f C2 g2 := id rfl
@[simp] theorem e_tryR (a : AV) (h : AH) (g2 : Fs) (C1 t f C2 : Str) (i : Nat) : tryO (.rt a h) C1 i t f C2 g2 = .rt a h := id rfl
theorem e_try1 {C1 t f C2 : Str} {i : Nat} {g2 : Fs} {d : D} {e : Sl} {h : AH} (l : i < e.length) : tryO (.exc ⟨C1, [(f, d)]⟩ e h) C1 i t f C2 g2 = .rt (.d (.tuple [.str t, d])) h := by
  simp [tryO, List.lookup, l]
theorem e_try2 {C1 t f C2 : Str} {i : Nat} {g2 : Fs} {fs : List (Str × D)} {e : Sl} {h : AH} (n : C2 ≠ C1) : tryO (.exc ⟨C2, fs⟩ e h) C1 i t f C2 g2 = g2 e h := by
  simp [tryO, n]
end Pin
end
-- Sp6
section
set_option linter.all false
set_option maxRecDepth 100000
/-! Sp, part 6: known_of. -/
namespace Pin
open PySem PySem.Spec PyProof.Rows L2 Ms Pl

theorem next_ok {ns : List Note} {l : Str} {rs : List (Str × D)} {hp : AH} (c : Cl hp) (hr : OkR rs) : F_next_of [.d (encNs ns), .d (.str l), .d (encG rs)] hp = .ok (.d (stepD (nxN ns l rs))) hp := by
  unfold F_next_of G_next_of b_next_of nxN
  rw [encNs]
  have hlen : ∀ hq : AH, lenC [.d (encG rs)] hq = .ok (.d (.int rs.length)) hq := fun hq => by rw [encG, len_t]; simp
  simp [hlen]
  refine forD_inv (fun rem env h => ∃ rem' x y z, env = [some (.d (.tuple (ns.map encN))), some (.d (.str l)), some (.d (encG rs)), some (.d (.int rs.length)), x, y, z] ∧ h = hp ∧ rem = rem'.map encN ∧ ns.find? (noteIs l rs) = rem'.find? (noteIs l rs)) (fun o => fnO hp.length hp (seqO o (retS (cF .none))) = _) ?_ ?_ ⟨ns, none, none, none, rfl, rfl, rfl, rfl⟩
  · rintro env h ⟨rem', x, y, z, rfl, rfl, e0, e⟩
    have : rem' = [] := by cases rem' <;> simp_all
    subst this
    rw [e]
    simp [stepD]
    exact trim_same c
  · rintro d ds env h ⟨rem', x, y, z, rfl, rfl, e0, e⟩
    cases rem' with
    | nil => simp at e0
    | cons n rem' =>
      rw [List.map_cons, List.cons.injEq] at e0
      obtain ⟨rfl, rfl⟩ := e0
      obtain ⟨n1, n2, n3⟩ := n
      refine ⟨[some (.d (.tuple (ns.map encN))), some (.d (.str l)), some (.d (encG rs)), some (.d (.int rs.length)), some (.d (.str n1)), some (.d (encG n2)), some (.d n3)], h, by simp [encN], ?_⟩
      rw [e]
      have hq : ∀ hq : AH, eqV (.d (encG (n2.take rs.length))) (.d (encG rs)) hq = .ok (.d (.bool (PyData.eqv (encG (n2.take rs.length)) (encG rs)))) hq := fun hq => eqV_ok (.inr (by have := hr.depth; omega))
      have hcut : ∀ hq : AH, cutV' (.d (encG n2)) none (some (rs.length : Int)) hq = .ok (.d (encG (n2.take rs.length))) hq := fun hq => by
        rw [encG, e_cutT, cutD_take, encG_take]
      by_cases h1 : n1 = l
      · subst h1
        cases q : PyData.eqv (encG (n2.take rs.length)) (encG rs) with
        | false =>
          refine .inl ⟨[some (.d (.tuple (ns.map encN))), some (.d (.str n1)), some (.d (encG rs)), some (.d (.int rs.length)), some (.d (.str n1)), some (.d (encG n2)), some (.d n3)], h, by simp [hlen, hcut, hq, q], rem', _, _, _, rfl, rfl, rfl, ?_⟩
          rw [List.find?_cons_of_neg (by simp [noteIs, q])]
        | true =>
          have ht : noteIs n1 rs (n1, n2, n3) = true := by simp [noteIs, q]
          rw [List.find?_cons_of_pos ht]
          have hlen2 : ∀ hq : AH, lenC [.d (encG n2)] hq = .ok (.d (.int n2.length)) hq := fun hq => by rw [encG, len_t]; simp
          by_cases hl : n2.length = rs.length
          · refine .inr (.inr (.inr (.inl ⟨.d (.tuple [.str "tells", n3]), h, by simp [hlen, hlen2, hcut, hq, q, hl], ?_⟩)))
            simp [stepD, noteStep, hl]
            exact trim_same c
          · obtain ⟨v, hv⟩ := note_at (n := (n1, n2, n3)) ((noteIs_iff hr _).mp ht).2 hl
            have hv' : ∀ hq : AH, ixV (.d (encG n2)) (.d (.int (rs.length : Int))) hq = .ok (.d (.tuple [.str (n2.getD rs.length ("", .none)).1, v])) hq := fun hq => by
              rw [encG]; exact ixV_t (at_nat hv)
            refine .inr (.inr (.inr (.inl ⟨.d (.tuple [.str "asks", .str (n2.getD rs.length ("", .none)).1]), h, by simp [hlen, hlen2, hcut, hq, q, hl, hv', show ¬ ((n2.length : Int) = rs.length) by omega], ?_⟩)))
            simp only [Option.map_some, stepD, noteStep, hl, if_false, e_seqR, e_fnR]
            exact trim_same c
      · refine .inl ⟨[some (.d (.tuple (ns.map encN))), some (.d (.str l)), some (.d (encG rs)), some (.d (.int rs.length)), some (.d (.str n1)), some (.d (encG n2)), some (.d n3)], h, by simp [h1], rem', _, _, _, rfl, rfl, rfl, ?_⟩
        rw [List.find?_cons_of_neg (by simp [noteIs, h1])]

/-! ### the object -/
def flds (i : Nat) (nt : D) : List (Str × AV) := [("given", .r (i + 1)), ("made", .r (i + 2)), ("notes", .d nt), ("known", .r (i + 3)), ("reads", .r (i + 4)), ("begun", .r (i + 5))]
def KH (h : AH) (G M : List (Str × D)) (nt : D) (kn rd : List (Str × D)) (bg : List Str) : AH := h ++ [.ins "Knowing" (flds h.length nt), .dct G, .dct M, .dct kn, .dct rd, .lst (stl bg)]
section
variable {h : AH} {G M kn rd : List (Str × D)} {nt : D} {bg : List Str}
@[simp] theorem KH_len : (KH h G M nt kn rd bg).length = h.length + 6 := by simp [KH]
@[simp] theorem KH_0 : (KH h G M nt kn rd bg)[h.length]? = some (.ins "Knowing" (flds h.length nt)) := by simp [KH]
@[simp] theorem KH_1 : (KH h G M nt kn rd bg)[h.length + 1]? = some (.dct G) := by simp [KH]
@[simp] theorem KH_2 : (KH h G M nt kn rd bg)[h.length + 2]? = some (.dct M) := by simp [KH]
@[simp] theorem KH_3 : (KH h G M nt kn rd bg)[h.length + 3]? = some (.dct kn) := by simp [KH]
@[simp] theorem KH_4 : (KH h G M nt kn rd bg)[h.length + 4]? = some (.dct rd) := by simp [KH]
@[simp] theorem KH_5 : (KH h G M nt kn rd bg)[h.length + 5]? = some (.lst (stl bg)) := by simp [KH]
@[simp] theorem KH_s3 (kn' : List (Str × D)) : (KH h G M nt kn rd bg).set (h.length + 3) (.dct kn') = KH h G M nt kn' rd bg := by simp [KH]
@[simp] theorem KH_s4 (rd' : List (Str × D)) : (KH h G M nt kn rd bg).set (h.length + 4) (.dct rd') = KH h G M nt kn rd' bg := by simp [KH]
theorem KH_s5 (bg' : List Str) : (KH h G M nt kn rd bg).set (h.length + 5) (.lst (stl bg')) = KH h G M nt kn rd bg' := by simp [KH]
theorem KH_cl (c : Cl h) : Cl (KH h G M nt kn rd bg) := by
  unfold KH
  refine c.app' ?_
  rw [closed_all]
  simp [okO, flds, avB]
@[simp] theorem fl_given : fldO "Knowing" "given" (.ok (.r h.length) (KH h G M nt kn rd bg)) = .ok (.r (h.length + 1)) (KH h G M nt kn rd bg) := e_fldO KH_0 lk_eq
@[simp] theorem fl_made : fldO "Knowing" "made" (.ok (.r h.length) (KH h G M nt kn rd bg)) = .ok (.r (h.length + 2)) (KH h G M nt kn rd bg) := e_fldO KH_0 ((lk_ne (by decide +kernel)).trans lk_eq)
@[simp] theorem fl_notes : fldO "Knowing" "notes" (.ok (.r h.length) (KH h G M nt kn rd bg)) = .ok (.d nt) (KH h G M nt kn rd bg) := e_fldO KH_0 ((lk_ne (by decide +kernel)).trans ((lk_ne (by decide +kernel)).trans lk_eq))
@[simp] theorem fl_known : fldO "Knowing" "known" (.ok (.r h.length) (KH h G M nt kn rd bg)) = .ok (.r (h.length + 3)) (KH h G M nt kn rd bg) := e_fldO KH_0 ((lk_ne (by decide +kernel)).trans ((lk_ne (by decide +kernel)).trans ((lk_ne (by decide +kernel)).trans lk_eq)))
@[simp] theorem fl_reads : fldO "Knowing" "reads" (.ok (.r h.length) (KH h G M nt kn rd bg)) = .ok (.r (h.length + 4)) (KH h G M nt kn rd bg) := e_fldO KH_0 ((lk_ne (by decide +kernel)).trans ((lk_ne (by decide +kernel)).trans ((lk_ne (by decide +kernel)).trans ((lk_ne (by decide +kernel)).trans lk_eq))))
@[simp] theorem fl_begun : fldO "Knowing" "begun" (.ok (.r h.length) (KH h G M nt kn rd bg)) = .ok (.r (h.length + 5)) (KH h G M nt kn rd bg) := e_fldO KH_0 ((lk_ne (by decide +kernel)).trans ((lk_ne (by decide +kernel)).trans ((lk_ne (by decide +kernel)).trans ((lk_ne (by decide +kernel)).trans ((lk_ne (by decide +kernel)).trans lk_eq)))))
theorem me_KH {mn : Str} {n : Nat} {F : List AV → AH → Out AV} {ga : Fa} {env : Sl} (l : ((flds h.length nt).lookup mn).isNone = true) : methO "Knowing" mn n F (.ok (.r h.length) (KH h G M nt kn rd bg)) ga env = methP n F h.length (ga env (KH h G M nt kn rd bg)) := e_methO KH_0 l
end
theorem no_value (i : Nat) (nt : D) : ((flds i nt).lookup ("value" : Str)).isNone = true := by
  unfold flds
  repeat rw [lk_ne (by decide +kernel)]
  rfl
theorem no_followed (i : Nat) (nt : D) : ((flds i nt).lookup ("followed" : Str)).isNone = true := by
  unfold flds
  repeat rw [lk_ne (by decide +kernel)]
  rfl
theorem no_beyond (i : Nat) (nt : D) : ((flds i nt).lookup ("beyond" : Str)).isNone = true := by
  unfold flds
  repeat rw [lk_ne (by decide +kernel)]
  rfl
theorem init_ok {h : AH} {g : List (Str × D)} {m : List (Str × Str)} {LS : List Str} (B : BaseOk g m LS) (nt : D) : F_Knowing_d___init__ [.r h.length, .d (encG g), .d (encM m), .d nt] (h ++ [.ins "Knowing" []]) = .ok (.d .none) (KH h g (m.map fun p => (p.1, .str p.2)) nt [] [] []) := by
  unfold F_Knowing_d___init__ G_Knowing_d___init__ b_Knowing_d___init__
  have hd1 : ∀ hq : AH, dictO (.ok (.d (encG g)) hq) = .ok (.dct g) hq := fun hq => by
    rw [encG, e_dictO hq (pairD_G g) (by have := B.gl; omega), merge_nd B.gn]
  have hd2 : ∀ hq : AH, dictO (.ok (.d (encM m)) hq) = .ok (.dct (m.map fun p => (p.1, .str p.2))) hq := fun hq => by
    rw [encM, e_dictO hq (pairD_M m) (by have := B.ml; simp; omega), merge_nd (by simpa [List.map_map, Function.comp_def] using B.mn)]
  have n1 : ("given" : Str) ≠ "made" := by decide +kernel
  have n2 : ("given" : Str) ≠ "notes" := by decide +kernel
  have n3 : ("made" : Str) ≠ "notes" := by decide +kernel
  have n4 : ("given" : Str) ≠ "known" := by decide +kernel
  have n5 : ("made" : Str) ≠ "known" := by decide +kernel
  have n6 : ("notes" : Str) ≠ "known" := by decide +kernel
  have n7 : ("given" : Str) ≠ "reads" := by decide +kernel
  have n8 : ("made" : Str) ≠ "reads" := by decide +kernel
  have n9 : ("notes" : Str) ≠ "reads" := by decide +kernel
  have n10 : ("known" : Str) ≠ "reads" := by decide +kernel
  have n11 : ("given" : Str) ≠ "begun" := by decide +kernel
  have n12 : ("made" : Str) ≠ "begun" := by decide +kernel
  have n13 : ("notes" : Str) ≠ "begun" := by decide +kernel
  have n14 : ("known" : Str) ≠ "begun" := by decide +kernel
  have n15 : ("reads" : Str) ≠ "begun" := by decide +kernel
  simp [hd1, hd2, e_fldBP, putA_ne, n1, n2, n3, n4, n5, n6, n7, n8, n9, n10, n11, n12, n13, n14, n15]
  unfold trimA
  rw [show closedB (h.length + 1) _ = false from ?_]
  · simp [KH, flds, stl]
  · simp [closed_all, List.take_append, okO, avB]
end Pin
end
-- Sp7
section
set_option linter.all false
set_option maxRecDepth 100000
/-! Sp, part 7: known_of, its walk. -/
namespace Pin
open PySem PySem.Spec PyProof.Rows L2 Ms Pl

theorem keys_put (kvs : List (Str × D)) (k : Str) (v : D) : (putD kvs k v).map (·.1) = if k ∈ kvs.map (·.1) then kvs.map (·.1) else kvs.map (·.1) ++ [k] := by
  unfold putD
  by_cases h : k ∈ kvs.map (·.1)
  · rw [if_pos h, if_pos]
    · rw [List.map_map]
      refine List.map_congr_left fun p _ => ?_
      simp only [Function.comp]
      split <;> rfl
    · obtain ⟨p, hp, e⟩ := List.mem_map.mp h
      simp only [List.any_eq_true, decide_eq_true_eq]
      exact ⟨p, hp, e⟩
  · rw [if_neg h, if_neg]
    · simp
    · simp only [List.any_eq_true, decide_eq_true_eq, not_exists, not_and]
      exact fun p hp e => h (List.mem_map.mpr ⟨p, hp, e⟩)
/-- a dict whose keys are labels -/
structure KeysIn (LS : List Str) (kvs : List (Str × D)) : Prop where
  nd : (kvs.map (·.1)).Nodup
  sub : ∀ x ∈ kvs.map (·.1), x ∈ LS
theorem KeysIn.put {LS : List Str} {kvs : List (Str × D)} (h : KeysIn LS kvs) {k : Str} (hk : k ∈ LS) (v : D) : KeysIn LS (putD kvs k v) := by
  refine ⟨?_, ?_⟩
  · rw [keys_put]
    split
    · exact h.nd
    · rename_i q
      exact List.nodup_append.mpr ⟨h.nd, by simp, fun a ha b hb e => q (by rw [← List.mem_singleton.mp hb, ← e]; exact ha)⟩
  · rw [keys_put]
    split
    · exact h.sub
    · intro x hx
      rcases List.mem_append.mp hx with q | q
      · exact h.sub x q
      · rw [List.mem_singleton.mp q]; exact hk
theorem KeysIn.nil {LS : List Str} : KeysIn LS [] := ⟨List.nodup_nil, fun x h => by cases h⟩
theorem KeysIn.len {LS : List Str} {kvs : List (Str × D)} (h : KeysIn LS kvs) : kvs.length ≤ LS.length := by
  have := nd_len h.nd h.sub
  simpa using this
structure KI (S : Sys) (LS : List Str) (kn rd : List (Str × D)) : Prop where
  kv : ∀ l v, getD kn l = some v → fol S (lim S) l folMax [] = some (.known v) ∧ okV v
  kk : KeysIn LS kn
  rk : KeysIn LS rd
theorem KI.nil {S : Sys} {LS : List Str} : KI S LS [] [] := ⟨fun l v h => (by cases h), KeysIn.nil, KeysIn.nil⟩
/-- what comes out -/
def KnPost (H : List (Str × D) → List (Str × D) → List Str → AH) (S : Sys) (LS : List Str) (bg : List Str) (sm : List Str) (rd0 : List (Str × D)) (o : Out AV) : Option Res → Prop
  | some (.known v) => ∃ kn rd, o = .ok (.d v) (H kn rd bg) ∧ KI S LS kn rd ∧ ∀ b ∈ sm, getD rd b = getD rd0 b
  | some (.run ch) => ∃ kn rd bg', o = .exc ⟨"Unknown", [("label", .str (ch.getLastD ""))]⟩ (H kn rd bg')
  | none => ∃ kn rd bg', o = .exc ⟨"Endless", []⟩ (H kn rd bg')
theorem fol_run_ne {S : Sys} {e : Str → Option Res} {l : Str} : ∀ {k : Nat} {rs : List (Str × D)} {ch : List Str}, fol S e l k rs = some (.run ch) → ch ≠ []
  | 0, _, _, q => by cases q
  | k + 1, rs, ch, q => by
    cases hs : S.nx l rs with
    | none => rw [fol_end hs] at q; cases q; simp
    | some s =>
      cases s with
      | tells v => rw [fol_tells hs] at q; cases q
      | asks c =>
        cases h : e c with
        | none => rw [fol_stuck hs h] at q; cases q
        | some r =>
          cases r with
          | run ch' => rw [fol_run hs h] at q; cases q; simp
          | known w => rw [fol_known hs h] at q; exact fol_run_ne q
theorem lim_run_ne {S : Sys} {x : Str} {ch : List Str} (h : lim S x = some (.run ch)) : ch ≠ [] := by
  cases hg : S.given x with
  | some w => rw [lim_given hg] at h; cases h
  | none =>
    cases hm : S.made x with
    | none => rw [lim_free hg hm] at h; cases h
    | some l => rw [lim_made hg hm] at h; exact fol_run_ne h
theorem lastD_cons (l : Str) {ch : List Str} (h : ch ≠ []) : (l :: ch).getLastD "" = ch.getLastD "" := by
  cases ch with
  | nil => exact absurd rfl h
  | cons c ch => simp
section
variable {g : List (Str × D)} {m : List (Str × Str)} {ns : List Note} {LS : List Str} {h : AH}
abbrev KS (h : AH) (g : List (Str × D)) (m : List (Str × Str)) (ns : List Note) : List (Str × D) → List (Str × D) → List Str → AH := KH h g (m.map fun p => (p.1, .str p.2)) (encNs ns)
def KnV (h : AH) (g : List (Str × D)) (m : List (Str × Str)) (ns : List Note) (LS : List Str) (k : Nat) : Prop := ∀ (kn rd : List (Str × D)) (bg : List Str) (x : Str), KI (stSys g m ns) LS kn rd → bg.Nodup → (∀ b ∈ bg, b ∈ LS) → LS.length < k + bg.length →
  (∀ l, getD g x = none → mK m x = some l → Dom (stSys g m ns) bg l) → KnPost (KS h g m ns) (stSys g m ns) LS bg bg rd (F_Knowing_d_value k [.r h.length, .d (.str x)] (KS h g m ns kn rd bg)) (lim (stSys g m ns) x)
theorem beyond_ok (l : Str) (kn rd : List (Str × D)) (bg : List Str) : F_Knowing_d_beyond [.r h.length, .d (.str l)] (KS h g m ns kn rd bg) = .exc ⟨"Unknown", [("label", .str l)]⟩ (KS h g m ns kn rd bg) := by
  unfold F_Knowing_d_beyond G_Knowing_d_beyond b_Knowing_d_beyond
  simp
  exact e_fnX (by simp)
theorem followed_ok (cl : Cl h) (B : BaseOk g m LS) (N : NotesOk ns) {k : Nat} (hv : KnV h g m ns LS k) {kn rd : List (Str × D)} {bg : List Str} {l : Str} (ki : KI (stSys g m ns) LS kn rd) (nd : (bg ++ [l]).Nodup) (sub : ∀ b ∈ bg ++ [l], b ∈ LS) (hk : LS.length < k + (bg ++ [l]).length) (hd : Dom (stSys g m ns) bg l) :
    KnPost (KS h g m ns) (stSys g m ns) LS (bg ++ [l]) bg rd (F_Knowing_d_followed k [.r h.length, .d (.str l)] (KS h g m ns kn rd (bg ++ [l]))) (fol (stSys g m ns) (lim (stSys g m ns)) l folMax []) := by
  have hsl := B.sl
  have hl : l ∈ LS := sub l (by simp)
  have hnb : l ∉ bg := fun q => (List.nodup_append.mp nd).2.2 l q l (by simp) rfl
  unfold F_Knowing_d_followed G_Knowing_d_followed b_Knowing_d_followed
  have p1 := e_putQ (v := .tuple []) (k := l) (env := [some (.r h.length), some (.d (.str l)), none, none]) (KH_4 (h := h) (G := g) (M := m.map fun p => (p.1, .str p.2)) (nt := encNs ns) (kn := kn) (rd := rd) (bg := bg ++ [l])) (by have := ki.rk.len; omega)
  rw [KH_s4] at p1
  have hst : ∀ rs kn rd, OkR rs → F_next_of [.d (encNs ns), .d (.str l), .d (encG rs)] (KS h g m ns kn rd (bg ++ [l])) = .ok (.d (stepD (nxN ns l rs))) (KS h g m ns kn rd (bg ++ [l])) := fun rs kn rd hr => next_ok (KH_cl cl) hr
  have hst0 := hst [] kn (putD rd l (.tuple [])) OkR.nil
  rw [show encG [] = .tuple [] from rfl] at hst0
  simp [p1, hst0]
  refine while_inv (fun k' env hh => ∃ (rs : List (Str × D)) (y : Option AV) (kn rd' : List (Str × D)), hh = KS h g m ns kn rd' (bg ++ [l]) ∧ env = [some (.r h.length), some (.d (.str l)), some (.d (stepD (nxN ns l rs))), y] ∧ KI (stSys g m ns) LS kn rd' ∧ getD rd' l = some (encG rs) ∧ (∀ b ∈ bg, getD rd' b = getD rd b) ∧ OkR rs ∧ k' + rs.length = folMax ∧ rs.length ≤ 20 ∧ On (stSys g m ns) l k' rs ∧ fol (stSys g m ns) (lim (stSys g m ns)) l k' rs = fol (stSys g m ns) (lim (stSys g m ns)) l folMax [])
    (fun o => KnPost (KS h g m ns) (stSys g m ns) LS (bg ++ [l]) bg rd (fnO (h.length + 6) (KS h g m ns kn rd (bg ++ [l])) (seqO o (retS (ifF (tstF (bF isV (vF 2) (cF .none))) (methF "Knowing" "beyond" 2 F_Knowing_d_beyond (vF 0) (consF (vF 1) nilF)) (bF ixV (vF 2) (cF (.int 1))))))) (fol (stSys g m ns) (lim (stSys g m ns)) l folMax [])) ?_
    ⟨[], none, kn, putD rd l (.tuple []), rfl, rfl, ⟨ki.kv, ki.kk, ki.rk.put hl _⟩, by rw [getD_put, if_pos rfl]; rfl, fun b hb => by rw [getD_put, if_neg (fun e => hnb (by rw [e]; exact hb))], OkR.nil, rfl, by simp, On.start, rfl⟩
  rintro k' env hh ⟨rs, y, kn, rd', rfl, rfl, ki, hrl, hrb, hr, hkk, hrn, hon, hf⟩
  have k0 : 0 < k' := by unfold folMax at hkk; omega
  obtain ⟨k', rfl⟩ : ∃ q, k' = q + 1 := ⟨k' - 1, by omega⟩
  refine ⟨k0, ?_⟩
  rw [Nat.add_sub_cancel]
  cases hs : nxN ns l rs with
  | none =>
    have hs' : (stSys g m ns).nx l rs = none := hs
    refine ⟨false, KS h g m ns kn rd' (bg ++ [l]), by simp [stepD], .inl ⟨rfl, ?_⟩⟩
    rw [← hf, fol_end hs']
    refine ⟨kn, rd', bg ++ [l], ?_⟩
    simp [stepD, me_KH (no_beyond _ _), beyond_ok]
    exact e_fnX (by simp)
  | some s =>
    cases s with
    | tells v =>
      have hs' : (stSys g m ns).nx l rs = some (.tells v) := hs
      refine ⟨false, KS h g m ns kn rd' (bg ++ [l]), by simp [stepD], .inl ⟨rfl, ?_⟩⟩
      rw [← hf, fol_tells hs']
      refine ⟨kn, rd', ?_, ki, hrb⟩
      simp [stepD]
      exact trim_eq (KH_cl cl) (by simp)
    | asks n =>
      have hs' : (stSys g m ns).nx l rs = some (.asks n) := hs
      refine ⟨true, KS h g m ns kn rd' (bg ++ [l]), by simp [stepD], .inr ⟨rfl, ?_⟩⟩
      have hfd := hv kn rd' (bg ++ [l]) n ki nd sub hk (fun l' h1 h2 => hon.dom hs' h1 h2 hd)
      cases hlim : lim (stSys g m ns) n with
      | none =>
        rw [hlim] at hfd
        obtain ⟨kn1, rd1, bg1, e⟩ := hfd
        refine .inr (.inr (.inr (.inr ⟨⟨"Endless", []⟩, _, KS h g m ns kn1 rd1 bg1, by simp [stepD, me_KH (no_value _ _), e]; rfl, ?_⟩)))
        rw [← hf, fol_stuck hs' hlim]
        refine ⟨kn1, rd1, bg1, ?_⟩
        simp
        exact e_fnX (by simp)
      | some r =>
        cases r with
        | run ch =>
          rw [hlim] at hfd
          obtain ⟨kn1, rd1, bg1, e⟩ := hfd
          refine .inr (.inr (.inr (.inr ⟨⟨"Unknown", [("label", .str (ch.getLastD ""))]⟩, _, KS h g m ns kn1 rd1 bg1, by simp [stepD, me_KH (no_value _ _), e]; rfl, ?_⟩)))
          rw [← hf, fol_run hs' hlim]
          refine ⟨kn1, rd1, bg1, ?_⟩
          rw [lastD_cons l (lim_run_ne hlim)]
          simp
          exact e_fnX (by simp)
        | known v =>
          rw [hlim] at hfd
          obtain ⟨kn1, rd1, e, ki1, hsm⟩ := hfd
          have hv := lim_okN B N hlim
          have hg1 : getD rd1 l = some (encG rs) := by rw [hsm l (by simp)]; exact hrl
          have hi := ixV_r (hp := KS h g m ns kn1 rd1 (bg ++ [l])) (n := h.length + 4) (k := l) KH_4 hg1
          have hi2 := ixV_r (hp := KS h g m ns kn1 (putD rd1 l (encG (rs ++ [(n, v)]))) (bg ++ [l])) (n := h.length + 4) (k := l) (d := encG (rs ++ [(n, v)])) KH_4 (by rw [getD_put, if_pos rfl])
          have p2 : ∀ env, putQ (encG (rs ++ [(n, v)])) (h.length + 4) (.ok (.d (.str l)) (KS h g m ns kn1 rd1 (bg ++ [l]))) env = .nx env (KS h g m ns kn1 (putD rd1 l (encG (rs ++ [(n, v)]))) (bg ++ [l])) := fun env => by
            rw [e_putQ KH_4 (by have := ki1.rk.len; omega), KH_s4]
          refine .inl ⟨[some (.r h.length), some (.d (.str l)), some (.d (stepD (nxN ns l (rs ++ [(n, v)])))), some (.d v)], KS h g m ns kn1 (putD rd1 l (encG (rs ++ [(n, v)]))) (bg ++ [l]), ?_, rs ++ [(n, v)], _, kn1, _, rfl, rfl, ⟨ki1.kv, ki1.kk, ki1.rk.put hl _⟩, by rw [getD_put, if_pos rfl], fun b hb => by rw [getD_put, if_neg (fun e => hnb (by rw [e]; exact hb)), hsm b (by simp [hb]), hrb b hb], hr.snoc hv, by simp; omega, ?_, hon.next hs' hlim, (fol_known hs' hlim).symm.trans hf⟩
          · simp [stepD, me_KH (no_value _ _), e, hi, encG_snoc (show rs.length ≤ 1000 by omega), p2, hi2, hst _ _ _ (hr.snoc hv)]
          · have := nx_asks N hr hs; simp; omega
theorem append_begun {kn rd : List (Str × D)} {bg : List Str} {l : Str} (hb : bg.length ≤ 1000) : appP (h.length + 5) (.ok (.d (.str l)) (KS h g m ns kn rd bg)) = .ok (.d .none) (KS h g m ns kn rd (bg ++ [l])) := by
  rw [e_appP KH_5 (by simp [stl]; omega), stl_snoc, KH_s5]
theorem pop_begun {kn rd : List (Str × D)} {bg : List Str} {l : Str} : popO (.ok (.r (h.length + 5)) (KS h g m ns kn rd (bg ++ [l]))) = .ok (.d (.str l)) (KS h g m ns kn rd bg) := by
  rw [e_popO (xs := stl bg) (x := .str l) (by rw [KH_5, stl_snoc]), KH_s5]
theorem value_ok (cl : Cl h) (B : BaseOk g m LS) (N : NotesOk ns) : ∀ k, KnV h g m ns LS k
  | 0, kn, rd, bg, x, ki, nd, sub, hk, _ => absurd (by omega : LS.length < bg.length) (fuel_end nd sub)
  | k + 1, kn, rd, bg, x, ki, nd, sub, hk, hd => by
    have ih := value_ok cl B N k
    have hlen := nd_len nd sub
    have hsl := B.sl
    unfold F_Knowing_d_value
    rw [show G_Knowing_d_followed (F_Knowing_d_value k) = F_Knowing_d_followed k from rfl]
    unfold G_Knowing_d_value b_Knowing_d_value
    have c2 : Cl (KS h g m ns kn rd bg) := KH_cl cl
    have i1 : inV (.d (.str x)) (.r (h.length + 1)) (KS h g m ns kn rd bg) = .ok (.d (.bool (getD g x).isSome)) (KS h g m ns kn rd bg) := inV_r KH_1
    have i2 : niV (.d (.str x)) (.r (h.length + 2)) (KS h g m ns kn rd bg) = .ok (.d (.bool !(getD (m.map fun p => (p.1, PyData.str p.2)) x).isSome)) (KS h g m ns kn rd bg) := niV_r KH_2
    cases hg : getD g x with
    | some w =>
      rw [lim_given (S := stSys g m ns) hg]
      have i3 := ixV_r (hp := KS h g m ns kn rd bg) (n := h.length + 1) (k := x) KH_1 hg
      rw [hg] at i1
      refine ⟨kn, rd, ?_, ki, fun b _ => rfl⟩
      simp [i1, i3, vText]
      exact trim_eq c2 (by simp)
    | none =>
      rw [hg] at i1
      cases hm : mK m x with
      | none =>
        rw [lim_free (S := stSys g m ns) hg hm]
        rw [getD_mK, hm] at i2
        refine ⟨kn, rd, ?_, ki, fun b _ => rfl⟩
        simp [i1, i2, vNONE, d_NONE]
        exact trim_eq c2 (by simp)
      | some l =>
        rw [lim_made (S := stSys g m ns) hg hm]
        have hl := B.ls _ (mK_mem hm)
        simp only at hl
        have hgm : getD (m.map fun p => (p.1, PyData.str p.2)) x = some (.str l) := by rw [getD_mK, hm]; rfl
        rw [hgm] at i2
        have i3 := ixV_r (hp := KS h g m ns kn rd bg) (n := h.length + 2) (k := x) KH_2 hgm
        have i4 := inV_lr (x := .str l) (KH_5 (h := h) (G := g) (M := m.map fun p => (p.1, .str p.2)) (nt := encNs ns) (kn := kn) (rd := rd) (bg := bg)) (.inl (by simp))
        rw [any_str] at i4
        have i5 : dgetO (.ok (.r (h.length + 3)) (KS h g m ns kn rd bg)) (vF 2) [some (.r h.length), some (.d (.str x)), some (.d (.str l)), none] = .ok (.d ((getD kn l).getD .none)) (KS h g m ns kn rd bg) := by
          rw [e_dgetO KH_3]
          simp [e_dgetP KH_3]
        by_cases hb : l ∈ bg
        · rw [(hd l hg hm).lim hb]
          refine ⟨kn, rd, bg, ?_⟩
          simp [i1, i2, i3, i4, hb]
          exact e_fnX (by simp)
        · have hkc : PyData.eqv ((getD kn l).getD .none) d_CIRCLE = false := by
            cases q : getD kn l with
            | none => rfl
            | some v =>
              rcases (ki.kv l v q).2 with ⟨r, hr, rfl⟩ | ⟨ws, _, rfl⟩
              · simp [d_CIRCLE, PyData.eqv, PyData.eqvAll]; exact hr
              · simp [d_CIRCLE, PyData.eqv, PyData.eqvAll]
          have i6 : ∀ hq : AH, eqV (.d ((getD kn l).getD .none)) (.d d_CIRCLE) hq = .ok (.d (.bool false)) hq := fun hq => by
            rw [eqV_ok (.inr (by decide +kernel)), hkc]
          have i7 : niV (.d (.str l)) (.r (h.length + 3)) (KS h g m ns kn rd bg) = .ok (.d (.bool !(getD kn l).isSome)) (KS h g m ns kn rd bg) := niV_r KH_3
          cases q : getD kn l with
          | some v =>
            rw [(ki.kv l v q).1]
            have i8 := ixV_r (hp := KS h g m ns kn rd bg) (n := h.length + 3) (k := l) KH_3 q
            rw [q] at i7
            refine ⟨kn, rd, ?_, ki, fun b _ => rfl⟩
            simp [i1, i2, i3, i4, i5, i6, i7, i8, hb]
            exact trim_eq c2 (by simp)
          | none =>
            rw [q] at i7
            have nd' : (bg ++ [l]).Nodup := List.nodup_append.mpr ⟨nd, by simp, fun a ha b hb' e => hb (by rw [← List.mem_singleton.mp hb', ← e]; exact ha)⟩
            have sub' : ∀ b ∈ bg ++ [l], b ∈ LS := fun b hb => by
              rcases List.mem_append.mp hb with q | q
              · exact sub b q
              · rw [List.mem_singleton.mp q]; exact hl
            have hfo := followed_ok cl B N ih ki nd' sub' (by simp; omega) (hd l hg hm)
            have i8 := fun fe env => e_appO (fe := fe) (env := env) (KH_5 (h := h) (G := g) (M := m.map fun p => (p.1, .str p.2)) (nt := encNs ns) (kn := kn) (rd := rd) (bg := bg))
            have i9 := append_begun (h := h) (g := g) (m := m) (ns := ns) (kn := kn) (rd := rd) (bg := bg) (l := l) (by omega)
            cases hlim : fol (stSys g m ns) (lim (stSys g m ns)) l folMax [] with
            | none =>
              rw [hlim] at hfo
              obtain ⟨kn1, rd1, bg1, e⟩ := hfo
              refine ⟨kn1, rd1, bg1, ?_⟩
              simp [i1, i2, i3, i4, i5, i6, i7, hb, i8, i9, me_KH (no_followed _ _), e]
              exact e_fnX (by simp)
            | some r =>
              cases r with
              | run ch =>
                rw [hlim] at hfo
                obtain ⟨kn1, rd1, bg1, e⟩ := hfo
                refine ⟨kn1, rd1, bg1, ?_⟩
                simp [i1, i2, i3, i4, i5, i6, i7, hb, i8, i9, me_KH (no_followed _ _), e]
                exact e_fnX (by simp)
              | known v =>
                rw [hlim] at hfo
                obtain ⟨kn1, rd1, e, ki1, hsm⟩ := hfo
                have p2 : ∀ env, putQ v (h.length + 3) (.ok (.d (.str l)) (KS h g m ns kn1 rd1 bg)) env = .nx env (KS h g m ns (putD kn1 l v) rd1 bg) := fun env => by
                  rw [e_putQ KH_3 (by have := ki1.kk.len; omega), KH_s3]
                have i10 := ixV_r (hp := KS h g m ns (putD kn1 l v) rd1 bg) (n := h.length + 3) (k := l) (d := v) KH_3 (by rw [getD_put, if_pos rfl])
                have hov : okV v := fol_okN N (fun c v h => lim_okN B N h) hlim
                refine ⟨putD kn1 l v, rd1, ?_, ⟨fun l' v' e' => ?_, ki1.kk.put hl _, ki1.rk⟩, hsm⟩
                · simp [i1, i2, i3, i4, i5, i6, i7, hb, i8, i9, me_KH (no_followed _ _), e, pop_begun, p2, i10]
                  exact trim_eq (KH_cl cl) (by simp)
                · rw [getD_put] at e'
                  split at e'
                  · rename_i hll; subst hll; cases e'; exact ⟨hlim, hov⟩
                  · exact ki1.kv l' v' e'
/-- what is known of a name -/
def knD : Option Res → D
  | some (.known v) => .tuple [.str "known", v]
  | some (.run ch) => .tuple [.str "run", .str (ch.getLastD "")]
  | none => .tuple [.str "endless"]
theorem known_ok {hp : AH} (c : Cl hp) (B : BaseOk g m LS) (N : NotesOk ns) (hL : LS.length < 12) (x : Str) : F_known_of [.d (encS g m ns), .d (.str x)] hp = .ok (.d (knD (lim (stSys g m ns) x))) hp := by
  unfold F_known_of G_known_of b_known_of
  have hv := value_ok c B N 12 [] [] [] x KI.nil List.nodup_nil (fun b hb => by cases hb) (by simpa using hL) (fun l _ _ => Dom.nil)
  have hi := init_ok (h := hp) B (encNs ns)
  have ne1 : ("Endless" : Str) ≠ "Unknown" := by decide +kernel
  simp [encS, hi, me_KH (no_value _ _)]
  have tr : ∀ (d : D) (kn rd : List (Str × D)) (bg : List Str), trimA (.d d) (KS hp g m ns kn rd bg) hp.length = .ok (.d d) hp := fun d kn rd bg => trim_app c
  cases hlim : lim (stSys g m ns) x with
  | none =>
    rw [hlim] at hv
    obtain ⟨kn, rd, bg, e⟩ := hv
    rw [e]
    simp [e_try2 ne1, knD]
    exact tr _ _ _ _
  | some r =>
    cases r with
    | run ch =>
      rw [hlim] at hv
      obtain ⟨kn, rd, bg, e⟩ := hv
      rw [e]
      simp [e_try1, knD]
      exact tr _ _ _ _
    | known v =>
      rw [hlim] at hv
      obtain ⟨kn, rd, e, _, _⟩ := hv
      rw [e]
      simp [knD]
      exact tr _ _ _ _
end
end Pin
end
-- Sp8
section
set_option linter.all false
set_option maxRecDepth 100000
/-! Sp, part 8: made boxes, edited bases. -/
namespace Pin
open PySem PySem.Spec PyProof.Rows L2 Ms Pl

def NMB : List Str := ["a", "b", "c", "d", "e", "f", "x1", "zz"]
def NM7 : List Str := ["a", "b", "c", "d", "e", "f", "x1"]
def LS4 : List Str := ["k1", "k2", "k3", "k4"]
def pool : List D := [.tuple [.str "fault", .str "none"], .tuple [.str "text", .tuple []], .tuple [.str "text", .tuple [.str "0"]], .tuple [.str "text", .tuple [.str "1"]]]
theorem pool_okV {v : D} (h : v ∈ pool) : okV v := by
  simp only [pool, List.mem_cons, List.not_mem_nil, or_false] at h
  rcases h with rfl | rfl | rfl | rfl
  · exact okV_none
  · exact .inr ⟨[], by decide, rfl⟩
  · exact .inr ⟨["0"], by decide, rfl⟩
  · exact .inr ⟨["1"], by decide, rfl⟩
/-- a place in a written list -/
theorem at_lt {xs : List D} {r : Int} (h0 : 0 ≤ r) (h1 : r < xs.length) : ∃ x ∈ xs, atI xs r = some x := by
  obtain ⟨j, rfl⟩ := Int.eq_ofNat_of_zero_le h0
  have hj : j < xs.length := by omega
  exact ⟨xs[j], List.getElem_mem hj, at_nat (List.getElem?_eq_getElem hj)⟩
section
variable {hp : AH} {n : Nat} {ds : List Int}
theorem pool_ok (c : Cl hp) (hn : n < hp.length) (dk : DrawsOk ds) (k : Nat) : ∃ v, v ∈ pool ∧ F_l_pool [.r n] (HM hp n ds k) = .ok (.d v) (HM hp n ds (k + 1)) := by
  obtain ⟨r, h0, h1, e⟩ := take_ok (k := k) (m := 4) c hn dk (by decide)
  obtain ⟨v, hv, ev⟩ := at_lt (xs := pool) h0 h1
  refine ⟨v, hv, ?_⟩
  unfold F_l_pool G_l_pool b_l_pool
  have := ixV_t (hp := HM hp n ds (k + 1)) ev
  unfold pool at this
  simp [e, this]
  exact trim_eq (HM_cl c) (by simp)
/-- a draw while local objects stand behind -/
theorem take_app {l : AH} (c : Cl hp) (hl : noIns l = true) (hn : n < hp.length) (dk : DrawsOk ds) (k : Nat) {m : Int} (h0 : 0 < m) :
    ∃ r : Int, 0 ≤ r ∧ r < m ∧ F_l_take [.r n, .d (.int m)] (HM hp n ds k ++ l) = .ok (.d (.int r)) (HM hp n ds (k + 1) ++ l) := by
  have hn' : n < (hp ++ l).length := Nat.lt_of_lt_of_le hn (by simp)
  obtain ⟨r, a, b, e⟩ := take_ok (hp := hp ++ l) (k := k) (m := m) (c.app hl) hn' dk h0
  rw [HM_app hn, HM_app hn] at e
  exact ⟨r, a, b, e⟩
end
def BoxMade (n : Nat) (ds : List Int) (f : Nat) : Prop := ∀ (hp : AH) (d : Nat) (A : List Str) (k : Nat), Cl hp → n < hp.length → d < f → A.length + d ≤ 10 → ∃ b k', IsBox NMB d A b ∧ F_l_box f [.r n, .d (.int d), .d (.list (stl A))] (HM hp n ds k) = .ok (.d b) (HM hp n ds k')
theorem box_ok {n : Nat} {ds : List Int} (dk : DrawsOk ds) : ∀ f, BoxMade n ds f
  | 0, hp, d, A, k, _, _, h, _ => absurd h (Nat.not_lt_zero _)
  | f + 1, hp, d, A, k, c, hn, hd, hA => by
    have ih := box_ok (n := n) dk f
    -- the way that is taken, whether there is depth or not
    have way : ∃ (w : Int) (k1 : Nat), (d = 0 → w = 6) ∧ ∀ env : Sl, env[0]? = some (some (.r n)) → env[1]? = some (some (.d (.int d))) → ifF (tstF (bF gtV (vF 1) (cF (.int 0)))) (callF (arF 2 F_l_take) (consF (vF 0) (consF (cF (.int 6)) nilF))) (cF (.int 6)) env (HM hp n ds k) = .ok (.d (.int w)) (HM hp n ds k1) := by
      by_cases h0 : d = 0
      · subst h0
        refine ⟨6, k, fun _ => rfl, fun env e0 e1 => ?_⟩
        simp [e1]
      · obtain ⟨r, _, _, e⟩ := take_ok (k := k) (m := 6) c hn dk (by decide)
        refine ⟨r, k + 1, fun h => absurd h h0, fun env e0 e1 => ?_⟩
        have : 0 < d := by omega
        simp [e0, e1, this, e]
    obtain ⟨w, k1, hw, ew⟩ := way
    obtain ⟨r2, h20, h21, e2⟩ := take_ok (k := k1) (m := 8) c hn dk (by decide)
    obtain ⟨nmD, hnm, enm⟩ := at_lt (xs := NMB.map .str) h20 (by simpa [NMB] using h21)
    obtain ⟨nm, hnm', rfl⟩ := List.mem_map.mp hnm
    have inm := fun hq => ixV_t (hp := hq) enm
    simp only [NMB, List.map_cons, List.map_nil] at inm
    unfold F_l_box G_l_box b_l_box
    have ew' := ew [some (.r n), some (.d (.int d)), some (.d (.list (stl A))), none, none, none, none] rfl rfl
    have iin : ∀ hq : AH, inV (.d (.str nm)) (.d (.list (stl A))) hq = .ok (.d (.bool (decide (nm ∈ A)))) hq := fun hq => by
      rw [inV_l (.inl (by simp)), any_str]
    by_cases hq : 4 < w ∨ nm ∈ A
    · -- it tells
      obtain ⟨v, hv, ev⟩ := pool_ok c hn dk (k1 + 1)
      refine ⟨.tuple [.str "tells", v], k1 + 1 + 1, ?_, ?_⟩
      · cases d with
        | zero => exact ⟨v, pool_okV hv, rfl⟩
        | succ d => exact .inl ⟨v, pool_okV hv, rfl⟩
      · have hc : ∀ (hq : AH) (y : Option AV), orO (.ok (decide (4 < w)) hq) (tstF (bF inV (vF 4) (vF 2))) [some (.r n), some (.d (.int d)), some (.d (.list (stl A))), some (.d (.int w)), some (.d (.str nm)), y, y] = .ok true hq := fun hq' y => by
          by_cases h4 : 4 < w
          · simp [h4]
          · simp [h4, iin, hq.resolve_left h4]
        simp only [e_fn, e_start, e_seq, e_set, List.map_cons, List.map_nil, List.length_cons, List.length_nil, Nat.reduceSub, Nat.reduceAdd, List.replicate, List.cons_append, List.nil_append]
        rw [ew']
        simp [e2, inm, hc, ev]
        exact trim_eq (HM_cl c) (by simp)
    · -- it asks
      have h4 : ¬ 4 < w := fun h => hq (.inl h)
      have hnA : nm ∉ A := fun h => hq (.inr h)
      have hd0 : d ≠ 0 := fun h => h4 (by rw [hw h]; decide)
      obtain ⟨d, rfl⟩ : ∃ d', d = d' + 1 := ⟨d - 1, by omega⟩
      have hsub : ((d + 1 : Nat) : Int) - 1 = (d : Int) := by omega
      have hadd : ∀ hq : AH, addV (.d (.list (stl A))) (.d (.list [.str nm])) hq = .ok (.d (.list (stl (A ++ [nm])))) hq := fun hq => by
        rw [add_lst (by simp [stl]; exact big_le (by omega)), stl_snoc]
      have hc : ∀ (hq : AH) (y : Option AV), orO (.ok (decide (4 < w)) hq) (tstF (bF inV (vF 4) (vF 2))) [some (.r n), some (.d (.int (d + 1 : Nat))), some (.d (.list (stl A))), some (.d (.int w)), some (.d (.str nm)), y, y] = .ok false hq := fun hq' y => by
        simp [h4, iin, hnA]
      -- a box behind
      have hbx : ∀ (k : Nat) (rows : List D), ∃ b k', IsBox NMB d (A ++ [nm]) b ∧ F_l_box f [.r n, .d (.int d), .d (.list (stl (A ++ [nm])))] (HM hp n ds k ++ [.lst rows]) = .ok (.d b) (HM hp n ds k' ++ [.lst rows]) := fun k rows => by
        obtain ⟨b, k', hb, e⟩ := ih (hp ++ [.lst rows]) d (A ++ [nm]) k (c.app rfl) (Nat.lt_of_lt_of_le hn (by simp)) (by omega) (by simp; omega)
        rw [HM_app hn, HM_app hn] at e
        exact ⟨b, k', hb, e⟩
      simp only [e_fn, e_start, e_seq, e_set, List.map_cons, List.map_nil, List.length_cons, List.length_nil, Nat.reduceSub, Nat.reduceAdd, List.replicate, List.cons_append, List.nil_append]
      rw [ew']
      have hc' := hc (HM hp n ds (k1 + 1)) none
      simp only [Int.natCast_add, Int.cast_ofNat_Int] at hc'
      simp [e2, inm, hc', -e_meth]
      refine forD_inv (fun rem env h => ∃ (k2 : Nat) (rows : List D) (y : Option AV), env = [some (.r n), some (.d (.int ((d : Int) + 1))), some (.d (.list (stl A))), some (.d (.int w)), some (.d (.str nm)), some (.r hp.length), y] ∧ h = HM hp n ds k2 ++ [.lst rows] ∧ (∀ r ∈ rows, ∃ v b, r = .tuple [v, b] ∧ okV v ∧ IsBox NMB d (A ++ [nm]) b) ∧ rows.length + rem.length ≤ 4 ∧ ∀ x ∈ rem, okV x)
        (fun o => ∃ b, IsBox NMB (d + 1) A b ∧ ∃ k', fnO hp.length (HM hp n ds k) (seqO o _) = .ok (.d b) (HM hp n ds k')) ?_ ?_ ⟨k1 + 1, [], none, rfl, rfl, fun r h => (by cases h), by simp, fun x hx => pool_okV hx⟩
      · rintro env h ⟨k2, rows, y, rfl, rfl, hr, hrl, _⟩
        obtain ⟨b, k3, hb, eb⟩ := hbx k2 rows
        refine ⟨.tuple [.str "asks", .str nm, .tuple rows, b], .inr ⟨nm, rows, b, rfl, hnA, hnm', by simp at hrl; omega, hr, hb⟩, k3, ?_⟩
        have ht := tuple_lr (hp := HM hp n ds k2 ++ [.lst rows]) (n := hp.length) (xs := rows) (by have := h_at0 (HM hp n ds k2) [AObj.lst rows]; simpa using this)
        simp [ht, hadd, eb]
        exact trim_apq (HM_cl c) (by simp)
      · rintro x rem env h ⟨k2, rows, y, rfl, rfl, hr, hrl, hx⟩
        obtain ⟨r3, h30, h31, e3⟩ := take_app (l := [.lst rows]) c rfl hn dk k2 (m := 2) (by decide)
        refine ⟨_, _, rfl, .inl ?_⟩
        by_cases h3 : r3 = 0
        · subst h3
          obtain ⟨b, k3, hb, eb⟩ := hbx (k2 + 1) rows
          have hat : ∀ k, (HM hp n ds k ++ [.lst rows])[hp.length]? = some (.lst rows) := fun k => by have := h_at0 (HM hp n ds k) [AObj.lst rows]; simpa using this
          have a0 : ∀ (k : Nat) (fe : Fe) (env : Sl), appO (.ok (.r hp.length) (HM hp n ds k ++ [.lst rows])) fe env = appP hp.length (fe env (HM hp n ds k ++ [.lst rows])) := fun k fe env => e_appO (hat k)
          have a1 : ∀ (k : Nat) (x : D), appP hp.length (.ok (.d x) (HM hp n ds k ++ [.lst rows])) = .ok (.d .none) (HM hp n ds k ++ [.lst (rows ++ [x])]) := fun k x => by
            rw [e_appP (hat k) (by simp at hrl; omega)]
            have := h_set0 (HM hp n ds k) [AObj.lst rows] (.lst (rows ++ [x]))
            rw [HM_len] at this
            rw [this]; rfl
          refine ⟨[some (.r n), some (.d (.int ((d : Int) + 1))), some (.d (.list (stl A))), some (.d (.int w)), some (.d (.str nm)), some (.r hp.length), some (.d x)], HM hp n ds k3 ++ [.lst (rows ++ [.tuple [x, b]])], ?_, k3, _, _, rfl, rfl, fun r hr' => ?_, by simp at hrl ⊢; omega, fun z hz => hx z (List.mem_cons_of_mem _ hz)⟩
          · simp [e3, a0, a1, hadd, eb]
          · rcases List.mem_append.mp hr' with q | q
            · exact hr r q
            · rw [List.mem_singleton.mp q]; exact ⟨x, b, rfl, hx x List.mem_cons_self, hb⟩
        · refine ⟨[some (.r n), some (.d (.int ((d : Int) + 1))), some (.d (.list (stl A))), some (.d (.int w)), some (.d (.str nm)), some (.r hp.length), some (.d x)], HM hp n ds (k2 + 1) ++ [.lst rows], ?_, k2 + 1, rows, _, rfl, rfl, hr, by simp at hrl ⊢; omega, fun z hz => hx z (List.mem_cons_of_mem _ hz)⟩
          simp [e3, h3]
end Pin
end
-- Sp9
section
set_option linter.all false
set_option maxRecDepth 100000
/-! Sp, part 9: sorting what is written; edited bases. -/
namespace Pin
open PySem PySem.Spec PyProof.Rows L2 Ms Pl

theorem perm_map {α β : Type} {f : α → β} : ∀ {l : List β} {g : List α}, l.Perm (g.map f) → ∃ g' : List α, g'.Perm g ∧ l = g'.map f := by
  intro l g h
  generalize e : g.map f = m at h
  induction h generalizing g with
  | nil => exact ⟨g, List.Perm.refl _, e.symm⟩
  | cons x h ih =>
    cases g with
    | nil => simp at e
    | cons a g =>
      simp only [List.map_cons, List.cons.injEq] at e
      obtain ⟨rfl, e⟩ := e
      obtain ⟨g', p, q⟩ := ih e
      exact ⟨a :: g', p.cons a, by rw [q]; rfl⟩
  | swap x y h =>
    match g, e with
    | a :: b :: g, e =>
      simp only [List.map_cons, List.cons.injEq] at e
      obtain ⟨rfl, rfl, rfl⟩ := e
      exact ⟨b :: a :: g, List.Perm.swap a b g, rfl⟩
  | trans h1 h2 ih1 ih2 =>
    obtain ⟨g', p, q⟩ := ih2 e
    obtain ⟨g'', p', q'⟩ := ih1 q.symm
    exact ⟨g'', p'.trans p, q'⟩
/-! comparing -/
theorem alikeW_tup (xs ys : List D) : alikeW (.tuple xs) (.tuple ys) = alikeWAll xs ys := by simp [alikeW]
@[simp] theorem alikeW_str (a b : Str) : alikeW (.str a) (.str b) = true := by simp [alikeW]
@[simp] theorem alikeWAll_nil (ys : List D) : alikeWAll [] ys = true := by simp [alikeWAll]
@[simp] theorem alikeWAll_nil' (xs : List D) : alikeWAll xs [] = true := by cases xs <;> simp [alikeWAll]
theorem alikeWAll_cons (x y : D) (xs ys : List D) : alikeWAll (x :: xs) (y :: ys) = (alikeW x y && (!(PyData.eqv x y) || alikeWAll xs ys)) := by rw [alikeWAll]
theorem alikeWAll_of {xs ys : List D} (h : ∀ x ∈ xs, ∀ y ∈ ys, alikeW x y = true) : alikeWAll xs ys = true := by
  induction xs generalizing ys with
  | nil => simp
  | cons x xs ih =>
    cases ys with
    | nil => simp
    | cons y ys =>
      rw [alikeWAll_cons, h x List.mem_cons_self y List.mem_cons_self, ih fun a ha b hb => h a (List.mem_cons_of_mem _ ha) b (List.mem_cons_of_mem _ hb)]
      simp
theorem alikeW_stl (a b : List Str) : alikeW (.tuple (stl a)) (.tuple (stl b)) = true := by
  rw [alikeW_tup]
  refine alikeWAll_of fun x hx y hy => ?_
  obtain ⟨_, _, rfl⟩ := List.mem_map.mp hx
  obtain ⟨_, _, rfl⟩ := List.mem_map.mp hy
  simp
theorem alikeW_okV {v w : D} (h : okV v) (h' : okV w) : alikeW v w = true := by
  rcases h with ⟨r, _, rfl⟩ | ⟨a, _, rfl⟩ <;> rcases h' with ⟨r', _, rfl⟩ | ⟨b, _, rfl⟩
  · rw [alikeW_tup]; exact alikeWAll_of (by simp)
  · rw [alikeW_tup, alikeWAll_cons]; simp
  · rw [alikeW_tup, alikeWAll_cons]; simp
  · rw [alikeW_tup, alikeWAll_cons, alikeWAll_cons, alikeW_stl]; simp
theorem alikeW_pair {a b : Str} {v w : D} (h : alikeW v w = true) : alikeW (.tuple [.str a, v]) (.tuple [.str b, w]) = true := by
  rw [alikeW_tup, alikeWAll_cons, alikeWAll_cons, h]; simp
theorem alikeW_reads {a b : List (Str × D)} (h : OkR a) (h' : OkR b) : alikeW (encG a) (encG b) = true := by
  unfold encG
  rw [alikeW_tup]
  refine alikeWAll_of fun x hx y hy => ?_
  obtain ⟨p, hp, rfl⟩ := List.mem_map.mp hx
  obtain ⟨q, hq, rfl⟩ := List.mem_map.mp hy
  exact alikeW_pair (alikeW_okV (h p hp) (h' q hq))
mutual
theorem plain_sd : ∀ (x : D), sd x = true → x.plain = true
  | .str _, _ => by simp [PyData.plain]
  | .tuple xs, h => by
    simp only [PyData.plain]
    exact plainAll_sd xs (by simpa using h)
  | .none, h => by simp [sd] at h
  | .bool _, h => by simp [sd] at h
  | .int _, h => by simp [sd] at h
  | .list _, h => by simp [sd] at h
  | .dict _, h => by simp [sd] at h
theorem plainAll_sd : ∀ (xs : List D), sdAll xs = true → PyData.plainAll xs = true
  | [], _ => by simp [PyData.plainAll]
  | x :: xs, h => by
    have h' : sd x = true ∧ sdAll xs = true := by simpa using h
    simp [PyData.plainAll, plain_sd x h'.1, plainAll_sd xs h'.2]
end
/-- sorted of tuples that can be compared -/
theorem sortW_of {xs : List D} {hp : AH} (l : xs.length ≤ 500) (s : ∀ x ∈ xs, sd x = true) (a : ∀ x ∈ xs, ∀ y ∈ xs, alikeW x y = true) (k : ∀ x ∈ xs, keyB x = true) (d : ∀ x ∈ xs, x.depth ≤ 30) : sortWC [.d (.list xs)] hp = .ok (.d (.list (isortD xs))) hp := by
  have h : canSortW xs = true := by
    unfold canSortW
    simp only [Bool.and_eq_true, decide_eq_true_eq, List.all_eq_true]
    exact ⟨l, a, fun x hx => plain_sd x (s x hx), k, depthAll_iff.mpr d⟩
  simp only [sortWC, lsOf, h, Bool.or_true, if_true]
theorem sortW_ofr {n : Nat} {xs : List D} {hp : AH} (q : hp[n]? = some (.lst xs)) (l : xs.length ≤ 500) (s : ∀ x ∈ xs, sd x = true) (a : ∀ x ∈ xs, ∀ y ∈ xs, alikeW x y = true) (k : ∀ x ∈ xs, keyB x = true) (d : ∀ x ∈ xs, x.depth ≤ 30) : sortWC [.r n] hp = .ok (.d (.list (isortD xs))) hp := by
  have h : canSortW xs = true := by
    unfold canSortW
    simp only [Bool.and_eq_true, decide_eq_true_eq, List.all_eq_true]
    exact ⟨l, a, fun x hx => plain_sd x (s x hx), k, depthAll_iff.mpr d⟩
  simp only [sortWC, lsOf, q, h, Bool.or_true, if_true]
/-! ### pairs of names -/
def pr (p : Str × D) : D := .tuple [.str p.1, p.2]
def prM (p : Str × Str) : D := .tuple [.str p.1, .str p.2]
theorem encG_eq (g : List (Str × D)) : encG g = .tuple (g.map pr) := rfl
theorem encM_eq (m : List (Str × Str)) : encM m = .tuple (m.map prM) := rfl
/-- rows of names with texts or labels -/
structure RowsG (g : List (Str × D)) : Prop where
  nd : (g.map (·.1)).Nodup
  nm : ∀ p ∈ g, p.1 ∈ NM7
  gw : ∀ p ∈ g, isW p.2
structure RowsM (m : List (Str × Str)) : Prop where
  nd : (m.map (·.1)).Nodup
  nm : ∀ p ∈ m, p.1 ∈ NM7
  ls : ∀ p ∈ m, p.2 ∈ LS4
theorem RowsG.len {g : List (Str × D)} (h : RowsG g) : g.length ≤ 7 := by
  have := nd_len (LS := NM7) h.nd (fun b hb => by obtain ⟨p, hp, rfl⟩ := List.mem_map.mp hb; exact h.nm p hp)
  simpa [NM7] using this
theorem RowsM.len {g : List (Str × Str)} (h : RowsM g) : g.length ≤ 7 := by
  have := nd_len (LS := NM7) h.nd (fun b hb => by obtain ⟨p, hp, rfl⟩ := List.mem_map.mp hb; exact h.nm p hp)
  simpa [NM7] using this
theorem RowsG.perm {g g' : List (Str × D)} (h : RowsG g) (p : g'.Perm g) : RowsG g' := ⟨((p.map _).nodup_iff).mpr h.nd, fun q hq => h.nm q (p.mem_iff.mp hq), fun q hq => h.gw q (p.mem_iff.mp hq)⟩
theorem RowsM.perm {g g' : List (Str × Str)} (h : RowsM g) (p : g'.Perm g) : RowsM g' := ⟨((p.map _).nodup_iff).mpr h.nd, fun q hq => h.nm q (p.mem_iff.mp hq), fun q hq => h.ls q (p.mem_iff.mp hq)⟩
theorem RowsG.filter {g : List (Str × D)} (h : RowsG g) (f : Str × D → Bool) : RowsG (g.filter f) := ⟨(h.nd.sublist ((List.filter_sublist).map _)), fun q hq => h.nm q (List.mem_filter.mp hq).1, fun q hq => h.gw q (List.mem_filter.mp hq).1⟩
theorem RowsM.filter {g : List (Str × Str)} (h : RowsM g) (f : Str × Str → Bool) : RowsM (g.filter f) := ⟨(h.nd.sublist ((List.filter_sublist).map _)), fun q hq => h.nm q (List.mem_filter.mp hq).1, fun q hq => h.ls q (List.mem_filter.mp hq).1⟩
theorem nodup_snoc {α : Type} {l : List α} {x : α} (h : l.Nodup) (n : x ∉ l) : (l ++ [x]).Nodup := List.nodup_append.mpr ⟨h, by simp, fun a ha b hb e => n (by rw [← List.mem_singleton.mp hb, ← e]; exact ha)⟩
theorem RowsG.snoc {g : List (Str × D)} (h : RowsG g) {x : Str} {w : D} (hx : x ∈ NM7) (hn : x ∉ g.map (·.1)) (hw : isW w) : RowsG (g ++ [(x, w)]) := by
  refine ⟨by rw [List.map_append]; exact nodup_snoc h.nd hn, fun p hp => ?_, fun p hp => ?_⟩ <;> rcases List.mem_append.mp hp with q | q
  · exact h.nm p q
  · rw [List.mem_singleton.mp q]; exact hx
  · exact h.gw p q
  · rw [List.mem_singleton.mp q]; exact hw
theorem RowsM.snoc {g : List (Str × Str)} (h : RowsM g) {x : Str} {w : Str} (hx : x ∈ NM7) (hn : x ∉ g.map (·.1)) (hw : w ∈ LS4) : RowsM (g ++ [(x, w)]) := by
  refine ⟨by rw [List.map_append]; exact nodup_snoc h.nd hn, fun p hp => ?_, fun p hp => ?_⟩ <;> rcases List.mem_append.mp hp with q | q
  · exact h.nm p q
  · rw [List.mem_singleton.mp q]; exact hx
  · exact h.ls p q
  · rw [List.mem_singleton.mp q]; exact hw
theorem words_sd {w : D} (h : isW w) : sd w = true := by obtain ⟨ws, _, rfl⟩ := h; simp [sd_stl]
theorem words_depth {w : D} (h : isW w) : w.depth ≤ 1 := by obtain ⟨ws, _, rfl⟩ := h; have := depth_stl ws; simp; omega
theorem pr_inj {p q : Str × D} (h : pr p = pr q) : p = q := by
  unfold pr at h
  simp only [PyData.tuple.injEq, List.cons.injEq, PyData.str.injEq, and_true] at h
  cases p; cases q; simp_all
theorem prM_inj {p q : Str × Str} (h : prM p = prM q) : p = q := by
  unfold prM at h
  simp only [PyData.tuple.injEq, List.cons.injEq, PyData.str.injEq, and_true] at h
  cases p; cases q; simp_all
theorem nodup_of_keys {α β : Type} {l : List (α × β)} (h : (l.map (·.1)).Nodup) : l.Nodup := by
  induction l with
  | nil => exact List.nodup_nil
  | cons p l ih =>
    rw [List.map_cons, List.nodup_cons] at h
    exact List.nodup_cons.mpr ⟨fun q => h.1 (List.mem_map.mpr ⟨p, q, rfl⟩), ih h.2⟩
theorem nodup_map {α β : Type} {f : α → β} (hf : ∀ a b, f a = f b → a = b) {l : List α} (h : l.Nodup) : (l.map f).Nodup := by
  induction l with
  | nil => exact List.nodup_nil
  | cons p l ih =>
    obtain ⟨h1, h2⟩ := List.nodup_cons.mp h
    rw [List.map_cons]
    exact List.nodup_cons.mpr ⟨fun q => by obtain ⟨a, ha, e⟩ := List.mem_map.mp q; rw [hf _ _ e] at ha; exact h1 ha, ih h2⟩
theorem sortG {g : List (Str × D)} (h : RowsG g) : ∃ g' : List (Str × D), g'.Perm g ∧ isortD (g.map pr) = g'.map pr ∧ Ris (g'.map pr) ∧ ∀ (hp : AH) (n : Nat), hp[n]? = some (.lst (g.map pr)) → sortWC [.r n] hp = .ok (.d (.list (g'.map pr))) hp := by
  obtain ⟨g', p, e⟩ := perm_map (isort_perm (g.map pr))
  have hs : ∀ x ∈ g.map pr, sd x = true := fun x hx => by obtain ⟨q, hq, rfl⟩ := List.mem_map.mp hx; simp [pr, words_sd (h.gw q hq)]
  refine ⟨g', p, e, by rw [← e]; exact isort_ris hs (nodup_map (fun _ _ => pr_inj) (nodup_of_keys h.nd)), fun hp n q => ?_⟩
  rw [← e]
  refine sortW_ofr q (by have := h.len; simp; omega) hs (fun x hx y hy => ?_) (fun x hx => ?_) (fun x hx => ?_)
  · obtain ⟨a, ha, rfl⟩ := List.mem_map.mp hx
    obtain ⟨b, hb, rfl⟩ := List.mem_map.mp hy
    obtain ⟨ws, _, ew⟩ := h.gw a ha
    obtain ⟨ws', _, ew'⟩ := h.gw b hb
    exact alikeW_pair (by rw [ew, ew']; exact alikeW_stl _ _)
  · obtain ⟨a, ha, rfl⟩ := List.mem_map.mp hx; rfl
  · obtain ⟨a, ha, rfl⟩ := List.mem_map.mp hx
    have := words_depth (h.gw a ha)
    simp [pr]; omega
theorem sortM {g : List (Str × Str)} (h : RowsM g) : ∃ g' : List (Str × Str), g'.Perm g ∧ isortD (g.map prM) = g'.map prM ∧ Ris (g'.map prM) ∧ ∀ (hp : AH) (n : Nat), hp[n]? = some (.lst (g.map prM)) → sortWC [.r n] hp = .ok (.d (.list (g'.map prM))) hp := by
  obtain ⟨g', p, e⟩ := perm_map (isort_perm (g.map prM))
  have hs : ∀ x ∈ g.map prM, sd x = true := fun x hx => by obtain ⟨q, hq, rfl⟩ := List.mem_map.mp hx; simp [prM]
  refine ⟨g', p, e, by rw [← e]; exact isort_ris hs (nodup_map (fun _ _ => prM_inj) (nodup_of_keys h.nd)), fun hp n q => ?_⟩
  rw [← e]
  refine sortW_ofr q (by have := h.len; simp; omega) hs (fun x hx y hy => ?_) (fun x hx => ?_) (fun x hx => ?_)
  · obtain ⟨a, ha, rfl⟩ := List.mem_map.mp hx
    obtain ⟨b, hb, rfl⟩ := List.mem_map.mp hy
    exact alikeW_pair (by simp)
  · obtain ⟨a, ha, rfl⟩ := List.mem_map.mp hx; rfl
  · obtain ⟨a, ha, rfl⟩ := List.mem_map.mp hx
    simp [prM]
/-- a base as the law makes it -/
structure Bse (g : List (Str × D)) (m : List (Str × Str)) : Prop where
  rowsG : RowsG g
  rowsM : RowsM m
  dj : ∀ x, x ∈ g.map (·.1) → x ∉ m.map (·.1)
  rg : Ris (g.map pr)
  rm : Ris (m.map prM)
theorem Bse.ok {g : List (Str × D)} {m : List (Str × Str)} (b : Bse g m) : BaseOk g m LS4 := ⟨b.rowsG.nd, b.rowsM.nd, b.dj, by have := b.rowsG.len; omega, by have := b.rowsM.len; omega, by decide, b.rowsG.gw, b.rowsM.ls⟩
theorem Bse.nil : Bse [] [] := ⟨⟨List.nodup_nil, fun p h => (by cases h), fun p h => (by cases h)⟩, ⟨List.nodup_nil, fun p h => (by cases h), fun p h => (by cases h)⟩, fun x h => (by cases h), List.Pairwise.nil, List.Pairwise.nil⟩
def encB (g : List (Str × D)) (m : List (Str × Str)) : D := .tuple [encG g, encM m]
theorem fl_iso {α : Type} (f : α → D) (p : D → Bool) (q : α → Bool) (h : ∀ a, p (f a) = q a) (l : List α) : ((l.map f).filter p).map (fun d => d) = (l.filter q).map f := by
  rw [List.map_id', List.filter_map]
  congr 1
  exact List.filter_congr fun a _ => h a
theorem edited_ok {hp : AH} {n : Nat} {ds : List Int} (c : Cl hp) (hn : n < hp.length) (dk : DrawsOk ds) {g : List (Str × D)} {m : List (Str × Str)} (b : Bse g m) {x : Str} (hx : x ∈ NM7) (k : Nat) :
    ∃ g' m' k', Bse g' m' ∧ F_l_edited [.r n, .d (encB g m), .d (.str x)] (HM hp n ds k) = .ok (.d (encB g' m')) (HM hp n ds k') := by
  unfold F_l_edited G_l_edited b_l_edited
  let g0 := g.filter fun p => !decide (p.1 = x)
  let m0 := m.filter fun p => !decide (p.1 = x)
  have G0 : RowsG g0 := b.rowsG.filter _
  have M0 : RowsM m0 := b.rowsM.filter _
  have xg : x ∉ g0.map (·.1) := fun h => by
    obtain ⟨p, hp, e⟩ := List.mem_map.mp h
    have := (List.mem_filter.mp hp).2
    simp [e] at this
  have xm : x ∉ m0.map (·.1) := fun h => by
    obtain ⟨p, hp, e⟩ := List.mem_map.mp h
    have := (List.mem_filter.mp hp).2
    simp [e] at this
  have cg : ∀ (env : Sl) (hq : AH), (∃ a0 a1 a3 a4 a5 a6, env = [a0, a1, some (.d (.str x)), a3, a4, a5, a6]) → compD (nmB 6) (tstF (bF neV (bF ixV (vF 6) (cF (.int 0))) (vF 2))) (vF 6) env (g.map pr) hq = .ok (g0.map pr) hq := fun env hq ⟨a0, a1, a3, a4, a5, a6, e⟩ => by
    subst e
    rw [compD_pure (p := fun d => match d with | .tuple [.str y, _] => !decide (y = x) | _ => false) (f := fun d => d)]
    · rw [fl_iso pr _ (fun p => !decide (p.1 = x)) (fun a => rfl)]
    · intro d hd
      obtain ⟨p, hp, rfl⟩ := List.mem_map.mp hd
      exact ⟨_, rfl, by simp [pr], fun _ => by simp⟩
  have cm : ∀ (env : Sl) (hq : AH), (∃ a0 a1 a3 a4 a5 a6, env = [a0, a1, some (.d (.str x)), a3, a4, a5, a6]) → compD (nmB 6) (tstF (bF neV (bF ixV (vF 6) (cF (.int 0))) (vF 2))) (vF 6) env (m.map prM) hq = .ok (m0.map prM) hq := fun env hq ⟨a0, a1, a3, a4, a5, a6, e⟩ => by
    subst e
    rw [compD_pure (p := fun d => match d with | .tuple [.str y, _] => !decide (y = x) | _ => false) (f := fun d => d)]
    · rw [fl_iso prM _ (fun p => !decide (p.1 = x)) (fun a => rfl)]
    · intro d hd
      obtain ⟨p, hp, rfl⟩ := List.mem_map.mp hd
      exact ⟨_, rfl, by simp [prM], fun _ => by simp⟩
  have cg' : ∀ (env : Sl) (hq : AH), (∃ a0 a1 a3 a4 a5 a6, env = [a0, a1, some (.d (.str x)), a3, a4, a5, a6]) → compO (.ok (g.map pr) hq) (nmB 6) (tstF (bF neV (bF ixV (vF 6) (cF (.int 0))) (vF 2))) (vF 6) [6] env = .ok (.lst (g0.map pr)) hq := fun env hq ⟨a0, a1, a3, a4, a5, a6, e⟩ => by
    subst e
    exact e_compO (by have := b.rowsG.len; simp; exact big_le (by omega)) (cg _ _ ⟨_, _, _, _, _, _, rfl⟩)
  have cm' : ∀ (env : Sl) (hq : AH), (∃ a0 a1 a3 a4 a5 a6, env = [a0, a1, some (.d (.str x)), a3, a4, a5, a6]) → compO (.ok (m.map prM) hq) (nmB 6) (tstF (bF neV (bF ixV (vF 6) (cF (.int 0))) (vF 2))) (vF 6) [6] env = .ok (.lst (m0.map prM)) hq := fun env hq ⟨a0, a1, a3, a4, a5, a6, e⟩ => by
    subst e
    exact e_compO (by have := b.rowsM.len; simp; exact big_le (by omega)) (cm _ _ ⟨_, _, _, _, _, _, rfl⟩)
  obtain ⟨w, w0, w1, ew⟩ := take_app (l := [.lst (g0.map pr), .lst (m0.map prM)]) c rfl hn dk k (m := 7) (by decide)
  simp only [encB, encG_eq, encM_eq]
  simp [cg', cm', ew]
  -- what stands behind the edit
  suffices hs : ∃ (g1 : List (Str × D)) (m1 : List (Str × Str)) (k1 : Nat), RowsG g1 ∧ RowsM m1 ∧ (∀ y, y ∈ g1.map (·.1) → y ∉ m1.map (·.1)) ∧ ifSO (.ok (decide (w < 2)) (HM hp n ds (k + 1) ++ [.lst (g0.map pr), .lst (m0.map prM)]))
      (exprS (appF (vF 3) (tupF (consF (vF 2) (consF (bF ixV (tupF (consF (tupF nilF) (consF (tupF (consF (cF (.str "0")) nilF)) (consF (tupF (consF (cF (.str "1")) nilF)) nilF)))) (callF (arF 2 F_l_take) (consF (vF 0) (consF (cF (.int 3)) nilF)))) nilF)))))
      (ifS (tstF (bF ltV (vF 5) (cF (.int 6)))) (exprS (appF (vF 4) (tupF (consF (vF 2) (consF (bF ixV (tupF (consF (cF (.str "k1")) (consF (cF (.str "k2")) (consF (cF (.str "k3")) (consF (cF (.str "k4")) nilF))))) (callF (arF 2 F_l_take) (consF (vF 0) (consF (cF (.int 4)) nilF)))) nilF))))) nxS)
      [some (.r n), some (.d (.tuple [.tuple (g.map pr), .tuple (m.map prM)])), some (.d (.str x)), some (.r hp.length), some (.r (hp.length + 1)), some (.d (.int w)), none] =
      .nx [some (.r n), some (.d (.tuple [.tuple (g.map pr), .tuple (m.map prM)])), some (.d (.str x)), some (.r hp.length), some (.r (hp.length + 1)), some (.d (.int w)), none] (HM hp n ds k1 ++ [.lst (g1.map pr), .lst (m1.map prM)]) by
    obtain ⟨g1, m1, k1, G1, M1, dj1, e⟩ := hs
    rw [e]
    obtain ⟨g2, pg, _, rg, sg⟩ := sortG G1
    obtain ⟨m2, pm, _, rm, sm⟩ := sortM M1
    have sg' := sg (HM hp n ds k1 ++ [.lst (g1.map pr), .lst (m1.map prM)]) hp.length (by have := h_at0 (HM hp n ds k1) [AObj.lst (g1.map pr), .lst (m1.map prM)]; simpa using this)
    have sm' := sm (HM hp n ds k1 ++ [.lst (g1.map pr), .lst (m1.map prM)]) (hp.length + 1) (by have := h_atS (HM hp n ds k1) [AObj.lst (g1.map pr), .lst (m1.map prM)] 1; simpa using this)
    refine ⟨g2, m2, ⟨G1.perm pg, M1.perm pm, fun y hy hy' => dj1 y ((pg.map _).mem_iff.mp hy) ((pm.map _).mem_iff.mp hy'), rg, rm⟩, k1, ?_⟩
    simp [sg', sm', encG_eq, encM_eq]
    exact trim_apq (HM_cl c) (by simp)
  have hat0 : ∀ k (o1 o2 : AObj), (HM hp n ds k ++ [o1, o2])[hp.length]? = some o1 := fun k o1 o2 => by have := h_at0 (HM hp n ds k) [o1, o2]; simpa using this
  have hat1 : ∀ k (o1 o2 : AObj), (HM hp n ds k ++ [o1, o2])[hp.length + 1]? = some o2 := fun k o1 o2 => by have := h_atS (HM hp n ds k) [o1, o2] 1; simpa using this
  have dj0 : ∀ y, y ∈ g0.map (·.1) → y ∉ m0.map (·.1) := fun y hy hy' => by
    obtain ⟨p, hp, rfl⟩ := List.mem_map.mp hy
    obtain ⟨q, hq, e⟩ := List.mem_map.mp hy'
    exact b.dj p.1 (List.mem_map.mpr ⟨p, (List.mem_filter.mp hp).1, rfl⟩) (List.mem_map.mpr ⟨q, (List.mem_filter.mp hq).1, e⟩)
  by_cases h2 : w < 2
  · obtain ⟨r, r0, r1, er⟩ := take_app (l := [.lst (g0.map pr), .lst (m0.map prM)]) c rfl hn dk (k + 1) (m := 3) (by decide)
    obtain ⟨wd, hw, ewd⟩ := at_lt (xs := [.tuple [], .tuple [.str "0"], .tuple [.str "1"]]) r0 (by simpa using r1)
    have hw' : isW wd := by
      simp only [List.mem_cons, List.not_mem_nil, or_false] at hw
      rcases hw with rfl | rfl | rfl
      · exact ⟨[], by decide, rfl⟩
      · exact ⟨["0"], by decide, rfl⟩
      · exact ⟨["1"], by decide, rfl⟩
    have iw := fun hq => ixV_t (hp := hq) ewd
    have a0 : ∀ (k : Nat) (fe : Fe) (env : Sl), appO (.ok (.r hp.length) (HM hp n ds k ++ [.lst (g0.map pr), .lst (m0.map prM)])) fe env = appP hp.length (fe env (HM hp n ds k ++ [.lst (g0.map pr), .lst (m0.map prM)])) := fun k fe env => e_appO (hat0 k _ _)
    have a1 : ∀ (k : Nat) (d : D), appP hp.length (.ok (.d d) (HM hp n ds k ++ [.lst (g0.map pr), .lst (m0.map prM)])) = .ok (.d .none) (HM hp n ds k ++ [.lst (g0.map pr ++ [d]), .lst (m0.map prM)]) := fun k d => by
      rw [e_appP (hat0 k _ _) (by have := G0.len; simp; omega)]
      have := h_set0 (HM hp n ds k) [AObj.lst (g0.map pr), .lst (m0.map prM)] (.lst (g0.map pr ++ [d]))
      rw [HM_len] at this
      rw [this]; rfl
    refine ⟨g0 ++ [(x, wd)], m0, k + 1 + 1, G0.snoc hx xg hw', M0, fun y hy => ?_, ?_⟩
    · rw [List.map_append, List.mem_append] at hy
      rcases hy with hy | hy
      · exact dj0 y hy
      · simp at hy; rw [hy]; exact xm
    · simp [h2, a0, er, iw, a1, pr]
  · by_cases h6 : w < 6
    · obtain ⟨r, r0, r1, er⟩ := take_app (l := [.lst (g0.map pr), .lst (m0.map prM)]) c rfl hn dk (k + 1) (m := 4) (by decide)
      obtain ⟨wd, hw, ewd⟩ := at_lt (xs := LS4.map .str) r0 (by simpa [LS4] using r1)
      obtain ⟨lb, hlb, rfl⟩ := List.mem_map.mp hw
      have iw := fun hq => ixV_t (hp := hq) ewd
      simp only [LS4, List.map_cons, List.map_nil] at iw
      have a0 : ∀ (k : Nat) (fe : Fe) (env : Sl), appO (.ok (.r (hp.length + 1)) (HM hp n ds k ++ [.lst (g0.map pr), .lst (m0.map prM)])) fe env = appP (hp.length + 1) (fe env (HM hp n ds k ++ [.lst (g0.map pr), .lst (m0.map prM)])) := fun k fe env => e_appO (hat1 k _ _)
      have a1 : ∀ (k : Nat) (d : D), appP (hp.length + 1) (.ok (.d d) (HM hp n ds k ++ [.lst (g0.map pr), .lst (m0.map prM)])) = .ok (.d .none) (HM hp n ds k ++ [.lst (g0.map pr), .lst (m0.map prM ++ [d])]) := fun k d => by
        rw [e_appP (hat1 k _ _) (by have := M0.len; simp; omega)]
        have := h_setS (HM hp n ds k) [AObj.lst (g0.map pr), .lst (m0.map prM)] 1 (.lst (m0.map prM ++ [d]))
        rw [HM_len] at this
        rw [this]; rfl
      refine ⟨g0, m0 ++ [(x, lb)], k + 1 + 1, G0, M0.snoc hx xm hlb, fun y hy hy' => ?_, ?_⟩
      · rw [List.map_append, List.mem_append] at hy'
        rcases hy' with hy' | hy'
        · exact dj0 y hy hy'
        · simp at hy'; rw [hy'] at hy; exact xg hy
      · simp [h2, h6, a0, er, iw, a1, prM]
    · exact ⟨g0, m0, k + 1, G0, M0, dj0, by simp [h2, h6]⟩
end Pin
end
-- Sp10
section
set_option linter.all false
set_option maxRecDepth 100000
/-! Sp, part 10: made stocks and crates of them. -/
namespace Pin
open PySem PySem.Spec PyProof.Rows L2 Ms Pl

def Follows : D → List (Str × D) → D → Prop
  | b, [], v => boxStep b = .tells v
  | b, (c, w) :: rs, v => boxStep b = .asks c ∧ Follows (boxGo b w) rs v
structure NoteOf (bs : List (Str × D)) (n : Note) : Prop where
  lb : n.1 ∈ LS4
  fo : ∃ b, getD bs n.1 = some b ∧ IsBox NMB 2 [] b ∧ Follows b n.2.1 n.2.2
  rv : OkR n.2.1
  vv : okV n.2.2
theorem follows_len {NM : List Str} : ∀ {rs : List (Str × D)} {k : Nat} {A : List Str} {b v : D}, IsBox NM k A b → Follows b rs v → rs.length ≤ k ∧ (rs.map (·.1)).Nodup ∧ ∀ x ∈ rs.map (·.1), x ∈ NM ∧ x ∉ A
  | [], k, A, b, v, _, _ => ⟨Nat.zero_le _, List.nodup_nil, fun x h => by cases h⟩
  | (c, w) :: rs, k, A, b, v, hb, ⟨h1, h2⟩ => by
    rcases hb.two with ⟨v', _, rfl⟩ | ⟨k', n, rows, last, rfl, rfl, h3, h4, _, h5, h6⟩
    · rw [boxStep_t] at h1; cases h1
    · rw [boxStep_a] at h1
      cases h1
      obtain ⟨a1, a2, a3⟩ := follows_len (IsBox.go h5 h6 _ _) h2
      refine ⟨by simp; omega, ?_, fun x hx => ?_⟩
      · rw [List.map_cons, List.nodup_cons]
        exact ⟨fun q => (a3 _ q).2 (by simp), a2⟩
      · rw [List.map_cons, List.mem_cons] at hx
        rcases hx with rfl | hx
        · exact ⟨h4, h3⟩
        · exact ⟨(a3 x hx).1, fun q => (a3 x hx).2 (by simp [q])⟩
theorem brn_follows {g : List (Str × D)} {m : List (Str × Str)} {bs : List (Str × D)} {e : Str → Option Res} {l : Str} {b : D} (hb : getD bs l = some b) (he : ∀ c v, e c = some (.known v) → okV v) : ∀ {k j : Nat} {A : List Str} {rs0 rs : List (Str × D)} {v : D}, IsBox NMB j A (boxAt b rs0) → OkR rs0 → brn (crSys g m bs) e l k rs0 = some (rs, v) → ∃ tl, rs = rs0 ++ tl ∧ Follows (boxAt b rs0) tl v ∧ OkR rs ∧ okV v
  | 0, _, _, _, _, _, _, _, q => by cases q
  | k + 1, j, A, rs0, rs, v, hx, hr, q => by
    have hs : (crSys g m bs).nx l rs0 = some (boxStep (boxAt b rs0)) := by show (getD bs l).map _ = _; rw [hb]; rfl
    rcases hx.two with ⟨v', hv', e'⟩ | ⟨j', n, rows, last, rfl, e', _, _, _, h5, h6⟩
    · rw [e', boxStep_t] at hs
      rw [brn_tells hs] at q
      cases q
      exact ⟨[], by simp, by rw [e']; exact boxStep_t _ _, hr, hv'⟩
    · rw [e', boxStep_a] at hs
      cases h : e n with
      | none => rw [brn_stuck hs h] at q; cases q
      | some r =>
        cases r with
        | run ch => unfold brn at q; rw [hs] at q; simp only [h] at q; cases q
        | known w =>
          rw [brn_known hs h] at q
          have hw := he n w h
          obtain ⟨tl, e1, e2, e3, e4⟩ := brn_follows hb he (by rw [boxAt_snoc, e']; exact IsBox.go h5 h6 _ _) (hr.snoc hw) q
          refine ⟨(n, w) :: tl, by rw [e1]; simp, ⟨by rw [e']; exact boxStep_a _ _ _ _, ?_⟩, e3, e4⟩
          rw [boxAt_snoc] at e2; exact e2
theorem IsBox.le {NM : List Str} {k : Nat} {A : List Str} {d : D} (h : IsBox NM k A d) : ∀ {j : Nat}, k ≤ j → IsBox NM j A d := by
  intro j hj
  induction hj with
  | refl => exact h
  | step _ ih => exact ih.mono
/-- boxes as the law makes them -/
structure BxsOk (bs : List (Str × D)) : Prop where
  ks : bs.map (·.1) = LS4
  bx : ∀ p ∈ bs, IsBox NMB 2 [] p.2
theorem BxsOk.get {bs : List (Str × D)} (h : BxsOk bs) {l : Str} (hl : l ∈ LS4) : ∃ b, getD bs l = some b ∧ IsBox NMB 2 [] b := by
  rw [← h.ks] at hl
  obtain ⟨p, hp, rfl⟩ := List.mem_map.mp hl
  exact ⟨p.2, mem_getD (by rw [h.ks]; decide) hp, h.bx p hp⟩
theorem BxsOk.ok {bs : List (Str × D)} (h : BxsOk bs) : BoxesOk NMB bs LS4 :=
  ⟨by rw [h.ks]; decide, by have := congrArg List.length h.ks; simp [LS4] at this; omega, fun l hl => let ⟨b, e, i⟩ := h.get hl; ⟨b, e, i.le (by decide)⟩⟩
theorem encN_sd {bs : List (Str × D)} {n : Note} (h : NoteOf bs n) : sd (encN n) = true := by simp [encN, h.rv.sd, h.vv.sd]
theorem encN_depth {bs : List (Str × D)} {n : Note} (h : NoteOf bs n) : (encN n).depth ≤ 6 := by
  have := h.rv.depth
  have := h.vv.depth
  simp [encN]; omega
theorem encN_inj {a b : Note} (h : encN a = encN b) : a = b := by
  unfold encN at h
  simp only [PyData.tuple.injEq, List.cons.injEq, PyData.str.injEq, and_true] at h
  obtain ⟨h1, h2, h3⟩ := h
  have := encG_inj h2
  obtain ⟨a1, a2, a3⟩ := a
  obtain ⟨b1, b2, b3⟩ := b
  simp_all
theorem alikeW_note {a b : Note} (ha : OkR a.2.1) (hb : OkR b.2.1) (va : okV a.2.2) (vb : okV b.2.2) : alikeW (encN a) (encN b) = true := by
  unfold encN
  rw [alikeW_tup, alikeWAll_cons, alikeWAll_cons, alikeWAll_cons, alikeW_reads ha hb, alikeW_okV va vb]; simp
theorem sortN {bs : List (Str × D)} {ns : List Note} (h : ∀ n ∈ ns, NoteOf bs n) (hl : ns.length ≤ 400) (nd : ns.Nodup) : ∃ ns' : List Note, ns'.Perm ns ∧ isortD (ns.map encN) = ns'.map encN ∧ Ris (ns'.map encN) ∧ ∀ (hp : AH) (n : Nat), hp[n]? = some (.lst (ns.map encN)) → sortWC [.r n] hp = .ok (.d (.list (ns'.map encN))) hp := by
  obtain ⟨g', p, e⟩ := perm_map (isort_perm (ns.map encN))
  have hs : ∀ x ∈ ns.map encN, sd x = true := fun x hx => by obtain ⟨q, hq, rfl⟩ := List.mem_map.mp hx; exact encN_sd (h q hq)
  refine ⟨g', p, e, by rw [← e]; exact isort_ris hs (nodup_map (fun _ _ => encN_inj) nd), fun hp n q => ?_⟩
  rw [← e]
  refine sortW_ofr q (by simp; omega) hs (fun x hx y hy => ?_) (fun x hx => ?_) (fun x hx => ?_)
  · obtain ⟨a, ha, rfl⟩ := List.mem_map.mp hx
    obtain ⟨b, hb, rfl⟩ := List.mem_map.mp hy
    exact alikeW_note (h a ha).rv (h b hb).rv (h a ha).vv (h b hb).vv
  · obtain ⟨a, ha, rfl⟩ := List.mem_map.mp hx; rfl
  · obtain ⟨a, ha, rfl⟩ := List.mem_map.mp hx
    have := encN_depth (h a ha)
    omega
structure StkOk (g : List (Str × D)) (m : List (Str × Str)) (ns : List Note) (bs : List (Str × D)) : Prop where
  b : Bse g m
  x : BxsOk bs
  no : ∀ n ∈ ns, NoteOf bs n
  nl : ns.length ≤ 21
  rs : Ris (ns.map encN)
theorem StkOk.notes {g : List (Str × D)} {m : List (Str × Str)} {ns : List Note} {bs : List (Str × D)} (h : StkOk g m ns bs) : NotesOk ns := by
  refine ⟨by have := h.nl; omega, fun n hn => ?_, fun n hn => (h.no n hn).rv, fun n hn => (h.no n hn).vv⟩
  obtain ⟨b, _, hb, hf⟩ := (h.no n hn).fo
  have := (follows_len hb hf).1
  omega
theorem encC_of (g : List (Str × D)) (m : List (Str × Str)) (bs : List (Str × D)) (hq : AH) : addV (.d (encB g m)) (.d (.tuple [encG bs])) hq = .ok (.d (encC g m bs)) hq := by
  rw [encB, add_tup (by simp; exact big_le (by decide))]; rfl
theorem encS_of (g : List (Str × D)) (m : List (Str × Str)) (ns : List Note) (hq : AH) : addV (.d (encB g m)) (.d (.tuple [encNs ns])) hq = .ok (.d (encS g m ns)) hq := by
  rw [encB, add_tup (by simp; exact big_le (by decide))]; rfl
/-- sorted(set(the labels)) -/
theorem strsD_map (l : List Str) : strsD (l.map .str) = some l := by
  induction l with
  | nil => rfl
  | cons x l ih => simp [strsD, ih]
theorem uniqS_iff : ∀ {l : List Str} {x : Str}, x ∈ uniqS l ↔ x ∈ l
  | [], x => by simp [uniqS]
  | y :: l, x => by
    unfold uniqS
    split
    · rename_i h
      rw [uniqS_iff, List.mem_cons]
      exact ⟨.inr, fun q => q.elim (fun e => by rw [e]; exact h) id⟩
    · rw [List.mem_cons, List.mem_cons, uniqS_iff]
theorem uniqS_nd : ∀ (l : List Str), (uniqS l).Nodup
  | [] => List.nodup_nil
  | y :: l => by
    unfold uniqS
    split
    · exact uniqS_nd l
    · rename_i h
      exact List.nodup_cons.mpr ⟨fun q => h (uniqS_iff.mp q), uniqS_nd l⟩
def sortSetO (o : Out AV) : Out AV := o.bind fun a h1 => match lsOf a h1 with
  | some xs => match strsD xs with
    | some ss => if ss.length ≤ 20 then .ok (.d (.list (isortD ((uniqS ss).map .str)))) h1 else .bad
    | none => .bad
  | none => .bad
@[simp] theorem e_sortSet (f : Fe) (env : Sl) (hp : AH) : sortSetF f env hp = sortSetO (f env hp) := id rfl
theorem e_sortSetO {l : List Str} {h : AH} (hl : l.length ≤ 20) : sortSetO (.ok (.d (.list (l.map .str))) h) = .ok (.d (.list (isortD ((uniqS l).map .str)))) h := by
  simp only [sortSetO, Out.bind, lsOf, strsD_map]
  rw [if_pos hl]
theorem sset_str (l : List Str) : ∃ l' : List Str, isortD ((uniqS l).map .str) = l'.map .str ∧ (∀ x, x ∈ l' ↔ x ∈ l) ∧ l'.Nodup ∧ l'.length ≤ l.length ∧ Ris (l'.map .str) := by
  obtain ⟨l', p, e⟩ := perm_map (isort_perm ((uniqS l).map PyData.str))
  refine ⟨l', e, fun x => by rw [p.mem_iff, uniqS_iff], p.nodup_iff.mpr (uniqS_nd l), ?_, ?_⟩
  · rw [p.length_eq]
    exact nd_len (uniqS_nd l) fun x hx => uniqS_iff.mp hx
  · rw [← e]
    exact isort_ris (fun x hx => by obtain ⟨y, _, rfl⟩ := List.mem_map.mp hx; simp) (nodup_map (fun a b h => by simpa using h) (uniqS_nd l))
theorem paired_bs {NM : List Str} {k : Nat} : ∀ {ls : List Str} {xs : List D}, Paired (fun d x => ∃ l b, d = PyData.str l ∧ x = .tuple [.str l, b] ∧ IsBox NM k [] b) (ls.map .str) xs → ∃ bs : List (Str × D), xs = bs.map pr ∧ bs.map (·.1) = ls ∧ ∀ p ∈ bs, IsBox NM k [] p.2
  | [], _, h => by cases h; exact ⟨[], rfl, rfl, fun p h => (by cases h)⟩
  | l :: ls, _, h => by
    rw [List.map_cons] at h
    cases h with
    | cons h t =>
      obtain ⟨l', b, e1, e2, hb⟩ := h
      cases e1
      obtain ⟨bs, e3, e4, e5⟩ := paired_bs t
      refine ⟨(l, b) :: bs, by rw [e2, e3]; rfl, by rw [List.map_cons, e4], fun p hp => ?_⟩
      rcases List.mem_cons.mp hp with rfl | hp
      · exact hb
      · exact e5 p hp
/-- the notes so far -/
structure NtsOk (bs : List (Str × D)) (ns : List Note) : Prop where
  no : ∀ n ∈ ns, NoteOf bs n
  nd : ns.Nodup
section
variable {hp : AH} {n : Nat} {ds : List Int} {bs : List (Str × D)}
abbrev stkE (hp : AH) (n : Nat) (bs : List (Str × D)) (g : List (Str × D)) (m : List (Str × Str)) (y4 y5 y6 y7 : Option AV) : Sl := [some (.r n), some (.d (encG bs)), some (.d (encB g m)), some (.r hp.length), y4, y5, y6, y7, none]
theorem HM_at0 (hp : AH) (n : Nat) (ds : List Int) (k : Nat) (o : AObj) (l : AH) : (HM hp n ds k ++ o :: l)[hp.length]? = some o := by have := h_at0 (HM hp n ds k) (o :: l); simpa using this
theorem HM_set0 (hp : AH) (n : Nat) (ds : List Int) (k : Nat) (o o' : AObj) (l : AH) : (HM hp n ds k ++ o :: l).set hp.length o' = HM hp n ds k ++ o' :: l := by
  have := h_set0 (HM hp n ds k) (o :: l) o'
  rw [HM_len] at this
  rw [this]; rfl
theorem edited_app {l : AH} (c : Cl hp) (hl : noIns l = true) (hn : n < hp.length) (dk : DrawsOk ds) {g : List (Str × D)} {m : List (Str × Str)} (b : Bse g m) {x : Str} (hx : x ∈ NM7) (k : Nat) :
    ∃ g' m' k', Bse g' m' ∧ F_l_edited [.r n, .d (encB g m), .d (.str x)] (HM hp n ds k ++ l) = .ok (.d (encB g' m')) (HM hp n ds k' ++ l) := by
  obtain ⟨g', m', k', b', e⟩ := edited_ok (hp := hp ++ l) (c.app hl) (Nat.lt_of_lt_of_le hn (by simp)) dk b hx k
  rw [HM_app hn, HM_app hn] at e
  exact ⟨g', m', k', b', e⟩
theorem stk_edit (c : Cl hp) (hn : n < hp.length) (dk : DrawsOk ds) : ∀ {xs : List Str}, (∀ x ∈ xs, x ∈ NM7) → ∀ {g m} (b : Bse g m) (k : Nat) (y4 y5 y6 y7 : Option AV) (o : List D), ∃ g' m' k' y, Bse g' m' ∧ forD (nmB 4) (setS 2 (callF (arF 3 F_l_edited) (consF (vF 0) (consF (vF 2) (consF (vF 4) nilF))))) (xs.map .str) (stkE hp n bs g m y4 y5 y6 y7) (HM hp n ds k ++ [.lst o]) = .nx (stkE hp n bs g' m' y y5 y6 y7) (HM hp n ds k' ++ [.lst o])
  | [], _, g, m, b, k, y4, y5, y6, y7, o => ⟨g, m, k, y4, b, rfl⟩
  | x :: xs, hx, g, m, b, k, y4, y5, y6, y7, o => by
    obtain ⟨g1, m1, k1, b1, e1⟩ := edited_app (l := [.lst o]) c rfl hn dk b (hx x List.mem_cons_self) k
    obtain ⟨g2, m2, k2, y, b2, e2⟩ := stk_edit c hn dk (fun z hz => hx z (List.mem_cons_of_mem _ hz)) b1 k1 (some (.d (.str x))) y5 y6 y7 o
    refine ⟨g2, m2, k2, y, b2, ?_⟩
    rw [List.map_cons]
    unfold forD
    simp [e1]
    exact e2
theorem stk_label (c : Cl hp) (hn : n < hp.length) (dk : DrawsOk ds) (X : BxsOk bs) {g : List (Str × D)} {m : List (Str × Str)} (b : Bse g m) : ∀ {ls : List Str}, (∀ l ∈ ls, l ∈ LS4) → ∀ (k : Nat) (y4 y5 y6 y7 : Option AV) (ns : List Note), NtsOk bs ns → ns.length + ls.length ≤ 1000 → ∃ ns' k' y y', NtsOk bs ns' ∧ ns'.length ≤ ns.length + ls.length ∧
    forD (nmB 6) (seqS
                        (setS 7
                          (callF (arF 3 (F_l_branch 12))
                            (consF (bF addV (vF 2) (tupF (consF (vF 1) nilF)))
                              (consF (vF 6) (consF (lstF nilF) nilF)))))
                        (ifS
                          (andT (tstF (bF isntV (vF 7) (cF PyData.none)))
                            (andT
                              (tstF
                                (bF gtV (callF (arF 2 F_l_take) (consF (vF 0) (consF (cF (PyData.int 4)) nilF)))
                                  (cF (PyData.int 0))))
                              (tstF (bF niV (bF addV (tupF (consF (vF 6) nilF)) (vF 7)) (vF 3)))))
                          (exprS (appF (vF 3) (bF addV (tupF (consF (vF 6) nilF)) (vF 7)))) nxS)) (ls.map .str) (stkE hp n bs g m y4 y5 y6 y7) (HM hp n ds k ++ [.lst (ns.map encN)]) = .nx (stkE hp n bs g m y4 y5 y y') (HM hp n ds k' ++ [.lst (ns'.map encN)])
  | [], _, k, y4, y5, y6, y7, ns, N, _ => ⟨ns, k, y6, y7, N, by simp, rfl⟩
  | l :: ls, hl, k, y4, y5, y6, y7, ns, N, hlen => by
    have hl0 := hl l List.mem_cons_self
    simp only [List.length_cons] at hlen
    have hls := fun z hz => hl z (List.mem_cons_of_mem _ hz)
    have hbr := branch_ok b.ok X.ok (found_ok b.ok X.ok 12) (Bg := []) (l := l) (hp := HM hp n ds k ++ [.lst (ns.map encN)]) ((HM_cl c).app rfl) List.nodup_nil (fun z hz => by cases hz) hl0 (by simp) (by decide) Dom.nil
    rw [show stl [] = [] from rfl] at hbr
    rw [List.map_cons]
    unfold forD
    cases hq : brn (crSys g m bs) (lim (crSys g m bs)) l folMax [] with
    | none =>
      rw [hq] at hbr
      obtain ⟨ns', k', y, y', N', hN, e⟩ := stk_label c hn dk X b hls k y4 y5 (some (.d (.str l))) (some (.d .none)) ns N (by omega)
      refine ⟨ns', k', y, y', N', by simp; omega, ?_⟩
      simp [encC_of, hbr, brD]
      exact e
    | some p =>
      obtain ⟨rs, v⟩ := p
      rw [hq] at hbr
      obtain ⟨bx, hb, hi⟩ := X.get hl0
      obtain ⟨tl, e1, e2, e3, e4⟩ := brn_follows hb (fun c v h => lim_okV b.ok X.ok h) (rs0 := []) hi OkR.nil hq
      rw [List.nil_append] at e1
      subst e1
      have hno : NoteOf bs (l, rs, v) := ⟨hl0, ⟨bx, hb, hi, e2⟩, e3, e4⟩
      obtain ⟨r, r0, r1, er⟩ := take_app (l := [.lst (ns.map encN)]) c rfl hn dk k (m := 4) (by decide)
      have had : ∀ hq : AH, addV (.d (.tuple [.str l])) (.d (.tuple [encG rs, v])) hq = .ok (.d (encN (l, rs, v))) hq := fun hq => by
        rw [add_tup (by simp; exact big_le (by decide))]; rfl
      by_cases hr : 0 < r
      · have hni := niV_lr (x := encN (l, rs, v)) (HM_at0 hp n ds (k + 1) (.lst (ns.map encN)) []) (.inl (by have := encN_depth hno; omega))
        by_cases hin : ((ns.map encN).any fun y => PyData.eqv y (encN (l, rs, v))) = true
        · rw [hin] at hni
          obtain ⟨ns', k', y, y', N', hN, e⟩ := stk_label c hn dk X b hls (k + 1) y4 y5 (some (.d (.str l))) (some (.d (.tuple [encG rs, v]))) ns N (by omega)
          refine ⟨ns', k', y, y', N', by simp; omega, ?_⟩
          simp [encC_of, hbr, brD, er, hr, had, hni]
          exact e
        · have hin' : ((ns.map encN).any fun y => PyData.eqv y (encN (l, rs, v))) = false := by simpa using hin
          rw [hin'] at hni
          have hnew : (l, rs, v) ∉ ns := fun h => by
            rw [List.any_eq_false] at hin'
            exact hin' _ (List.mem_map.mpr ⟨_, h, rfl⟩) (eqv_self (encN_sd hno))
          have N2 : NtsOk bs (ns ++ [(l, rs, v)]) := ⟨fun z hz => by
            rcases List.mem_append.mp hz with q | q
            · exact N.no z q
            · rw [List.mem_singleton.mp q]; exact hno, nodup_snoc N.nd hnew⟩
          have a0 : ∀ (fe : Fe) (env : Sl), appO (.ok (.r hp.length) (HM hp n ds (k + 1) ++ [.lst (ns.map encN)])) fe env = appP hp.length (fe env (HM hp n ds (k + 1) ++ [.lst (ns.map encN)])) := fun fe env => e_appO (HM_at0 _ _ _ _ _ _)
          have a1 : appP hp.length (.ok (.d (encN (l, rs, v))) (HM hp n ds (k + 1) ++ [.lst (ns.map encN)])) = .ok (.d .none) (HM hp n ds (k + 1) ++ [.lst ((ns ++ [(l, rs, v)]).map encN)]) := by
            rw [e_appP (HM_at0 _ _ _ _ _ _) (by simp; omega), HM_set0]; simp
          obtain ⟨ns', k', y, y', N', hN, e⟩ := stk_label c hn dk X b hls (k + 1) y4 y5 (some (.d (.str l))) (some (.d (.tuple [encG rs, v]))) _ N2 (by simp; omega)
          refine ⟨ns', k', y, y', N', by simp at hN ⊢; omega, ?_⟩
          simp only [e_nm, stkE, e_setS, e_set0, e_seq, e_set, e_call, e_cons, e_b, e_v, e_at0, e_atS, e_vO, e_bO, e_tup, e_consO, e_nil, e_consP, e_tupO, e_dats, e_dats0, e_map, Option.map_some, e_tupP, e_bP, encC_of, e_lst, e_lstO, e_lstP, e_callO, e_ar3, hbr, brD, e_setO, e_seqO, e_if, e_and, e_tst, e_c, isnt_none, isNone_tup, Bool.not_false, e_tstO, e_andO1, e_ar2, er, cmp_int, decide_eq_true hr, had, hni, e_ifSO1, e_expr, e_app, a0, a1, e_toS1]
          exact e
      · obtain ⟨ns', k', y, y', N', hN, e⟩ := stk_label c hn dk X b hls (k + 1) y4 y5 (some (.d (.str l))) (some (.d (.tuple [encG rs, v]))) ns N (by omega)
        refine ⟨ns', k', y, y', N', by simp; omega, ?_⟩
        simp [encC_of, hbr, brD, er, hr, had]
        exact e
end
theorem stock_ok {hp : AH} {n : Nat} {ds : List Int} (c : Cl hp) (hn : n < hp.length) (dk : DrawsOk ds) (k : Nat) :
    ∃ g m ns bs k', StkOk g m ns bs ∧ F_l_stock [.r n] (HM hp n ds k) = .ok (.d (.tuple [encS g m ns, encC g m bs])) (HM hp n ds k') := by
  unfold F_l_stock G_l_stock b_l_stock
  -- the boxes
  obtain ⟨xs, h1, ec, ⟨k1, rfl⟩, hxs⟩ := compD_each (b := nmB 6) (c := yesT) (elt := tupF (consF (vF 6) (consF (callF (arF 3 (F_l_box 4)) (consF (vF 0) (consF (cF (.int 2)) (consF (lstF nilF) nilF)))) nilF))) (env := [some (.r n), none, none, none, none, none, none, none, none]) (fun h => ∃ k, h = HM hp n ds k) (fun d x => ∃ l b, d = PyData.str l ∧ x = .tuple [.str l, b] ∧ IsBox NMB 2 [] b) (ds := LS4.map .str) (hp := HM hp n ds k) (fun d hd h ⟨k, e⟩ => by
    subst e
    obtain ⟨l, _, rfl⟩ := List.mem_map.mp hd
    obtain ⟨b, k', hb, eb⟩ := box_ok dk 4 hp 2 [] k c hn (by decide) (by decide)
    have eb' : F_l_box 4 [.r n, .d (.int 2), .d (.list [])] (HM hp n ds k) = .ok (.d b) (HM hp n ds k') := eb
    exact ⟨_, _, _, _, _, rfl, rfl, by simp [eb'], ⟨l, b, rfl, rfl, hb⟩, ⟨k', rfl⟩⟩) ⟨k, rfl⟩
  obtain ⟨bs, rfl, hks, hbx⟩ := paired_bs hxs
  have X : BxsOk bs := ⟨hks, hbx⟩
  have ec' : compO (.ok (LS4.map .str) (HM hp n ds k)) (nmB 6) yesT (tupF (consF (vF 6) (consF (callF (arF 3 (F_l_box 4)) (consF (vF 0) (consF (cF (.int 2)) (consF (lstF nilF) nilF)))) nilF))) [6] [some (.r n), none, none, none, none, none, none, none, none] = .ok (.lst (bs.map pr)) (HM hp n ds k1) := e_compO (by decide) ec
  simp only [LS4, List.map_cons, List.map_nil] at ec'
  simp [ec', ← encG_eq]
  obtain ⟨g0, m0, k2, y0, b0, e0⟩ := stk_edit (bs := bs) c hn dk (xs := NM7) (fun x h => h) Bse.nil k1 none none none none []
  rw [show (PyData.tuple [PyData.tuple [], PyData.tuple []] : D) = encB [] [] from rfl, show [PyData.str ("a" : Str), .str "b", .str "c", .str "d", .str "e", .str "f", .str "x1"] = NM7.map .str from rfl, e0]
  have hr3 : ∀ h, rgO (.ok (.d (.int 3)) h) = .ok ((List.range 3).map fun (i : Nat) => PyData.int (i : Int)) h := fun h => e_rgO (n := 3) h (by decide)
  simp only [e_seqO, e_seq, e_for, e_rg, e_c, hr3, e_forO]
  refine forR_inv (n := 3) (fun t env h => ∃ g m ns k y4 y5 y6 y7, env = stkE hp n bs g m y4 y5 y6 y7 ∧ h = HM hp n ds k ++ [.lst (ns.map encN)] ∧ Bse g m ∧ NtsOk bs ns ∧ ns.length ≤ 7 * t)
    (fun o => ∃ g m ns bs', StkOk g m ns bs' ∧ ∃ x, fnO hp.length (HM hp n ds k) (seqO o _) = .ok (.d (.tuple [encS g m ns, encC g m bs'])) (HM hp n ds x)) ?_ ?_ ⟨g0, m0, [], k2, y0, none, none, none, rfl, rfl, b0, ⟨fun n h => (by cases h), List.nodup_nil⟩, by simp⟩
  · rintro env h ⟨g, m, ns, k3, y4, y5, y6, y7, rfl, rfl, b, N, hN⟩
    obtain ⟨ns', p, _, ris, so⟩ := sortN N.no (by omega) N.nd
    have so' := so (HM hp n ds k3 ++ [.lst (ns.map encN)]) hp.length (HM_at0 _ _ _ _ _ _)
    refine ⟨g, m, ns', bs, ⟨b, X, fun z hz => N.no z (p.mem_iff.mp hz), by rw [p.length_eq]; omega, ris⟩, k3, ?_⟩
    have e1 := fun hq => encS_of g m ns' hq
    rw [encNs] at e1
    simp [so', e1, encC_of]
    exact trim_apq (HM_cl c) (by simp)
  · rintro t env h ht ⟨g, m, ns, k3, y4, y5, y6, y7, rfl, rfl, b, N, hN⟩
    refine ⟨_, _, rfl, .inl ?_⟩
    have hm7 := b.rowsM.len
    obtain ⟨ls, els, hls, _, hll, _⟩ := sset_str (m.map (·.2))
    have hls4 : ∀ l ∈ ls, l ∈ LS4 := fun l hl => by
      obtain ⟨p, hp, rfl⟩ := List.mem_map.mp ((hls l).mp hl)
      exact b.rowsM.ls p hp
    rw [List.length_map] at hll
    have hco : ∀ (h : AH) (z0 z1 z2 z3 z4 z5 z6 z7 : Option AV), compO (.ok (m.map fun p => PyData.tuple [.str p.1, .str p.2]) h) (nmB 8) yesT (bF ixV (vF 8) (cF (.int 1))) [8] [z0, z1, z2, z3, z4, z5, z6, z7, none] = .ok (.lst ((m.map (·.2)).map .str)) h := fun h z0 z1 z2 z3 z4 z5 z6 z7 => by
      refine e_compO (by simp; exact big_le (by omega)) ?_
      rw [compD_pure (p := fun _ => true) (f := fun d => match d with | .tuple [_, y] => y | _ => .none)]
      · rw [List.filter_eq_self.mpr (fun _ _ => rfl), List.map_map, List.map_map]; rfl
      · intro d hd
        obtain ⟨p, hp, rfl⟩ := List.mem_map.mp hd
        exact ⟨_, rfl, rfl, fun _ => by simp⟩
    have hss : ∀ h : AH, sortSetO (.ok (.d (.list ((m.map (·.2)).map .str))) h) = .ok (.d (.list (ls.map .str))) h := fun h => by rw [e_sortSetO (by simp; omega), els]
    obtain ⟨ns1, k4, y, y', N1, hN1, e1⟩ := stk_label c hn dk X b hls4 k3 y4 (some (.d (.int t))) y6 y7 ns N (by omega)
    obtain ⟨r, r0, r1, er⟩ := take_app (l := [.lst (ns1.map encN)]) c rfl hn dk k4 (m := 7) (by decide)
    obtain ⟨xD, hx, ex⟩ := at_lt (xs := NM7.map .str) r0 (by simpa [NM7] using r1)
    obtain ⟨x, hx7, rfl⟩ := List.mem_map.mp hx
    have ix := fun hq => ixV_t (hp := hq) ex
    simp only [NM7, List.map_cons, List.map_nil] at ix
    obtain ⟨g', m', k5, b', e5⟩ := edited_app (l := [.lst (ns1.map encN)]) c rfl hn dk b hx7 (k4 + 1)
    refine ⟨stkE hp n bs g' m' y4 (some (.d (.int t))) y y', HM hp n ds k5 ++ [.lst (ns1.map encN)], ?_, g', m', ns1, k5, _, _, _, _, rfl, rfl, b', N1, by omega⟩
    have hb2 : ∀ hq : AH, ixV (.d (encB g m)) (.d (.int 1)) hq = .ok (.d (.tuple (m.map fun p => PyData.tuple [.str p.1, .str p.2]))) hq := fun hq => by rw [encB, ix1]; rfl
    simp only [List.map_map] at hss hco
    simp [hb2, hco, hss]
    rw [e1]
    simp [er, ix, e5]
end Pin
end
-- Sp11
section
set_option linter.all false
set_option maxRecDepth 100000
/-! Sp, part 11: _law_is. -/
namespace Pin
open PySem PySem.Spec PyProof.Rows L2 Ms Pl

open Classical in
noncomputable def sameD (v d : D) : Bool := decide (v = d)
theorem sameD_iff {v d : D} : sameD v d = true ↔ v = d := by simp [sameD]
theorem sameD_self (d : D) : sameD d d = true := sameD_iff.mpr rfl
def fit : Nat → D → Prop
  | 0, _ => False
  | k + 1, .tuple xs => xs.length ≤ 1000 ∧ ∀ x ∈ xs, fit k x
  | _ + 1, .list _ => False
  | _ + 1, .dict _ => False
  | _ + 1, _ => True
theorem kitB_all (x : D) (T : String) (hT : T = "bool" ∨ T = "int" ∨ T = "str" ∨ T = "tuple") : ∃ b, kitB (tyName x) T = some b := by
  rcases hT with rfl | rfl | rfl | rfl <;> cases x <;> exact ⟨_, rfl⟩
def isiO (T : String) (o : Out AV) : Out AV := o.bind fun a h1 => match a with
  | .d x => match kitB (tyName x) T with
    | some b => .ok (.d (.bool b)) h1
    | none => .bad
  | _ => .bad
@[simp] theorem e_isi (T : String) (f : Fe) (env : Sl) (hp : AH) : isiF T f env hp = isiO T (f env hp) := id rfl
def isK (T : String) (x : D) : Bool := (kitB (tyName x) T).getD false
theorem e_isiO {T : String} {x : D} {h : AH} (hT : T = "bool" ∨ T = "int" ∨ T = "str" ∨ T = "tuple") : isiO T (.ok (.d x) h) = .ok (.d (.bool (isK T x))) h := by
  obtain ⟨b, hb⟩ := kitB_all x T hT
  simp only [isiO, Out.bind, hb, isK]
  rfl
@[simp] theorem isi_b (x : D) (h : AH) : isiO "bool" (.ok (.d x) h) = .ok (.d (.bool (isK "bool" x))) h := e_isiO (.inl rfl)
@[simp] theorem isi_i (x : D) (h : AH) : isiO "int" (.ok (.d x) h) = .ok (.d (.bool (isK "int" x))) h := e_isiO (.inr (.inl rfl))
@[simp] theorem isi_s (x : D) (h : AH) : isiO "str" (.ok (.d x) h) = .ok (.d (.bool (isK "str" x))) h := e_isiO (.inr (.inr (.inl rfl)))
@[simp] theorem isi_t (x : D) (h : AH) : isiO "tuple" (.ok (.d x) h) = .ok (.d (.bool (isK "tuple" x))) h := e_isiO (.inr (.inr (.inr rfl)))
theorem kt_b (t : String) (ht : t ∈ ["NoneType", "bool", "int", "str", "list", "tuple", "dict"]) : (kitB t "bool").getD false = decide (t = "bool") ∧ (kitB t "int").getD false = decide (t = "int" ∨ t = "bool") ∧ (kitB t "str").getD false = decide (t = "str") ∧ (kitB t "tuple").getD false = decide (t = "tuple") := by
  revert t
  decide +kernel
@[simp] theorem isK_b (x : D) : isK "bool" x = match x with | .bool _ => true | _ => false := by
  cases x <;> exact (kt_b _ (by simp [tyName])).1.trans (by simp [tyName])
@[simp] theorem isK_i (x : D) : isK "int" x = match x with | .int _ => true | .bool _ => true | _ => false := by
  cases x <;> exact (kt_b _ (by simp [tyName])).2.1.trans (by simp [tyName])
@[simp] theorem isK_s (x : D) : isK "str" x = match x with | .str _ => true | _ => false := by
  cases x <;> exact (kt_b _ (by simp [tyName])).2.2.1.trans (by simp [tyName])
@[simp] theorem isK_t (x : D) : isK "tuple" x = match x with | .tuple _ => true | _ => false := by
  cases x <;> exact (kt_b _ (by simp [tyName])).2.2.2.trans (by simp [tyName])
theorem isInt_ok {hp : AH} (c : Cl hp) (v : D) : F_l_is_integer [.d v] hp = .ok (.d (.bool (isK "int" v && !(isK "bool" v)))) hp := by
  unfold F_l_is_integer G_l_is_integer b_l_is_integer
  have key : ∀ b : Bool, fnO hp.length hp (toSr (andQ (.ok (.d (.bool b)) hp) (notF (isiF "bool" (vF 0))) [some (.d v)]) [some (.d v)]) = .ok (.d (.bool (b && !(isK "bool" v)))) hp := fun b => by
    cases b
    · simp; exact trim_same c
    · simp; exact trim_same c
  simp [key]
def gt (xs : List D) (i : Nat) : D := xs.getD i .none
theorem gt_lt {xs : List D} {i : Nat} (h : i < xs.length) : xs[i]? = some (gt xs i) := by simp [gt, h]
theorem gt_mem {xs : List D} {i : Nat} (h : i < xs.length) : gt xs i ∈ xs := by simp [gt, h]
theorem is_ok : ∀ (k : Nat) (v d : D) (hp : AH), Cl hp → fit k d → F_l_is k [.d v, .d d] hp = .ok (.d (.bool (sameD v d))) hp
  | 0, _, _, _, _, h => h.elim
  | k + 1, v, d, hp, c, h => by
    unfold F_l_is G_l_is b_l_is
    have tr : ∀ x : D, trimA (.d x) hp hp.length = .ok (.d x) hp := fun x => trim_same c
    cases d with
    | none =>
      have : isNone (.d v) = sameD v .none := by
        rw [Bool.eq_iff_iff, sameD_iff]
        cases v <;> simp [isNone]
      simp [this, tr]
    | bool b =>
      have hs : sameD v (.bool b) = ((match v with | .bool _ => true | _ => false) && PyData.eqv v (.bool b)) := by
        rw [Bool.eq_iff_iff, sameD_iff]
        cases v <;> simp
      rw [hs]
      have he : eqV (.d v) (.d (.bool b)) hp = .ok (.d (.bool (PyData.eqv v (.bool b)))) hp := eqV_ok (.inr (by simp))
      have key : ∀ q : Bool, andQ (.ok (.d (.bool q)) hp) (bF eqV (vF 0) (vF 1)) [some (.d v), some (.d (.bool b)), none] = .ok (.d (.bool (q && PyData.eqv v (.bool b)))) hp := fun q => by
        cases q
        · simp
        · simp [he]
      simp [isNone, key, tr]
    | int i =>
      have hs : sameD v (.int i) = ((isK "int" v && !(isK "bool" v)) && PyData.eqv v (.int i)) := by
        rw [Bool.eq_iff_iff, sameD_iff]
        cases v <;> simp
      rw [hs]
      have he : eqV (.d v) (.d (.int i)) hp = .ok (.d (.bool (PyData.eqv v (.int i)))) hp := eqV_ok (.inr (by simp))
      have key : ∀ q : Bool, andQ (.ok (.d (.bool q)) hp) (bF eqV (vF 0) (vF 1)) [some (.d v), some (.d (.int i)), none] = .ok (.d (.bool (q && PyData.eqv v (.int i)))) hp := fun q => by
        cases q
        · simp
        · simp [he]
      have hint := isInt_ok c v
      simp only [isK_i, isK_b] at hint
      simp [isNone, hint, key, tr]
    | str x =>
      have hs : sameD v (.str x) = ((match v with | .str _ => true | _ => false) && PyData.eqv v (.str x)) := by
        rw [Bool.eq_iff_iff, sameD_iff]
        cases v <;> simp
      rw [hs]
      have he : eqV (.d v) (.d (.str x)) hp = .ok (.d (.bool (PyData.eqv v (.str x)))) hp := eqV_ok (.inr (by simp))
      have key : ∀ q : Bool, andQ (.ok (.d (.bool q)) hp) (bF eqV (vF 0) (vF 1)) [some (.d v), some (.d (.str x)), none] = .ok (.d (.bool (q && PyData.eqv v (.str x)))) hp := fun q => by
        cases q
        · simp
        · simp [he]
      simp [isNone, key, tr]
    | tuple ys =>
      obtain ⟨hl, hall⟩ := h
      by_cases ht : ∃ xs : List D, v = .tuple xs
      · obtain ⟨xs, rfl⟩ := ht
        by_cases hlen : xs.length = ys.length
        · have hco : compO (.ok ((List.range ys.length).map fun (i : Nat) => PyData.int (i : Int)) hp) (nmB 2) yesT (callF (arF 2 (F_l_is k)) (consF (bF ixV (vF 0) (vF 2)) (consF (bF ixV (vF 1) (vF 2)) nilF))) [2] [some (.d (.tuple xs)), some (.d (.tuple ys)), none] = .ok (.lst (((List.range ys.length).map fun i => sameD (gt xs i) (gt ys i)).map .bool)) hp := by
            refine e_compO (by simp; exact big_le (by omega)) ?_
            rw [compD_pure (p := fun _ => true) (f := fun d => match d with | .int i => .bool (sameD (gt xs i.toNat) (gt ys i.toNat)) | _ => .none)]
            · rw [List.filter_eq_self.mpr (fun _ _ => rfl), List.map_map, List.map_map]; rfl
            · intro d hd
              obtain ⟨i, hi, rfl⟩ := List.mem_map.mp hd
              have hi' : i < ys.length := by simpa using hi
              have i1 : ixV (.d (.tuple xs)) (.d (.int (i : Int))) hp = .ok (.d (gt xs i)) hp := ixV_t (at_nat (gt_lt (by omega)))
              have i2 : ixV (.d (.tuple ys)) (.d (.int (i : Int))) hp = .ok (.d (gt ys i)) hp := ixV_t (at_nat (gt_lt hi'))
              have hr := is_ok k (gt xs i) (gt ys i) hp c (hall _ (gt_mem hi'))
              exact ⟨_, rfl, rfl, fun _ => by simp [i1, i2, hr]⟩
          have hs : sameD (.tuple xs) (.tuple ys) = ((List.range ys.length).map fun i => sameD (gt xs i) (gt ys i)).all id := by
            rw [Bool.eq_iff_iff, sameD_iff, List.all_eq_true]
            constructor
            · intro e x hx
              obtain ⟨i, _, rfl⟩ := List.mem_map.mp hx
              cases e
              exact sameD_self _
            · intro q
              congr 1
              refine List.ext_getElem hlen fun i h1 h2 => ?_
              have := q _ (List.mem_map.mpr ⟨i, by simpa using h2, rfl⟩)
              simp only [id] at this
              rw [sameD_iff] at this
              simpa [gt, h1, h2] using this
          rw [hs]
          have hrg := fun h => e_rgO (n := ys.length) h (by omega)
          have hab := all_bs ((List.range ys.length).map fun i => sameD (gt xs i) (gt ys i)) hp
          simp only [List.map_map] at hco hab
          simp [isNone, hlen, hrg, hco, hab, tr]
        · have hs : sameD (.tuple xs) (.tuple ys) = false := by
            rw [← Bool.not_eq_true, sameD_iff]
            intro e; cases e; exact hlen rfl
          have hne : ¬ ((xs.length : Int) = ys.length) := by omega
          rw [hs]
          simp [isNone, hne, tr]
      · have hs : sameD v (.tuple ys) = false := by
          rw [← Bool.not_eq_true, sameD_iff]
          intro e; exact ht ⟨_, e⟩
        have hk : isK "tuple" v = false := by
          cases v <;> simp_all
        rw [hs]
        simp only [isK_t] at hk
        simp [isNone, hk, tr]
    | list _ => exact h.elim
    | dict _ => exact h.elim
end Pin
end
-- M96a
section
set_option linter.all false
set_option maxRecDepth 100000
/-! K96, mathematics, part a: bases behind choices. -/
namespace K96
open PySem Ms Pl Pin

theorem getD_perm {g g' : List (Str × D)} (nd : (g.map (·.1)).Nodup) (p : g'.Perm g) (x : Str) : getD g' x = getD g x := by
  have nd' : (g'.map (·.1)).Nodup := ((p.map _).nodup_iff).mpr nd
  cases h : getD g x with
  | none =>
    rw [getD_none] at h ⊢
    exact fun q => h ((p.map _).mem_iff.mp q)
  | some d => exact mem_getD nd' (p.mem_iff.mpr (getD_mem h))
theorem mK_perm {g g' : List (Str × Str)} (nd : (g.map (·.1)).Nodup) (p : g'.Perm g) (x : Str) : mK g' x = mK g x := by
  have nd' : (g'.map (·.1)).Nodup := ((p.map _).nodup_iff).mpr nd
  cases h : mK g x with
  | none =>
    rw [mK_none] at h ⊢
    exact fun q => h ((p.map _).mem_iff.mp q)
  | some d => exact mem_mK nd' (p.mem_iff.mpr (mK_mem h))
/-- menus, choices: names with texts -/
structure RowsC (r : List (Str × D)) : Prop where
  len : r.length ≤ 8
  gw : ∀ p ∈ r, isW p.2
/-- given texts and made names behind a choice -/
structure Beh (g : List (Str × D)) (m : List (Str × Str)) (r : List (Str × D)) (g' : List (Str × D)) (m' : List (Str × Str)) : Prop where
  ok : BaseOk g' m' LS4
  gg : ∀ x, getD g' x = (getD r x).or (getD g x)
  mm : ∀ x, mK m' x = if x ∈ r.map (·.1) then none else mK m x
theorem Beh.sys {g : List (Str × D)} {m : List (Str × Str)} {r g1 g2 : List (Str × D)} {m1 m2 : List (Str × Str)} (a : Beh g m r g1 m1) (b : Beh g m r g2 m2) (ns : List Note) : stSys g1 m1 ns = stSys g2 m2 ns := by
  unfold stSys
  rw [show getD g1 = getD g2 from funext fun x => by rw [a.gg, b.gg], show mK m1 = mK m2 from funext fun x => by rw [a.mm, b.mm]]
theorem Beh.sysC {g : List (Str × D)} {m : List (Str × Str)} {r g1 g2 : List (Str × D)} {m1 m2 : List (Str × Str)} (a : Beh g m r g1 m1) (b : Beh g m r g2 m2) (bs : List (Str × D)) : crSys g1 m1 bs = crSys g2 m2 bs := by
  unfold crSys
  rw [show getD g1 = getD g2 from funext fun x => by rw [a.gg, b.gg], show mK m1 = mK m2 from funext fun x => by rw [a.mm, b.mm]]
/-- all puts -/
def puts (g r : List (Str × D)) : List (Str × D) := r.foldl (fun acc p => putD acc p.1 p.2) g
def dels (m : List (Str × D)) (r : List (Str × D)) : List (Str × D) := r.foldl (fun acc p => delD acc p.1) m
theorem puts_get : ∀ (r g : List (Str × D)) (x : Str), (r.map (·.1)).Nodup → getD (puts g r) x = (getD r x).or (getD g x)
  | [], g, x, _ => by simp [puts]
  | (k, v) :: r, g, x, nd => by
    rw [List.map_cons, List.nodup_cons] at nd
    show getD (puts (putD g k v) r) x = _
    rw [puts_get r _ x nd.2, getD_cons, getD_put]
    by_cases h : k = x
    · subst h
      have : getD r k = none := getD_none.mpr nd.1
      simp [this]
    · simp [h]
theorem putD_nd {g : List (Str × D)} (h : (g.map (·.1)).Nodup) (k : Str) (v : D) : ((putD g k v).map (·.1)).Nodup := by
  rw [keys_put]
  split
  · exact h
  · rename_i q; exact nodup_snoc h q
theorem putD_mem {g : List (Str × D)} {k : Str} {v : D} {p : Str × D} (h : p ∈ putD g k v) : p = (k, v) ∨ p ∈ g := by
  unfold putD at h
  split at h
  · obtain ⟨q, hq, e⟩ := List.mem_map.mp h
    split at e
    · rename_i hk; left; rw [← e, hk]
    · right; rw [← e]; exact hq
  · rcases List.mem_append.mp h with q | q
    · exact .inr q
    · exact .inl (List.mem_singleton.mp q)
theorem putD_len (g : List (Str × D)) (k : Str) (v : D) : (putD g k v).length ≤ g.length + 1 := by
  unfold putD
  split <;> simp
theorem puts_nd : ∀ (r : List (Str × D)) {g : List (Str × D)}, (g.map (·.1)).Nodup → ((puts g r).map (·.1)).Nodup
  | [], g, h => h
  | p :: r, g, h => puts_nd r (putD_nd h _ _)
theorem puts_mem : ∀ (r : List (Str × D)) {g : List (Str × D)} {p : Str × D}, p ∈ puts g r → p ∈ r ∨ p ∈ g
  | [], g, p, h => .inr h
  | q :: r, g, p, h => by
    rcases puts_mem r (show p ∈ puts (putD g q.1 q.2) r from h) with h | h
    · exact .inl (List.mem_cons_of_mem _ h)
    · rcases putD_mem h with h | h
      · exact .inl (by rw [h]; exact List.mem_cons_self)
      · exact .inr h
theorem puts_len : ∀ (r : List (Str × D)) (g : List (Str × D)), (puts g r).length ≤ g.length + r.length
  | [], g => by simp [puts]
  | q :: r, g => by
    have h1 := puts_len r (putD g q.1 q.2)
    have h2 := putD_len g q.1 q.2
    have : puts g (q :: r) = puts (putD g q.1 q.2) r := rfl
    rw [this, List.length_cons]; omega
theorem dels_filter : ∀ (r : List (Str × D)) (m : List (Str × Str)), dels (m.map fun p => (p.1, PyData.str p.2)) r = (m.filter fun p => !decide (p.1 ∈ r.map (·.1))).map fun p => (p.1, PyData.str p.2)
  | [], m => by
    rw [List.filter_eq_self.mpr (fun _ _ => by simp)]; rfl
  | q :: r, m => by
    show dels (delD _ q.1) r = _
    have : delD (m.map fun p => (p.1, PyData.str p.2)) q.1 = (m.filter fun p => !decide (p.1 = q.1)).map fun p => (p.1, PyData.str p.2) := by
      unfold delD
      rw [List.filter_map]
      congr 1
      exact List.filter_congr fun a _ => by simp
    rw [this, dels_filter r, List.filter_filter]
    congr 1
    refine List.filter_congr fun a _ => ?_
    by_cases h : a.1 = q.1 <;> simp [h]
theorem mK_filter (m : List (Str × Str)) (f : Str → Bool) (x : Str) : mK (m.filter fun p => f p.1) x = if f x then mK m x else none := by
  unfold mK
  rw [List.find?_filter]
  by_cases h : f x = true
  · rw [if_pos h]
    congr 1
    congr 1
    funext p
    by_cases e : p.1 = x
    · simp [e, h]
    · simp [e]
  · rw [if_neg h, Option.map_eq_none_iff, List.find?_eq_none]
    intro p _
    by_cases e : p.1 = x
    · simp [e, h]
    · simp [e]
theorem getD_filter (m : List (Str × D)) (f : Str → Bool) (x : Str) : getD (m.filter fun p => f p.1) x = if f x then getD m x else none := by
  unfold getD
  rw [List.find?_filter]
  by_cases h : f x = true
  · rw [if_pos h]
    congr 1
    congr 1
    funext p
    by_cases e : p.1 = x
    · simp [e, h]
    · simp [e]
  · rw [if_neg h, Option.map_eq_none_iff, List.find?_eq_none]
    intro p _
    by_cases e : p.1 = x
    · simp [e, h]
    · simp [e]
theorem alike_str (a b : Str) : PySem.W.alike (.str a) (.str b) = true := by simp [PySem.W.alike]
theorem alikeAll_of : ∀ {xs ys : List D}, (∀ x ∈ xs, ∀ y ∈ ys, PySem.W.alike x y = true) → PySem.W.alikeAll xs ys = true
  | [], ys, _ => by simp [PySem.W.alikeAll]
  | x :: xs, [], _ => by simp [PySem.W.alikeAll]
  | x :: xs, y :: ys, h => by
    rw [PySem.W.alikeAll, h x List.mem_cons_self y List.mem_cons_self, alikeAll_of fun a ha b hb => h a (List.mem_cons_of_mem _ ha) b (List.mem_cons_of_mem _ hb)]; rfl
theorem alike_stl (a b : List Str) : PySem.W.alike (.tuple (stl a)) (.tuple (stl b)) = true := by
  simp only [PySem.W.alike]
  refine alikeAll_of fun x hx y hy => ?_
  obtain ⟨_, _, rfl⟩ := List.mem_map.mp hx
  obtain ⟨_, _, rfl⟩ := List.mem_map.mp hy
  exact alike_str _ _
theorem alike_pair {a b : Str} {v w : D} (h : PySem.W.alike v w = true) : PySem.W.alike (.tuple [.str a, v]) (.tuple [.str b, w]) = true := by
  simp [PySem.W.alike, PySem.W.alikeAll, h]
theorem sortO_of {xs : List D} (l : xs.length ≤ 500) (a : ∀ x ∈ xs, ∀ y ∈ xs, PySem.W.alike x y = true) (k : ∀ x ∈ xs, keyB x = true) (d : ∀ x ∈ xs, x.depth ≤ 30) : sortO xs = some (isortD xs) := by
  have h : canSort xs = true := by
    unfold canSort alikeB
    simp only [Bool.and_eq_true, decide_eq_true_eq, List.all_eq_true, Bool.or_eq_true]
    exact ⟨l, a, .inl k, depthAll_iff.mpr d⟩
  rw [sortO, if_pos h]
def sortItO (o : Out AV) : Out AV := o.bind fun a h1 => match dcOf a h1 with
  | some kvs => match sortO (kvs.map fun kv => .tuple [.str kv.1, kv.2]) with
    | some ys => .ok (.d (.list ys)) h1
    | none => .bad
  | none => .bad
@[simp] theorem e_sortIt (f : Fe) (env : Sl) (hp : AH) : sortItF f env hp = sortItO (f env hp) := id rfl
theorem e_sortItO {n : Nat} {h : AH} {kvs : List (Str × D)} {ys : List D} (q : h[n]? = some (.dct kvs)) (s : sortO (kvs.map pr) = some ys) : sortItO (.ok (.r n) h) = .ok (.d (.list ys)) h := by
  have s' : sortO (kvs.map fun kv => .tuple [.str kv.1, kv.2]) = some ys := s
  simp only [sortItO, Out.bind, dcOf, q, s']
def dpopO (o : Out AV) (fk fd : Fe) (env : Sl) : Out AV := o.bind fun a h1 => match a with
  | .r n => match dcOf (.r n) h1 with
    | some _ => (fk env h1).bind fun k h2 => (fd env h2).bind fun z h3 => match k, dcOf (.r n) h3 with
      | .d (.str k), some kvs => match getD kvs k with
        | some v => .ok (.d v) (h3.set n (.dct (delD kvs k)))
        | none => .ok z h3
      | _, _ => .bad
    | none => .bad
  | _ => .bad
theorem delD_none {kvs : List (Str × D)} {k : Str} (h : getD kvs k = none) : delD kvs k = kvs := by
  rw [getD_none] at h
  unfold delD
  exact List.filter_eq_self.mpr fun p hp => by simp; exact fun e => h (List.mem_map.mpr ⟨p, hp, e⟩)
/-- pop with a default that is not looked at: the name is gone behind it -/
theorem e_dpop {n : Nat} {h : AH} {kvs : List (Str × D)} {k : Str} {fo fk fd : Fe} {env : Sl} (ho : fo env h = .ok (.r n) h) (hk : fk env h = .ok (.d (.str k)) h) (hz : fd env h = .ok (.d .none) h) (q : h[n]? = some (.dct kvs)) : ∃ a, dpopF fo fk fd env h = .ok a (h.set n (.dct (delD kvs k))) := by
  unfold dpopF
  rw [ho]
  simp only [Out.bind, dcOf, q, hk, hz]
  cases e : getD kvs k with
  | some v => exact ⟨_, rfl⟩
  | none =>
    refine ⟨.d .none, ?_⟩
    rw [delD_none e]
    simp only [Out.ok.injEq]
    refine ⟨trivial, ?_⟩
    have := List.set_getElem_self (as := h) (i := n) (List.getElem?_eq_some_iff.mp q).1
    rw [(List.getElem?_eq_some_iff.mp q).2] at this
    exact this.symm
theorem words_alike {v w : D} (h : isW v) (h' : isW w) : PySem.W.alike v w = true := by
  obtain ⟨a, _, rfl⟩ := h
  obtain ⟨b, _, rfl⟩ := h'
  exact alike_stl _ _
theorem sortPr {g : List (Str × D)} (l : g.length ≤ 400) (h : ∀ p ∈ g, ∀ q ∈ g, PySem.W.alike p.2 q.2 = true) (d : ∀ p ∈ g, p.2.depth ≤ 20) : ∃ g' : List (Str × D), g'.Perm g ∧ sortO (g.map pr) = some (g'.map pr) := by
  obtain ⟨g', p, e⟩ := perm_map (isort_perm (g.map pr))
  refine ⟨g', p, ?_⟩
  rw [← e]
  refine sortO_of (by simp; omega) (fun x hx y hy => ?_) (fun x hx => ?_) (fun x hx => ?_)
  · obtain ⟨a, ha, rfl⟩ := List.mem_map.mp hx
    obtain ⟨b, hb, rfl⟩ := List.mem_map.mp hy
    exact alike_pair (h a ha b hb)
  · obtain ⟨a, ha, rfl⟩ := List.mem_map.mp hx; rfl
  · obtain ⟨a, ha, rfl⟩ := List.mem_map.mp hx
    have := d a ha
    simp [pr]; omega
theorem map_lab {m : List (Str × Str)} {l : List (Str × D)} (h : l.Perm (m.map fun p => (p.1, PyData.str p.2))) : ∃ m' : List (Str × Str), m'.Perm m ∧ l = m'.map fun p => (p.1, PyData.str p.2) := perm_map h
theorem given_ok {hp : AH} (c : Cl hp) {g : List (Str × D)} {m : List (Str × Str)} (B : BaseOk g m LS4) (hg : g.length ≤ 50) {r : List (Str × D)} (R : RowsC r) (nd : (r.map (·.1)).Nodup) (ns : List Note) :
    ∃ g' m', Beh g m r g' m' ∧ g'.length ≤ g.length + r.length ∧ F_stock_given [.d (encS g m ns), .d (encG r)] hp = .ok (.d (encS g' m' ns)) hp := by
  unfold F_stock_given G_stock_given b_stock_given
  have hd1 : ∀ hq : AH, dictO (.ok (.d (encG g)) hq) = .ok (.dct g) hq := fun hq => by
    rw [encG, e_dictO hq (pairD_G g) (by have := B.gl; omega), merge_nd B.gn]
  have hd2 : ∀ hq : AH, dictO (.ok (.d (encM m)) hq) = .ok (.dct (m.map fun p => (p.1, .str p.2))) hq := fun hq => by
    rw [encM, e_dictO hq (pairD_M m) (by have := B.ml; simp; omega), merge_nd (by simpa [List.map_map, Function.comp_def] using B.mn)]
  have hit : ∀ hq : AH, itO (.ok (.d (encG r)) hq) = .ok (r.map pr) hq := fun hq => rfl
  simp [encS, hd1, hd2, hit]
  -- the loop
  have loop : ∀ (r : List (Str × D)) (G M : List (Str × D)) (y4 y5 : Option AV), G.length + r.length ≤ 1000 → ∃ z4 z5, forD (tpB [nmB 4, nmB 5]) (seqS (dputS (vF 2) (vF 4) (vF 5)) (exprS (dpopF (vF 3) (vF 4) (cF .none)))) (r.map pr) [some (.d (.tuple [encG g, encM m, encNs ns])), some (.d (encG r)), some (.r hp.length), some (.r (hp.length + 1)), y4, y5] (hp ++ [.dct G, .dct M]) = .nx [some (.d (.tuple [encG g, encM m, encNs ns])), some (.d (encG r)), some (.r hp.length), some (.r (hp.length + 1)), z4, z5] (hp ++ [.dct (puts G r), .dct (dels M r)]) := by
    intro r0
    suffices key : ∀ (r : List (Str × D)) (G M : List (Str × D)) (y4 y5 : Option AV), G.length + r.length ≤ 1000 → ∃ z4 z5, forD (tpB [nmB 4, nmB 5]) (seqS (dputS (vF 2) (vF 4) (vF 5)) (exprS (dpopF (vF 3) (vF 4) (cF .none)))) (r.map pr) [some (.d (.tuple [encG g, encM m, encNs ns])), some (.d (encG r0)), some (.r hp.length), some (.r (hp.length + 1)), y4, y5] (hp ++ [.dct G, .dct M]) = .nx [some (.d (.tuple [encG g, encM m, encNs ns])), some (.d (encG r0)), some (.r hp.length), some (.r (hp.length + 1)), z4, z5] (hp ++ [.dct (puts G r), .dct (dels M r)]) from key r0
    intro r
    induction r with
    | nil => exact fun G M y4 y5 _ => ⟨y4, y5, rfl⟩
    | cons p r ih =>
      intro G M y4 y5 hl
      simp only [List.length_cons] at hl
      obtain ⟨z4, z5, e⟩ := ih (putD G p.1 p.2) (delD M p.1) (some (.d (.str p.1))) (some (.d p.2)) (by have := putD_len G p.1 p.2; omega)
      refine ⟨z4, z5, ?_⟩
      rw [List.map_cons]
      unfold forD
      have q1 : ∀ env : Sl, putQ p.2 hp.length (.ok (.d (.str p.1)) (hp ++ [.dct G, .dct M])) env = .nx env (hp ++ [.dct (putD G p.1 p.2), .dct M]) := fun env => by
        rw [e_putQ (kvs := G) (by simp) (by omega)]
        simp
      obtain ⟨a, q2⟩ := e_dpop (n := hp.length + 1) (h := hp ++ [.dct (putD G p.1 p.2), .dct M]) (kvs := M) (k := p.1) (fo := vF 3) (fk := vF 4) (fd := cF .none) (env := [some (.d (.tuple [encG g, encM m, encNs ns])), some (.d (encG r0)), some (.r hp.length), some (.r (hp.length + 1)), some (.d (.str p.1)), some (.d p.2)]) (by simp) (by simp) (by simp) (by simp)
      have q3 : (hp ++ [AObj.dct (putD G p.1 p.2), .dct M]).set (hp.length + 1) (.dct (delD M p.1)) = hp ++ [.dct (putD G p.1 p.2), .dct (delD M p.1)] := by simp
      rw [q3] at q2
      simp [pr, q1, q2]
      exact e
  obtain ⟨z4, z5, e⟩ := loop r g (m.map fun p => (p.1, .str p.2)) none none (by have := R.len; omega)
  rw [e, dels_filter]
  -- sorting
  have gw : ∀ p ∈ puts g r, isW p.2 := fun p hp => by
    rcases puts_mem r hp with h | h
    · exact R.gw p h
    · exact B.gw p h
  have hpl := puts_len r g
  have hrl := R.len
  obtain ⟨g', pg, sg⟩ := sortPr (g := puts g r) (by omega) (fun p hp q hq => words_alike (gw p hp) (gw q hq)) (fun p hp => by have := words_depth (gw p hp); omega)
  let m1 := m.filter fun p => !decide (p.1 ∈ r.map (·.1))
  have hm1 : m1.length ≤ 100 := Nat.le_trans (List.length_filter_le _ _) B.ml
  obtain ⟨l', pl, sl⟩ := sortPr (g := m1.map fun p => (p.1, PyData.str p.2)) (by simp; omega) (fun p hp q hq => by
    obtain ⟨a, _, rfl⟩ := List.mem_map.mp hp
    obtain ⟨b, _, rfl⟩ := List.mem_map.mp hq
    exact alike_str _ _) (fun p hp => by obtain ⟨a, _, rfl⟩ := List.mem_map.mp hp; simp)
  obtain ⟨m', pm, rfl⟩ := map_lab pl
  have ndg := puts_nd r B.gn
  have ndm : (m1.map (·.1)).Nodup := B.mn.sublist ((List.filter_sublist).map _)
  have lk : ∀ x, getD g' x = (getD r x).or (getD g x) := fun x => by rw [getD_perm ndg pg, puts_get r g x nd]
  have lm : ∀ x, mK m' x = if x ∈ r.map (·.1) then none else mK m x := fun x => by
    rw [mK_perm ndm pm, mK_filter m (fun y => !decide (y ∈ r.map (·.1)))]
    by_cases h : x ∈ r.map (·.1) <;> simp [h]
  have dj : ∀ x, x ∈ g'.map (·.1) → x ∉ m'.map (·.1) := fun x hx hx' => by
    have h1 : mK m' x ≠ none := fun q => (mK_none.mp q) hx'
    rw [lm] at h1
    have h2 : getD g' x ≠ none := fun q => (getD_none.mp q) hx
    rw [lk] at h2
    split at h1
    · exact h1 rfl
    · rename_i hr
      rw [getD_none.mpr hr] at h2
      simp only [Option.none_or] at h2
      exact B.dj x (Classical.byContradiction fun q => h2 (getD_none.mpr q)) (Classical.byContradiction fun q => h1 (mK_none.mpr q))
  refine ⟨g', m', ⟨⟨((pg.map _).nodup_iff).mpr ndg, ((pm.map _).nodup_iff).mpr ndm, dj, by rw [pg.length_eq]; omega, by rw [pm.length_eq]; exact hm1, B.sl, fun p hp => gw p (pg.mem_iff.mp hp), fun p hp => B.ls p (List.mem_filter.mp (pm.mem_iff.mp hp)).1⟩, lk, lm⟩, by rw [pg.length_eq]; exact hpl, ?_⟩
  have s1 := e_sortItO (n := hp.length) (h := hp ++ [.dct (puts g r), .dct (m1.map fun p => (p.1, .str p.2))]) (by simp) sg
  have s2 := e_sortItO (n := hp.length + 1) (h := hp ++ [.dct (puts g r), .dct (m1.map fun p => (p.1, .str p.2))]) (by simp) sl
  have e3 : (.tuple ((m'.map fun p => (p.1, PyData.str p.2)).map pr) : D) = encM m' := by simp [encM, pr, Function.comp_def]
  simp only [m1] at s1 s2
  simp only [List.map_map] at e3 s2
  simp [s1, s2]
  rw [e3, ← encG_eq]
  exact trim_app c
end K96
end
-- M96b
section
set_option linter.all false
set_option maxRecDepth 100000
/-! K96, mathematics, part b: the law's choices. -/
namespace K96
open PySem Ms Pl Pin

theorem behind_ok {hp : AH} (c : Cl hp) {g : List (Str × D)} {m : List (Str × Str)} (B : BaseOk g m LS4) (hg : g.length ≤ 50) {r : List (Str × D)} (R : RowsC r) (nd : (r.map (·.1)).Nodup) (ns : List Note) :
    ∃ g' m', Beh g m r g' m' ∧ g'.length ≤ g.length + r.length ∧ F_l_behind_choice [.d (encS g m ns), .d (encG r)] hp = .ok (.d (encB g' m')) hp := by
  unfold F_l_behind_choice G_l_behind_choice b_l_behind_choice
  have hrl := R.len
  have hml := B.ml
  let g1 := (g.filter fun p => !decide (p.1 ∈ r.map (·.1))) ++ r
  let m1 := m.filter fun p => !decide (p.1 ∈ r.map (·.1))
  have hnm : ∀ (hq : AH) (z0 z1 z2 z3 z6 : Option AV), compO (itO (.ok (.d (encG r)) hq)) (tpB [nmB 4, nmB 5]) yesT (vF 4) [4, 5] [z0, z1, z2, z3, none, none, z6] = .ok (.lst (stl (r.map (·.1)))) hq := fun hq z0 z1 z2 z3 z6 => by
    rw [encG_eq, e_itT]
    refine e_compO (by simp; exact big_le (by omega)) ?_
    rw [compD_pure (p := fun _ => true) (f := fun d => match d with | .tuple [y, _] => y | _ => .none)]
    · rw [List.filter_eq_self.mpr (fun _ _ => rfl), List.map_map, stl, List.map_map]; rfl
    · intro d hd
      obtain ⟨p, hp, rfl⟩ := List.mem_map.mp hd
      exact ⟨[z0, z1, z2, z3, some (.d (.str p.1)), some (.d p.2), z6], by simp [pr], rfl, fun _ => by simp [pr]⟩
  have hni : ∀ (hq : AH) (x : Str), niV (.d (.str x)) (.d (.list (stl (r.map (·.1))))) hq = .ok (.d (.bool !(decide (x ∈ r.map (·.1))))) hq := fun hq x => by
    rw [niV_l (.inl (by simp)), any_str]
  have hgg : ∀ (hq : AH) (z0 z1 z3 z4 z5 : Option AV), compO (itO (.ok (.d (encG g)) hq)) (nmB 6) (tstF (bF niV (bF ixV (vF 6) (cF (.int 0))) (vF 2))) (vF 6) [6] [z0, z1, some (.d (.list (stl (r.map (·.1))))), z3, z4, z5, none] = .ok (.lst ((g.filter fun p => !decide (p.1 ∈ r.map (·.1))).map pr)) hq := fun hq z0 z1 z3 z4 z5 => by
    rw [encG_eq, e_itT]
    refine e_compO (by simp; exact big_le (by omega)) ?_
    rw [compD_pure (p := fun d => match d with | .tuple [.str y, _] => !decide (y ∈ r.map (·.1)) | _ => false) (f := fun d => d)]
    · rw [fl_iso pr _ (fun p => !decide (p.1 ∈ r.map (·.1))) (fun a => rfl)]
    · intro d hd
      obtain ⟨p, hp, rfl⟩ := List.mem_map.mp hd
      exact ⟨_, rfl, by simp [pr, hni], fun _ => by simp⟩
  have hmm : ∀ (hq : AH) (z0 z1 z3 z4 z5 : Option AV), compO (itO (.ok (.d (encM m)) hq)) (nmB 6) (tstF (bF niV (bF ixV (vF 6) (cF (.int 0))) (vF 2))) (vF 6) [6] [z0, z1, some (.d (.list (stl (r.map (·.1))))), z3, z4, z5, none] = .ok (.lst (m1.map prM)) hq := fun hq z0 z1 z3 z4 z5 => by
    rw [encM_eq, e_itT]
    refine e_compO (by simp; exact big_le (by omega)) ?_
    rw [compD_pure (p := fun d => match d with | .tuple [.str y, _] => !decide (y ∈ r.map (·.1)) | _ => false) (f := fun d => d)]
    · rw [fl_iso prM _ (fun p => !decide (p.1 ∈ r.map (·.1))) (fun a => rfl)]
    · intro d hd
      obtain ⟨p, hp, rfl⟩ := List.mem_map.mp hd
      exact ⟨_, rfl, by simp [prM, hni], fun _ => by simp⟩
  -- sorting
  have hfl : (g.filter fun p => !decide (p.1 ∈ r.map (·.1))).length ≤ g.length := List.length_filter_le _ _
  have g1l : g1.length ≤ g.length + r.length := by simp only [g1, List.length_append]; omega
  have gw : ∀ p ∈ g1, isW p.2 := fun p hp => by
    rcases List.mem_append.mp hp with h | h
    · exact B.gw p (List.mem_filter.mp h).1
    · exact R.gw p h
  have ndf : ((g.filter fun p => !decide (p.1 ∈ r.map (·.1))).map (·.1)).Nodup := B.gn.sublist ((List.filter_sublist).map _)
  have ndg : (g1.map (·.1)).Nodup := by
    simp only [g1, List.map_append]
    refine List.nodup_append.mpr ⟨ndf, nd, fun a ha b hb e => ?_⟩
    subst e
    obtain ⟨p, hp, rfl⟩ := List.mem_map.mp ha
    have := (List.mem_filter.mp hp).2
    simp only [Bool.not_eq_true', decide_eq_false_iff_not] at this
    exact this hb
  have ndm : (m1.map (·.1)).Nodup := B.mn.sublist ((List.filter_sublist).map _)
  obtain ⟨g', pg, eg⟩ := perm_map (isort_perm (g1.map pr))
  have so : ∀ hq : AH, sortWC [.d (.list (g1.map pr))] hq = .ok (.d (.list (g'.map pr))) hq := fun hq => by
    rw [← eg]
    refine sortW_of (by simp; omega) (fun x hx => ?_) (fun x hx y hy => ?_) (fun x hx => ?_) (fun x hx => ?_)
    · obtain ⟨a, ha, rfl⟩ := List.mem_map.mp hx; simp [pr, words_sd (gw a ha)]
    · obtain ⟨a, ha, rfl⟩ := List.mem_map.mp hx
      obtain ⟨b, hb, rfl⟩ := List.mem_map.mp hy
      obtain ⟨ws, _, ew⟩ := gw a ha
      obtain ⟨ws', _, ew'⟩ := gw b hb
      exact alikeW_pair (by rw [ew, ew']; exact alikeW_stl _ _)
    · obtain ⟨a, ha, rfl⟩ := List.mem_map.mp hx; rfl
    · obtain ⟨a, ha, rfl⟩ := List.mem_map.mp hx
      have := words_depth (gw a ha)
      simp [pr]; omega
  have lk : ∀ x, getD g' x = (getD r x).or (getD g x) := fun x => by
    rw [getD_perm ndg pg]
    simp only [g1]
    rw [getD_app, getD_filter g (fun y => !decide (y ∈ r.map (·.1)))]
    by_cases h : x ∈ r.map (·.1)
    · have hn : getD r x ≠ none := fun q => (getD_none.mp q) h
      cases hr : getD r x with
      | none => exact absurd hr hn
      | some d => simp [h]
    · rw [getD_none.mpr h]; simp [h]
  have lm : ∀ x, mK m1 x = if x ∈ r.map (·.1) then none else mK m x := fun x => by
    simp only [m1]
    rw [mK_filter m (fun y => !decide (y ∈ r.map (·.1)))]
    by_cases h : x ∈ r.map (·.1) <;> simp [h]
  have dj : ∀ x, x ∈ g'.map (·.1) → x ∉ m1.map (·.1) := fun x hx hx' => by
    have h1 : mK m1 x ≠ none := fun q => (mK_none.mp q) hx'
    rw [lm] at h1
    have h2 : getD g' x ≠ none := fun q => (getD_none.mp q) hx
    rw [lk] at h2
    split at h1
    · exact h1 rfl
    · rename_i hr
      rw [getD_none.mpr hr] at h2
      simp only [Option.none_or] at h2
      exact B.dj x (Classical.byContradiction fun q => h2 (getD_none.mpr q)) (Classical.byContradiction fun q => h1 (mK_none.mpr q))
  refine ⟨g', m1, ⟨⟨((pg.map _).nodup_iff).mpr ndg, ndm, dj, by rw [pg.length_eq]; omega, Nat.le_trans (List.length_filter_le _ _) B.ml, B.sl, fun p hp => gw p (pg.mem_iff.mp hp), fun p hp => B.ls p (List.mem_filter.mp hp).1⟩, lk, lm⟩, by rw [pg.length_eq]; exact g1l, ?_⟩
  have hadd : ∀ hq : AH, addV (.d (.list ((g.filter fun p => !decide (p.1 ∈ r.map (·.1))).map pr))) (.d (.list (r.map pr))) hq = .ok (.d (.list (g1.map pr))) hq := fun hq => by
    rw [add_lst (by simp; exact big_le (by omega)), ← List.map_append]
  have hls : ∀ hq : AH, listC [.d (encG r)] hq = .ok (.d (.list (r.map pr))) hq := fun hq => rfl
  have e0 : ∀ hq : AH, ixV (.d (encS g m ns)) (.d (.int 0)) hq = .ok (.d (encG g)) hq := fun hq => by rw [encS, ix0]
  have e1 : ∀ hq : AH, ixV (.d (encS g m ns)) (.d (.int 1)) hq = .ok (.d (encM m)) hq := fun hq => by rw [encS, ix1]
  simp [hnm]
  simp [e0, hgg, hls, hadd, so, e1, hmm]
  rw [encB, encG_eq, encM_eq]
  exact trim_same c

/-! ### all choices -/
def chStep (found : List (List (Str × D))) (row : Str × D) : List (List (Str × D)) := found ++ (found.filter fun one => !decide (row.1 ∈ one.map (·.1))).map fun one => one ++ [row]
def choices (menu : List (Str × D)) : List (List (Str × D)) := menu.foldl chStep [[]]
theorem choices_go : ∀ (menu : List (Str × D)) (found : List (List (Str × D))) (x : List (Str × D)), x ∈ menu.foldl chStep found ↔ ∃ a ∈ found, ∃ b, b.Sublist menu ∧ x = a ++ b ∧ (∀ y ∈ b.map (·.1), y ∉ a.map (·.1)) ∧ (b.map (·.1)).Nodup
  | [], found, x => by
    constructor
    · intro h; exact ⟨x, h, [], List.Sublist.refl _, by simp, by simp, List.nodup_nil⟩
    · rintro ⟨a, ha, b, hb, rfl, _, _⟩
      rw [List.sublist_nil.mp hb, List.append_nil]; exact ha
  | row :: menu, found, x => by
    rw [List.foldl_cons, choices_go menu]
    constructor
    · rintro ⟨a', ha', b', hb', rfl, h1, h2⟩
      unfold chStep at ha'
      rcases List.mem_append.mp ha' with ha' | ha'
      · exact ⟨a', ha', b', hb'.cons _, rfl, h1, h2⟩
      · obtain ⟨a, ha, rfl⟩ := List.mem_map.mp ha'
        obtain ⟨ha1, ha2⟩ := List.mem_filter.mp ha
        simp only [Bool.not_eq_true', decide_eq_false_iff_not] at ha2
        refine ⟨a, ha1, row :: b', hb'.cons_cons _, by simp, fun y hy => ?_, ?_⟩
        · rw [List.map_cons, List.mem_cons] at hy
          rcases hy with rfl | hy
          · exact ha2
          · exact fun q => h1 y hy (by rw [List.map_append]; exact List.mem_append_left _ q)
        · rw [List.map_cons, List.nodup_cons]
          exact ⟨fun q => h1 _ q (by simp), h2⟩
    · rintro ⟨a, ha, b, hb, rfl, h1, h2⟩
      cases hb with
      | cons _ hb => exact ⟨a, by unfold chStep; exact List.mem_append_left _ ha, b, hb, rfl, h1, h2⟩
      | cons_cons _ hb =>
        rename_i b'
        rw [List.map_cons, List.nodup_cons] at h2
        refine ⟨a ++ [row], ?_, b', hb, by simp, fun y hy q => ?_, h2.2⟩
        · unfold chStep
          refine List.mem_append_right _ (List.mem_map.mpr ⟨a, List.mem_filter.mpr ⟨ha, ?_⟩, rfl⟩)
          simp only [Bool.not_eq_true', decide_eq_false_iff_not]
          exact h1 _ (by simp)
        · rw [List.map_append, List.mem_append] at q
          rcases q with q | q
          · exact h1 y (by simp at hy ⊢; exact .inr hy) q
          · simp at q; subst q; exact h2.1 hy
theorem choices_mem {menu x : List (Str × D)} : x ∈ choices menu ↔ x.Sublist menu ∧ (x.map (·.1)).Nodup := by
  unfold choices
  rw [choices_go]
  constructor
  · rintro ⟨a, ha, b, hb, rfl, _, h⟩
    rw [List.mem_singleton.mp ha, List.nil_append]; exact ⟨hb, h⟩
  · rintro ⟨h1, h2⟩
    exact ⟨[], by simp, x, h1, rfl, by simp, h2⟩
theorem chStep_len (found : List (List (Str × D))) (row : Str × D) : (chStep found row).length ≤ 2 * found.length := by
  unfold chStep
  have := List.length_filter_le (fun one : List (Str × D) => !decide (row.1 ∈ one.map (·.1))) found
  rw [List.length_append, List.length_map]; omega
theorem choices_len : ∀ (menu : List (Str × D)) (found : List (List (Str × D))), (menu.foldl chStep found).length ≤ 2 ^ menu.length * found.length
  | [], found => by simp
  | row :: menu, found => by
    rw [List.foldl_cons]
    have h1 := choices_len menu (chStep found row)
    have h2 := Nat.mul_le_mul_left (2 ^ menu.length) (chStep_len found row)
    rw [List.length_cons, Nat.pow_succ]
    have : 2 ^ menu.length * (2 * found.length) = 2 ^ menu.length * 2 * found.length := by rw [Nat.mul_assoc]
    omega
theorem choices_ok {hp : AH} (c : Cl hp) {menu : List (Str × D)} (hl : menu.length ≤ 8) : F_l_choices [.d (encG menu)] hp = .ok (.d (.list ((choices menu).map encG))) hp := by
  unfold F_l_choices G_l_choices b_l_choices choices
  have hit : ∀ hq : AH, itO (.ok (.d (encG menu)) hq) = .ok (menu.map pr) hq := fun hq => rfl
  simp [hit]
  have hnm : ∀ (hq : AH) (one : List (Str × D)) (z0 z1 z2 z3 : Option AV), one.length ≤ 100 → compO (.ok (one.map pr) hq) (tpB [nmB 4, nmB 5]) yesT (vF 4) [4, 5] [z0, z1, z2, z3, none, none] = .ok (.lst (stl (one.map (·.1)))) hq := fun hq one z0 z1 z2 z3 h => by
    refine e_compO (by simp; exact big_le (by omega)) ?_
    rw [compD_pure (p := fun _ => true) (f := fun d => match d with | .tuple [y, _] => y | _ => .none)]
    · rw [List.filter_eq_self.mpr (fun _ _ => rfl), List.map_map, stl, List.map_map]; rfl
    · intro d hd
      obtain ⟨p, hp, rfl⟩ := List.mem_map.mp hd
      exact ⟨[z0, z1, z2, z3, some (.d (.str p.1)), some (.d p.2)], by simp [pr], rfl, fun _ => by simp [pr]⟩
  have hit2 : ∀ (hq : AH) (one : List (Str × D)), itO (.ok (.d (encG one)) hq) = .ok (one.map pr) hq := fun hq one => rfl
  have key : ∀ (rem : List (Str × D)) (found : List (List (Str × D))) (y2 : Option AV), found.length * 2 ^ rem.length ≤ 1000 → (∀ one ∈ found, one.length + rem.length ≤ 8) → ∃ z2, forD (nmB 2) (setS 1 (bF addV (vF 1) (frzF (compN (itF (vF 1)) (nmB 3) (tstF (bF niV (bF ixV (vF 2) (cF (.int 0))) (frzF (compN (itF (vF 3)) (tpB [nmB 4, nmB 5]) yesT (vF 4) [4, 5])))) (bF addV (vF 3) (tupF (consF (vF 2) nilF))) [3])))) (rem.map pr) [some (.d (encG menu)), some (.d (.list (found.map encG))), y2, none, none, none] hp = .nx [some (.d (encG menu)), some (.d (.list ((rem.foldl chStep found).map encG))), z2, none, none, none] hp := by
    intro rem
    induction rem with
    | nil => exact fun found y2 _ _ => ⟨y2, rfl⟩
    | cons row rem ih =>
      intro found y2 hf hone
      have hp0 : 0 < 2 ^ rem.length := Nat.pow_pos (by decide)
      have hf1 : found.length ≤ 1000 := by
        rw [List.length_cons, Nat.pow_succ] at hf
        have : found.length * 1 ≤ found.length * (2 ^ rem.length * 2) := Nat.mul_le_mul_left _ (by omega)
        omega
      have hco : compO (.ok (found.map encG) hp) (nmB 3) (tstF (bF niV (bF ixV (vF 2) (cF (.int 0))) (frzF (compN (itF (vF 3)) (tpB [nmB 4, nmB 5]) yesT (vF 4) [4, 5])))) (bF addV (vF 3) (tupF (consF (vF 2) nilF))) [3] [some (.d (encG menu)), some (.d (.list (found.map encG))), some (.d (pr row)), none, none, none] = .ok (.lst (((found.filter fun one => !decide (row.1 ∈ one.map (·.1))).map fun one => one ++ [row]).map encG)) hp := by
        refine e_compO (by simp; exact big_le (by omega)) ?_
        rw [compD_map (p := fun one : List (Str × D) => !decide (row.1 ∈ one.map (·.1))) (f := fun one => encG (one ++ [row])), List.map_map]
        · rfl
        · intro one ho
          have hol := hone one ho
          simp only [List.length_cons] at hol
          have hni : ∀ (hq : AH) (x : Str), niV (.d (.str x)) (.d (.list (stl (one.map (·.1))))) hq = .ok (.d (.bool !(decide (x ∈ one.map (·.1))))) hq := fun hq x => by
            rw [niV_l (.inl (by simp)), any_str]
          have had : addV (.d (encG one)) (.d (.tuple [pr row])) hp = .ok (.d (encG (one ++ [row]))) hp := by
            rw [encG_eq, add_tup (by simp; exact big_le (by omega))]; simp [encG_eq]
          have hp0 : ∀ hq : AH, ixV (.d (pr row)) (.d (.int 0)) hq = .ok (.d (.str row.1)) hq := fun hq => by rw [pr, ix0]
          exact ⟨[some (.d (encG menu)), some (.d (.list (found.map encG))), some (.d (pr row)), some (.d (encG one)), none, none], by simp, by simp [hit2, hnm _ one _ _ _ _ (show one.length ≤ 100 by omega), hni, hp0], fun _ => by simp [had]⟩
      obtain ⟨z2, e⟩ := ih (chStep found row) (some (.d (pr row))) (by
        have := chStep_len found row
        rw [List.length_cons, Nat.pow_succ] at hf
        have h2 := Nat.mul_le_mul_right (2 ^ rem.length) this
        have h3 : 2 * found.length * 2 ^ rem.length = found.length * (2 ^ rem.length * 2) := by
          rw [Nat.mul_comm 2, Nat.mul_assoc, Nat.mul_comm 2]
        omega) (fun one ho => by
        unfold chStep at ho
        rcases List.mem_append.mp ho with ho | ho
        · have := hone one ho; simp only [List.length_cons] at this; omega
        · obtain ⟨a, ha, rfl⟩ := List.mem_map.mp ho
          have := hone a (List.mem_filter.mp ha).1
          simp only [List.length_cons] at this
          simp; omega)
      refine ⟨z2, ?_⟩
      rw [List.map_cons]
      unfold forD
      have had2 : addV (.d (.list (found.map encG))) (.d (.list (((found.filter fun one => !decide (row.1 ∈ one.map (·.1))).map fun one => one ++ [row]).map encG))) hp = .ok (.d (.list ((chStep found row).map encG))) hp := by
        rw [add_lst, ← List.map_append]
        · rfl
        · have := List.length_filter_le (fun one : List (Str × D) => !decide (row.1 ∈ one.map (·.1))) found
          simp only [List.length_map]; exact big_le (by omega)
      have hsimp : forD (nmB 2) (setS 1 (bF addV (vF 1) (frzF (compN (itF (vF 1)) (nmB 3) (tstF (bF niV (bF ixV (vF 2) (cF (.int 0))) (frzF (compN (itF (vF 3)) (tpB [nmB 4, nmB 5]) yesT (vF 4) [4, 5])))) (bF addV (vF 3) (tupF (consF (vF 2) nilF))) [3])))) (rem.map pr) [some (.d (encG menu)), some (.d (.list ((chStep found row).map encG))), some (.d (pr row)), none, none, none] hp = .nx [some (.d (encG menu)), some (.d (.list ((rem.foldl chStep (chStep found row)).map encG))), z2, none, none, none] hp := e
      rw [List.foldl_cons]
      simp only [e_nm, e_set, e_b, e_v, e_set0, e_setS, e_at0, e_atS, e_vO, e_bO, e_frz, e_comp, e_it, e_itL, e_wipe0, e_wipeS, hco, e_frzO, e_bP, had2, e_setO]
      exact hsimp
  obtain ⟨z2, e⟩ := key menu [[]] none (by
    have : 2 ^ menu.length ≤ 2 ^ 8 := Nat.pow_le_pow_right (by decide) hl
    simp; omega) (fun one ho => by rw [List.mem_singleton.mp ho]; simpa using hl)
  have e' : forD (nmB 2) (setS 1 (bF addV (vF 1) (frzF (compN (itF (vF 1)) (nmB 3) (tstF (bF niV (bF ixV (vF 2) (cF (.int 0))) (frzF (compN (itF (vF 3)) (tpB [nmB 4, nmB 5]) yesT (vF 4) [4, 5])))) (bF addV (vF 3) (tupF (consF (vF 2) nilF))) [3])))) (menu.map pr) [some (.d (encG menu)), some (.d (.list [.tuple []])), none, none, none, none] hp = .nx [some (.d (encG menu)), some (.d (.list ((menu.foldl chStep [[]]).map encG))), z2, none, none, none] hp := e
  rw [e']
  simp
  exact trim_same c
end K96
end
-- M96c
section
set_option linter.all false
set_option maxRecDepth 100000
/-! K96, mathematics, part c: the least choice, in plain Lean. -/
namespace K96
open PySem Ms Pl Pin
open PySem.W (dataLt minD)

def combs {α : Type} : Nat → List α → List (List α)
  | 0, _ => [[]]
  | _ + 1, [] => []
  | r + 1, x :: xs => (combs r xs).map (x :: ·) ++ combs (r + 1) xs
theorem comb_map {α : Type} (f : α → D) : ∀ (r : Nat) (l : List α), combD r (l.map f) = (combs r l).map (·.map f)
  | 0, _ => by simp [combD, combs]
  | r + 1, [] => by simp [combD, combs]
  | r + 1, x :: l => by
    rw [List.map_cons, combD, combs, comb_map f r l, comb_map f (r + 1) l]
    simp [List.map_map, Function.comp_def]
theorem comb_mem {α : Type} : ∀ {r : Nat} {l x : List α}, x ∈ combs r l ↔ x.Sublist l ∧ x.length = r
  | 0, l, x => by
    rw [combs, List.mem_singleton]
    exact ⟨fun e => by rw [e]; exact ⟨List.nil_sublist _, rfl⟩, fun h => List.length_eq_zero_iff.mp h.2⟩
  | r + 1, [], x => by
    rw [combs]
    exact ⟨fun h => (by cases h), fun ⟨h1, h2⟩ => by rw [List.sublist_nil.mp h1] at h2; cases h2⟩
  | r + 1, y :: l, x => by
    rw [combs, List.mem_append, List.mem_map]
    constructor
    · rintro (⟨a, ha, rfl⟩ | h)
      · obtain ⟨h1, h2⟩ := comb_mem.mp ha
        exact ⟨h1.cons_cons _, by rw [List.length_cons, h2]⟩
      · obtain ⟨h1, h2⟩ := comb_mem.mp h
        exact ⟨h1.cons _, h2⟩
    · rintro ⟨h1, h2⟩
      cases h1 with
      | cons _ h => exact .inr (comb_mem.mpr ⟨h, h2⟩)
      | cons_cons _ h =>
        rename_i a
        rw [List.length_cons] at h2
        exact .inl ⟨a, comb_mem.mpr ⟨h, by omega⟩, rfl⟩
def RowsSd (l : List (Str × D)) : Prop := ∀ p ∈ l, sd p.2 = true
theorem pr_sd {p : Str × D} (h : sd p.2 = true) : sd (pr p) = true := by simp [pr, h]
theorem encG_sd {l : List (Str × D)} (h : RowsSd l) : sd (encG l) = true := by
  rw [encG_eq, sd_tup, sdAll_iff]
  intro x hx
  obtain ⟨p, hp, rfl⟩ := List.mem_map.mp hx
  exact pr_sd (h p hp)
theorem comb_ris : ∀ (r : Nat) (l : List (Str × D)), RowsSd l → Ris (l.map pr) → (combs r l).Pairwise fun a b => dataLt (encG a) (encG b) = true
  | 0, l, _, _ => by rw [combs]; exact List.pairwise_singleton _ _
  | r + 1, [], _, _ => by rw [combs]; exact List.Pairwise.nil
  | r + 1, x :: l, hs, hr => by
    have hr' : Ris (pr x :: l.map pr) := hr
    obtain ⟨h1, h2⟩ := List.pairwise_cons.mp hr'
    have hs' : RowsSd l := fun p hp => hs p (List.mem_cons_of_mem _ hp)
    rw [combs]
    refine List.pairwise_append.mpr ⟨?_, comb_ris (r + 1) l hs' h2, ?_⟩
    · rw [List.pairwise_map]
      refine List.Pairwise.imp (fun {a b} h => ?_) (comb_ris r l hs' h2)
      rw [encG_eq, encG_eq, List.map_cons, List.map_cons, dlt_same]; exact h
    · intro a ha b hb
      obtain ⟨a', _, rfl⟩ := List.mem_map.mp ha
      obtain ⟨hb1, hb2⟩ := comb_mem.mp hb
      cases b with
      | nil => cases hb2
      | cons y b =>
        have hy : y ∈ l := hb1.subset List.mem_cons_self
        have hlt := h1 (pr y) (List.mem_map.mpr ⟨y, hy, rfl⟩)
        have hne : pr x ≠ pr y := fun e => by rw [e, dlt_irr] at hlt; cases hlt
        rw [encG_eq, encG_eq, List.map_cons, List.map_cons, dlt_ne (pr_sd (hs x List.mem_cons_self)) (pr_sd (hs' y hy)) hne]
        exact hlt
/-! ### the least of a list -/
theorem minD_go : ∀ (xs : List D) (a : D), (xs.foldl (fun a y => if dataLt y a then y else a) a) ∈ a :: xs ∧ ∀ y ∈ a :: xs, dataLt y (xs.foldl (fun a y => if dataLt y a then y else a) a) = false
  | [], a => ⟨by simp, fun y hy => by rw [List.mem_singleton.mp hy]; exact dlt_irr a⟩
  | x :: xs, a => by
    rw [List.foldl_cons]
    by_cases h : dataLt x a = true
    · rw [if_pos h]
      obtain ⟨h1, h2⟩ := minD_go xs x
      refine ⟨?_, fun y hy => ?_⟩
      · rcases List.mem_cons.mp h1 with e | e
        · rw [e]; simp
        · exact List.mem_cons_of_mem _ (List.mem_cons_of_mem _ e)
      · rcases List.mem_cons.mp hy with rfl | hy
        · cases e : dataLt y (xs.foldl (fun a y => if dataLt y a then y else a) x) with
          | false => rfl
          | true => have := dlt_trans h e; rw [h2 x List.mem_cons_self] at this; cases this
        · exact h2 y hy
    · rw [if_neg h]
      obtain ⟨h1, h2⟩ := minD_go xs a
      refine ⟨?_, fun y hy => ?_⟩
      · rcases List.mem_cons.mp h1 with e | e
        · rw [e]; simp
        · exact List.mem_cons_of_mem _ (List.mem_cons_of_mem _ e)
      · rcases List.mem_cons.mp hy with rfl | hy
        · exact h2 y List.mem_cons_self
        · rcases List.mem_cons.mp hy with rfl | hy
          · cases e : dataLt y (xs.foldl (fun a y => if dataLt y a then y else a) a) with
            | false => rfl
            | true =>
              rcases dlt_neg (y := a) e with q | q
              · exact absurd q h
              · rw [h2 a List.mem_cons_self] at q; cases q
          · exact h2 y (List.mem_cons_of_mem _ hy)
theorem minD_ok (x : D) (xs : List D) : minD x xs ∈ x :: xs ∧ ∀ y ∈ x :: xs, dataLt y (minD x xs) = false := minD_go xs x
/-- a choice with its length ahead -/
def fineD (r : List (Str × D)) : D := .tuple [.int r.length, encG r]
theorem fine_lt {a b : List (Str × D)} (ha : RowsSd a) (hb : RowsSd b) : dataLt (fineD a) (fineD b) = true ↔ a.length < b.length ∨ (a.length = b.length ∧ dataLt (encG a) (encG b) = true) := by
  unfold fineD
  by_cases h : a.length = b.length
  · rw [h, dlt_same]
    by_cases e : encG a = encG b
    · rw [e, dlt_irr, dlt_irr]; simp
    · rw [dlt_ne (encG_sd ha) (encG_sd hb) e]; simp
  · rw [dlt_intT (by omega)]
    simp only [decide_eq_true_eq]
    omega
/-- the first good one of the combinations, the shorter ones ahead -/
def firstOf (P : List (Str × D) → Bool) (menu : List (Str × D)) : Nat → Nat → Option (List (Str × D))
  | 0, _ => none
  | k + 1, r => match (combs r menu).find? P with
    | some x => some x
    | none => firstOf P menu k (r + 1)
theorem first_none {P : List (Str × D) → Bool} {menu : List (Str × D)} : ∀ {k r : Nat}, firstOf P menu k r = none → ∀ x, x.Sublist menu → r ≤ x.length → x.length < r + k → P x = false
  | 0, r, _, x, _, h1, h2 => by omega
  | k + 1, r, h, x, hx, h1, h2 => by
    unfold firstOf at h
    cases q : (combs r menu).find? P with
    | some y => rw [q] at h; cases h
    | none =>
      rw [q] at h
      rcases Nat.lt_or_ge r x.length with hl | hl
      · exact first_none h x hx hl (by omega)
      · have := List.find?_eq_none.mp q x (comb_mem.mpr ⟨hx, by omega⟩)
        simpa using this
theorem first_some {P : List (Str × D) → Bool} {menu : List (Str × D)} (hs : RowsSd menu) (hr : Ris (menu.map pr)) : ∀ {k r : Nat} {y : List (Str × D)}, firstOf P menu k r = some y → P y = true ∧ y.Sublist menu ∧ ∀ x, x.Sublist menu → r ≤ x.length → P x = true → dataLt (fineD x) (fineD y) = false
  | 0, r, y, h => by cases h
  | k + 1, r, y, h => by
    unfold firstOf at h
    cases q : (combs r menu).find? P with
    | some z =>
      rw [q] at h
      cases h
      have hm := List.mem_of_find?_eq_some q
      obtain ⟨h1, h2⟩ := comb_mem.mp hm
      have hsy : RowsSd y := fun p hp => hs p (h1.subset hp)
      refine ⟨List.find?_some q, h1, fun x hx hl hp => ?_⟩
      have hsx : RowsSd x := fun p hp => hs p (hx.subset hp)
      rw [← Bool.not_eq_true, fine_lt hsx hsy]
      rintro (h3 | ⟨h3, h4⟩)
      · omega
      · -- x stands in the same row, not ahead of y
        obtain ⟨as, bs, e, hn⟩ := List.find?_eq_some_iff_append.mp q |>.2
        have hx' : x ∈ combs r menu := comb_mem.mpr ⟨hx, by omega⟩
        have hw := comb_ris r menu hs hr
        rw [e] at hx' hw
        rcases List.mem_append.mp hx' with hx' | hx'
        · have := hn x hx'; simp [hp] at this
        · rcases List.mem_cons.mp hx' with rfl | hx'
          · rw [dlt_irr] at h4; cases h4
          · have := (List.pairwise_cons.mp (List.pairwise_append.mp hw).2.1).1 x hx'
            rw [dlt_asymm this] at h4; cases h4
    | none =>
      rw [q] at h
      obtain ⟨a1, a2, a3⟩ := first_some hs hr h
      refine ⟨a1, a2, fun x hx hl hp => ?_⟩
      rcases Nat.lt_or_ge r x.length with hl' | hl'
      · exact a3 x hx hl' hp
      · have := List.find?_eq_none.mp q x (comb_mem.mpr ⟨hx, by omega⟩)
        rw [hp] at this; exact absurd rfl this
/-- the least of all good choices is the first good combination -/
theorem least_first {P : List (Str × D) → Bool} {menu : List (Str × D)} (hs : RowsSd menu) (hr : Ris (menu.map pr)) {fine : List (List (Str × D))} (hf : ∀ x, x ∈ fine ↔ x.Sublist menu ∧ P x = true) :
    (fine = [] ∧ firstOf P menu (menu.length + 1) 0 = none) ∨ ∃ y x xs, firstOf P menu (menu.length + 1) 0 = some y ∧ fine.map fineD = x :: xs ∧ minD x xs = fineD y := by
  cases q : firstOf P menu (menu.length + 1) 0 with
  | none =>
    left
    refine ⟨?_, rfl⟩
    cases fine with
    | nil => rfl
    | cons x fine =>
      obtain ⟨h1, h2⟩ := (hf x).mp List.mem_cons_self
      have := first_none q x h1 (Nat.zero_le _) (by have := h1.length_le; omega)
      rw [h2] at this; cases this
  | some y =>
    right
    obtain ⟨a1, a2, a3⟩ := first_some hs hr q
    have hy : y ∈ fine := (hf y).mpr ⟨a2, a1⟩
    cases e : fine.map fineD with
    | nil => rw [List.map_eq_nil_iff] at e; rw [e] at hy; cases hy
    | cons x xs =>
      refine ⟨y, x, xs, rfl, rfl, ?_⟩
      obtain ⟨m1, m2⟩ := minD_ok x xs
      rw [← e] at m1 m2
      obtain ⟨z, hz, ez⟩ := List.mem_map.mp m1
      obtain ⟨z1, z2⟩ := (hf z).mp hz
      have h1 := m2 (fineD y) (List.mem_map.mpr ⟨y, hy, rfl⟩)
      have h2 := a3 z z1 (Nat.zero_le _) z2
      rw [← ez] at h1 ⊢
      have sz : RowsSd z := fun p hp => hs p (z1.subset hp)
      have sy : RowsSd y := fun p hp => hs p (a2.subset hp)
      rw [← Bool.not_eq_true, fine_lt sy sz] at h1
      rw [← Bool.not_eq_true, fine_lt sz sy] at h2
      have hl : z.length = y.length := by
        rcases Nat.lt_trichotomy z.length y.length with h | h | h
        · exact absurd (.inl h) h2
        · exact h
        · exact absurd (.inl h) h1
      have e2 : encG z = encG y := by
        refine dlt_total (encG_sd sz) (encG_sd sy) ?_ ?_
        · rw [← Bool.not_eq_true]; exact fun h => h2 (.inr ⟨hl, h⟩)
        · rw [← Bool.not_eq_true]; exact fun h => h1 (.inr ⟨hl.symm, h⟩)
      rw [encG_inj e2]
end K96
end
-- M96d
section
set_option linter.all false
set_option maxRecDepth 100000
/-! K96, mathematics, part d: both least choices are the first good combination. -/
namespace K96
open PySem Ms Pl Pin
open PySem.W (dataLt minD)

def isKn : Option Res → Bool
  | some (.known _) => true
  | _ => false
def kindS : Option Res → Str
  | some (.known _) => "known"
  | some (.run _) => "run"
  | none => "endless"
theorem kind_known (r : Option Res) : decide (kindS r = "known") = isKn r := by
  unfold kindS isKn
  rcases r with _ | _ | _ <;> simp
theorem tel0 (B : List Str) (r : Option Res) (hq : AH) : ixV (.d (telD B r)) (.d (.int 0)) hq = .ok (.d (.str (kindS r))) hq := by
  rcases r with _ | _ | _ <;> simp [telD, kindS]
theorem kn0 (r : Option Res) (hq : AH) : ixV (.d (knD r)) (.d (.int 0)) hq = .ok (.d (.str (kindS r))) hq := by
  rcases r with _ | _ | _ <;> simp [knD, kindS]
open Classical in
noncomputable def knw (g : List (Str × D)) (m : List (Str × Str)) (ns : List Note) (x : Str) (r : List (Str × D)) : Bool := decide (∃ g' m', Beh g m r g' m' ∧ isKn (lim (stSys g' m' ns) x) = true)
theorem knw_eq {g : List (Str × D)} {m : List (Str × Str)} {ns : List Note} {x : Str} {r g' : List (Str × D)} {m' : List (Str × Str)} (b : Beh g m r g' m') : knw g m ns x r = isKn (lim (stSys g' m' ns) x) := by
  classical
  unfold knw
  rw [Bool.eq_iff_iff]
  constructor
  · intro h
    obtain ⟨g2, m2, b2, h⟩ := of_decide_eq_true h
    rw [← b2.sys b]; exact h
  · exact fun h => decide_eq_true ⟨g', m', b, h⟩
open Classical in
noncomputable def good (g : List (Str × D)) (m : List (Str × Str)) (ns : List Note) (x : Str) (r : List (Str × D)) : Bool := decide ((r.map (·.1)).Nodup) && knw g m ns x r
def opD : Option (List (Str × D)) → D
  | some r => encG r
  | none => .none
structure MenuOk (menu : List (Str × D)) : Prop where
  rc : RowsC menu
  ris : Ris (menu.map pr)
theorem MenuOk.sd {menu : List (Str × D)} (h : MenuOk menu) : RowsSd menu := fun p hp => words_sd (h.rc.gw p hp)
theorem RowsC.sub {menu r : List (Str × D)} (h : RowsC menu) (s : r.Sublist menu) : RowsC r := ⟨Nat.le_trans s.length_le h.len, fun p hp => h.gw p (s.subset hp)⟩
section
variable {g : List (Str × D)} {m : List (Str × Str)} {ns : List Note} {menu : List (Str × D)} {hp : AH}
theorem fineD_alike {a b : List (Str × D)} (ha : RowsC a) (hb : RowsC b) : PySem.W.alike (fineD a) (fineD b) = true := by
  unfold fineD
  simp only [PySem.W.alike, PySem.W.alikeAll, encG_eq, Bool.true_and, Bool.and_true]
  refine alikeAll_of fun x hx y hy => ?_
  obtain ⟨p, hp, rfl⟩ := List.mem_map.mp hx
  obtain ⟨q, hq, rfl⟩ := List.mem_map.mp hy
  exact alike_pair (words_alike (ha.gw p hp) (hb.gw q hq))
theorem encG_depthC {a : List (Str × D)} (ha : RowsC a) : (encG a).depth ≤ 4 := by
  rw [encG_eq, depth_tup]
  have : PyData.depthAll (a.map pr) ≤ 3 := depthAll_iff.mpr fun x hx => by
    obtain ⟨p, hp, rfl⟩ := List.mem_map.mp hx
    have := words_depth (ha.gw p hp)
    simp [pr]; omega
  omega
theorem least_choice_ok (c : Cl hp) (B : BaseOk g m LS4) (hg : g.length ≤ 50) (N : NotesOk ns) (M : MenuOk menu) (x : Str) : F_l_least_choice [.d (encS g m ns), .d (.str x), .d (encG menu)] hp = .ok (.d (opD (firstOf (good g m ns x) menu (menu.length + 1) 0))) hp := by
  unfold F_l_least_choice G_l_least_choice b_l_least_choice
  have hch := choices_ok (hp := hp ++ [.lst []]) (menu := menu) (c.app rfl) M.rc.len
  simp [hch]
  have hmem : ∀ r ∈ choices menu, r.Sublist menu ∧ (r.map (·.1)).Nodup := fun r hr => choices_mem.mp hr
  have e2 : ∀ hq : AH, ixV (.d (encS g m ns)) (.d (.int 2)) hq = .ok (.d (encNs ns)) hq := fun hq => by rw [encS, ix2]
  have key : ∀ (rem acc : List (List (Str × D))) (y4 : Option AV), (∀ r ∈ rem, r.Sublist menu ∧ (r.map (·.1)).Nodup) → acc.length + rem.length ≤ 5000 → ∃ z4, forD (nmB 4) (ifS (tstF (bF eqV (bF ixV (callF (arF 3 (F_l_tells 12)) (consF (bF addV (callF (arF 2 F_l_behind_choice) (consF (vF 0) (consF (vF 4) nilF))) (tupF (consF (bF ixV (vF 0) (cF (.int 2))) nilF))) (consF (vF 1) (consF (tupF nilF) nilF)))) (cF (.int 0))) (cF (.str "known")))) (exprS (appF (vF 3) (tupF (consF (callF lenC (consF (vF 4) nilF)) (consF (vF 4) nilF))))) nxS) (rem.map encG)
      [some (.d (encS g m ns)), some (.d (.str x)), some (.d (encG menu)), some (.r hp.length), y4] (hp ++ [.lst (acc.map fineD)]) = .nx [some (.d (encS g m ns)), some (.d (.str x)), some (.d (encG menu)), some (.r hp.length), z4] (hp ++ [.lst ((acc ++ rem.filter (knw g m ns x)).map fineD)]) := by
    intro rem
    induction rem with
    | nil => exact fun acc y4 _ _ => ⟨y4, by simp [forD]⟩
    | cons r rem ih =>
      intro acc y4 hr hl
      simp only [List.length_cons] at hl
      obtain ⟨hs, hn⟩ := hr r List.mem_cons_self
      have c1 : Cl (hp ++ [.lst (acc.map fineD)]) := c.app rfl
      obtain ⟨g', m', bh, _, eb⟩ := behind_ok c1 B hg (M.rc.sub hs) hn ns
      have et := tells_ok bh.ok N 12 [] x (hp ++ [.lst (acc.map fineD)]) c1 List.nodup_nil (fun b hb => (by cases hb)) (by decide) (fun l _ _ => Dom.nil)
      rw [show stl [] = [] from rfl] at et
      have hk := knw_eq (ns := ns) (x := x) bh
      rw [List.map_cons]
      unfold forD
      have hlen : ∀ hq : AH, lenC [.d (encG r)] hq = .ok (.d (.int r.length)) hq := fun hq => by rw [encG, len_t]; simp
      cases hq : isKn (lim (stSys g' m' ns) x) with
      | false =>
        rw [hq] at hk
        obtain ⟨z4, e⟩ := ih acc (some (.d (encG r))) (fun q hq => hr q (List.mem_cons_of_mem _ hq)) (by omega)
        refine ⟨z4, ?_⟩
        rw [List.filter_cons_of_neg (by simp [hk])]
        have hkk : (kindS (lim (stSys g' m' ns) x) = "known") = False := by
          have := kind_known (lim (stSys g' m' ns) x)
          rw [hq, decide_eq_false_iff_not] at this
          exact eq_false this
        rw [List.map_append] at e ⊢
        simp [eb, e2, encS_of, et, tel0, hkk]
        exact e
      | true =>
        rw [hq] at hk
        obtain ⟨z4, e⟩ := ih (acc ++ [r]) (some (.d (encG r))) (fun q hq => hr q (List.mem_cons_of_mem _ hq)) (by simp; omega)
        refine ⟨z4, ?_⟩
        rw [List.filter_cons_of_pos (by simp [hk])]
        have hkk : (kindS (lim (stSys g' m' ns) x) = "known") = True := by
          have := kind_known (lim (stSys g' m' ns) x)
          rw [hq, decide_eq_true_eq] at this
          exact eq_true this
        have a0 : ∀ (fe : Fe) (env : Sl), appO (.ok (.r hp.length) (hp ++ [.lst (acc.map fineD)])) fe env = appP hp.length (fe env (hp ++ [.lst (acc.map fineD)])) := fun fe env => e_appO (h_at0 _ _)
        have a1 : appP hp.length (.ok (.d (.tuple [.int r.length, encG r])) (hp ++ [.lst (acc.map fineD)])) = .ok (.d .none) (hp ++ [.lst ((acc ++ [r]).map fineD)]) := by
          rw [e_appP (h_at0 _ _) (by simp; omega), h_set0]; simp [fineD]
        simp only [e_nm, e_setS, e_set0, e_if, e_tst, e_b, e_call, e_cons, e_v, e_at0, e_atS, e_vO, e_consO, e_nil, e_consP, e_callO, e_ar2, eb, e_bO, e_tup, e_c, e_bP, e2, e_tupO, e_dats, e_dats0, e_map, Option.map_some, e_tupP, encS_of, e_ar3, et, tel0, eqV_sl, eqv_str, hkk, decide_true, e_tstO, e_ifSO1, e_expr, e_app, a0, hlen, a1, e_toS1]
        simp only [List.append_assoc, List.singleton_append] at e
        exact e
  have hcl : (choices menu).length ≤ 256 := by
    have h5 := choices_len menu [[]]
    have h6 : 2 ^ menu.length ≤ 2 ^ 8 := Nat.pow_le_pow_right (by decide) M.rc.len
    have h7 : (choices menu).length ≤ 2 ^ menu.length * 1 := h5
    omega
  obtain ⟨z4, e⟩ := key (choices menu) [] none hmem (by rw [List.length_nil]; omega)
  have e' := e
  simp only [List.map_nil, List.nil_append] at e'
  rw [e']
  have hf : ∀ r, r ∈ (choices menu).filter (knw g m ns x) ↔ r.Sublist menu ∧ good g m ns x r = true := fun r => by
    rw [List.mem_filter, choices_mem]
    unfold good
    simp only [Bool.and_eq_true, decide_eq_true_eq]
    exact ⟨fun ⟨⟨a, b⟩, d⟩ => ⟨a, b, d⟩, fun ⟨a, b, d⟩ => ⟨⟨a, b⟩, d⟩⟩
  rcases least_first M.sd M.ris hf with ⟨h1, h2⟩ | ⟨y, z, zs, h1, h2, h3⟩
  · rw [h1, h2]
    have hl : lenC [.r hp.length] (hp ++ [.lst []]) = .ok (.d (.int 0)) (hp ++ [.lst []]) := len_lr (xs := []) (h_at0 _ _)
    simp [hl, opD]
    exact trim_app c
  · rw [h1, h2]
    have hl : lenC [.r hp.length] (hp ++ [.lst (z :: zs)]) = .ok (.d (.int (z :: zs).length)) (hp ++ [.lst (z :: zs)]) := len_lr (xs := z :: zs) (h_at0 _ _)
    have hall : ∀ d ∈ z :: zs, ∃ r, RowsC r ∧ d = fineD r := fun d hd => by
      rw [← h2] at hd
      obtain ⟨r, hr, rfl⟩ := List.mem_map.mp hd
      exact ⟨r, M.rc.sub ((hf r).mp hr).1, rfl⟩
    have hzl : (z :: zs).length ≤ 256 := by
      rw [← h2, List.length_map]
      have h4 := List.length_filter_le (knw g m ns x) (choices menu)
      omega
    have hmin : minC [.r hp.length] (hp ++ [.lst (z :: zs)]) = .ok (.d (fineD y)) (hp ++ [.lst (z :: zs)]) := by
      have hlo : lsOf (.r hp.length) (hp ++ [AObj.lst (z :: zs)]) = some (z :: zs) := by simp [lsOf]
      simp only [minC, hlo]
      rw [if_pos, h3]
      simp only [List.length_cons] at hzl
      simp only [Bool.and_eq_true, decide_eq_true_eq, Bool.or_eq_true]
      refine ⟨by omega, ⟨?_, .inr ?_⟩, ?_⟩
      · unfold alikeB
        simp only [List.all_eq_true]
        intro a ha b hb
        obtain ⟨r, hr, rfl⟩ := hall a ha
        obtain ⟨r', hr', rfl⟩ := hall b hb
        exact fineD_alike hr hr'
      · rw [List.all_eq_true]
        intro a ha
        obtain ⟨r, _, rfl⟩ := hall a ha; rfl
      · refine depthAll_iff.mpr fun a ha => ?_
        obtain ⟨r, hr, rfl⟩ := hall a ha
        have := encG_depthC hr
        simp [fineD]; omega
    have h0 : (0 : Int) < ((z :: zs).length : Int) := by simp
    simp only [List.length_cons] at h0 hl
    have hi : ∀ hq : AH, ixV (.d (fineD y)) (.d (.int 1)) hq = .ok (.d (encG y)) hq := fun hq => by rw [fineD, ix1]
    simp [hl, h0, hmin, hi, opD]
    exact trim_app c
end
end K96
end
-- M96e
section
set_option linter.all false
set_option maxRecDepth 100000
/-! K96, mathematics, part e: the program's least choice; made menus. -/
namespace K96
open PySem Ms Pl Pin
open PySem.W (dataLt minD)

def lenSetO (o : Out AV) : Out AV := o.bind fun a h1 => match lsOf a h1 with
  | some xs => match strsD xs with
    | some ss => if ss.length ≤ 20 then .ok (.d (.int (uniqS ss).length)) h1 else .bad
    | none => .bad
  | none => .bad
@[simp] theorem e_lenSet (f : Fe) (env : Sl) (hp : AH) : lenSetF f env hp = lenSetO (f env hp) := id rfl
theorem e_lenSetO {l : List Str} {h : AH} (hl : l.length ≤ 20) : lenSetO (.ok (.d (.list (stl l))) h) = .ok (.d (.int (uniqS l).length)) h := by
  simp only [lenSetO, Out.bind, lsOf, stl, strsD_map]
  rw [if_pos hl]
theorem uniqS_le : ∀ l : List Str, (uniqS l).length ≤ l.length
  | [] => Nat.le_refl _
  | x :: l => by
    have := uniqS_le l
    unfold uniqS
    split <;> simp <;> omega
theorem uniqS_len : ∀ l : List Str, (uniqS l).length = l.length ↔ l.Nodup
  | [] => by simp [uniqS]
  | x :: l => by
    have h1 := uniqS_le l
    unfold uniqS
    rw [List.nodup_cons]
    by_cases h : x ∈ l
    · rw [if_pos h]
      simp only [List.length_cons]
      exact ⟨fun e => by omega, fun e => absurd h e.1⟩
    · rw [if_neg h, List.length_cons, List.length_cons, Nat.add_right_cancel_iff, uniqS_len l]
      exact ⟨fun e => ⟨h, e⟩, fun e => e.2⟩
def combO (o : Out AV) (g : Fe) (env : Sl) : Out (List D) := o.bind fun a h1 => (g env h1).bind fun b h2 => match a, b with
  | .d (.tuple xs), .d (.int r) => if 0 ≤ r ∧ r ≤ 8 ∧ xs.length ≤ 8 then .ok ((combD r.toNat xs).map .tuple) h2 else .bad
  | _, _ => .bad
theorem e_comb {f g : Fe} {env : Sl} {hp : AH} {menu : List (Str × D)} {k : Nat} (hf : f env hp = .ok (.d (encG menu)) hp) (hg : g env hp = .ok (.d (.int k)) hp) (hk : k ≤ 8) (hl : menu.length ≤ 8) : combI f g env hp = .ok ((combs k menu).map encG) hp := by
  unfold combI
  rw [hf, encG_eq]
  simp only [Out.bind, hg, List.length_map]
  rw [if_pos ⟨by omega, by omega, hl⟩, Int.toNat_natCast, comb_map, List.map_map]
  rfl
section
variable {g : List (Str × D)} {m : List (Str × Str)} {ns : List Note} {menu : List (Str × D)} {hp : AH}
theorem least_menu_ok (c : Cl hp) (B : BaseOk g m LS4) (hg : g.length ≤ 50) (N : NotesOk ns) (M : MenuOk menu) (x : Str) : F_least_menu [.d (encS g m ns), .d (.str x), .d (encG menu)] hp = .ok (.d (opD (firstOf (good g m ns x) menu (menu.length + 1) 0))) hp := by
  unfold F_least_menu G_least_menu b_least_menu
  have hml := M.rc.len
  have hlen : lenC [.d (encG menu)] hp = .ok (.d (.int menu.length)) hp := by rw [encG, len_t]; simp
  have hrg := e_rgO (n := menu.length + 1) hp (by omega)
  simp only [Int.natCast_add, Int.cast_ofNat_Int] at hrg
  simp [hlen, hrg]
  -- one size
  have inner : ∀ (k : Nat) (rem : List (List (Str × D))) (y3 y4 y5 : Option AV), y3 = some (.d (.int k)) → (∀ r ∈ rem, r.Sublist menu ∧ r.length = k) → (∃ r, r ∈ rem ∧ good g m ns x r = true ∧ rem.find? (good g m ns x) = some r ∧ forD (nmB 4) (seqS (setS 5 (bF eqV (lenSetF (frzF (compN (itF (vF 4)) (nmB 6) yesT (bF ixV (vF 6) (cF (.int 0))) [6]))) (vF 3)))
  (ifS (andT (tstF (vF 5)) (tstF (bF eqV (bF ixV (callF (arF 2 F_known_of) (consF (callF (arF 2 F_stock_given) (consF (vF 0) (consF (vF 4) nilF))) (consF (vF 1) nilF))) (cF (.int 0))) (cF (.str "known"))))) (retS (vF 4)) nxS)) (rem.map encG) [some (.d (encS g m ns)), some (.d (.str x)), some (.d (encG menu)), y3, y4, y5, none] hp = .rt (.d (encG r)) hp) ∨ (rem.find? (good g m ns x) = none ∧ ∃ z4 z5, forD (nmB 4) (seqS (setS 5 (bF eqV (lenSetF (frzF (compN (itF (vF 4)) (nmB 6) yesT (bF ixV (vF 6) (cF (.int 0))) [6]))) (vF 3)))
  (ifS (andT (tstF (vF 5)) (tstF (bF eqV (bF ixV (callF (arF 2 F_known_of) (consF (callF (arF 2 F_stock_given) (consF (vF 0) (consF (vF 4) nilF))) (consF (vF 1) nilF))) (cF (.int 0))) (cF (.str "known"))))) (retS (vF 4)) nxS)) (rem.map encG) [some (.d (encS g m ns)), some (.d (.str x)), some (.d (encG menu)), y3, y4, y5, none] hp = .nx [some (.d (encS g m ns)), some (.d (.str x)), some (.d (encG menu)), y3, z4, z5, none] hp) := by
    intro k rem
    induction rem with
    | nil => exact fun y3 y4 y5 _ _ => .inr ⟨rfl, y4, y5, rfl⟩
    | cons r rem ih =>
      rintro y3 y4 y5 rfl hr
      obtain ⟨hs, hk⟩ := hr r List.mem_cons_self
      have hrl : r.length ≤ 8 := Nat.le_trans hs.length_le hml
      have ih' := fun y4 y5 => ih (some (.d (.int k))) y4 y5 rfl (fun q hq => hr q (List.mem_cons_of_mem _ hq))
      have hnm : compO (itO (.ok (.d (encG r)) hp)) (nmB 6) yesT (bF ixV (vF 6) (cF (.int 0))) [6] [some (.d (encS g m ns)), some (.d (.str x)), some (.d (encG menu)), some (.d (.int k)), some (.d (encG r)), y5, none] = .ok (.lst (stl (r.map (·.1)))) hp := by
        rw [encG_eq, e_itT]
        refine e_compO (by simp; exact big_le (by omega)) ?_
        rw [compD_mapT (f := fun p : Str × D => .str p.1)]
        · rw [stl, List.map_map]; rfl
        · intro p hp
          exact ⟨_, rfl, by simp [pr]⟩
      have hls : ∀ h : AH, lenSetO (.ok (.d (.list (stl (r.map (·.1))))) h) = .ok (.d (.int (uniqS (r.map (·.1))).length)) h := fun h => e_lenSetO (by rw [List.length_map]; omega)
      have hu := uniqS_len (r.map (·.1))
      rw [List.length_map, hk] at hu
      rw [List.map_cons]
      unfold forD
      by_cases hn : (r.map (·.1)).Nodup
      · have hu1 := hu.mpr hn
        obtain ⟨g', m', bh, _, eg⟩ := given_ok c B hg (M.rc.sub hs) hn ns
        have ek := known_ok c bh.ok N (by decide) x
        have hkw := knw_eq (ns := ns) (x := x) bh
        cases hq : isKn (lim (stSys g' m' ns) x) with
        | true =>
          have hkk : (kindS (lim (stSys g' m' ns) x) = "known") = True := by
            have := kind_known (lim (stSys g' m' ns) x)
            rw [hq, decide_eq_true_eq] at this
            exact eq_true this
          have hgd : good g m ns x r = true := by unfold good; rw [hkw, hq]; simpa using hn
          left
          refine ⟨r, List.mem_cons_self, hgd, List.find?_cons_of_pos hgd, ?_⟩
          simp [hnm, hls, hu1, eg, ek, kn0, hkk]
        | false =>
          have hkk : (kindS (lim (stSys g' m' ns) x) = "known") = False := by
            have := kind_known (lim (stSys g' m' ns) x)
            rw [hq, decide_eq_false_iff_not] at this
            exact eq_false this
          have hgd : ¬ (good g m ns x r = true) := by unfold good; rw [hkw, hq]; simp
          rw [List.find?_cons_of_neg hgd]
          rcases ih' (some (.d (encG r))) (some (.d (.bool true))) with ⟨q, h1, h2, h3, h4⟩ | ⟨h1, z4, z5, h4⟩
          · left
            refine ⟨q, List.mem_cons_of_mem _ h1, h2, h3, ?_⟩
            simp [hnm, hls, hu1, eg, ek, kn0, hkk]
            exact h4
          · right
            refine ⟨h1, z4, z5, ?_⟩
            simp [hnm, hls, hu1, eg, ek, kn0, hkk]
            exact h4
      · have hu1 : ¬ ((uniqS (r.map (·.1))).length = k) := fun e => hn (hu.mp e)
        have hgd : ¬ (good g m ns x r = true) := by unfold good; simp only [Bool.and_eq_true, decide_eq_true_eq]; exact fun h => hn h.1
        rw [List.find?_cons_of_neg hgd]
        have hui : ¬ (((uniqS (r.map (·.1))).length : Int) = (k : Int)) := by omega
        rcases ih' (some (.d (encG r))) (some (.d (.bool false))) with ⟨q, h1, h2, h3, h4⟩ | ⟨h1, z4, z5, h4⟩
        · left
          refine ⟨q, List.mem_cons_of_mem _ h1, h2, h3, ?_⟩
          simp [hnm, hls, hui]
          exact h4
        · right
          refine ⟨h1, z4, z5, ?_⟩
          simp [hnm, hls, hui]
          exact h4
  refine forR_inv (n := menu.length + 1) (fun k env h => h = hp ∧ ∃ y3 y4 y5, env = [some (.d (encS g m ns)), some (.d (.str x)), some (.d (encG menu)), y3, y4, y5, none] ∧ k ≤ menu.length + 1 ∧ firstOf (good g m ns x) menu (menu.length + 1 - k) k = firstOf (good g m ns x) menu (menu.length + 1) 0)
    (fun o => fnO hp.length hp (seqO o (retS (cF .none))) = _) ?_ ?_ ⟨rfl, none, none, none, rfl, Nat.zero_le _, rfl⟩
  · rintro env h ⟨rfl, y3, y4, y5, rfl, _, hf⟩
    rw [Nat.sub_self] at hf
    rw [← hf]
    simp [opD, firstOf]
    exact trim_same c
  · rintro k env h hk ⟨rfl, y3, y4, y5, rfl, _, hf⟩
    refine ⟨_, _, rfl, ?_⟩
    have hcb := e_comb (f := vF 2) (g := vF 3) (env := [some (.d (encS g m ns)), some (.d (.str x)), some (.d (encG menu)), some (.d (.int k)), y4, y5, none]) (hp := h) (menu := menu) (k := k) (by simp) (by simp) (by omega) hml
    obtain ⟨j, hj⟩ : ∃ j, menu.length + 1 - k = j + 1 := ⟨menu.length - k, by omega⟩
    rw [hj, firstOf] at hf
    rcases inner k (combs k menu) (some (.d (.int k))) y4 y5 rfl (fun r hr => comb_mem.mp hr) with ⟨r, h1, h2, h3, h4⟩ | ⟨h1, z4, z5, h4⟩
    · refine .inr (.inr (.inr (.inl ⟨.d (encG r), h, ?_, ?_⟩)))
      · simp only [e_nm, e_setS, e_set0, e_for, hcb, e_forO]
        exact h4
      · rw [h3] at hf
        rw [← hf]
        simp [opD]
        exact trim_same c
    · refine .inl ⟨[some (.d (encS g m ns)), some (.d (.str x)), some (.d (encG menu)), some (.d (.int k)), z4, z5, none], h, ?_, rfl, _, _, _, rfl, hk, ?_⟩
      · simp only [e_nm, e_setS, e_set0, e_for, hcb, e_forO]
        exact h4
      · simp only [h1] at hf
        rw [show menu.length + 1 - (k + 1) = j by omega]
        exact hf
end
/-! ### made menus -/
def NM8 : List Str := ["a", "b", "c", "d", "e", "f", "x1", "y"]
theorem menu_ok {hp : AH} {n : Nat} {ds : List Int} (c : Cl hp) (hn : n < hp.length) (dk : DrawsOk ds) (k : Nat) : ∃ menu k', MenuOk menu ∧ F_l_menu [.r n] (HM hp n ds k) = .ok (.d (encG menu)) (HM hp n ds k') := by
  unfold F_l_menu G_l_menu b_l_menu
  obtain ⟨w, w0, w1, ew⟩ := take_app (l := [.lst []]) c rfl hn dk k (m := 6) (by decide)
  obtain ⟨w, rfl⟩ := Int.eq_ofNat_of_zero_le w0
  have hrg := fun h => e_rgO (n := w) h (by omega)
  simp [ew, hrg]
  refine forR_inv (n := w) (fun t env h => ∃ (rows : List (Str × D)) (k1 : Nat) (y2 y3 y4 : Option AV), env = [some (.r n), some (.r hp.length), y2, y3, y4] ∧ h = HM hp n ds k1 ++ [.lst (rows.map pr)] ∧ rows.length ≤ t ∧ rows.Nodup ∧ ∀ p ∈ rows, isW p.2)
    (fun o => ∃ menu, MenuOk menu ∧ ∃ k', fnO hp.length (HM hp n ds k) (seqO o (retS (callF tupleC (consF (callF sortWC (consF (vF 1) nilF)) nilF)))) = .ok (.d (encG menu)) (HM hp n ds k')) ?_ ?_ ⟨[], k + 1, none, none, none, rfl, rfl, by simp, List.nodup_nil, fun p h => (by cases h)⟩
  · rintro env h ⟨rows, k1, y2, y3, y4, rfl, rfl, hl, nd, hw⟩
    obtain ⟨menu, pm, em⟩ := perm_map (isort_perm (rows.map pr))
    have hs : ∀ x ∈ rows.map pr, sd x = true := fun x hx => by obtain ⟨q, hq, rfl⟩ := List.mem_map.mp hx; simp [pr, words_sd (hw q hq)]
    have so : sortWC [.r hp.length] (HM hp n ds k1 ++ [.lst (rows.map pr)]) = .ok (.d (.list (menu.map pr))) (HM hp n ds k1 ++ [.lst (rows.map pr)]) := by
      rw [← em]
      refine sortW_ofr (HM_at0 _ _ _ _ _ _) (by simp; omega) hs (fun x hx y hy => ?_) (fun x hx => ?_) (fun x hx => ?_)
      · obtain ⟨a, ha, rfl⟩ := List.mem_map.mp hx
        obtain ⟨b, hb, rfl⟩ := List.mem_map.mp hy
        obtain ⟨ws, _, ews⟩ := hw a ha
        obtain ⟨ws', _, ews'⟩ := hw b hb
        exact alikeW_pair (by rw [ews, ews']; exact alikeW_stl _ _)
      · obtain ⟨a, ha, rfl⟩ := List.mem_map.mp hx; rfl
      · obtain ⟨a, ha, rfl⟩ := List.mem_map.mp hx
        have := words_depth (hw a ha)
        simp [pr]; omega
    refine ⟨menu, ⟨⟨by rw [pm.length_eq]; omega, fun p hp => hw p (pm.mem_iff.mp hp)⟩, by rw [← em]; exact isort_ris hs (nodup_map (fun _ _ => pr_inj) nd)⟩, k1, ?_⟩
    simp [so]
    rw [← encG_eq]
    exact trim_apq (HM_cl c) (by simp)
  · rintro t env h ht ⟨rows, k1, y2, y3, y4, rfl, rfl, hl, nd, hw⟩
    obtain ⟨r1, r10, r11, er1⟩ := take_app (l := [.lst (rows.map pr)]) c rfl hn dk k1 (m := 8) (by decide)
    obtain ⟨xD, hx, ex⟩ := at_lt (xs := NM8.map .str) r10 (by simpa [NM8] using r11)
    obtain ⟨x, hx8, rfl⟩ := List.mem_map.mp hx
    have ix := fun hq => ixV_t (hp := hq) ex
    simp only [NM8, List.map_cons, List.map_nil] at ix
    obtain ⟨r2, r20, r21, er2⟩ := take_app (l := [.lst (rows.map pr)]) c rfl hn dk (k1 + 1) (m := 4) (by decide)
    obtain ⟨wd, hwd, ewd⟩ := at_lt (xs := [.tuple [], .tuple [.str "0"], .tuple [.str "1"], .tuple [.str "0", .str "1"]]) r20 (by simpa using r21)
    have iw := fun hq => ixV_t (hp := hq) ewd
    have hw' : isW wd := by
      simp only [List.mem_cons, List.not_mem_nil, or_false] at hwd
      rcases hwd with rfl | rfl | rfl | rfl
      · exact ⟨[], by decide, rfl⟩
      · exact ⟨["0"], by decide, rfl⟩
      · exact ⟨["1"], by decide, rfl⟩
      · exact ⟨["0", "1"], by decide, rfl⟩
    have hsp : sd (pr (x, wd)) = true := by simp [pr, words_sd hw']
    have hdp : (pr (x, wd)).depth ≤ 64 := by have := words_depth hw'; simp [pr]; omega
    have hni := niV_lr (x := pr (x, wd)) (HM_at0 hp n ds (k1 + 1 + 1) (.lst (rows.map pr)) []) (.inl hdp)
    refine ⟨_, _, rfl, .inl ?_⟩
    by_cases hin : ((rows.map pr).any fun y => PyData.eqv y (pr (x, wd))) = true
    · rw [hin] at hni
      refine ⟨[some (.r n), some (.r hp.length), some (.d (.int t)), some (.d (.str x)), some (.d (pr (x, wd)))], HM hp n ds (k1 + 1 + 1) ++ [.lst (rows.map pr)], ?_, rows, _, _, _, _, rfl, rfl, by omega, nd, hw⟩
      rw [pr] at hni ⊢
      simp [er1, ix, er2, iw, hni]
    · have hin' : ((rows.map pr).any fun y => PyData.eqv y (pr (x, wd))) = false := by simpa using hin
      rw [hin'] at hni
      have hnew : (x, wd) ∉ rows := fun h => by
        rw [List.any_eq_false] at hin'
        exact hin' _ (List.mem_map.mpr ⟨_, h, rfl⟩) (eqv_self hsp)
      have a0 : ∀ (fe : Fe) (env : Sl), appO (.ok (.r hp.length) (HM hp n ds (k1 + 1 + 1) ++ [.lst (rows.map pr)])) fe env = appP hp.length (fe env (HM hp n ds (k1 + 1 + 1) ++ [.lst (rows.map pr)])) := fun fe env => e_appO (HM_at0 _ _ _ _ _ _)
      have a1 : appP hp.length (.ok (.d (pr (x, wd))) (HM hp n ds (k1 + 1 + 1) ++ [.lst (rows.map pr)])) = .ok (.d .none) (HM hp n ds (k1 + 1 + 1) ++ [.lst ((rows ++ [(x, wd)]).map pr)]) := by
        rw [e_appP (HM_at0 _ _ _ _ _ _) (by simp; omega), HM_set0]; simp
      refine ⟨[some (.r n), some (.r hp.length), some (.d (.int t)), some (.d (.str x)), some (.d (pr (x, wd)))], HM hp n ds (k1 + 1 + 1) ++ [.lst ((rows ++ [(x, wd)]).map pr)], ?_, rows ++ [(x, wd)], _, _, _, _, rfl, rfl, by simp; omega, nodup_snoc nd hnew, fun p hp => ?_⟩
      · rw [show pr (x, wd) = .tuple [.str x, wd] from rfl] at hni a1 ⊢
        simp [er1, ix, er2, iw, hni, a0]
        rw [a1]
        simp
      · rcases List.mem_append.mp hp with q | q
        · exact hw p q
        · rw [List.mem_singleton.mp q]; exact hw'
end K96
end
-- Sp12
section
set_option linter.all false
set_option maxRecDepth 100000
/-! Sp, part 12: what notes tell holds in the crate that they were seen in. -/
namespace Pin
open PySem Ms Pl
theorem follows_at : ∀ {rs tl : List (Str × D)} {b v : D}, Follows b (rs ++ tl) v → Follows (boxAt b rs) tl v
  | [], tl, b, v, h => h
  | (c, w) :: rs, tl, b, v, h => follows_at (rs := rs) h.2
/-- notes that are ways through boxes -/
def NotesIn (bs : List (Str × D)) (ns : List Note) : Prop := ∀ n ∈ ns, ∃ b, getD bs n.1 = some b ∧ Follows b n.2.1 n.2.2
theorem nx_sound {g : List (Str × D)} {m : List (Str × Str)} {ns : List Note} {bs : List (Str × D)} (h : NotesIn bs ns) {l : Str} {rs : List (Str × D)} (hr : OkR rs) {s : Pl.Step} (q : (stSys g m ns).nx l rs = some s) : (crSys g m bs).nx l rs = some s := by
  have q' : (ns.find? (noteIs l rs)).map (noteStep rs.length) = some s := q
  cases e : ns.find? (noteIs l rs) with
  | none => rw [e] at q'; cases q'
  | some n =>
    rw [e] at q'
    simp only [Option.map_some, Option.some.injEq] at q'
    obtain ⟨h1, h2⟩ := (noteIs_iff hr n).mp (List.find?_some e)
    obtain ⟨b, hb, hf⟩ := h n (List.mem_of_find?_eq_some e)
    rw [h1] at hb
    show (getD bs l).map _ = _
    rw [hb, Option.map_some, ← q']
    congr 1
    rw [← List.take_append_drop rs.length n.2.1, h2] at hf
    have hf' := follows_at hf
    unfold noteStep
    cases hd : n.2.1.drop rs.length with
    | nil =>
      rw [hd] at hf'
      have hl : n.2.1.length ≤ rs.length := by
        have := congrArg List.length hd
        rw [List.length_drop, List.length_nil] at this; omega
      have hl2 : rs.length ≤ n.2.1.length := by
        have := congrArg List.length h2
        rw [List.length_take] at this; omega
      rw [if_pos (by omega)]
      exact hf'
    | cons p tl =>
      rw [hd] at hf'
      have hl : rs.length < n.2.1.length := by
        have := congrArg List.length hd
        rw [List.length_drop, List.length_cons] at this; omega
      rw [if_neg (by omega)]
      have hp : n.2.1.getD rs.length ("", .none) = p := by
        have h3 := congrArg (fun l : List (Str × D) => l[0]?) hd
        simp only [List.getElem?_drop, Nat.add_zero, List.getElem?_cons_zero] at h3
        simp [List.getD, h3]
      rw [hp]
      exact hf'.1
theorem fol_sound {g : List (Str × D)} {m : List (Str × Str)} {ns : List Note} {bs : List (Str × D)} (h : NotesIn bs ns) {e e' : Str → Option Res} (he : ∀ c v, e c = some (.known v) → okV v ∧ e' c = some (.known v)) {l : Str} : ∀ {k : Nat} {rs : List (Str × D)} {v : D}, OkR rs → fol (stSys g m ns) e l k rs = some (.known v) → fol (crSys g m bs) e' l k rs = some (.known v)
  | 0, _, _, _, q => by cases q
  | k + 1, rs, v, hr, q => by
    cases hs : (stSys g m ns).nx l rs with
    | none => rw [fol_end hs] at q; cases q
    | some s =>
      have hs' := nx_sound h hr hs
      cases s with
      | tells w => rw [fol_tells hs] at q; rw [fol_tells hs']; exact q
      | asks c =>
        cases hc : e c with
        | none => rw [fol_stuck hs hc] at q; cases q
        | some r =>
          cases r with
          | run ch => rw [fol_run hs hc] at q; cases q
          | known w =>
            rw [fol_known hs hc] at q
            obtain ⟨hw, hc'⟩ := he c w hc
            rw [fol_known hs' hc']
            exact fol_sound h he (hr.snoc hw) q
theorem ev_sound {g : List (Str × D)} {m : List (Str × Str)} {ns : List Note} {bs : List (Str × D)} {LS : List Str} (B : BaseOk g m LS) (N : NotesOk ns) (h : NotesIn bs ns) : ∀ (n : Nat) (x : Str) (v : D), ev (stSys g m ns) n x = some (.known v) → lim (crSys g m bs) x = some (.known v)
  | n, x, v, q => by
    cases hg : getD g x with
    | some w =>
      have q' := lim_of q
      rw [lim_given (S := stSys g m ns) hg] at q'
      rw [lim_given (S := crSys g m bs) hg]; exact q'
    | none =>
      cases hm : mK m x with
      | none =>
        have q' := lim_of q
        rw [lim_free (S := stSys g m ns) hg hm] at q'
        rw [lim_free (S := crSys g m bs) hg hm]; exact q'
      | some l =>
        rw [lim_made (S := crSys g m bs) hg hm]
        cases n with
        | zero =>
          unfold ev at q
          rw [show (stSys g m ns).given x = none from hg, show (stSys g m ns).made x = some l from hm] at q
          cases q
        | succ n =>
          unfold ev at q
          rw [show (stSys g m ns).given x = none from hg, show (stSys g m ns).made x = some l from hm] at q
          exact fol_sound h (fun c w hc => ⟨ev_okN B N n c w hc, ev_sound B N h n c w hc⟩) OkR.nil q
theorem sound {g : List (Str × D)} {m : List (Str × Str)} {ns : List Note} {bs : List (Str × D)} {LS : List Str} (B : BaseOk g m LS) (N : NotesOk ns) (h : NotesIn bs ns) {x : Str} {v : D} (q : lim (stSys g m ns) x = some (.known v)) : lim (crSys g m bs) x = some (.known v) := let ⟨n, e⟩ := lim_ex q; ev_sound B N h n x v e
theorem StkOk.inn {g : List (Str × D)} {m : List (Str × Str)} {ns : List Note} {bs : List (Str × D)} (h : StkOk g m ns bs) : NotesIn bs ns := fun n hn => let ⟨b, e, _, f⟩ := (h.no n hn).fo; ⟨b, e, f⟩
end Pin
end
-- M96f
section
set_option linter.all false
set_option maxRecDepth 100000
/-! K96, mathematics, part f: the law on made stocks. -/
namespace K96
open PySem Ms Pl Pin

theorem Beh.refl {g : List (Str × D)} {m : List (Str × Str)} (B : BaseOk g m LS4) : Beh g m [] g m := ⟨B, fun x => by simp, fun x => by simp⟩
theorem fit_words {w : D} (h : isW w) (k : Nat) : fit (k + 2) w := by
  obtain ⟨ws, hl, rfl⟩ := h
  refine ⟨by simp [stl]; omega, fun x hx => ?_⟩
  obtain ⟨s, _, rfl⟩ := List.mem_map.mp hx
  trivial
theorem fit_okV {v : D} (h : okV v) (k : Nat) : fit (k + 3) v := by
  rcases h with ⟨r, _, rfl⟩ | ⟨ws, hl, rfl⟩
  · refine ⟨by simp, fun x hx => ?_⟩
    simp at hx
    rcases hx with rfl | rfl <;> trivial
  · refine ⟨by simp, fun x hx => ?_⟩
    simp at hx
    rcases hx with rfl | rfl
    · trivial
    · exact fit_words ⟨ws, hl, rfl⟩ k
theorem fit_rows {r : List (Str × D)} (h : RowsC r) (k : Nat) : fit (k + 4) (encG r) := by
  rw [encG_eq]
  refine ⟨by have := h.len; simp; omega, fun x hx => ?_⟩
  obtain ⟨p, hp, rfl⟩ := List.mem_map.mp hx
  refine ⟨by simp, fun y hy => ?_⟩
  simp at hy
  rcases hy with rfl | rfl
  · trivial
  · exact fit_words (h.gw p hp) k
theorem first_sub {P : List (Str × D) → Bool} {menu : List (Str × D)} : ∀ {k r : Nat} {y : List (Str × D)}, firstOf P menu k r = some y → y.Sublist menu ∧ P y = true
  | 0, r, y, h => by cases h
  | k + 1, r, y, h => by
    unfold firstOf at h
    cases q : (combs r menu).find? P with
    | some z => rw [q] at h; cases h; exact ⟨(comb_mem.mp (List.mem_of_find?_eq_some q)).1, List.find?_some q⟩
    | none => rw [q] at h; exact first_sub h
theorem fine_ok {hp : AH} (c : Cl hp) {g : List (Str × D)} {m : List (Str × Str)} {ns : List Note} {bs menu : List (Str × D)} (S : StkOk g m ns bs) (M : MenuOk menu) (x : Str) : F_l_fine [.d (encS g m ns), .d (encC g m bs), .d (.str x), .d (encG menu)] hp = .ok (.d (.bool true)) hp := by
  unfold F_l_fine G_l_fine b_l_fine
  have B := S.b.ok
  have N := S.notes
  have hg : g.length ≤ 50 := by have := S.b.rowsG.len; omega
  have h1 := least_choice_ok c B hg N M x
  have h2 := least_menu_ok c B hg N M x
  have e2 : ∀ hq : AH, ixV (.d (encS g m ns)) (.d (.int 2)) hq = .ok (.d (encNs ns)) hq := fun hq => by rw [encS, ix2]
  have e3 : ∀ hq : AH, ixV (.d (encC g m bs)) (.d (.int 2)) hq = .ok (.d (encG bs)) hq := fun hq => by rw [encC, ix2]
  cases hR : firstOf (good g m ns x) menu (menu.length + 1) 0 with
  | none =>
    rw [hR] at h1 h2
    have hi := is_ok 12 .none .none hp c trivial
    simp [h1, h2, opD, hi, sameD_self]
    exact trim_same c
  | some r =>
    rw [hR] at h1 h2
    obtain ⟨hs, hgd⟩ := first_sub hR
    have R := M.rc.sub hs
    have hi := is_ok 12 (encG r) (encG r) hp c (fit_rows R 8)
    rw [sameD_self] at hi
    have hno : isNone (.d (encG r)) = false := rfl
    unfold good at hgd
    simp only [Bool.and_eq_true, decide_eq_true_eq] at hgd
    obtain ⟨nd, hk⟩ := hgd
    obtain ⟨g', m', bh, hg', eb⟩ := behind_ok c B hg R nd ns
    rw [knw_eq bh] at hk
    have ek := known_ok c bh.ok N (by decide) x
    have hkk : (kindS (lim (stSys g' m' ns) x) = "known") = True := by
      have := kind_known (lim (stSys g' m' ns) x)
      rw [hk, decide_eq_true_eq] at this
      exact eq_true this
    obtain ⟨v, hv⟩ : ∃ v, lim (stSys g' m' ns) x = some (.known v) := by
      cases q : lim (stSys g' m' ns) x with
      | none => rw [q] at hk; cases hk
      | some a =>
        cases a with
        | known v => exact ⟨v, rfl⟩
        | run ch => rw [q] at hk; cases hk
    have hov := lim_okN bh.ok N hv
    have ef := found_ok bh.ok S.x.ok 12 [] x hp c List.nodup_nil (fun b hb => (by cases hb)) (by decide) (fun l _ _ => Dom.nil)
    rw [show stl [] = [] from rfl, sound bh.ok N S.inn hv] at ef
    have hi2 := is_ok 12 v v hp c (fit_okV hov 9)
    rw [sameD_self] at hi2
    have e1 : ∀ hq : AH, ixV (.d (knD (some (.known v)))) (.d (.int 1)) hq = .ok (.d v) hq := fun hq => by rw [knD, ix1]
    have hl : F_least_menu [.d (encS g' m' ns), .d (.str x), .d (encG menu)] hp = .ok (.d (.tuple [])) hp := by
      rw [least_menu_ok c bh.ok (by have := R.len; have := S.b.rowsG.len; omega) N M x]
      have hgd : good g' m' ns x [] = true := by
        unfold good
        rw [knw_eq (Beh.refl bh.ok), hk]; simp
      have : firstOf (good g' m' ns x) menu (menu.length + 1) 0 = some [] := by
        rw [firstOf, combs, List.find?_cons_of_pos hgd]
      rw [this]; rfl
    have hi3 := is_ok 12 (.tuple []) (.tuple []) hp c ⟨by simp, fun y hy => (by cases hy)⟩
    rw [sameD_self] at hi3
    rw [hv] at ek hkk
    have k0 := fun hq => kn0 (some (.known v)) hq
    simp [h1, h2, opD, hi, hno, eb, e2, encS_of, ek, k0, hkk, e3, encC_of, ef, resV, e1, hi2, hl, hi3]
    exact trim_same c
end K96
end
-- K96M1
section
set_option linter.all false
set_option maxRecDepth 100000
set_option maxHeartbeats 0
/-! K96: the law's fixed checks, by the kernel. -/
namespace K96
open PySem PySem.Spec PyProof.Rows L2 Pin Ms
theorem fixed_true (a b c : List (Str × D)) : F_l_fixed [] [.dct a, .dct b, .dct c] = .ok (.d (.bool true)) [.dct a, .dct b, .dct c] := by kernel_rfl
theorem more_true (a b c : List (Str × D)) : F_l_more [] [.dct a, .dct b, .dct c] = .ok (.d (.bool true)) [.dct a, .dct b, .dct c] := by kernel_rfl
end K96
end
-- M96g
section
set_option linter.all false
set_option maxRecDepth 100000
/-! K96, mathematics, part g: the law. -/
namespace K96
open PySem Ms Pl Pin

theorem disp_ok {f : Fe} {env : Sl} {hp h1 : AH} {ds : List Int} (hf : f env hp = .ok (.d (.list (ds.map .int))) h1) : dispN [("draws", f), ("at", cF (.int 0))] env hp = .ok (md ds 0) h1 := by
  have hm : mergeD [(("draws" : Str), PyData.list (ds.map .int)), ("at", .int 0)] = [(("draws" : Str), PyData.list (ds.map .int)), ("at", .int 0)] := merge_nd (by simp; decide +kernel)
  simp only [dispN, pairsF, hf, Out.bind, e_c, hm]
  rfl
/-- the law on one script cell -/
theorem names_ok {hp : AH} (c : Cl hp) {g : List (Str × D)} {m : List (Str × Str)} {ns : List Note} {bs menu : List (Str × D)} (S : StkOk g m ns bs) (M : MenuOk menu) (z0 z1 z2 z3 z7 : Option AV) : compO (.ok (NMB.map .str) hp) (nmB 7) yesT (callF (arF 4 F_l_fine) (consF (vF 4) (consF (vF 5) (consF (vF 7) (consF (vF 6) nilF))))) [7] [z0, z1, z2, z3, some (.d (encS g m ns)), some (.d (encC g m bs)), some (.d (encG menu)), z7] = .ok (.lst (NMB.map fun _ => .bool true)) hp := by
  refine e_compO (by decide) ?_
  rw [compD_mapT (f := fun _ => .bool true)]
  intro x hx
  exact ⟨_, rfl, by simp [fine_ok c S M x]⟩
theorem law_inner {hp : AH} {ds : List Int} (c : Cl hp) (dk : DrawsOk ds) (sc y1 y3 y4 y5 y6 y7 : Option AV) (k : Nat) : ∃ z3 z4 z5 z6 z7 k', forD (nmB 3) (seqS (asgS (tpB [nmB 4, nmB 5]) (callF (arF 1 F_l_stock) (consF (vF 2) nilF)))
  (seqS (setS 6 (callF (arF 1 F_l_menu) (consF (vF 2) nilF)))
  (ifS (notT (tstF (callF allC (consF (frzF (compN (itF (tupF (consF (cF (.str "a")) (consF (cF (.str "b")) (consF (cF (.str "c")) (consF (cF (.str "d")) (consF (cF (.str "e")) (consF (cF (.str "f")) (consF (cF (.str "x1")) (consF (cF (.str "zz")) nilF)))))))))) (nmB 7) yesT (callF (arF 4 F_l_fine) (consF (vF 4) (consF (vF 5) (consF (vF 7) (consF (vF 6) nilF))))) [7])) nilF)))) (retS (cF (.bool false))) nxS))) ((List.range 4).map fun (i : Nat) => PyData.int (i : Int)) [sc, y1, some (.r hp.length), y3, y4, y5, y6, y7] (hp ++ [md ds k]) = .nx [sc, y1, some (.r hp.length), z3, z4, z5, z6, z7] (hp ++ [md ds k']) := by
  have hHM : ∀ k, HM (hp ++ [md ds 0]) hp.length ds k = hp ++ [md ds k] := fun k => by simp [HM]
  have c' : Cl (hp ++ [md ds 0]) := c.app rfl
  have hl' : hp.length < (hp ++ [md ds 0]).length := by simp
  refine forR_inv (n := 4) (fun t env h => ∃ z3 z4 z5 z6 z7 k', env = [sc, y1, some (.r hp.length), z3, z4, z5, z6, z7] ∧ h = hp ++ [md ds k']) (fun o => ∃ z3 z4 z5 z6 z7 k', o = .nx [sc, y1, some (.r hp.length), z3, z4, z5, z6, z7] (hp ++ [md ds k'])) ?_ ?_ ⟨y3, y4, y5, y6, y7, k, rfl, rfl⟩
  · rintro env h ⟨z3, z4, z5, z6, z7, k', rfl, rfl⟩
    exact ⟨z3, z4, z5, z6, z7, k', rfl⟩
  · rintro t env h ht ⟨z3, z4, z5, z6, z7, k', rfl, rfl⟩
    obtain ⟨g, m, ns, bs, k1, S, es⟩ := stock_ok c' hl' dk k'
    obtain ⟨menu, k2, M, em⟩ := menu_ok c' hl' dk k1
    rw [hHM, hHM] at es em
    have hn := names_ok (hp := hp ++ [md ds k2]) (c.app rfl) S M sc y1 (some (.r hp.length)) (some (.d (.int t))) z7
    simp only [NMB, List.map_cons, List.map_nil] at hn
    have hal : ∀ hq : AH, allC [.d (.list [.bool true, .bool true, .bool true, .bool true, .bool true, .bool true, .bool true, .bool true])] hq = .ok (.d (.bool true)) hq := fun hq => rfl
    refine ⟨_, _, rfl, .inl ⟨[sc, y1, some (.r hp.length), some (.d (.int t)), some (.d (encS g m ns)), some (.d (encC g m bs)), some (.d (encG menu)), z7], hp ++ [md ds k2], ?_, _, _, _, _, _, _, rfl, rfl⟩⟩
    simp [es, em, hn, hal]
theorem math (ns : List Int) (hn : ns.length ≤ 63) : ∃ h, F_law [.d (.list (ns.map PyData.int))] [] = .ok (.d (.bool true)) h := by
  unfold F_law G_law b_law
  have hr3 : ∀ h, rgO (.ok (.d (.int 3)) h) = .ok ((List.range 3).map fun (i : Nat) => PyData.int (i : Int)) h := fun h => e_rgO (n := 3) h (by decide)
  have hr4 : ∀ h, rgO (.ok (.d (.int 4)) h) = .ok ((List.range 4).map fun (i : Nat) => PyData.int (i : Int)) h := fun h => e_rgO (n := 4) h (by decide)
  simp only [e_fn, e_start, List.map_cons, List.map_nil, List.length_cons, List.length_nil, Nat.reduceSub, Nat.reduceAdd, List.replicate, List.cons_append, List.nil_append, e_seq, e_for, e_rg, e_c, hr3, e_forO]
  refine forR_inv (n := 3) (fun t env h => ∃ y1 y2 y3 y4 y5 y6 y7, env = [some (.d (.list (ns.map PyData.int))), y1, y2, y3, y4, y5, y6, y7] ∧ h.length = t ∧ ∀ o ∈ h, ∃ kv, o = .dct kv)
    (fun o => ∃ h, fnO 0 [] (seqO o (retS (andF (callF (arF 0 F_l_fixed) nilF) (callF (arF 0 F_l_more) nilF)))) = .ok (.d (.bool true)) h) ?_ ?_ ⟨none, none, none, none, none, none, none, rfl, rfl, fun o h => (by cases h)⟩
  · rintro env h ⟨y1, y2, y3, y4, y5, y6, y7, rfl, hl, ho⟩
    obtain ⟨a, b, c, rfl⟩ : ∃ a b c, h = [.dct a, .dct b, .dct c] := by
      match h, hl with
      | [o1, o2, o3], _ =>
        obtain ⟨a, rfl⟩ := ho o1 (by simp)
        obtain ⟨b, rfl⟩ := ho o2 (by simp)
        obtain ⟨c, rfl⟩ := ho o3 (by simp)
        exact ⟨a, b, c, rfl⟩
    refine ⟨[], ?_⟩
    simp [fixed_true, more_true]
    rfl
  · rintro t env h ht ⟨y1, y2, y3, y4, y5, y6, y7, rfl, hl, ho⟩
    have c : Cl h := closed_noIns (by
      unfold noIns
      rw [List.all_eq_true]
      intro o hq
      obtain ⟨kv, rfl⟩ := ho o hq; rfl)
    obtain ⟨z, ez⟩ := cell_ok c ns t (by omega)
    obtain ⟨ds, hds, ed⟩ := draws_ok c z 500 (by decide)
    have dk : DrawsOk ds := ⟨fun e => (by rw [e] at hds; cases hds), by omega⟩
    have ed' : F_l_draws [.d (.int z), .d (.int 500)] h = .ok (.d (.list (ds.map .int))) h := ed
    have hdi := disp_ok (f := callF (arF 2 F_l_draws) (consF (callF (arF 2 F_l_cell) (consF (vF 0) (consF (vF 1) nilF))) (consF (cF (.int 500)) nilF))) (env := [some (.d (.list (ns.map PyData.int))), some (.d (.int t)), y2, y3, y4, y5, y6, y7]) (hp := h) (h1 := h) (ds := ds) (by simp [ez, ed'])
    obtain ⟨z3, z4, z5, z6, z7, k', ei⟩ := law_inner c dk (some (.d (.list (ns.map PyData.int)))) (some (.d (.int t))) y3 y4 y5 y6 y7 0
    refine ⟨_, _, rfl, .inl ⟨[some (.d (.list (ns.map PyData.int))), some (.d (.int t)), some (.r h.length), z3, z4, z5, z6, z7], h ++ [md ds k'], ?_, _, _, _, _, _, _, _, rfl, by simp [hl], fun o hq => ?_⟩⟩
    · simp only [e_nm, e_setS, e_set0, e_seq, e_set, e_alloc, hdi, e_allocO, e_setO, e_seqO, e_for, e_rg, e_c, hr4, e_forO]
      exact ei
    · rcases List.mem_append.mp hq with q | q
      · exact ho o q
      · rw [List.mem_singleton.mp q]; exact ⟨_, rfl⟩
end K96
end
-- K96Top
set_option maxRecDepth 100000
set_option maxHeartbeats 0
open PySem PySem.W PyProof.Rows
open_top head for PySem.Challenge.rw_kilnrow_k96_whole_given_texts_out_of_a_m
theorem PySem.Challenge.cw_kilnrow_k96_whole_given_texts_out_of_a_m_holds : PySem.Challenge.rw_kilnrow_k96_whole_given_texts_out_of_a_m.Holds := by
  w_on; o_law; k_head; (case hw => w_witness2)
  k_fill
  refine Pin.law_walk (l := PySem.Challenge.rw_kilnrow_k96_whole_given_texts_out_of_a_m) (k := 38) (G := K96.F_law) rfl rfl ⟨rfl, by decide, by decide⟩ (fun w h Y => PySem.W.kIn_of Y) ?F K96.math
  case F =>
    intro w mg fa h KX G hmg
    have e := K96.fc_of (P := PySem.Challenge.rw_kilnrow_k96_whole_given_texts_out_of_a_m.prog) KX G ?s ?sb_Unknown ?ty_Unknown ?T_Unknown
    · obtain ⟨fd, hb, hF⟩ := K96.fn_lawX (w := w) (Nat.le_refl 37) e
      cases hmg.symm.trans e.h_law
      exact ⟨fd, hb, fun base _ _ => hF base⟩
    case s => show Pin.obsX _ _ _ _ = _; kernel_rfl
    case sb_Unknown => kernel_rfl
    case ty_Unknown => kernel_rfl
    case T_Unknown =>
      refine K96.T_of ?z1 ?z2 ?z3 ?z4 ?z5 ?z6 ?z7 ?z8 ?z9
      case z1 => kernel_rfl
      case z2 => kernel_rfl
      case z3 => kernel_rfl
      case z4 => kernel_rfl
      case z5 => kernel_rfl
      case z6 => kernel_rfl
      case z7 => kernel_rfl
      case z8 => kernel_rfl
      case z9 => kernel_rfl
