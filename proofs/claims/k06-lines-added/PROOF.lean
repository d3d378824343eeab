import PyProof.Rows.All
import Wide.All
import OpenK.AllK
import Wide.FinOn
import HandS.ForMost
import HandS.Walk
import HandS.Wide
import HandS.Flow
import HandS.Star
import HandS.Zip
import HandS.IsInst
import HandS.Deep
import HandS.SortInts
import HandS.SortKw
import HandS.TupAny
import HandS.Defaults
import HandS.Slots
import PyProof.ReprReads
import KE.KeyNested
import KE.GoesMore
import HandS.More
import HandS.TupMul
import HandS.Style
import KE.DataMinMax
import HandS.HeadEnd
import HandS.EndBits
import HandS.RevTup
import HandS.Strs
import HandS.SetFor
import HandS.Conv
import HandS.ExcInit
import HandS.ExcIs
import HandS.ExcValue
import HandS.HeadHook4
import KE.KExcInit
import KE.KExcSuper
import KE.KSuper
import KE.KExcIs
import HandS.HeadHook2
import HandS.SlotsOwn
import KE.KStateDown
import HandS.Head0
import HandS.Head1
import HandS.Head2
import HandS.HeadHook1
import PySem.Challenge.RW_cutsmaller_k06_lines_added
set_option Elab.async false
set_option linter.all false
set_option maxRecDepth 100000
/-! Cm: a small semantics of plain data (Option), sound over the hand layer -/
namespace Cm
open PySem PySem.Spec PyProof.Rows L2

/-! ### a dict whose keys are tuples, while it is filled -/
abbrev NkE : Type := NestedKey × Addr × Value
/-- its one object -/
def nkP (P : Program) (w : World) (d : Addr) (xs : List NkE) (h : Heap) : Prop := ∃ o es ep, h.get? d = some o ∧ o.ExactDict ∧ o.data = .dict es ep ∧ es.toList = xs.map (entryOfKey (nestedKind P w)) ∧ (xs.map (·.1)).Nodup
def NkO (P : Program) (w : World) (d : Addr) (xs : List NkE) : HO := .ext (nkP P w d xs)
theorem rel_all (v : V) : ∃ u, RelV v u := by
  cases v with
  | non => exact ⟨_, rfl⟩
  | bl b => exact ⟨_, rfl⟩
  | int i => exact ⟨.int i default, _, rfl⟩
  | str x => exact ⟨.str x default, _, rfl⟩
  | byt b => exact ⟨.bytes b default, _, rfl⟩
  | flt b => exact ⟨.float b default, _, rfl⟩
  | ref a => exact ⟨_, rfl⟩
  | ty n => exact ⟨_, rfl⟩
theorem rels_all : ∀ vs : List (Option V), ∃ us : Array (Option Value), SlX.SlR vs us := fun vs => by
  refine ⟨(vs.map fun o => o.map fun v => (rel_all v).choose).toArray, fun i v h => ⟨(rel_all v).choose, ?_, (rel_all v).choose_spec⟩⟩
  simp [h]
theorem one_at (o : Obj) (ho : o.isFreed = false) : ∀ a : Addr, ∃ h : Heap, h.objs.size = a + 1 ∧ h.get? a = some o
  | 0 => ⟨({} : Heap).push o, by simp [Heap.push], Heap.get?_push_size _ ho⟩
  | a + 1 => by
    obtain ⟨h, h1, _⟩ := one_at o ho a
    exact ⟨h.push o, by simp [Heap.push, h1], by rw [← h1]; exact Heap.get?_push_size _ ho⟩
theorem nk_slo {P : Program} {w : World} {d a C dx : Addr} {xs : List NkE} {vs : List (Option V)} (ha : a = d) : NkO P w d xs ≠ SlX.SlO a C dx vs := fun z => by
  subst ha
  obtain ⟨us, hu⟩ := rels_all vs
  obtain ⟨h, _, hh⟩ := one_at { PySem.W.instObj C dx with slots := us } rfl a
  have e := HO.ext.inj z
  have : nkP P w a xs h := by
    rw [congrFun e h]
    exact ⟨us, hh, hu⟩
  obtain ⟨o, es, ep, h1, _, h2, _⟩ := this
  rw [hh] at h1
  cases h1
  cases h2
/-! ### values: data, a list of the store that may change, the script -/
inductive U where
  | d (x : PyData)
  | l (n : Nat)
  | s (ns : List Int)
  | k (kd : List (Int × PyData))
  | o (C n : Nat)
  | p (C n : Nat)
  | q (C : Nat) (ns : List Nat)
abbrev Sto := List (Option (List PyData))
abbrev Ev := List (Option U)
abbrev SE := Ev → Sto → Option (U × Sto)
abbrev SA := Ev → Sto → Option (List U × Sto)
abbrev SB := Ev → Sto → Option (Bool × Sto)

/-- one entry ((a, n), m) of a dict, told -/
def enD (e : (Int × Int) × Int) : PyData := .tuple [.tuple [.int e.1.1, .int e.1.2], .int e.2]
abbrev Ens : Type := List (Addr × (Int × Int) × Int)
/-- the entries as the dict's own object holds them, each key at an address -/
def DtE (es : Array DictEntry) (xs : Ens) : Prop := (es.size = xs.length ∧ (xs.map fun x => x.2.1).Nodup) ∧ ∀ (i : Nat) (x : Addr × (Int × Int) × Int), xs[i]? = some x → ∃ en t, es[i]? = some en ∧ (en.key = .ref x.1 ∧ en.val = .int x.2.2 t) ∧ ∀ w : World, en.hash = (NestedKey.tup [.num x.2.1.1, .num x.2.1.2]).hash w
/-- an exception object of the class at C, of which nothing is told -/
abbrev exnD (C : Addr) : PyData := .dict [(.bool false, .int (C : Nat))]
mutual
inductive Dq (F : Hp) : V → PyData → Prop
  | non : Dq F .non .none
  | bl (b : Bool) : Dq F (.bl b) (.bool b)
  | int (i : Int) : Dq F (.int i) (.int i)
  | str (x : Str) : Dq F (.str x) (.str x)
  | lst {a : Addr} {xs : List V} {ds : List PyData} : F a = some (.lst xs) → DqA F xs ds → Dq F (.ref a) (.list ds)
  | tup {a : Addr} {xs : List V} {ds : List PyData} : F a = some (.tup xs) → DqA F xs ds → Dq F (.ref a) (.tuple ds)
  | obj {a dx C : Addr} {xs : List V} {ds : List PyData} : F a = some (SlX.SlO a C dx (xs.map some)) → F dx = some (.xd []) → DqA F xs ds → Dq F (.ref a) (.dict [(.int (C : Nat), .list ds)])
  | hid (a : Addr) : Dq F (.ref a) (.dict [])
  | exn {a C : Addr} {o : Obj} {Pr : Heap → Prop} {vs : Array Value} : F a = some (.frz o (.ext Pr)) → o.cls = .ref C → o.data = .fields vs → (∀ dx, o.dict = some dx → ∃ fs, F dx = some (.xd fs)) → Dq F (.ref a) (exnD C)
  | dtt {a : Addr} {o : Obj} {Pr : Heap → Prop} {es : Array DictEntry} {ep : Nat} {xs : Ens} : F a = some (.frz o (.ext Pr)) → (a == sysModules) = false → o.ExactDict → o.data = .dict es ep → DtE es xs → (∀ x ∈ xs, F x.1 = some (.tup [.int x.2.1.1, .int x.2.1.2])) → Dq F (.ref a) (.dict [(.bool true, .list (xs.map fun x => enD x.2))])
inductive DqA (F : Hp) : List V → List PyData → Prop
  | nil : DqA F [] []
  | cons {v : V} {vs : List V} {d : PyData} {ds : List PyData} : Dq F v d → DqA F vs ds → DqA F (v :: vs) (d :: ds)
end

section
variable {F F' H : Hp} {K : PySem.W.Frag}
mutual
theorem Dq.mono (e : Same F F') : ∀ {v : V} {d : PyData}, Dq F v d → Dq F' v d
  | _, _, .non => .non
  | _, _, .bl b => .bl b
  | _, _, .int i => .int i
  | _, _, .str x => .str x
  | _, _, .lst h a => .lst (e _ _ h) (DqA.mono e a)
  | _, _, .tup h a => .tup (e _ _ h) (DqA.mono e a)
  | _, _, .obj h g a => .obj (e _ _ h) (e _ _ g) (DqA.mono e a)
  | _, _, .hid v => .hid v
  | _, _, .exn h c d k => .exn (e _ _ h) c d fun dx z => let ⟨fs, q⟩ := k dx z; ⟨fs, e _ _ q⟩
  | _, _, .dtt h n x d t k => .dtt (e _ _ h) n x d t fun y hy => e _ _ (k y hy)
theorem DqA.mono (e : Same F F') : ∀ {vs : List V} {ds : List PyData}, DqA F vs ds → DqA F' vs ds
  | _, _, .nil => .nil
  | _, _, .cons h t => .cons (Dq.mono e h) (DqA.mono e t)
end
mutual
theorem Dq.dp : ∀ {v : V} {d : PyData}, d.hasDict = false → Dq F v d → Dp K F v d
  | _, _, _, .non => .non
  | _, _, _, .bl b => .bl b
  | _, _, _, .int i => .int i
  | _, _, _, .str x => .str x
  | _, _, c, .lst h a => .lst (SqL.of h) (DqA.dp (by rwa [PyData.hasDict] at c) a)
  | _, _, c, .tup h a => .tup (SqT.of h) (DqA.dp (by rwa [PyData.hasDict] at c) a)
  | _, _, c, .obj _ _ _ => by rw [PyData.hasDict] at c; cases c
  | _, _, c, .hid _ => by rw [PyData.hasDict] at c; cases c
  | _, _, c, .exn _ _ _ _ => by rw [PyData.hasDict] at c; cases c
  | _, _, c, .dtt _ _ _ _ _ _ => by rw [PyData.hasDict] at c; cases c
theorem DqA.dp : ∀ {vs : List V} {ds : List PyData}, PyData.hasDictAll ds = false → DqA F vs ds → DpAll K F vs ds
  | _, _, _, .nil => .nil
  | _, _, c, .cons h t => .cons (Dq.dp (by rw [PyData.hasDictAll] at c; exact (Bool.or_eq_false_iff.mp c).1) h) (DqA.dp (by rw [PyData.hasDictAll] at c; exact (Bool.or_eq_false_iff.mp c).2) t)
end
mutual
theorem lay_nodict : ∀ {d : PyData}, PyData.canLay0 d = true → d.hasDict = false
  | .none, _ => rfl
  | .bool _, _ => rfl
  | .int _, _ => rfl
  | .str _, _ => rfl
  | .list xs, h => by
    rw [PyData.canLay0] at h
    rw [PyData.hasDict]
    exact layAll_nodict h
  | .tuple xs, h => by
    rw [PyData.canLay0] at h
    rw [PyData.hasDict]
    exact layAll_nodict h
  | .dict _, h => by rw [PyData.canLay0] at h; cases h
theorem layAll_nodict : ∀ {ds : List PyData}, PyData.canLayAll0 ds = true → PyData.hasDictAll ds = false
  | [], _ => rfl
  | d :: ds, h => by
    rw [PyData.canLayAll0, Bool.and_eq_true] at h
    rw [PyData.hasDictAll, lay_nodict h.1, layAll_nodict h.2]
    rfl
end
theorem DqA.length : ∀ {vs : List V} {ds : List PyData}, DqA F vs ds → vs.length = ds.length
  | _, _, .nil => rfl
  | _, _, .cons _ t => by simp [DqA.length t]
theorem DqA.append : ∀ {vs ws : List V} {ds es : List PyData}, DqA F vs ds → DqA F ws es → DqA F (vs ++ ws) (ds ++ es)
  | _, _, _, _, .nil, h => h
  | _, _, _, _, .cons a t, h => .cons a (DqA.append t h)
theorem DqA.get : ∀ {vs : List V} {ds : List PyData} {i : Nat} {v : V}, DqA F vs ds → vs[i]? = some v → ∃ d, ds[i]? = some d ∧ Dq F v d
  | _, _, _, _, .nil, e => by simp at e
  | _, _, 0, _, .cons a _, e => by
    simp only [List.getElem?_cons_zero, Option.some.injEq] at e
    subst e
    exact ⟨_, rfl, a⟩
  | _, _, i + 1, _, .cons _ t, e => by
    rw [List.getElem?_cons_succ] at e ⊢
    exact DqA.get t e
theorem DqA.get' : ∀ {vs : List V} {ds : List PyData} {i : Nat} {d : PyData}, DqA F vs ds → ds[i]? = some d → ∃ v, vs[i]? = some v ∧ Dq F v d
  | _, _, _, _, .nil, e => by simp at e
  | _, _, 0, _, .cons a _, e => by
    simp only [List.getElem?_cons_zero, Option.some.injEq] at e
    subst e
    exact ⟨_, rfl, a⟩
  | _, _, i + 1, _, .cons _ t, e => by
    rw [List.getElem?_cons_succ] at e ⊢
    exact DqA.get' t e
theorem DqA.take : ∀ {vs : List V} {ds : List PyData} (n : Nat), DqA F vs ds → DqA F (vs.take n) (ds.take n)
  | _, _, 0, _ => .nil
  | _, _, _ + 1, .nil => .nil
  | _, _, n + 1, .cons a t => .cons a (DqA.take n t)
theorem DqA.drop : ∀ {vs : List V} {ds : List PyData} (n : Nat), DqA F vs ds → DqA F (vs.drop n) (ds.drop n)
  | _, _, 0, h => h
  | _, _, _ + 1, .nil => .nil
  | _, _, n + 1, .cons _ t => DqA.drop n t
theorem DqA.set {v : V} {d : PyData} (h : Dq F v d) : ∀ {vs : List V} {ds : List PyData} (n : Nat), DqA F vs ds → DqA F (vs.set n v) (ds.set n d)
  | _, _, _, .nil => .nil
  | _, _, 0, .cons _ t => .cons h t
  | _, _, n + 1, .cons a t => .cons a (DqA.set h n t)
theorem DqA.reverse : ∀ {vs : List V} {ds : List PyData}, DqA F vs ds → DqA F vs.reverse ds.reverse
  | _, _, .nil => .nil
  | _, _, .cons a t => by
    simp only [List.reverse_cons]
    exact (DqA.reverse t).append (.cons a .nil)
theorem DqA.eraseIdx : ∀ {vs : List V} {ds : List PyData} (n : Nat), DqA F vs ds → DqA F (vs.eraseIdx n) (ds.eraseIdx n)
  | _, _, _, .nil => .nil
  | _, _, 0, .cons _ t => t
  | _, _, n + 1, .cons a t => .cons a (DqA.eraseIdx n t)
theorem DqA.dropLast : ∀ {vs : List V} {ds : List PyData}, DqA F vs ds → DqA F vs.dropLast ds.dropLast
  | _, _, .nil => .nil
  | _, _, .cons _ .nil => .nil
  | _, _, .cons a (.cons b t) => .cons a (DqA.dropLast (.cons b t))
theorem DqA.rep {vs : List V} {ds : List PyData} (h : DqA F vs ds) : ∀ n : Nat, DqA F (List.replicate n vs).flatten (List.replicate n ds).flatten
  | 0 => .nil
  | n + 1 => by
    simp only [List.replicate_succ, List.flatten_cons]
    exact h.append (DqA.rep h n)
theorem DqA.ints : ∀ {ns : List Int}, DqA F (ns.map V.int) (ns.map PyData.int)
  | [] => .nil
  | n :: ns => .cons (.int n) DqA.ints
theorem DqA.of_ints : ∀ {ns : List Int} {vs : List V}, DqA F vs (ns.map PyData.int) → vs = ns.map V.int
  | [], _, .nil => rfl
  | n :: ns, _, .cons (.int _) t => by simp [DqA.of_ints t]
theorem DqA.of_bools : ∀ {bs : List Bool} {vs : List V}, DqA F vs (bs.map PyData.bool) → vs = bs.map V.bl
  | [], _, .nil => rfl
  | b :: bs, _, .cons (.bl _) t => by simp [DqA.of_bools t]
theorem DqA.of_strs : ∀ {bs : List Str} {vs : List V}, DqA F vs (bs.map PyData.str) → vs = bs.map V.str
  | [], _, .nil => rfl
  | b :: bs, _, .cons (.str _) t => by simp [DqA.of_strs t]
end

/-! ### a dict with ints for keys, read alone -/
inductive KR (F : Hp) : List (Key × V) → List (Int × PyData) → Prop
  | nil : KR F [] []
  | cons {i : Int} {v : V} {d : PyData} {ks : List (Key × V)} {kd : List (Int × PyData)} : Dq F v d → KR F ks kd → KR F ((.inl i, v) :: ks) ((i, d) :: kd)
theorem KR.mono {F F' : Hp} (e : Same F F') : ∀ {ks : List (Key × V)} {kd : List (Int × PyData)}, KR F ks kd → KR F' ks kd
  | _, _, .nil => .nil
  | _, _, .cons h t => .cons (h.mono e) (KR.mono e t)
/-! ### a heap that grew by new frozen things alone -/
structure Grow (F H F' H' : Hp) : Prop where
  ff : Same F F'
  hh : Same H H'
  fh : Same F' H'
  fr : ∀ a o, H a = some o → F a = none → F' a = none
theorem Grow.refl {F H : Hp} (h : Same F H) : Grow F H F H := ⟨Same.refl _, Same.refl _, h, fun _ _ _ n => n⟩
theorem Grow.trans {F H F1 H1 F2 H2 : Hp} (a : Grow F H F1 H1) (b : Grow F1 H1 F2 H2) : Grow F H F2 H2 :=
  ⟨a.ff.trans b.ff, a.hh.trans b.hh, b.fh, fun c o e n => b.fr c o (a.hh _ _ e) (a.fr c o e n)⟩
theorem same_upd {H : Hp} {p : Addr} {o : HO} (h : H p = none) : Same H (upd H p o) := fun b x e => by
  rw [upd_ne (ne_of_none e h)]
  exact e
theorem upd_mono {F H : Hp} {p : Addr} {o : HO} (h : Same F H) : Same (upd F p o) (upd H p o) := fun b x e => by
  by_cases hb : b = p
  · subst hb
    rw [upd_same] at e ⊢
    exact e
  · rw [upd_ne hb] at e ⊢
    exact h _ _ e
theorem Grow.new {F H : Hp} {p : Addr} {o : HO} (h : Same F H) (n : H p = none) : Grow F H (upd F p o) (upd H p o) := by
  have nf : F p = none := h.free n
  refine ⟨same_upd nf, same_upd n, upd_mono h, fun a u e nn => ?_⟩
  rw [upd_ne (ne_of_none e n)]
  exact nn

/-! ### the store: each cell's address, and of what kind it is: 0 a list, 1 a list of an object's own, C + 2 an object of the class at C (its two lists behind it) -/
abbrev Rho := List (Addr × Nat)
def Ad (ρ : Rho) (n : Nat) (a : Addr) : Prop := ∃ k, ρ[n]? = some (a, k)
theorem Ad.eq {ρ : Rho} {n : Nat} {a b : Addr} {k : Nat} (h : Ad ρ n a) (e : ρ[n]? = some (b, k)) : a = b := by
  obtain ⟨k', h⟩ := h
  rw [e] at h
  cases h
  rfl
theorem Ad.eq2 {ρ : Rho} {n : Nat} {a b : Addr} (h : Ad ρ n a) (e : Ad ρ n b) : b = a := (h.eq e.choose_spec).symm
theorem Ad.of {ρ : Rho} {n : Nat} {a : Addr} {k : Nat} (e : ρ[n]? = some (a, k)) : Ad ρ n a := ⟨k, e⟩
theorem lst_slo {a b C dx : Addr} {xs : List V} {vs : List (Option V)} {H : Hp} (h1 : H a = some (.lst xs)) (h2 : H b = some (SlX.SlO b C dx vs)) : b ≠ a := fun z => by
  rw [z, h1] at h2
  have := Option.some.inj h2
  unfold SlX.SlO at this
  cases this
/-- the objects of the store: their class, their dict, their two lists -/
structure ObjsOk (ρ : Rho) (F H : Hp) : Prop where
  at_ : ∀ (n : Nat) (a C : Addr), ρ[n]? = some (a, C + 2) → ∃ dx l e k1 k2, ρ[n + 1]? = some (l, k1) ∧ ρ[n + 2]? = some (e, k2) ∧ k1 < 2 ∧ k2 < 2 ∧ H a = some (SlX.SlO a C dx [some (.ref e), some (.ref l)]) ∧ F dx = some (.xd []) ∧ F a = none
  inj : ∀ (n m : Nat) (a C D : Addr), ρ[n]? = some (a, C + 2) → ρ[m]? = some (a, D + 2) → n = m
theorem Ad.more {ρ r : Rho} {n : Nat} {a : Addr} (h : Ad ρ n a) : Ad (ρ ++ r) n a := by
  obtain ⟨k, e⟩ := h
  exact ⟨k, by rw [List.getElem?_append_left (List.getElem?_eq_some_iff.mp e).1]; exact e⟩
theorem Ad.old {ρ r : Rho} {n : Nat} {a : Addr} (h : Ad (ρ ++ r) n a) (hl : n < ρ.length) : Ad ρ n a := by
  obtain ⟨k, e⟩ := h
  rw [List.getElem?_append_left hl] at e
  exact ⟨k, e⟩
theorem Ad.last {ρ : Rho} {p a : Addr} {k n : Nat} (h : Ad (ρ ++ [(p, k)]) n a) (e : n = ρ.length) : a = p := by
  obtain ⟨k', h⟩ := h
  subst e
  simp at h
  exact h.1.symm
theorem Ad.new {ρ : Rho} {p : Addr} {k n : Nat} (e : n = ρ.length) : Ad (ρ ++ [(p, k)]) n p := ⟨k, by subst e; simp⟩
structure HR (ρ : Rho) (F H : Hp) (st : Sto) : Prop where
  sub : Same F H
  cell : ∀ (n : Nat) (xs : List PyData), st[n]? = some (some xs) → ∃ a vs, Ad ρ n a ∧ H a = some (.lst vs) ∧ F a = none ∧ DqA F vs xs
  inj : ∀ (n m : Nat) (a : Addr), Ad ρ n a → Ad ρ m a → (∃ xs, st[n]? = some (some xs)) → (∃ xs, st[m]? = some (some xs)) → n = m
  len : ρ.length = st.length
  obj : ObjsOk ρ F H
theorem ObjsOk.nil {F H : Hp} : ObjsOk [] F H := ⟨fun n a C e => by simp at e, fun n m a C D e => by simp at e⟩
theorem ObjsOk.to {ρ : Rho} {F H F' H' : Hp} (h : ObjsOk ρ F H) (ff : Same F F') (k : ∀ (a : Addr) (C dx : Addr) (vs : List (Option V)), H a = some (SlX.SlO a C dx vs) → F a = none → H' a = some (SlX.SlO a C dx vs) ∧ F' a = none) : ObjsOk ρ F' H' :=
  ⟨fun n a C e => let ⟨dx, l, e1, k1, k2, h1, h2, h3, h4, h5, h6, h7⟩ := h.at_ n a C e; ⟨dx, l, e1, k1, k2, h1, h2, h3, h4, (k a C dx _ h5 h7).1, ff _ _ h6, (k a C dx _ h5 h7).2⟩, h.inj⟩
theorem ObjsOk.to2 {ρ : Rho} {F H F' H' : Hp} (h : ObjsOk ρ F H) (ff : ∀ dx, F dx = some (.xd []) → F' dx = some (.xd [])) (k : ∀ (a : Addr) (C dx : Addr) (vs : List (Option V)), H a = some (SlX.SlO a C dx vs) → F a = none → H' a = some (SlX.SlO a C dx vs) ∧ F' a = none) : ObjsOk ρ F' H' :=
  ⟨fun n a C e => let ⟨dx, l, e1, k1, k2, h1, h2, h3, h4, h5, h6, h7⟩ := h.at_ n a C e; ⟨dx, l, e1, k1, k2, h1, h2, h3, h4, (k a C dx _ h5 h7).1, ff _ h6, (k a C dx _ h5 h7).2⟩, h.inj⟩
theorem ins_slo {a b C dx D dy : Addr} {fs : List (Str × V)} {vs : List (Option V)} {H : Hp} (h1 : H a = some (.ins D dy fs)) (h2 : H b = some (SlX.SlO b C dx vs)) : b ≠ a := fun z => by
  rw [z, h1] at h2
  have := Option.some.inj h2
  unfold SlX.SlO at this
  cases this
theorem own_slo {a b C dx y : Addr} {vs : List (Option V)} {H : Hp} (h1 : H a = some (.own y)) (h2 : H b = some (SlX.SlO b C dx vs)) : b ≠ a := fun z => by
  rw [z, h1] at h2
  have := Option.some.inj h2
  unfold SlX.SlO at this
  cases this
theorem ObjsOk.grow {ρ : Rho} {F H F' H' : Hp} (h : ObjsOk ρ F H) (g : Grow F H F' H') : ObjsOk ρ F' H' := h.to g.ff fun a C dx vs e n => ⟨g.hh _ _ e, g.fr _ _ e n⟩
/-- a list is written -/
theorem ObjsOk.write {ρ : Rho} {F H : Hp} (h : ObjsOk ρ F H) {b : Addr} {vs ws : List V} (hb : H b = some (.lst vs)) : ObjsOk ρ F (upd H b (.lst ws)) := h.to (Same.refl _) fun a C dx us e n => ⟨by rw [upd_ne (lst_slo hb e)]; exact e, n⟩
/-- a list is frozen -/
theorem ObjsOk.frz {ρ : Rho} {F H : Hp} (h : ObjsOk ρ F H) {b : Addr} {vs : List V} (hb : H b = some (.lst vs)) (nb : F b = none) : ObjsOk ρ (upd F b (.lst vs)) H := h.to (same_upd nb) fun a C dx us e n => ⟨e, by rw [upd_ne (lst_slo hb e)]; exact n⟩
theorem get_push {ρ : Rho} {n : Nat} {p a : Addr} {k : Nat} (e : (ρ ++ [(p, 0)])[n]? = some (a, k + 2)) : ρ[n]? = some (a, k + 2) := by
  rw [List.getElem?_append] at e
  split at e
  · exact e
  · cases hq : n - ρ.length with
    | zero => rw [hq] at e; simp at e
    | succ q => rw [hq] at e; simp at e
theorem get_more {ρ : Rho} {n : Nat} {x : Addr × Nat} {ρ2 : Rho} (e : ρ[n]? = some x) : (ρ ++ ρ2)[n]? = some x := by
  rw [List.getElem?_append_left (List.getElem?_eq_some_iff.mp e).1]
  exact e
/-- a new list -/
theorem ObjsOk.push {ρ : Rho} {F H : Hp} (h : ObjsOk ρ F H) (p : Addr) : ObjsOk (ρ ++ [(p, 0)]) F H :=
  ⟨fun n a C e => let ⟨dx, l, e1, k1, k2, h1, h2, r⟩ := h.at_ n a C (get_push e); ⟨dx, l, e1, k1, k2, get_more h1, get_more h2, r⟩, fun n m a C D e1 e2 => h.inj n m a C D (get_push e1) (get_push e2)⟩
theorem ObjsOk.new {ρ : Rho} {F H : Hp} (h : ObjsOk ρ F H) {p : Addr} {o : HO} (np : H p = none) : ObjsOk ρ F (upd H p o) := h.to (Same.refl _) fun a C dx us e n => ⟨same_upd np _ _ e, n⟩
/-- no object is cut in two -/
def Tri (ρ : Rho) (n : Nat) : Prop := ∀ (k : Nat) (a : Addr) (C : Nat), k < n → ρ[k]? = some (a, C + 2) → k + 2 < n
theorem Tri.of {ρ ρ' : Rho} {F F' F0 H0 : Hp} {n : Nat} (h : ObjsOk ρ F0 H0) (x : ∀ (k : Nat) (a : Addr) (j : Nat), ρ[k]? = some (a, j) → ∃ b, ρ'[k]? = some (b, j)) (hn : n = ρ.length) : Tri ρ' n := fun k a C hk e => by
  subst hn
  have e0 := List.getElem?_eq_getElem hk
  obtain ⟨b, e1⟩ := x k (ρ[k]).1 (ρ[k]).2 e0
  rw [e] at e1
  have e2 : (ρ[k]).2 = C + 2 := by
    injection e1 with e1
    injection e1 with _ e1
    exact e1.symm
  obtain ⟨_, _, _, _, _, _, h2, _⟩ := h.at_ k (ρ[k]).1 C (by rw [e0, ← e2])
  exact (List.getElem?_eq_some_iff.mp h2).1
theorem Tri.push {ρ : Rho} {p : Addr × Nat} {n : Nat} (t : Tri ρ ρ.length) (hn : n = ρ.length) : Tri (ρ ++ [p]) n := fun k a C hk e => by
  subst hn
  rw [List.getElem?_append_left hk] at e
  exact t k a C hk e
theorem ObjsOk.take {ρ : Rho} {F H : Hp} (h : ObjsOk ρ F H) {n : Nat} (t : Tri ρ n) : ObjsOk (ρ.take n) F H := by
  have g : ∀ (k : Nat) (x : Addr × Nat), (ρ.take n)[k]? = some x → k < n ∧ ρ[k]? = some x := fun k x e => by
    rw [List.getElem?_take] at e
    split at e
    · rename_i hk
      exact ⟨hk, e⟩
    · cases e
  have b : ∀ (k : Nat) (x : Addr × Nat), k < n → ρ[k]? = some x → (ρ.take n)[k]? = some x := fun k x hk e => by
    rw [List.getElem?_take, if_pos hk]
    exact e
  refine ⟨fun k a C e => ?_, fun k m a C D e1 e2 => h.inj k m a C D (g _ _ e1).2 (g _ _ e2).2⟩
  obtain ⟨hk, e⟩ := g _ _ e
  have := t k a C hk e
  obtain ⟨dx, l, e1, k1, k2, h1, h2, r⟩ := h.at_ k a C e
  exact ⟨dx, l, e1, k1, k2, b _ _ (by omega) h1, b _ _ this h2, r⟩
theorem HR.grow {ρ : Rho} {F H F' H' : Hp} {st : Sto} (h : HR ρ F H st) (g : Grow F H F' H') : HR ρ F' H' st :=
  ⟨g.fh, fun n xs e => let ⟨a, vs, e1, e2, e3, e4⟩ := h.cell n xs e; ⟨a, vs, e1, g.hh _ _ e2, g.fr _ _ e2 e3, e4.mono g.ff⟩, h.inj, h.len, h.obj.grow g⟩

structure Ext (ρ : Rho) (F : Hp) (ρ' : Rho) (F' : Hp) : Prop where
  pre : ∀ (n : Nat) (a : Addr), ρ[n]? = some (a, 0) → ρ'[n]? = some (a, 0)
  same : Same F F'
  kin : ∀ (n : Nat) (a : Addr) (k : Nat), ρ[n]? = some (a, k) → ∃ b, ρ'[n]? = some (b, k) ∧ (2 ≤ k → b = a)
theorem Ext.refl (ρ : Rho) (F : Hp) : Ext ρ F ρ F := ⟨fun _ _ h => h, Same.refl _, fun _ a _ h => ⟨a, h, fun _ => rfl⟩⟩
theorem Ext.trans {ρ ρ1 ρ2 : Rho} {F F1 F2 : Hp} (a : Ext ρ F ρ1 F1) (b : Ext ρ1 F1 ρ2 F2) : Ext ρ F ρ2 F2 := ⟨fun n x h => b.pre n x (a.pre n x h), a.same.trans b.same, fun n x k h =>
  let ⟨y, h1, h2⟩ := a.kin n x k h; let ⟨z, h3, h4⟩ := b.kin n y k h1; ⟨z, h3, fun q => (h4 q).trans (h2 q)⟩⟩
theorem Ext.of {ρ : Rho} {F H F' H' : Hp} (g : Grow F H F' H') : Ext ρ F ρ F' := ⟨fun _ _ h => h, g.ff, fun _ a _ h => ⟨a, h, fun _ => rfl⟩⟩
theorem Ext.tri {ρ ρ' : Rho} {F F' F0 H0 : Hp} {n : Nat} (x : Ext ρ F ρ' F') (h : ObjsOk ρ F0 H0) (hn : n = ρ.length) : Tri ρ' n := Tri.of (F := F) (F' := F') h (fun k a j e => let ⟨b, q, _⟩ := x.kin k a j e; ⟨b, q⟩) hn
theorem Ext.same_of {ρ : Rho} {F F' : Hp} (s : Same F F') : Ext ρ F ρ F' := ⟨fun _ _ h => h, s, fun _ a _ h => ⟨a, h, fun _ => rfl⟩⟩

/-- a list that stands still, its things objects of the store -/
def OsR (ρ : Rho) (C : Nat) (vs : List V) (ns : List Nat) : Prop := vs.length = ns.length ∧ ∀ (i n : Nat), ns[i]? = some n → ∃ a l, vs[i]? = some (.ref a) ∧ ρ[n]? = some (a, C + 2) ∧ ρ[n + 1]? = some (l, 1)
def WR (K : PySem.W.Frag) (ρ : Rho) (F : Hp) (v : V) : U → Prop
  | .d x => Dq F v x
  | .l n => ∃ a, ρ[n]? = some (a, 0) ∧ v = .ref a
  | .s ns => ∃ a, v = .ref a ∧ SqL K F a (ns.map V.int)
  | .k kd => ∃ a ks, v = .ref a ∧ Rd F a (.dK ks) ∧ KR F ks kd
  | .o C n => ∃ a l, ρ[n]? = some (a, C + 2) ∧ ρ[n + 1]? = some (l, 1) ∧ v = .ref a
  | .p C n => ∃ a l e, ρ[n]? = some (a, C + 2) ∧ ρ[n + 1]? = some (l, 0) ∧ ρ[n + 2]? = some (e, 0) ∧ v = .ref a
  | .q C ns => ∃ a vs, v = .ref a ∧ F a = some (.lst vs) ∧ OsR ρ C vs ns
theorem OsR.mono {ρ ρ' : Rho} {F F' : Hp} {C : Nat} {vs : List V} {ns : List Nat} (e : Ext ρ F ρ' F') (h : OsR ρ C vs ns) : OsR ρ' C vs ns := ⟨h.1, fun i n q => let ⟨a, l, h1, h2, h3⟩ := h.2 i n q; let ⟨b, g1, g2⟩ := e.kin _ _ _ h2; let ⟨c, q1, _⟩ := e.kin _ _ _ h3; ⟨a, c, h1, by rw [← g2 (Nat.le_add_left _ _)]; exact g1, q1⟩⟩
theorem WR.mono {K : PySem.W.Frag} {ρ ρ' : Rho} {F F' : Hp} {v : V} (e : Ext ρ F ρ' F') : ∀ {w : U}, WR K ρ F v w → WR K ρ' F' v w
  | .d _, h => Dq.mono e.same h
  | .l _, ⟨a, h1, h2⟩ => ⟨a, e.pre _ _ h1, h2⟩
  | .s _, ⟨a, h1, h2⟩ => ⟨a, h1, e.same.seq h2⟩
  | .k _, ⟨a, ks, h1, h2, h3⟩ => ⟨a, ks, h1, h2.imp (fun q => e.same _ _ q) fun ⟨o, q⟩ => ⟨o, e.same _ _ q⟩, h3.mono e.same⟩
  | .o _ _, ⟨a, l, h1, h2, h3⟩ => let ⟨b, g1, g2⟩ := e.kin _ _ _ h1; let ⟨c, q1, _⟩ := e.kin _ _ _ h2; ⟨a, c, by rw [← g2 (Nat.le_add_left _ _)]; exact g1, q1, h3⟩
  | .p _ _, ⟨a, l, f, h1, h2, h3, h4⟩ => let ⟨b, g1, g2⟩ := e.kin _ _ _ h1; ⟨a, l, f, by rw [← g2 (Nat.le_add_left _ _)]; exact g1, e.pre _ _ h2, e.pre _ _ h3, h4⟩
  | .q _ _, ⟨a, vs, h1, h2, h3⟩ => ⟨a, vs, h1, e.same _ _ h2, h3.mono e⟩
inductive WRs (K : PySem.W.Frag) (ρ : Rho) (F : Hp) : List V → List U → Prop
  | nil : WRs K ρ F [] []
  | cons {v : V} {w : U} {vs : List V} {ws : List U} : WR K ρ F v w → WRs K ρ F vs ws → WRs K ρ F (v :: vs) (w :: ws)
theorem WRs.mono {K : PySem.W.Frag} {ρ ρ' : Rho} {F F' : Hp} (e : Ext ρ F ρ' F') : ∀ {vs : List V} {ws : List U}, WRs K ρ F vs ws → WRs K ρ' F' vs ws
  | _, _, .nil => .nil
  | _, _, .cons h t => .cons (h.mono e) (WRs.mono e t)
theorem WRs.length {K : PySem.W.Frag} {ρ : Rho} {F : Hp} : ∀ {vs : List V} {ws : List U}, WRs K ρ F vs ws → vs.length = ws.length
  | _, _, .nil => rfl
  | _, _, .cons _ t => by simp [WRs.length t]
theorem WRs.append {K : PySem.W.Frag} {ρ : Rho} {F : Hp} : ∀ {vs vs' : List V} {ws ws' : List U}, WRs K ρ F vs ws → WRs K ρ F vs' ws' → WRs K ρ F (vs ++ vs') (ws ++ ws')
  | _, _, _, _, .nil, h => h
  | _, _, _, _, .cons a t, h => .cons a (WRs.append t h)

/-- the slots -/
structure SR (K : PySem.W.Frag) (ρ : Rho) (F : Hp) (ev : Ev) (σ : L2.St) : Prop where
  len : ev.length = σ.length
  get : ∀ (i : Nat) (w : U), ev[i]? = some (some w) → ∃ v, σ[i]? = some (some v) ∧ WR K ρ F v w
theorem SR.mono {K : PySem.W.Frag} {ρ ρ' : Rho} {F F' : Hp} {ev : Ev} {σ : L2.St} (h : SR K ρ F ev σ) (e : Ext ρ F ρ' F') : SR K ρ' F' ev σ :=
  ⟨h.len, fun i w q => let ⟨v, h1, h2⟩ := h.get i w q; ⟨v, h1, h2.mono e⟩⟩
theorem SR.set {K : PySem.W.Frag} {ρ : Rho} {F : Hp} {ev : Ev} {σ : L2.St} {v : V} {w : U} (h : SR K ρ F ev σ) (r : WR K ρ F v w) (i : Nat) : SR K ρ F (ev.set i (some w)) (σ.set i (some v)) := by
  refine ⟨by simp [h.len], fun j u q => ?_⟩
  rw [List.getElem?_set] at q ⊢
  by_cases hj : i = j
  · subst hj
    simp only [if_true] at q ⊢
    by_cases hl : i < ev.length
    · rw [if_pos hl] at q
      cases q
      rw [if_pos (by rw [← h.len]; exact hl)]
      exact ⟨v, rfl, r⟩
    · rw [if_neg hl] at q
      cases q
  · simp only [if_neg hj] at q ⊢
    exact h.get j u q
/-- forgotten slots -/
def wipeE (ev : Ev) : List Nat → Ev
  | [] => ev
  | v :: vs => (wipeE ev vs).set v none
theorem SR.none {K : PySem.W.Frag} {ρ : Rho} {F : Hp} {ev : Ev} {σ : L2.St} (h : SR K ρ F ev σ) (i : Nat) (x : Option V) : SR K ρ F (ev.set i Option.none) (σ.set i x) := by
  refine ⟨by simp [h.len], fun j u q => ?_⟩
  rw [List.getElem?_set] at q ⊢
  by_cases hj : i = j
  · subst hj
    simp only [if_true] at q
    split at q <;> cases q
  · simp only [if_neg hj] at q ⊢
    exact h.get j u q
theorem SR.wipe {K : PySem.W.Frag} {ρ : Rho} {F : Hp} {ev : Ev} {σ : L2.St} (h : SR K ρ F ev σ) : ∀ vs : List Nat, SR K ρ F (wipeE ev vs) (L2.wipe σ vs)
  | [] => h
  | v :: vs => (SR.wipe h vs).none v Option.none

/-! ### what an expression, a test, an argument list computes -/
def Post (K : PySem.W.Frag) (ρ : Rho) (F : Hp) (w : U) (st' : Sto) (Q : VK) : Prop :=
  ∀ v ρ' F' H', Ext ρ F ρ' F' → HR ρ' F' H' st' → WR K ρ' F' v w → Q v H'
def tI (K : PySem.W.Frag) (c : SE) : TE := fun σ H Q => ∃ ρ F ev st w st', HR ρ F H st ∧ SR K ρ F ev σ ∧ c ev st = some (w, st') ∧ Post K ρ F w st' Q
def tT (K : PySem.W.Frag) (c : SB) : TT := fun σ H Q => ∃ ρ F ev st b st', HR ρ F H st ∧ SR K ρ F ev σ ∧ c ev st = some (b, st') ∧ ∀ ρ' F' H', Ext ρ F ρ' F' → HR ρ' F' H' st' → Q b H'
def tA (K : PySem.W.Frag) (c : SA) : TA := fun σ H Q => ∃ ρ F ev st ws st', HR ρ F H st ∧ SR K ρ F ev σ ∧ c ev st = some (ws, st') ∧ ∀ vs ρ' F' H', Ext ρ F ρ' F' → HR ρ' F' H' st' → WRs K ρ' F' vs ws → Q vs H'
end Cm
namespace L2
theorem PE.weak {X : Cx} {e : PySem.Expr} {t u : TE} (h : PE X e t) (w : ∀ σ H Q, u σ H Q → t σ H Q) : PE X e u := ⟨fun pins s σ H Q I q => h.run pins s σ H Q I (w σ H Q q)⟩
theorem PT.weak {X : Cx} {e : PySem.Expr} {t u : TT} (h : PT X e t) (w : ∀ σ H Q, u σ H Q → t σ H Q) : PT X e u := ⟨fun pins s σ H Q I q => h.run pins s σ H Q I (w σ H Q q)⟩
theorem PW.weak {X : Cx} {e : PySem.Expr} {t u : TT} (h : PW X e t) (w : ∀ σ H Q, u σ H Q → t σ H Q) : PW X e u := ⟨fun wh pins s σ H Q I q => h.run wh pins s σ H Q I (w σ H Q q)⟩
theorem PTs.weak {X : Cx} {e : List PySem.Expr} {t u : TT} (h : PTs X e t) (w : ∀ σ H Q, u σ H Q → t σ H Q) : PTs X e u := ⟨fun pins s σ H Q I q => h.run pins s σ H Q I (w σ H Q q)⟩
theorem PA.weak {X : Cx} {e : List PySem.Expr} {t u : TA} (h : PA X e t) (w : ∀ σ H Q, u σ H Q → t σ H Q) : PA X e u := ⟨fun pos pins s σ H Q I q => h.run pos pins s σ H Q I (w σ H Q q)⟩
theorem PS.weak {X : Cx} {e : PySem.Stmt} {t u : TS} (h : PS X e t) (w : ∀ D σ H, u D σ H → t D σ H) : PS X e u := ⟨fun pins s σ H D I q => h.run pins s σ H D I (w D σ H q)⟩
theorem PSs.weak {X : Cx} {e : List PySem.Stmt} {t u : TS} (h : PSs X e t) (w : ∀ D σ H, u D σ H → t D σ H) : PSs X e u := ⟨fun pins s σ H D I q => h.run pins s σ H D I (w D σ H q)⟩
theorem PI.weak {X : Cx} {tg e : PySem.Expr} {t u : TI} (h : PI X tg e t) (w : ∀ σ H R, u σ H R → t σ H R) : PI X tg e u := ⟨fun pins s σ H R I q => h.run pins s σ H R I (w σ H R q)⟩
theorem PG.weak {X : Cx} {tg : PySem.Expr} {t u : TG} (h : PG X tg t) (w : ∀ v σ H Q, u v σ H Q → t v σ H Q) : PG X tg u := ⟨fun pins s σ H v x Q I r q => h.run pins s σ H v x Q I r (w v σ H Q q)⟩
end L2

set_option Elab.async false
set_option linter.all false
set_option maxRecDepth 100000
namespace Cm
open PySem PySem.Spec PyProof.Rows L2

/-! ### reading a value of the store -/
def rd (st : Sto) : U → Option PyData
  | .d x => some x
  | .l n => match st[n]? with
    | some (some xs) => some (.list xs)
    | _ => none
  | .s ns => some (.list (ns.map .int))
  | .k _ => none
  | .o _ _ => none
  | .p _ _ => none
  | .q _ _ => none
def rdS (st : Sto) : U → Option PyData
  | .d x => some x
  | .l n => match st[n]? with
    | some (some xs) => some (.list xs)
    | _ => none
  | .s _ => none
  | .k _ => none
  | .o _ _ => none
  | .p _ _ => none
  | .q _ _ => none
def rdAll (st : Sto) : List U → Option (List PyData)
  | [] => some []
  | w :: ws => (rd st w).bind fun x => (rdAll st ws).map fun xs => x :: xs
def allD : List U → Option (List PyData)
  | [] => some []
  | .d x :: ws => (allD ws).map fun xs => x :: xs
  | _ :: _ => none
@[simp] theorem rd_d (st : Sto) (x : PyData) : rd st (.d x) = some x := rfl
@[simp] theorem rdS_d (st : Sto) (x : PyData) : rdS st (.d x) = some x := rfl
def Rds (F H : Hp) (v : V) (x : PyData) : Prop := Dq F v x ∨ ∃ a vs xs, v = .ref a ∧ x = .list xs ∧ H a = some (.lst vs) ∧ DqA F vs xs
def Rdd (K : PySem.W.Frag) (F H : Hp) (v : V) (x : PyData) : Prop := Dq F v x ∨ ∃ a vs xs, v = .ref a ∧ x = .list xs ∧ SqL K H a vs ∧ DqA F vs xs
section
variable {K : PySem.W.Frag} {ρ : Rho} {F H : Hp} {st : Sto} {v : V} {w : U} {x : PyData}
theorem rd_ok (h : HR ρ F H st) (r : WR K ρ F v w) (e : rd st w = some x) : Rdd K F H v x := by
  cases w with
  | d y =>
    cases e
    exact .inl r
  | l n =>
    simp only [rd] at e
    split at e
    · rename_i xs q
      cases e
      obtain ⟨a, vs, h1, h2, h3, h4⟩ := h.cell n xs q
      obtain ⟨b, h5, h6⟩ := r
      obtain rfl := h1.eq h5
      exact .inr ⟨a, vs, xs, h6, rfl, SqL.of h2, h4⟩
    · cases e
  | s ns =>
    cases e
    obtain ⟨a, h1, h2⟩ := r
    exact .inr ⟨a, _, _, h1, rfl, h.sub.seq h2, DqA.ints⟩
  | k kd => cases e
  | o C n => cases e
  | p C n => cases e
  | q C n => cases e
theorem rdS_ok (h : HR ρ F H st) (r : WR K ρ F v w) (e : rdS st w = some x) : Rds F H v x := by
  cases w with
  | d y =>
    cases e
    exact .inl r
  | l n =>
    simp only [rdS] at e
    split at e
    · rename_i xs q
      cases e
      obtain ⟨a, vs, h1, h2, h3, h4⟩ := h.cell n xs q
      obtain ⟨b, h5, h6⟩ := r
      obtain rfl := h1.eq h5
      exact .inr ⟨a, vs, xs, h6, rfl, h2, h4⟩
    · cases e
  | s ns => cases e
  | k kd => cases e
  | o C n => cases e
  | p C n => cases e
  | q C n => cases e
theorem Rdd.list {xs : List PyData} (hs : Same F H) (r : Rdd K F H v (.list xs)) : ∃ a vs, v = .ref a ∧ SqL K H a vs ∧ DqA F vs xs := by
  rcases r with r | ⟨a, vs, ys, h1, h2, h3, h4⟩
  · cases r with
    | lst h a => exact ⟨_, _, rfl, SqL.of (hs _ _ h), a⟩
  · cases h2
    exact ⟨a, vs, h1, h3, h4⟩
theorem Rds.list {xs : List PyData} (hs : Same F H) (r : Rds F H v (.list xs)) : ∃ a vs, v = .ref a ∧ H a = some (.lst vs) ∧ DqA F vs xs := by
  rcases r with r | ⟨a, vs, ys, h1, h2, h3, h4⟩
  · cases r with
    | lst h a => exact ⟨_, _, rfl, hs _ _ h, a⟩
  · cases h2
    exact ⟨a, vs, h1, h3, h4⟩
theorem Rds.rdd (r : Rds F H v x) : Rdd K F H v x := r.elim .inl fun ⟨a, vs, xs, h1, h2, h3, h4⟩ => .inr ⟨a, vs, xs, h1, h2, SqL.of h3, h4⟩
theorem Rdd.tup {xs : List PyData} (hs : Same F H) (r : Rdd K F H v (.tuple xs)) : ∃ a vs, v = .ref a ∧ H a = some (.tup vs) ∧ F a = some (.tup vs) ∧ DqA F vs xs := by
  rcases r with r | ⟨a, vs, ys, h1, h2, h3, h4⟩
  · cases r with
    | tup h a => exact ⟨_, _, rfl, hs _ _ h, h, a⟩
  · cases h2
theorem Rdd.int {i : Int} (r : Rdd K F H v (.int i)) : v = .int i := by
  rcases r with r | ⟨a, vs, ys, h1, h2, h3, h4⟩
  · cases r; rfl
  · cases h2
theorem Rdd.bl {b : Bool} (r : Rdd K F H v (.bool b)) : v = .bl b := by
  rcases r with r | ⟨a, vs, ys, h1, h2, h3, h4⟩
  · cases r; rfl
  · cases h2
theorem Rdd.non (r : Rdd K F H v .none) : v = .non := by
  rcases r with r | ⟨a, vs, ys, h1, h2, h3, h4⟩
  · cases r; rfl
  · cases h2
theorem Rdd.str {z : Str} (r : Rdd K F H v (.str z)) : v = .str z := by
  rcases r with r | ⟨a, vs, ys, h1, h2, h3, h4⟩
  · cases r; rfl
  · cases h2
theorem Rdd.dict {z : List (PyData × PyData)} (r : Rdd K F H v (.dict z)) : ∃ a, v = .ref a := by
  rcases r with r | ⟨a, vs, ys, h1, h2, h3, h4⟩
  · cases r <;> exact ⟨_, rfl⟩
  · cases h2
theorem Rdd.dp (c : x.hasDict = false) (hs : Same F H) (r : Rdd K F H v x) : Dp K H v x := by
  rcases r with r | ⟨a, vs, ys, h1, h2, h3, h4⟩
  · exact (r.mono hs).dp c
  · subst h1 h2
    exact .lst h3 ((h4.mono hs).dp (by rwa [PyData.hasDict] at c))
end
inductive RdA (K : PySem.W.Frag) (F H : Hp) : List V → List PyData → Prop
  | nil : RdA K F H [] []
  | cons {v : V} {x : PyData} {vs : List V} {xs : List PyData} : Rdd K F H v x → RdA K F H vs xs → RdA K F H (v :: vs) (x :: xs)
theorem rdAll_ok {K : PySem.W.Frag} {ρ : Rho} {F H : Hp} {st : Sto} (h : HR ρ F H st) : ∀ {vs : List V} {ws : List U} {xs : List PyData}, WRs K ρ F vs ws → rdAll st ws = some xs → RdA K F H vs xs
  | _, _, _, .nil, e => by cases e; exact .nil
  | _, _, _, .cons r t, e => by
    simp only [rdAll, Option.bind_eq_some_iff, Option.map_eq_some_iff] at e
    obtain ⟨x, e1, xs, e2, rfl⟩ := e
    exact .cons (rd_ok h r e1) (rdAll_ok h t e2)
theorem allD_ok {K : PySem.W.Frag} {ρ : Rho} {F : Hp} : ∀ {vs : List V} {ws : List U} {xs : List PyData}, WRs K ρ F vs ws → allD ws = some xs → DqA F vs xs
  | _, _, _, .nil, e => by cases e; exact .nil
  | _, _, _, .cons (w := .d x) r t, e => by
    simp only [allD, Option.map_eq_some_iff] at e
    obtain ⟨xs, e2, rfl⟩ := e
    exact .cons r (allD_ok t e2)
  | _, _, _, .cons (w := .l n) r t, e => by cases e
  | _, _, _, .cons (w := .s n) r t, e => by cases e
  | _, _, _, .cons (w := .k n) r t, e => by cases e

/-! ### combinators -/
def cVar (i : Nat) : SE := fun ev st => match ev[i]? with
  | some (some w) => some (w, st)
  | _ => none
def cD (x : PyData) : SE := fun _ st => some (.d x, st)
def cD1 (f : PyData → Option PyData) (a : SE) : SE := fun ev st => (a ev st).bind fun p => (rd p.2 p.1).bind fun x => (f x).map fun z => (.d z, p.2)
def cD2 (f : PyData → PyData → Option PyData) (a b : SE) : SE := fun ev st => (a ev st).bind fun p => (b ev p.2).bind fun q => (rd q.2 p.1).bind fun x => (rd q.2 q.1).bind fun y => (f x y).map fun z => (.d z, q.2)
def cD2s (f : PyData → PyData → Option PyData) (a b : SE) : SE := fun ev st => (a ev st).bind fun p => (b ev p.2).bind fun q => (rdS q.2 p.1).bind fun x => (rdS q.2 q.1).bind fun y => (f x y).map fun z => (.d z, q.2)
def cNil : SA := fun _ st => some ([], st)
def cCons (a : SE) (r : SA) : SA := fun ev st => (a ev st).bind fun p => (r ev p.2).map fun q => (p.1 :: q.1, q.2)
def items : PyData → Option (List PyData)
  | .list xs => some xs
  | .tuple xs => some xs
  | _ => none
def cStar (a : SE) (r : SA) : SA := fun ev st => (a ev st).bind fun p => (rd p.2 p.1).bind fun x => (items x).bind fun xs => (r ev p.2).map fun q => (xs.map U.d ++ q.1, q.2)
def lim : Nat := 1000000
theorem lim_le {n : Nat} (h : n ≤ lim) : n ≤ sizeLine := Nat.le_trans h (by decide)
def cLst (a : SA) : SE := fun ev st => (a ev st).bind fun p => (allD p.1).bind fun xs => if xs.length ≤ lim then some (.d (.list xs), p.2) else none
def cTup (a : SA) : SE := fun ev st => (a ev st).bind fun p => (allD p.1).bind fun xs => if xs.length ≤ lim then some (.d (.tuple xs), p.2) else none
/-- a new list of the store -/
def cLstM (a : SA) : SE := fun ev st => (a ev st).bind fun p => (allD p.1).bind fun xs => if xs.length ≤ lim then some (.l p.2.length, p.2 ++ [some xs]) else none
def cCall (f : List PyData → Option PyData) (a : SA) : SE := fun ev st => (a ev st).bind fun p => (rdAll p.2 p.1).bind fun xs => (f xs).map fun z => (.d z, p.2)
def truth : PyData → Option Bool
  | .none => some false
  | .bool b => some b
  | .int i => some (i != 0)
  | .str x => if x.length ≤ lim then some ((x.length : Int) != 0) else none
  | .list xs => some (!xs.isEmpty)
  | .tuple xs => some (!xs.isEmpty)
  | .dict _ => none
/-- a test: the value's truth -/
def cTr (a : SE) : SB := fun ev st => (a ev st).bind fun p => (rd p.2 p.1).bind fun x => (truth x).map fun b => (b, p.2)
/-- a test: a bool -/
def cB (a : SE) : SB := fun ev st => (a ev st).bind fun p => match p.1 with
  | .d (.bool b) => some (b, p.2)
  | _ => none
def bAnd (a b : SB) : SB := fun ev st => (a ev st).bind fun p => if p.1 then b ev p.2 else some (false, p.2)
def bOr (a b : SB) : SB := fun ev st => (a ev st).bind fun p => if p.1 then some (true, p.2) else b ev p.2
def bNot (a : SB) : SB := fun ev st => (a ev st).map fun p => (!p.1, p.2)
def cAnd (a b : SE) : SE := fun ev st => (a ev st).bind fun p => (rd p.2 p.1).bind fun x => (truth x).bind fun t => if t then b ev p.2 else some p
def cOr (a b : SE) : SE := fun ev st => (a ev st).bind fun p => (rd p.2 p.1).bind fun x => (truth x).bind fun t => if t then some p else b ev p.2
def cNot (a : SE) : SE := fun ev st => (a ev st).bind fun p => (rd p.2 p.1).bind fun x => (truth x).map fun t => (.d (.bool !t), p.2)
def cIf (c : SB) (a b : SE) : SE := fun ev st => (c ev st).bind fun p => if p.1 then a ev p.2 else b ev p.2
def cChain (f g : PyData → PyData → Option PyData) (a b c : SE) : SE := fun ev st => (a ev st).bind fun p => (b ev p.2).bind fun q => (rd q.2 p.1).bind fun x => (rd q.2 q.1).bind fun y => (f x y).bind fun z => match z with
  | .bool true => (c ev q.2).bind fun r => (rd r.2 q.1).bind fun y => (rd r.2 r.1).bind fun u => (g y u).map fun z => (.d z, r.2)
  | .bool false => some (.d (.bool false), q.2)
  | _ => none

/-! ### what makes an operation's rule sound -/
def Rep (F H : Hp) (z : PyData) (Q : VK) : Prop := ∀ v F' H', Grow F H F' H' → Dq F' v z → Q v H'
def Snd1 (K : PySem.W.Frag) (r : V → Hp → VK → Prop) (f : PyData → Option PyData) : Prop := ∀ F H v x z Q, Same F H → Rdd K F H v x → f x = some z → Rep F H z Q → r v H Q
def Snd2 (K : PySem.W.Frag) (r : R2) (f : PyData → PyData → Option PyData) : Prop := ∀ F H v u x y z Q, Same F H → Rdd K F H v x → Rdd K F H u y → f x y = some z → Rep F H z Q → r v u H Q
def Snd2s (r : R2) (f : PyData → PyData → Option PyData) : Prop := ∀ F H v u x y z Q, Same F H → Rds F H v x → Rds F H u y → f x y = some z → Rep F H z Q → r v u H Q
def SndN (K : PySem.W.Frag) (r : List V → Hp → VK → Prop) (f : List PyData → Option PyData) : Prop := ∀ F H vs xs z Q, Same F H → RdA K F H vs xs → f xs = some z → Rep F H z Q → r vs H Q
theorem Rep.now {F H : Hp} {z : PyData} {Q : VK} {v : V} (h : Rep F H z Q) (hs : Same F H) (d : Dq F v z) : Q v H := h v F H (.refl hs) d
theorem Rep.lst {F H : Hp} {xs : List V} {ds : List PyData} {Q : VK} (h : Rep F H (.list ds) Q) (hs : Same F H) (d : DqA F xs ds) (p : Addr) (n : H p = none) : Q (.ref p) (upd H p (.lst xs)) :=
  h _ (upd F p (.lst xs)) _ (.new hs n) (.lst upd_same (d.mono (same_upd (hs.free n))))
theorem Rep.tup {F H : Hp} {xs : List V} {ds : List PyData} {Q : VK} (h : Rep F H (.tuple ds) Q) (hs : Same F H) (d : DqA F xs ds) (p : Addr) (n : H p = none) : Q (.ref p) (upd H p (.tup xs)) :=
  h _ (upd F p (.tup xs)) _ (.new hs n) (.tup upd_same (d.mono (same_upd (hs.free n))))
theorem Post.grow {K : PySem.W.Frag} {ρ ρ1 : Rho} {F F1 H1 : Hp} {z : PyData} {st : Sto} {Q : VK} (p : Post K ρ F (.d z) st Q) (x : Ext ρ F ρ1 F1) (h : HR ρ1 F1 H1 st) : Rep F1 H1 z Q :=
  fun v F' H' g d => p v ρ1 F' H' (x.trans (.of g)) (h.grow g) d

section
variable {X : Cx} {e a b c : Expr} {es : List Expr} {pos : Pos} {ca cb cc : SE} {sa : SA} {ba bb : SB}
theorem se_var {i : Nat} {x : Str} (hN : X.N[i]? = some x := by rfl) (hv : Vis X.env.scope x := by first | exact Or.inl rfl | exact Or.inr (Or.inl rfl) | exact Or.inr (Or.inr rfl)) (hd : (x == ("__debug__" : Str)) = false := by decide)
    (hcd : (x == ("__classdict__" : Str)) = false := by decide) : PE X (.Name x pos) (tI X.K (cVar i)) := (pe_var hN hv hd hcd).weak fun σ H Q ⟨ρ, F, ev, st, w, st', hr, sr, e, post⟩ => by
  unfold cVar at e
  split at e
  · rename_i u q
    cases e
    obtain ⟨v, h1, h2⟩ := sr.get i _ q
    exact ⟨v, h1, post v ρ F H (.refl _ _) hr h2⟩
  · cases e
theorem se_c {x : PyData} {v : V} (h : PE X e (tC v)) (d : ∀ F, Dq F v x) : PE X e (tI X.K (cD x)) := h.weak fun σ H Q ⟨ρ, F, ev, st, w, st', hr, sr, e, post⟩ => by
  cases e
  exact post v ρ F H (.refl _ _) hr (d F)
theorem se_int {i j} : PE X (.Constant (.int i) j pos) (tI X.K (cD (.int i))) := se_c pe_int fun _ => .int i
theorem se_bl {i j} : PE X (.Constant (.bool i) j pos) (tI X.K (cD (.bool i))) := se_c pe_bl fun _ => .bl i
theorem se_non {j} : PE X (.Constant .none j pos) (tI X.K (cD .none)) := se_c pe_non fun _ => .non
theorem se_str {i j} : PE X (.Constant (.str i) j pos) (tI X.K (cD (.str i))) := se_c pe_str fun _ => .str i
theorem glob_int {x : Str} {i : Int} {t : Tok} (hg : Gl X x) (hm : X.mg x = some (.int i t)) (hd : (x == ("__debug__" : Str)) = false := by decide) : PE X (.Name x pos) (tI X.K (cD (.int i))) := se_c (pe_glob hg hm (v := .int i) ⟨_, rfl⟩ hd) fun _ => .int i
/-- any two-place rule with the shape of an operation -/
theorem two {r : R2} {f : PyData → PyData → Option PyData} (hs : Snd2 X.K r f) {σ : L2.St} {H : Hp} {Q : VK} (h : tI X.K (cD2 f ca cb) σ H Q) : tOp r (tI X.K ca) (tI X.K cb) σ H Q := by
  obtain ⟨ρ, F, ev, st, w, st', hr, sr, e, post⟩ := h
  simp only [cD2, Option.bind_eq_some_iff, Option.map_eq_some_iff] at e
  obtain ⟨⟨w1, st1⟩, e1, ⟨w2, st2⟩, e2, x, e3, y, e4, z, e5, e6⟩ := e
  cases e6
  refine ⟨ρ, F, ev, st, w1, st1, hr, sr, e1, fun v1 ρ1 F1 H1 x1 hr1 wr1 => ⟨ρ1, F1, ev, st1, w2, st2, hr1, sr.mono x1, e2, fun v2 ρ2 F2 H2 x2 hr2 wr2 => ?_⟩⟩
  exact hs F2 H2 v1 v2 x y z Q hr2.sub (rd_ok hr2 (wr1.mono x2) e3) (rd_ok hr2 wr2 e4) e5 (post.grow (x1.trans x2) hr2)
theorem two_s {r : R2} {f : PyData → PyData → Option PyData} (hs : Snd2s r f) {σ : L2.St} {H : Hp} {Q : VK} (h : tI X.K (cD2s f ca cb) σ H Q) : tOp r (tI X.K ca) (tI X.K cb) σ H Q := by
  obtain ⟨ρ, F, ev, st, w, st', hr, sr, e, post⟩ := h
  simp only [cD2s, Option.bind_eq_some_iff, Option.map_eq_some_iff] at e
  obtain ⟨⟨w1, st1⟩, e1, ⟨w2, st2⟩, e2, x, e3, y, e4, z, e5, e6⟩ := e
  cases e6
  refine ⟨ρ, F, ev, st, w1, st1, hr, sr, e1, fun v1 ρ1 F1 H1 x1 hr1 wr1 => ⟨ρ1, F1, ev, st1, w2, st2, hr1, sr.mono x1, e2, fun v2 ρ2 F2 H2 x2 hr2 wr2 => ?_⟩⟩
  exact hs F2 H2 v1 v2 x y z Q hr2.sub (rdS_ok hr2 (wr1.mono x2) e3) (rdS_ok hr2 wr2 e4) e5 (post.grow (x1.trans x2) hr2)
theorem se_op {op : Operator} {r : R2} {f : PyData → PyData → Option PyData} (ho : OpR X (binaryOp op) r) (hs : Snd2 X.K r f) (ha : PE X a (tI X.K ca)) (hb : PE X b (tI X.K cb)) : PE X (.BinOp a op b pos) (tI X.K (cD2 f ca cb)) :=
  (pe_op ho ha hb).weak fun _ _ _ h => two hs h
theorem se_ops {op : Operator} {r : R2} {f : PyData → PyData → Option PyData} (ho : OpR X (binaryOp op) r) (hs : Snd2s r f) (ha : PE X a (tI X.K ca)) (hb : PE X b (tI X.K cb)) : PE X (.BinOp a op b pos) (tI X.K (cD2s f ca cb)) :=
  (pe_op ho ha hb).weak fun _ _ _ h => two_s hs h
theorem se_cmp {op : CmpOp} {r : R2} {f : PyData → PyData → Option PyData} (ho : OpR X (compareOp op) r) (hs : Snd2 X.K r f) (ha : PE X a (tI X.K ca)) (hb : PE X b (tI X.K cb)) (hm : behindInMarks op b = false) : PE X (.Compare a [op] [b] pos) (tI X.K (cD2 f ca cb)) :=
  (pe_cmpR ho ha hb hm).weak fun _ _ _ h => two hs h
theorem se_ix {r : R2} {f : PyData → PyData → Option PyData} (ho : IxR X r) (hs : Snd2 X.K r f) (ha : PE X a (tI X.K ca)) (hb : PE X b (tI X.K cb)) (hp : PlainIx b := by exact fun _ _ => rfl) : PE X (.Subscript a b pos) (tI X.K (cD2 f ca cb)) :=
  (pe_ix ho ha hb hp).weak fun _ _ _ h => two hs h
theorem se_un {op : UnaryOp} {r : V → Hp → VK → Prop} {f : PyData → Option PyData} (ho : UnR X (unaryOp op) r) (hs : Snd1 X.K r f) (ha : PE X a (tI X.K ca)) : PE X (.UnaryOp op a pos) (tI X.K (cD1 f ca)) :=
  (pe_un ho ha).weak fun σ H Q ⟨ρ, F, ev, st, w, st', hr, sr, e, post⟩ => by
    simp only [cD1, Option.bind_eq_some_iff, Option.map_eq_some_iff] at e
    obtain ⟨⟨w1, st1⟩, e1, x, e3, z, e5, e6⟩ := e
    cases e6
    exact ⟨ρ, F, ev, st, w1, st1, hr, sr, e1, fun v1 ρ1 F1 H1 x1 hr1 wr1 => hs F1 H1 v1 x z Q hr1.sub (rd_ok hr1 wr1 e3) e5 (post.grow x1 hr1)⟩
/-! tests -/
theorem st_cmp {op : CmpOp} {r : R2} {f : PyData → PyData → Option PyData} (ho : OpR X (compareOp op) r) (hs : Snd2 X.K r f) (ha : PE X a (tI X.K ca)) (hb : PE X b (tI X.K cb)) (hm : behindInMarks op b = false) : PT X (.Compare a [op] [b] pos) (tT X.K (cB (cD2 f ca cb))) :=
  (pt_cmpR ho ha hb hm).weak fun σ H Q ⟨ρ, F, ev, st, w, st', hr, sr, e, post⟩ => by
    simp only [cB, Option.bind_eq_some_iff] at e
    obtain ⟨⟨w1, st1⟩, e1, e2⟩ := e
    refine two hs (Q := fun x H' => ∃ k, x = .bl k ∧ Q k H') ⟨ρ, F, ev, st, w1, st1, hr, sr, e1, fun v ρ' F' H' x h r => ?_⟩
    split at e2
    · rename_i k q
      cases e2
      cases q
      cases r
      exact ⟨_, rfl, post _ _ _ x h⟩
    · cases e2
theorem truth_ok {K : PySem.W.Frag} {F H : Hp} {v : V} {x : PyData} {t : Bool} (hs : Same F H) (r : Rdd K F H v x) (e : truth x = some t) : TruV K v H t := by
  cases x with
  | none => cases r.non; cases e; rfl
  | bool b => cases r.bl; cases e; rfl
  | int i => cases r.int; cases e; rfl
  | str z =>
    cases r.str
    simp only [truth] at e
    split at e
    · rename_i h
      cases e
      exact ⟨lim_le h, rfl⟩
    · cases e
  | list xs =>
    obtain ⟨a, vs, rfl, h, d⟩ := r.list hs
    cases e
    refine .inl ⟨vs, h, ?_⟩
    cases d <;> rfl
  | tuple xs =>
    obtain ⟨a, vs, rfl, h, _, d⟩ := r.tup hs
    cases e
    refine .inr (.inl ⟨vs, SqT.of h, ?_⟩)
    cases d <;> rfl
  | dict z => cases e
theorem st_tr (ha : PE X a (tI X.K ca)) (he : ∀ whole, isTrue a X.env whole = (do let v ← whole; standAt a.pos; holding [v] (truthy v)) := by exact fun _ => rfl) : PT X a (tT X.K (cTr ca)) :=
  (pt_truth ha he).weak fun σ H Q ⟨ρ, F, ev, st, w, st', hr, sr, e, post⟩ => by
    simp only [cTr, Option.bind_eq_some_iff, Option.map_eq_some_iff] at e
    obtain ⟨⟨w1, st1⟩, e1, x, e2, t, e3, e4⟩ := e
    cases e4
    exact ⟨ρ, F, ev, st, w1, st1, hr, sr, e1, fun v ρ' F' H' x h r => ⟨_, truth_ok h.sub (rd_ok h r e2) e3, post _ _ _ x h⟩⟩
theorem st_and1 (ha : PT X a (tT X.K ba)) : PW X (.BoolOp .And [a] pos) (tT X.K ba) := pw_and1 ha
theorem st_or1 (ha : PT X a (tT X.K ba)) : PW X (.BoolOp .Or [a] pos) (tT X.K ba) := pw_or1 ha
theorem st_and (ha : PT X a (tT X.K ba)) (hb : PW X (.BoolOp .And (b :: es) pos) (tT X.K bb)) : PW X (.BoolOp .And (a :: b :: es) pos) (tT X.K (bAnd ba bb)) :=
  (pw_and ha hb).weak fun σ H Q ⟨ρ, F, ev, st, w, st', hr, sr, e, post⟩ => by
    simp only [bAnd, Option.bind_eq_some_iff] at e
    obtain ⟨⟨k, st1⟩, e1, e2⟩ := e
    refine ⟨ρ, F, ev, st, k, st1, hr, sr, e1, fun ρ' F' H' x h => ?_⟩
    cases k with
    | true => exact ⟨ρ', F', ev, st1, w, st', h, sr.mono x, e2, fun ρ2 F2 H2 x2 h2 => post _ _ _ (x.trans x2) h2⟩
    | false =>
      cases e2
      exact post _ _ _ x h
theorem st_or (ha : PT X a (tT X.K ba)) (hb : PW X (.BoolOp .Or (b :: es) pos) (tT X.K bb)) : PW X (.BoolOp .Or (a :: b :: es) pos) (tT X.K (bOr ba bb)) :=
  (pw_or ha hb).weak fun σ H Q ⟨ρ, F, ev, st, w, st', hr, sr, e, post⟩ => by
    simp only [bOr, Option.bind_eq_some_iff] at e
    obtain ⟨⟨k, st1⟩, e1, e2⟩ := e
    refine ⟨ρ, F, ev, st, k, st1, hr, sr, e1, fun ρ' F' H' x h => ?_⟩
    cases k with
    | false => exact ⟨ρ', F', ev, st1, w, st', h, sr.mono x, e2, fun ρ2 F2 H2 x2 h2 => post _ _ _ (x.trans x2) h2⟩
    | true =>
      cases e2
      exact post _ _ _ x h
theorem st_not (ha : PT X a (tT X.K ba)) : PT X (.UnaryOp .Not a pos) (tT X.K (bNot ba)) :=
  (pt_not ha).weak fun σ H Q ⟨ρ, F, ev, st, w, st', hr, sr, e, post⟩ => by
    simp only [bNot, Option.map_eq_some_iff] at e
    obtain ⟨⟨k, st1⟩, e1, e2⟩ := e
    cases e2
    exact ⟨ρ, F, ev, st, k, st1, hr, sr, e1, fun ρ' F' H' x h => post _ _ _ x h⟩
theorem se_and (ha : PE X a (tI X.K ca)) (hb : PE X (.BoolOp .And (b :: es) pos) (tI X.K cb)) : PE X (.BoolOp .And (a :: b :: es) pos) (tI X.K (cAnd ca cb)) :=
  (pe_andT ha hb).weak fun σ H Q ⟨ρ, F, ev, st, w, st', hr, sr, e, post⟩ => by
    simp only [cAnd, Option.bind_eq_some_iff] at e
    obtain ⟨⟨w1, st1⟩, e1, x, e2, t, e3, e4⟩ := e
    refine ⟨ρ, F, ev, st, w1, st1, hr, sr, e1, fun v ρ' F' H' x h r => ⟨t, truth_ok h.sub (rd_ok h r e2) e3, ?_⟩⟩
    cases t with
    | true => exact iteT ⟨ρ', F', ev, st1, w, st', h, sr.mono x, e4, fun v2 ρ2 F2 H2 x2 h2 r2 => post _ _ _ _ (x.trans x2) h2 r2⟩
    | false =>
      cases e4
      exact iteF (post _ _ _ _ x h r)
theorem se_or (ha : PE X a (tI X.K ca)) (hb : PE X (.BoolOp .Or (b :: es) pos) (tI X.K cb)) : PE X (.BoolOp .Or (a :: b :: es) pos) (tI X.K (cOr ca cb)) :=
  (pe_orT ha hb).weak fun σ H Q ⟨ρ, F, ev, st, w, st', hr, sr, e, post⟩ => by
    simp only [cOr, Option.bind_eq_some_iff] at e
    obtain ⟨⟨w1, st1⟩, e1, x, e2, t, e3, e4⟩ := e
    refine ⟨ρ, F, ev, st, w1, st1, hr, sr, e1, fun v ρ' F' H' x h r => ⟨t, truth_ok h.sub (rd_ok h r e2) e3, ?_⟩⟩
    cases t with
    | false => exact iteF ⟨ρ', F', ev, st1, w, st', h, sr.mono x, e4, fun v2 ρ2 F2 H2 x2 h2 r2 => post _ _ _ _ (x.trans x2) h2 r2⟩
    | true =>
      cases e4
      exact iteT (post _ _ _ _ x h r)
theorem se_not (ha : PE X a (tI X.K ca)) : PE X (.UnaryOp .Not a pos) (tI X.K (cNot ca)) :=
  (pe_notT ha).weak fun σ H Q ⟨ρ, F, ev, st, w, st', hr, sr, e, post⟩ => by
    simp only [cNot, Option.bind_eq_some_iff, Option.map_eq_some_iff] at e
    obtain ⟨⟨w1, st1⟩, e1, x, e2, t, e3, e4⟩ := e
    cases e4
    exact ⟨ρ, F, ev, st, w1, st1, hr, sr, e1, fun v ρ' F' H' x h r => ⟨t, truth_ok h.sub (rd_ok h r e2) e3, post _ _ _ _ x h (.bl _)⟩⟩
theorem se_if (hc : PT X c (tT X.K ba)) (ha : PE X a (tI X.K ca)) (hb : PE X b (tI X.K cb)) : PE X (.IfExp c a b pos) (tI X.K (cIf ba ca cb)) :=
  (pe_ifExp hc ha hb).weak fun σ H Q ⟨ρ, F, ev, st, w, st', hr, sr, e, post⟩ => by
    simp only [cIf, Option.bind_eq_some_iff] at e
    obtain ⟨⟨k, st1⟩, e1, e2⟩ := e
    refine ⟨ρ, F, ev, st, k, st1, hr, sr, e1, fun ρ' F' H' x h => ?_⟩
    cases k with
    | true => exact ⟨ρ', F', ev, st1, w, st', h, sr.mono x, e2, fun v2 ρ2 F2 H2 x2 h2 r2 => post _ _ _ _ (x.trans x2) h2 r2⟩
    | false => exact ⟨ρ', F', ev, st1, w, st', h, sr.mono x, e2, fun v2 ρ2 F2 H2 x2 h2 r2 => post _ _ _ _ (x.trans x2) h2 r2⟩
theorem chain {r r' : R2} {f g : PyData → PyData → Option PyData} (hs : Snd2 X.K r f) (hs' : Snd2 X.K r' g) {σ : L2.St} {H : Hp} {Q : VK} (h : tI X.K (cChain f g ca cb cc) σ H Q) : tChain r r' (tI X.K ca) (tI X.K cb) (tI X.K cc) σ H Q := by
  obtain ⟨ρ, F, ev, st, w, st', hr, sr, e, post⟩ := h
  simp only [cChain, Option.bind_eq_some_iff] at e
  obtain ⟨⟨w1, st1⟩, e1, ⟨w2, st2⟩, e2, x, e3, y, e4, z, e5, e6⟩ := e
  refine ⟨ρ, F, ev, st, w1, st1, hr, sr, e1, fun v1 ρ1 F1 H1 x1 hr1 wr1 => ⟨ρ1, F1, ev, st1, w2, st2, hr1, sr.mono x1, e2, fun v2 ρ2 F2 H2 x2 hr2 wr2 => ?_⟩⟩
  refine hs F2 H2 v1 v2 x y z _ hr2.sub (rd_ok hr2 (wr1.mono x2) e3) (rd_ok hr2 wr2 e4) e5 fun v F' H' g d => ?_
  split at e6
  · cases d
    simp only [Option.bind_eq_some_iff, Option.map_eq_some_iff] at e6
    obtain ⟨⟨w3, st3⟩, e7, y', e8, u, e9, z', e10, e11⟩ := e6
    cases e11
    have x3 : Ext ρ2 F2 ρ2 F' := .of g
    refine ⟨true, rfl, iteT ⟨ρ2, F', ev, st2, w3, st3, hr2.grow g, (sr.mono (x1.trans x2)).mono x3, e7, fun v3 ρ3 F3 H3 x4 hr3 wr3 => ?_⟩⟩
    exact hs' F3 H3 v2 v3 y' u z' Q hr3.sub (rd_ok hr3 ((wr2.mono x3).mono x4) e8) (rd_ok hr3 wr3 e9) e10 (post.grow ((x1.trans x2).trans (x3.trans x4)) hr3)
  · cases d
    cases e6
    exact ⟨false, rfl, iteF (post _ ρ2 F' H' ((x1.trans x2).trans (.of g)) (hr2.grow g) (.bl _))⟩
  · cases e6
theorem se_chain {op op' : CmpOp} {r r' : R2} {f g : PyData → PyData → Option PyData} (ho : OpR X (compareOp op) r) (ho' : OpR X (compareOp op') r') (hs : Snd2 X.K r f) (hs' : Snd2 X.K r' g) (ha : PE X a (tI X.K ca)) (hb : PE X b (tI X.K cb)) (hc : PE X c (tI X.K cc))
    (hm : lastMarks [op, op'] [b, c] = false := by with_unfolding_all rfl) : PE X (.Compare a [op, op'] [b, c] pos) (tI X.K (cChain f g ca cb cc)) :=
  (pe_chain ho ho' ha hb hc hm).weak fun _ _ _ h => chain hs hs' h
theorem st_chain {op op' : CmpOp} {r r' : R2} {f g : PyData → PyData → Option PyData} (ho : OpR X (compareOp op) r) (ho' : OpR X (compareOp op') r') (hs : Snd2 X.K r f) (hs' : Snd2 X.K r' g) (ha : PE X a (tI X.K ca)) (hb : PE X b (tI X.K cb)) (hc : PE X c (tI X.K cc))
    (hm : lastMarks [op, op'] [b, c] = false := by with_unfolding_all rfl) : PT X (.Compare a [op, op'] [b, c] pos) (tT X.K (cB (cChain f g ca cb cc))) :=
  (pt_chain ho ho' ha hb hc hm).weak fun σ H Q ⟨ρ, F, ev, st, w, st', hr, sr, e, post⟩ => by
    simp only [cB, Option.bind_eq_some_iff] at e
    obtain ⟨⟨w1, st1⟩, e1, e2⟩ := e
    refine chain hs hs' (Q := fun x H' => ∃ k, x = .bl k ∧ Q k H') ⟨ρ, F, ev, st, w1, st1, hr, sr, e1, fun v ρ' F' H' x h r => ?_⟩
    split at e2
    · rename_i k q
      cases e2
      cases q
      cases r
      exact ⟨_, rfl, post _ _ _ x h⟩
    · cases e2
/-! arguments -/
theorem sa_nil : PA X [] (tA X.K cNil) := pa_nil.weak fun σ H Q ⟨ρ, F, ev, st, w, st', hr, sr, e, post⟩ => by
  cases e
  exact post [] ρ F H (.refl _ _) hr .nil
theorem sa_cons {r : SA} (ha : PE X e (tI X.K ca)) (hr : PA X es (tA X.K r)) (hs : starEach (e :: es) X.env = (false, eval e X.env) :: starEach es X.env := by rfl) : PA X (e :: es) (tA X.K (cCons ca r)) :=
  (pa_cons ha hr hs).weak fun σ H Q ⟨ρ, F, ev, st, w, st', hr, sr, e, post⟩ => by
    simp only [cCons, Option.bind_eq_some_iff, Option.map_eq_some_iff] at e
    obtain ⟨⟨w1, st1⟩, e1, ⟨ws, st2⟩, e2, e3⟩ := e
    cases e3
    exact ⟨ρ, F, ev, st, w1, st1, hr, sr, e1, fun v1 ρ1 F1 H1 x1 hr1 wr1 => ⟨ρ1, F1, ev, st1, ws, st2, hr1, sr.mono x1, e2, fun vs ρ2 F2 H2 x2 hr2 wr2 => post _ ρ2 F2 H2 (x1.trans x2) hr2 (.cons (wr1.mono x2) wr2)⟩⟩
theorem WRs.of_d {K : PySem.W.Frag} {ρ : Rho} {F : Hp} : ∀ {vs : List V} {xs : List PyData}, DqA F vs xs → WRs K ρ F vs (xs.map U.d)
  | _, _, .nil => .nil
  | _, _, .cons a t => .cons a (WRs.of_d t)
theorem sa_star {r : SA} {p : Pos} (ha : PE X e (tI X.K ca)) (hr : PA X es (tA X.K r)) (hs : starEach (.Starred e p :: es) X.env = (true, eval e X.env) :: starEach es X.env := by rfl) : PA X (.Starred e p :: es) (tA X.K (cStar ca r)) :=
  (StX.pa_star ha hr hs).weak fun σ H Q ⟨ρ, F, ev, st, w, st', hr, sr, e, post⟩ => by
    simp only [cStar, Option.bind_eq_some_iff, Option.map_eq_some_iff] at e
    obtain ⟨⟨w1, st1⟩, e1, x, e2, xs, e3, ⟨ws, st2⟩, e4, e5⟩ := e
    cases e5
    refine ⟨ρ, F, ev, st, w1, st1, hr, sr, e1, fun v1 ρ1 F1 H1 x1 hr1 wr1 => ?_⟩
    have rr : Rdd X.K F1 H1 v1 x := rd_ok hr1 wr1 e2
    have go : ∀ (a : Addr) (vs : List V), v1 = .ref a → (SqT X.K H1 a vs ∨ SqL X.K H1 a vs) → DqA F1 vs xs → ∃ p xs_1, v1 = V.ref p ∧ (SqT X.K H1 p xs_1 ∨ SqL X.K H1 p xs_1) ∧ tA X.K r σ H1 fun ys H2 => Q (xs_1 ++ ys) H2 := fun a vs e6 hq d =>
      ⟨a, vs, e6, hq, ρ1, F1, ev, st1, ws, st2, hr1, sr.mono x1, e4, fun us ρ2 F2 H2 x2 hr2 wr2 => post _ ρ2 F2 H2 (x1.trans x2) hr2 ((WRs.of_d (d.mono x2.same)).append wr2)⟩
    cases x with
    | list ys =>
      cases e3
      obtain ⟨a, vs, h1, h2, h3⟩ := rr.list hr1.sub
      exact go a vs h1 (.inr h2) h3
    | tuple ys =>
      cases e3
      obtain ⟨a, vs, h1, h2, _, h3⟩ := rr.tup hr1.sub
      exact go a vs h1 (.inl (SqT.of h2)) h3
    | _ => cases e3
theorem se_tup {x1} (h : PA X es (tA X.K sa)) : PE X (.Tuple es x1 pos) (tI X.K (cTup sa)) :=
  (pe_tup h).weak fun σ H Q ⟨ρ, F, ev, st, w, st', hr, sr, e, post⟩ => by
    simp only [cTup, Option.bind_eq_some_iff] at e
    obtain ⟨⟨ws, st1⟩, e1, xs, e2, e3⟩ := e
    refine ⟨ρ, F, ev, st, ws, st1, hr, sr, e1, fun vs ρ' F' H' x h r => ?_⟩
    have d := allD_ok r e2
    split at e3
    · rename_i hl
      cases e3
      exact ⟨by rw [d.length]; exact lim_le hl, fun p np => (post.grow x h).tup h.sub d p np⟩
    · cases e3
theorem se_lst (h : PA X es (tA X.K sa)) : PE X (.List es pos) (tI X.K (cLst sa)) :=
  (pe_lst h).weak fun σ H Q ⟨ρ, F, ev, st, w, st', hr, sr, e, post⟩ => by
    simp only [cLst, Option.bind_eq_some_iff] at e
    obtain ⟨⟨ws, st1⟩, e1, xs, e2, e3⟩ := e
    refine ⟨ρ, F, ev, st, ws, st1, hr, sr, e1, fun vs ρ' F' H' x h r => ?_⟩
    have d := allD_ok r e2
    split at e3
    · rename_i hl
      cases e3
      exact ⟨by rw [d.length]; exact lim_le hl, fun p np => (post.grow x h).lst h.sub d p np⟩
    · cases e3
/-- a list that may change is laid in the store -/
theorem HR.push {ρ : Rho} {F H : Hp} {st : Sto} {p : Addr} {vs : List V} {xs : List PyData} (h : HR ρ F H st) (n : H p = none) (d : DqA F vs xs) : HR (ρ ++ [(p, 0)]) F (upd H p (.lst vs)) (st ++ [some xs]) := by
  have old : ∀ (k : Nat) (ys : List PyData), (st ++ [some xs])[k]? = some (some ys) → (k < st.length ∧ st[k]? = some (some ys)) ∨ (k = st.length ∧ ys = xs) := fun k ys e => by
    rw [List.getElem?_append] at e
    split at e
    · rename_i hl
      exact .inl ⟨hl, e⟩
    · rename_i hl
      by_cases hk : k = st.length
      · subst hk
        simp at e
        exact .inr ⟨rfl, e.symm⟩
      · have : 1 ≤ k - st.length := by omega
        rw [List.getElem?_eq_none (by simpa using this)] at e
        cases e
  have hle := h.len
  refine ⟨h.sub.trans (same_upd n), fun k ys e => ?_, fun k m a e1 e2 l1 l2 => ?_, by simp [h.len], (h.obj.grow ⟨Same.refl _, same_upd n, h.sub.trans (same_upd n), fun _ _ _ z => z⟩).push p⟩
  · rcases old k ys e with ⟨hl, e⟩ | ⟨rfl, rfl⟩
    · obtain ⟨a, ws, h1, h2, h3, h4⟩ := h.cell k ys e
      exact ⟨a, ws, h1.more, by rw [upd_ne (ne_of_none h2 n)]; exact h2, h3, h4⟩
    · exact ⟨p, vs, .new hle.symm, upd_same, h.sub.free n, d⟩
  · obtain ⟨y1, l1⟩ := l1
    obtain ⟨y2, l2⟩ := l2
    have neq : ∀ (k : Nat) (ys : List PyData), k < st.length → st[k]? = some (some ys) → Ad (ρ ++ [(p, 0)]) k p → False := fun k ys hl e q => by
      obtain ⟨a', ws, h1, h2, h3, h4⟩ := h.cell k ys e
      obtain rfl := h1.eq2 (q.old (by rw [hle]; exact hl))
      rw [n] at h2
      cases h2
    rcases old k y1 l1 with ⟨hl, q1⟩ | ⟨rfl, rfl⟩
    · rcases old m y2 l2 with ⟨hl2, q2⟩ | ⟨rfl, rfl⟩
      · exact h.inj k m a (e1.old (by omega)) (e2.old (by omega)) ⟨_, q1⟩ ⟨_, q2⟩
      · obtain rfl := e2.last hle.symm
        exact (neq k y1 hl q1 e1).elim
    · rcases old m y2 l2 with ⟨hl2, q2⟩ | ⟨rfl, rfl⟩
      · obtain rfl := e1.last hle.symm
        exact (neq m y2 hl2 q2 e2).elim
      · rfl
theorem Ext.more {ρ r : Rho} {F : Hp} : Ext ρ F (ρ ++ r) F := ⟨fun n a h => get_more h, Same.refl _, fun n a k h => ⟨a, get_more h, fun _ => rfl⟩⟩
theorem Ext.push {ρ : Rho} {F : Hp} (p : Addr) : Ext ρ F (ρ ++ [(p, 0)]) F := .more
theorem WR.pushed {K : PySem.W.Frag} {ρ : Rho} {F H : Hp} {st : Sto} {p : Addr} (h : HR ρ F H st) : WR K (ρ ++ [(p, 0)]) F (.ref p) (.l st.length) := ⟨p, by
  rw [List.getElem?_append_right (by rw [h.len]; exact Nat.le_refl _), h.len]
  simp, rfl⟩
theorem se_lstM (h : PA X es (tA X.K sa)) : PE X (.List es pos) (tI X.K (cLstM sa)) :=
  (pe_lst h).weak fun σ H Q ⟨ρ, F, ev, st, w, st', hr, sr, e, post⟩ => by
    simp only [cLstM, Option.bind_eq_some_iff] at e
    obtain ⟨⟨ws, st1⟩, e1, xs, e2, e3⟩ := e
    refine ⟨ρ, F, ev, st, ws, st1, hr, sr, e1, fun vs ρ' F' H' x h r => ?_⟩
    have d := allD_ok r e2
    split at e3
    · rename_i hl
      cases e3
      exact ⟨by rw [d.length]; exact lim_le hl, fun p np => post _ _ _ _ (x.trans (.push p)) (h.push np d) (.pushed h)⟩
    · cases e3
/-! a built-in called -/
theorem callN {r : List V → Hp → VK → Prop} {f : List PyData → Option PyData} (hs : SndN X.K r f) {σ : L2.St} {H : Hp} {Q : VK} (h : tI X.K (cCall f sa) σ H Q) : tCB r (tA X.K sa) σ H Q := by
  obtain ⟨ρ, F, ev, st, w, st', hr, sr, e, post⟩ := h
  simp only [cCall, Option.bind_eq_some_iff, Option.map_eq_some_iff] at e
  obtain ⟨⟨ws, st1⟩, e1, xs, e2, z, e3, e4⟩ := e
  cases e4
  exact ⟨ρ, F, ev, st, ws, st1, hr, sr, e1, fun vs ρ' F' H' x h r => hs F' H' vs xs z Q h.sub (rdAll_ok h r e2) e3 (post.grow x h)⟩
theorem se_callB {id : String} {r : List V → Hp → VK → Prop} {f : List PyData → Option PyData} {x : Str} {p : Pos} (hc : CallR X (.builtin id) r) (hs : SndN X.K r f) (hg : Gl X x) (hm : X.mg x = none) (hv : bootBuiltins x = some (.builtin id)) (ha : PA X (e :: es) (tA X.K sa)) (hn : x ≠ "__name__" := by decide) (hdb : (x == ("__debug__" : Str)) = false := by decide)
    (he : starEach (e :: es) X.env = (false, eval e X.env) :: starEach es X.env := by rfl) (hpl : (backTo pos (starEach es X.env)).any (·.1) = false := by rfl) : PE X (.Call (.Name x p) (e :: es) [] pos) (tI X.K (cCall f sa)) :=
  (pe_callB hc hg hm hv ha hn hdb he hpl).weak fun _ _ _ h => callN hs h
theorem se_callTy {id : String} {r : List V → Hp → VK → Prop} {f : List PyData → Option PyData} {x : Str} {p : Pos} (hc : CallR X (.type id) r) (hs : SndN X.K r f) (hg : Gl X x) (hm : X.mg x = none) (hv : bootBuiltins x = some (.type id)) (ha : PA X (e :: es) (tA X.K sa)) (hn : x ≠ "__name__" := by decide) (hdb : (x == ("__debug__" : Str)) = false := by decide)
    (he : starEach (e :: es) X.env = (false, eval e X.env) :: starEach es X.env := by rfl) (hpl : (backTo pos (starEach es X.env)).any (·.1) = false := by rfl) : PE X (.Call (.Name x p) (e :: es) [] pos) (tI X.K (cCall f sa)) :=
  (pe_callTy hc hg hm hv ha hn hdb he hpl).weak fun _ _ _ h => callN hs h
end
end Cm

set_option Elab.async false
set_option linter.all false
set_option maxRecDepth 100000
namespace Cm
open PySem PySem.Spec PyProof.Rows L2

/-! ### what a rule asks of the text alone, under short names -/
abbrev NotDbg (x : Str) : Prop := (x == ("__debug__" : Str)) = false
abbrev Bare1 (X : Cx) (e : Expr) (es : List Expr) : Prop := starEach (e :: es) X.env = (false, eval e X.env) :: starEach es X.env
abbrev NoStar (X : Cx) (es : List Expr) (pos : Pos) : Prop := (backTo pos (starEach es X.env)).any (·.1) = false
abbrev NoStarK (X : Cx) (es : List Expr) (kws : List Keyword) (pos : Pos) : Prop := ((backTo pos (starEach es X.env)).any (·.1) || (backToKw pos (keywordEach kws X.env)).any (·.1.isNone)) = false
abbrev Named (X : Cx) (kws : List Keyword) (pos : Pos) : Prop := (backToKw pos (keywordEach kws X.env)).all (·.1.isSome) = true
abbrev NamesAre (X : Cx) (kws : List Keyword) (pos : Pos) (ks : List Str) : Prop := (backToKw pos (keywordEach kws X.env)).filterMap (·.1) = ks
abbrev Few (X : Cx) (es : List Expr) (pos : Pos) : Prop := ((backTo pos (starEach es X.env)).all (fun x => !x.1) && (backToKw pos (keywordEach [] X.env)).all (fun x => x.1.isSome) && decide (es.length + ([] : List Keyword).length + (if ([] : List Keyword).isEmpty then 0 else 1) < 30)) = true
abbrev BareBase (X : Cx) (o : Expr) (name : Str) : Prop := attributeBase o name X.env (eval o X.env) = eval o X.env
abbrev Swaps (X : Cx) (t v : Expr) (xs : Option (List Str)) : Prop := swappedStores [t] v X.env = pure xs
abbrev NoSole (X : Cx) (t v : Expr) (pos : Pos) : Prop := swapsWithSole [t] v pos.line X.env = pure false
/-! ### statements -/
inductive Out where
  | nx (ev : Ev) (st : Sto)
  | rt (w : U) (st : Sto)
  | bk (ev : Ev) (st : Sto)
  | ct (ev : Ev) (st : Sto)
abbrev SS := Ev → Sto → Option Out
def OutOk (K : PySem.W.Frag) (ρ : Rho) (F : Hp) (D : Ends) : Out → Prop
  | .nx ev st => ∀ σ' ρ' F' H', Ext ρ F ρ' F' → HR ρ' F' H' st → SR K ρ' F' ev σ' → D.nx σ' H'
  | .rt w st => ∀ v ρ' F' H', Ext ρ F ρ' F' → HR ρ' F' H' st → WR K ρ' F' v w → D.rt v H'
  | .bk ev st => ∀ σ' ρ' F' H', Ext ρ F ρ' F' → HR ρ' F' H' st → SR K ρ' F' ev σ' → D.bk σ' H'
  | .ct ev st => ∀ σ' ρ' F' H', Ext ρ F ρ' F' → HR ρ' F' H' st → SR K ρ' F' ev σ' → D.ct σ' H'
def tSS (K : PySem.W.Frag) (c : SS) : TS := fun D σ H => ∃ ρ F ev st o, HR ρ F H st ∧ SR K ρ F ev σ ∧ c ev st = some o ∧ OutOk K ρ F D o
theorem OutOk.mono {K : PySem.W.Frag} {ρ ρ' : Rho} {F F' : Hp} {D : Ends} {o : Out} (h : OutOk K ρ F D o) (x : Ext ρ F ρ' F') : OutOk K ρ' F' D o := by
  cases o with
  | nx ev st => exact fun σ' ρ2 F2 H2 x2 hr sr => h σ' ρ2 F2 H2 (x.trans x2) hr sr
  | rt ev st => exact fun σ' ρ2 F2 H2 x2 hr sr => h σ' ρ2 F2 H2 (x.trans x2) hr sr
  | bk ev st => exact fun σ' ρ2 F2 H2 x2 hr sr => h σ' ρ2 F2 H2 (x.trans x2) hr sr
  | ct ev st => exact fun σ' ρ2 F2 H2 x2 hr sr => h σ' ρ2 F2 H2 (x.trans x2) hr sr

def cSkip : SS := fun ev st => some (.nx ev st)
def cSeq (a b : SS) : SS := fun ev st => (a ev st).bind fun o => match o with
  | .nx ev' st' => b ev' st'
  | o => some o
def cSet (i : Nat) (e : SE) : SS := fun ev st => (e ev st).map fun p => .nx (ev.set i (some p.1)) p.2
def cRet (e : SE) : SS := fun ev st => (e ev st).map fun p => .rt p.1 p.2
def cRetN : SS := fun _ st => some (.rt (.d .none) st)
def cIfS (c : SB) (a b : SS) : SS := fun ev st => (c ev st).bind fun p => if p.1 then a ev p.2 else b ev p.2
def cExpr (e : SE) : SS := fun ev st => (e ev st).map fun p => .nx ev p.2
def cFail : SS := fun _ _ => none
def cBrk : SS := fun ev st => some (.bk ev st)
def cCont : SS := fun ev st => some (.ct ev st)
def whileN (c : SB) (b : SS) : Nat → SS
  | 0, _, _ => none
  | n + 1, ev, st => (c ev st).bind fun p => if p.1 then (b ev p.2).bind fun o => match o with
      | .nx ev' st' => whileN c b n ev' st'
      | .ct ev' st' => whileN c b n ev' st'
      | .bk ev' st' => some (.nx ev' st')
      | .rt w st' => some (.rt w st')
    else some (.nx ev p.2)
def cWhile (c : SB) (b : SS) : SS := whileN c b lim
/-- the list of a slot is from here on data (nothing runs) -/
def freeze (st : Sto) (n : Nat) : Option (List PyData × Sto) := match st[n]? with
  | some (some xs) => some (xs, st.set n none)
  | _ => none
def cFreeze (i : Nat) (s : SS) : SS := fun ev st => match ev[i]? with
  | some (some (.l n)) => (freeze st n).bind fun p => s (ev.set i (some (.d (.list p.1)))) p.2
  | _ => none

theorem HR.freeze {ρ : Rho} {F H : Hp} {st : Sto} {n : Nat} {xs : List PyData} (h : HR ρ F H st) (e : st[n]? = some (some xs)) :
    ∃ a vs, Ad ρ n a ∧ F a = none ∧ H a = some (.lst vs) ∧ DqA F vs xs ∧ HR ρ (upd F a (.lst vs)) H (st.set n none) := by
  obtain ⟨a, vs, h1, h2, h3, h4⟩ := h.cell n xs e
  refine ⟨a, vs, h1, h3, h2, h4, fun b o q => ?_, fun m ys q => ?_, fun m k b e1 e2 l1 l2 => ?_, by simp [h.len], h.obj.frz h2 h3⟩
  · by_cases hb : b = a
    · subst hb
      rw [upd_same] at q
      rw [h2]
      exact q
    · rw [upd_ne hb] at q
      exact h.sub _ _ q
  · have hm : n ≠ m := fun z => by
      subst z
      rw [List.getElem?_set] at q
      simp only [if_true] at q
      split at q <;> cases q
    rw [List.getElem?_set_ne hm] at q
    obtain ⟨b, ws, k1, k2, k3, k4⟩ := h.cell m ys q
    have hba : b ≠ a := fun z => by
      subst z
      exact hm (h.inj n m b h1 k1 ⟨_, e⟩ ⟨_, q⟩)
    exact ⟨b, ws, k1, k2, by rw [upd_ne hba]; exact k3, k4.mono (same_upd h3)⟩
  · have li : ∀ j : Nat, (∃ ys, (st.set n none)[j]? = some (some ys)) → ∃ ys, st[j]? = some (some ys) := fun j ⟨ys, q⟩ => by
      rw [List.getElem?_set] at q
      split at q
      · split at q <;> cases q
      · exact ⟨ys, q⟩
    exact h.inj m k b e1 e2 (li m l1) (li k l2)
theorem Ext.upd {ρ : Rho} {F : Hp} {a : Addr} {o : HO} (n : F a = none) : Ext ρ F ρ (upd F a o) := Ext.same_of (same_upd n)
theorem get_take {ρ : Rho} {n k : Nat} {x : Addr × Nat} (e : (ρ.take n)[k]? = some x) : k < n ∧ ρ[k]? = some x := by
  rw [List.getElem?_take] at e
  split at e
  · rename_i hk
    exact ⟨hk, e⟩
  · cases e
theorem put_take {ρ : Rho} {n k : Nat} {x : Addr × Nat} (hk : k < n) (e : ρ[k]? = some x) : (ρ.take n)[k]? = some x := by
  rw [List.getElem?_take, if_pos hk]
  exact e
theorem Ad.untake {ρ : Rho} {n k : Nat} {a : Addr} (h : Ad (ρ.take n) k a) : k < n ∧ Ad ρ k a := by
  obtain ⟨j, e⟩ := h
  exact ⟨(get_take e).1, j, (get_take e).2⟩
theorem Ad.take {ρ : Rho} {n k : Nat} {a : Addr} (h : Ad ρ k a) (hk : k < n) : Ad (ρ.take n) k a := by
  obtain ⟨j, e⟩ := h
  exact ⟨j, put_take hk e⟩
theorem HR.take {ρ : Rho} {F H : Hp} {st : Sto} (h : HR ρ F H st) (n : Nat) (t : Tri ρ n) : HR (ρ.take n) F H (st.take n) := by
  have g : ∀ (k : Nat) (o : Option (List PyData)), (st.take n)[k]? = some o → k < n ∧ st[k]? = some o := fun k o e => by
    rw [List.getElem?_take] at e
    split at e
    · rename_i hk
      exact ⟨hk, e⟩
    · cases e
  refine ⟨h.sub, fun k xs e => ?_, fun k m a e1 e2 ⟨y1, l1⟩ ⟨y2, l2⟩ => h.inj k m a e1.untake.2 e2.untake.2 ⟨y1, (g _ _ l1).2⟩ ⟨y2, (g _ _ l2).2⟩, by simp [h.len], h.obj.take t⟩
  obtain ⟨hk, e⟩ := g k _ e
  obtain ⟨a, vs, h1, h2⟩ := h.cell k xs e
  exact ⟨a, vs, h1.take hk, h2⟩
theorem Ext.take {ρ ρ' : Rho} {F F' : Hp} (x : Ext ρ F ρ' F') (n : Nat) (h : ρ.length ≤ n) : Ext ρ F (ρ'.take n) F' := by
  have hk : ∀ (k : Nat) (y : Addr × Nat), ρ[k]? = some y → k < n := fun k y e => Nat.lt_of_lt_of_le (List.getElem?_eq_some_iff.mp e).1 h
  exact ⟨fun k a e => put_take (hk _ _ e) (x.pre k a e), x.same, fun k a j e => let ⟨b, h1, h2⟩ := x.kin k a j e; ⟨b, put_take (hk _ _ e) h1, h2⟩⟩

section
variable {X : Cx} {e c : Expr} {s : Stmt} {ss ts : List Stmt} {pos : Pos} {ce : SE} {cb : SB} {a b : SS}
theorem ss_nil : PSs X [] (tSS X.K cSkip) := pss_nil.weak fun D σ H ⟨ρ, F, ev, st, o, hr, sr, e, ok⟩ => by
  cases e
  exact ok σ ρ F H (.refl _ _) hr sr
theorem seq_ok {D : Ends} {σ : L2.St} {H : Hp} (h : tSS X.K (cSeq a b) D σ H) : tSeq (tSS X.K a) (tSS X.K b) D σ H := by
  obtain ⟨ρ, F, ev, st, o, hr, sr, e, ok⟩ := h
  simp only [cSeq, Option.bind_eq_some_iff] at e
  obtain ⟨o1, e1, e2⟩ := e
  refine ⟨ρ, F, ev, st, o1, hr, sr, e1, ?_⟩
  cases o1 with
  | nx ev' st' => exact fun σ' ρ' F' H' x hr' sr' => ⟨ρ', F', ev', st', o, hr', sr', e2, ok.mono x⟩
  | rt w st' => cases e2; exact ok
  | bk ev' st' => cases e2; exact ok
  | ct ev' st' => cases e2; exact ok
theorem ss_cons (h1 : PS X s (tSS X.K a)) (h2 : PSs X ss (tSS X.K b)) : PSs X (s :: ss) (tSS X.K (cSeq a b)) := (pss_cons h1 h2).weak fun _ _ _ h => seq_ok h
theorem ss_one (h1 : PS X s (tSS X.K a)) : PSs X [s] (tSS X.K a) := pss_one h1
theorem s_pass : PS X (.Pass pos) (tSS X.K cSkip) := ps_pass.weak fun D σ H ⟨ρ, F, ev, st, o, hr, sr, e, ok⟩ => by
  cases e
  exact ok σ ρ F H (.refl _ _) hr sr
theorem s_break : PS X (.Break pos) (tSS X.K cBrk) := ps_break.weak fun D σ H ⟨ρ, F, ev, st, o, hr, sr, e, ok⟩ => by
  cases e
  exact ok σ ρ F H (.refl _ _) hr sr
theorem s_continue : PS X (.Continue pos) (tSS X.K cCont) := ps_continue.weak fun D σ H ⟨ρ, F, ev, st, o, hr, sr, e, ok⟩ => by
  cases e
  exact ok σ ρ F H (.refl _ _) hr sr
theorem s_fail : PS X s (tSS X.K cFail) := ps_never.weak fun D σ H ⟨ρ, F, ev, st, o, hr, sr, e, ok⟩ => by cases e
theorem ss_fail : PSs X ss (tSS X.K cFail) := pss_never.weak fun D σ H ⟨ρ, F, ev, st, o, hr, sr, e, ok⟩ => by cases e
theorem set_ok {i : Nat} {D : Ends} {σ : L2.St} {H : Hp} (h : tSS X.K (cSet i ce) D σ H) : tAsg (tI X.K ce) (gName i) D σ H := by
  obtain ⟨ρ, F, ev, st, o, hr, sr, e, ok⟩ := h
  simp only [cSet, Option.map_eq_some_iff] at e
  obtain ⟨⟨w, st'⟩, e1, e2⟩ := e
  subst e2
  exact ⟨ρ, F, ev, st, w, st', hr, sr, e1, fun v ρ' F' H' x hr' wr => ok _ ρ' F' H' x hr' ((sr.mono x).set wr i)⟩
theorem s_set {i : Nat} {x : Str} {pos' : Pos} (hN : X.N.Nodup) (hi : X.N[i]? = some x) (hx : Loc X.env.scope x) (he : PE X e (tI X.K ce)) (hs : swapsWith e (some (.Name x pos')) pos.line X.env = pure false := by rfl) (hf : X.fn x = true ∨ X.env.scope.names.lookup x = some .local := by first | exact .inl rfl | exact .inr rfl | assumption) :
    PS X (.Assign [.Name x pos'] e pos) (tSS X.K (cSet i ce)) := (ps_set hN hi hx he hs hf).weak fun _ _ _ h => set_ok h
theorem s_ret (he : PE X e (tI X.K ce)) : PS X (.Return (some e) pos) (tSS X.K (cRet ce)) := (ps_ret he).weak fun D σ H ⟨ρ, F, ev, st, o, hr, sr, e, ok⟩ => by
  simp only [cRet, Option.map_eq_some_iff] at e
  obtain ⟨⟨w, st'⟩, e1, e2⟩ := e
  subst e2
  exact ⟨ρ, F, ev, st, w, st', hr, sr, e1, ok⟩
theorem s_retN : PS X (.Return none pos) (tSS X.K cRetN) := ps_retN.weak fun D σ H ⟨ρ, F, ev, st, o, hr, sr, e, ok⟩ => by
  cases e
  exact ok .non ρ F H (.refl _ _) hr .non
theorem s_expr (he : PE X e (tI X.K ce)) (hs : swapsWith e none pos.line X.env = pure false := by rfl) : PS X (.Expr e pos) (tSS X.K (cExpr ce)) := (ps_expr he hs).weak fun D σ H ⟨ρ, F, ev, st, o, hr, sr, e, ok⟩ => by
  simp only [cExpr, Option.map_eq_some_iff] at e
  obtain ⟨⟨w, st'⟩, e1, e2⟩ := e
  subst e2
  exact ⟨ρ, F, ev, st, w, st', hr, sr, e1, fun v ρ' F' H' x hr' wr => ok _ ρ' F' H' x hr' (sr.mono x)⟩
theorem s_if (hc : PT X c (tT X.K cb)) (ha : PSs X ss (tSS X.K a)) (hb : PSs X ts (tSS X.K b)) : PS X (.If c ss ts pos) (tSS X.K (cIfS cb a b)) := (ps_if hc ha hb).weak fun D σ H ⟨ρ, F, ev, st, o, hr, sr, e, ok⟩ => by
  simp only [cIfS, Option.bind_eq_some_iff] at e
  obtain ⟨⟨k, st1⟩, e1, e2⟩ := e
  refine ⟨ρ, F, ev, st, k, st1, hr, sr, e1, fun ρ' F' H' x h => ?_⟩
  cases k with
  | true => exact ⟨ρ', F', ev, st1, o, h, sr.mono x, e2, ok.mono x⟩
  | false => exact ⟨ρ', F', ev, st1, o, h, sr.mono x, e2, ok.mono x⟩
/-- what a loop's body has to reach -/
theorem OutOk.loop {K : PySem.W.Frag} {ρ : Rho} {F : Hp} {D : Ends} {N : L2.St → Hp → Prop} {o o' : Out}
    (hn : ∀ ev st, (o = .nx ev st ∨ o = .ct ev st) → ∀ σ' ρ' F' H', Ext ρ F ρ' F' → HR ρ' F' H' st → SR K ρ' F' ev σ' → N σ' H')
    (hb : ∀ ev st, o = .bk ev st → o' = .nx ev st) (hr : ∀ w st, o = .rt w st → o' = .rt w st) (ok : OutOk K ρ F D o') : OutOk K ρ F { D with nx := N, ct := N, bk := D.nx } o := by
  cases o with
  | nx ev st => exact hn ev st (.inl rfl)
  | ct ev st => exact hn ev st (.inr rfl)
  | bk ev st => rw [hb ev st rfl] at ok; exact ok
  | rt ev st => rw [hr ev st rfl] at ok; exact ok
theorem s_while (hp : PassesOwn (model X.prog X.w) X.A X.env X.xe) (hc : PT X c (tT X.K cb)) (hb : PSs X ss (tSS X.K b)) : PS X (.While c ss [] pos) (tSS X.K (cWhile cb b)) := (ps_while hp hc hb).weak fun D σ H ⟨ρ, F, ev, st, o, hr, sr, e, ok⟩ => by
  refine ⟨fun k σ H => ∃ ρ1 F1 ev1 st1, Ext ρ F ρ1 F1 ∧ HR ρ1 F1 H st1 ∧ SR X.K ρ1 F1 ev1 σ ∧ whileN cb b k ev1 st1 = some o, ⟨lim, ρ, F, ev, st, .refl _ _, hr, sr, e⟩, ?_⟩
  rintro k σ1 H1 ⟨ρ1, F1, ev1, st1, x1, hr1, sr1, e1⟩
  cases k with
  | zero => cases e1
  | succ k =>
    simp only [whileN, Option.bind_eq_some_iff] at e1
    obtain ⟨⟨t, st2⟩, e2, e3⟩ := e1
    refine ⟨ρ1, F1, ev1, st1, t, st2, hr1, sr1, e2, fun ρ2 F2 H2 x2 hr2 => ?_⟩
    cases t with
    | false =>
      simp only [Bool.false_eq_true, if_false] at e3
      cases e3
      exact iteF (ok _ ρ2 F2 H2 (x1.trans x2) hr2 (sr1.mono x2))
    | true =>
      simp only [if_true, Option.bind_eq_some_iff] at e3
      obtain ⟨o1, e4, e5⟩ := e3
      refine iteT ⟨fun σ' H' => ∃ ρ1 F1 ev1 st1, Ext ρ F ρ1 F1 ∧ HR ρ1 F1 H' st1 ∧ SR X.K ρ1 F1 ev1 σ' ∧ whileN cb b k ev1 st1 = some o, fun σ' H' w => ⟨k, Nat.lt_succ_self _, w⟩, ρ2, F2, ev1, st2, o1, hr2, sr1.mono x2, e4, ?_⟩
      refine OutOk.loop (o' := o) (fun ev' st' q σ' ρ' F' H' x hr' sr' => ⟨ρ', F', ev', st', (x1.trans x2).trans x, hr', sr', ?_⟩) (fun ev' st' q => ?_) (fun w st' q => ?_) (ok.mono (x1.trans x2))
      · rcases q with q | q <;> (subst q; exact e5)
      · subst q; cases e5; rfl
      · subst q; cases e5; rfl
/-- nothing runs: a list of the store becomes data -/
theorem ss_freeze {i : Nat} (h : PSs X ss (tSS X.K a)) : PSs X ss (tSS X.K (cFreeze i a)) := h.weak fun D σ H ⟨ρ, F, ev, st, o, hr, sr, e, ok⟩ => by
  unfold cFreeze at e
  split at e
  · rename_i n q
    simp only [Option.bind_eq_some_iff] at e
    obtain ⟨⟨xs, st'⟩, e1, e2⟩ := e
    unfold freeze at e1
    split at e1
    · rename_i ys q2
      cases e1
      obtain ⟨v, e3, b, e4, e5⟩ := sr.get i _ q
      obtain ⟨a', vs, h1, h2, h3, h4, h5⟩ := hr.freeze q2
      obtain rfl := (h1.eq e4).symm
      subst e5
      have x : Ext ρ F ρ (upd F b (.lst vs)) := Ext.upd h2
      have sr2 := (sr.mono x).set (v := .ref b) (w := .d (.list xs)) (.lst upd_same (h4.mono x.same)) i
      have es : σ.set i (some (.ref b)) = σ := by
        apply List.ext_getElem?
        intro j
        rw [List.getElem?_set]
        split
        · rename_i hj
          subst hj
          have hl : i < σ.length := by
            rcases Nat.lt_or_ge i σ.length with z | z
            · exact z
            · rw [List.getElem?_eq_none z] at e3
              cases e3
          rw [if_pos hl, e3]
        · rfl
      rw [es] at sr2
      exact ⟨ρ, _, _, _, o, h5, sr2, e2, ok.mono x⟩
    · cases e1
  · cases e
end

/-! ### targets -/
abbrev GT := PyData → Ev → Option Ev
/-- vs: the slots that it stores to are among these -/
def tG (K : PySem.W.Frag) (vs : List Nat) (g : GT) : TG := fun v σ H Q => ∃ ρ F ev x ev', Same F H ∧ SR K ρ F ev σ ∧ Dq F v x ∧ g x ev = some ev' ∧ ∀ σ', SR K ρ F ev' σ' → L2.wipe σ' vs = L2.wipe σ vs → Q σ' H
def tGs (K : PySem.W.Frag) (vs : List Nat) (g : List PyData → Ev → Option Ev) : TGs := fun us σ H Q => ∃ ρ F ev xs ev', Same F H ∧ SR K ρ F ev σ ∧ DqA F us xs ∧ g xs ev = some ev' ∧ ∀ σ', SR K ρ F ev' σ' → L2.wipe σ' vs = L2.wipe σ vs → Q σ' H
theorem wipe_in {σ : L2.St} {i : Nat} : ∀ {vs : List Nat}, i ∈ vs → i < σ.length → (L2.wipe σ vs)[i]? = some none
  | v :: vs, h, hl => by
    unfold L2.wipe
    by_cases hv : v = i
    · subst hv
      rw [List.getElem?_set_self (by rw [wipe_length]; exact hl)]
    · rw [List.getElem?_set_ne hv]
      exact wipe_in ((List.mem_cons.mp h).resolve_left fun z => hv z.symm) hl
theorem wipe_set {σ : L2.St} {i : Nat} {x : Option V} {vs : List Nat} (h : i ∈ vs) : L2.wipe (σ.set i x) vs = L2.wipe σ vs := by
  apply List.ext_getElem?
  intro j
  by_cases hj : j ∈ vs
  · by_cases hl : j < σ.length
    · rw [wipe_in hj (by simpa using hl), wipe_in hj hl]
    · rw [List.getElem?_eq_none (by rw [wipe_length, List.length_set]; omega), List.getElem?_eq_none (by rw [wipe_length]; omega)]
  · rw [wipe_out hj, wipe_out hj, List.getElem?_set_ne (show i ≠ j from fun z => by subst z; exact hj h)]
def gN (i : Nat) : GT := fun x ev => some (ev.set i (some (.d x)))
def gsNil : List PyData → Ev → Option Ev
  | [], ev => some ev
  | _, _ => none
def gsCons (g : GT) (r : List PyData → Ev → Option Ev) : List PyData → Ev → Option Ev
  | x :: xs, ev => (g x ev).bind fun ev' => r xs ev'
  | _, _ => none
def gT (g : List PyData → Ev → Option Ev) : GT := fun x ev => match x with
  | .tuple xs => g xs ev
  | _ => none
def cSetT (g : GT) (e : SE) : SS := fun ev st => (e ev st).bind fun p => match p.1 with
  | .d x => (g x ev).map fun ev' => .nx ev' p.2
  | _ => none
def cParN (is : List Nat) (a : SA) : SS := fun ev st => (a ev st).bind fun p => if p.1.length = is.length then some (.nx ((is.zip p.1).foldl (fun ev q => ev.set q.1 (some q.2)) ev) p.2) else none
section
variable {X : Cx} {e c tg : Expr} {es : List Expr} {pos : Pos} {ce : SE} {g : GT} {zs : List Nat}
theorem g_name {i : Nat} {x : Str} (hm : i ∈ zs) (hN : X.N.Nodup) (hi : X.N[i]? = some x) (hx : Loc X.env.scope x) (hf : X.fn x = true ∨ X.env.scope.names.lookup x = some .local := by first | exact .inl rfl | exact .inr rfl | assumption) : PG X (.Name x pos) (tG X.K zs (gN i)) :=
  (pg_name hN hi hx hf).weak fun v σ H Q ⟨ρ, F, ev, x, ev', hs, sr, d, e, q⟩ => by
    cases e
    exact q _ (sr.set (w := .d x) d i) (wipe_set hm)
theorem gs_nil : PGs X [] (tGs X.K zs gsNil) := ⟨fun pins s σ H vs us Q I r ⟨ρ, F, ev, xs, ev', hs, sr, d, e, q⟩ => pgs_nil.run pins s σ H vs us Q I r (by
  cases d with
  | nil => cases e; exact ⟨rfl, q _ sr rfl⟩
  | cons a b => cases e)⟩
theorem gs_cons {r : List PyData → Ev → Option Ev} (h1 : PG X e (tG X.K zs g)) (h2 : PGs X es (tGs X.K zs r)) (hs : (assignEach (e :: es) X.env).map (·.2) = assign e X.env :: (assignEach es X.env).map (·.2) := by rfl) : PGs X (e :: es) (tGs X.K zs (gsCons g r)) :=
  ⟨fun pins s σ H vs us Q I r ⟨ρ, F, ev, xs, ev', hs', sr, d, e, q⟩ => (pgs_cons h1 h2 hs).run pins s σ H vs us Q I r (by
    cases d with
    | nil => cases e
    | cons a b =>
      simp only [gsCons, Option.bind_eq_some_iff] at e
      obtain ⟨ev1, e1, e2⟩ := e
      exact ⟨_, _, rfl, ρ, F, ev, _, ev1, hs', sr, a, e1, fun σ' sr' w1 => ⟨ρ, F, ev1, _, ev', hs', sr', b, e2, fun σ2 sr2 w2 => q σ2 sr2 (w2.trans w1)⟩⟩)⟩
theorem gs_len {r : List PyData → Ev → Option Ev} {n : Nat} (h : ∀ xs ev ev', r xs ev = some ev' → xs.length = n) (g : GT) : ∀ xs ev ev', gsCons g r xs ev = some ev' → xs.length = n + 1
  | [], _, _, e => by cases e
  | x :: xs, ev, ev', e => by
    simp only [gsCons, Option.bind_eq_some_iff] at e
    obtain ⟨ev1, _, e2⟩ := e
    simp [h _ _ _ e2]
theorem gs_len0 : ∀ xs ev ev', gsNil xs ev = some ev' → xs.length = 0
  | [], _, _, _ => rfl
  | x :: xs, ev, ev', e => by cases e
theorem g_tup {k : Nat} {r : List PyData → Ev → Option Ev} {n : Nat} (hc : X.calm = true) (h : PGs X es (tGs X.K zs r)) (hl : ∀ xs ev ev', r xs ev = some ev' → xs.length = n)
    (hn : (assignEach es X.env).length = n := by rfl) (hst : (assignEach es X.env).findIdx? (·.1) = none := by rfl) : PG X (.Tuple es k pos) (tG X.K zs (gT r)) :=
  (pg_tup hc h hn hst).weak fun v σ H Q ⟨ρ, F, ev, x, ev', hs, sr, d, e, q⟩ => by
    cases d with
    | tup h a => exact ⟨_, _, rfl, SqT.of (hs _ _ h), by rw [a.length]; exact hl _ _ _ e, ρ, F, ev, _, ev', hs, sr, a, e, q⟩
    | _ => cases e
theorem s_setT (he : PE X e (tI X.K ce)) (hg : PG X tg (tG X.K zs g)) (hs : swapsWithSole [tg] e pos.line X.env = pure false := by rfl) (hw : swappedStores [tg] e X.env = pure none := by rfl)
    (h1 : (assignEach [tg] X.env).map (·.2) = [assign tg X.env] := by rfl) : PS X (.Assign [tg] e pos) (tSS X.K (cSetT g ce)) := (ps_asg he hg hs hw h1).weak fun D σ H ⟨ρ, F, ev, st, o, hr, sr, e, ok⟩ => by
  simp only [cSetT, Option.bind_eq_some_iff] at e
  obtain ⟨⟨w, st'⟩, e1, e2⟩ := e
  cases w with
  | d x =>
    simp only [Option.map_eq_some_iff] at e2
    obtain ⟨ev', e3, e4⟩ := e2
    subst e4
    exact ⟨ρ, F, ev, st, _, st', hr, sr, e1, fun v ρ' F' H' x hr' wr => ⟨ρ', F', ev, _, ev', hr'.sub, sr.mono x, wr, e3, fun σ' sr' _ => ok _ ρ' F' H' x hr' sr'⟩⟩
  | l n => cases e2
  | s n => cases e2
  | k n => cases e2
  | o C n => cases e2
  | p C n => cases e2
  | q C n => cases e2
/-- a, b = x, y with two plain local names -/
theorem s_par {i j : Nat} {x y : Str} {a b : Expr} {sa : SA} {px py pt : Pos} {kt k2 pt2} (hc : X.calm = true) (hN : X.N.Nodup) (hi : X.N[i]? = some x) (hj : X.N[j]? = some y) (hij : i ≠ j)
    (hx : X.env.scope.names.lookup x = some .local) (hy : X.env.scope.names.lookup y = some .local) (ha : PA X [a, b] (tA X.K sa))
    (hw : Swaps X (.Tuple [.Name x px, .Name y py] kt pt) (.Tuple [a, b] k2 pt2) (some [x, y])) (hs : NoSole X (.Tuple [.Name x px, .Name y py] kt pt) (.Tuple [a, b] k2 pt2) pos := by rfl) :
    PS X (.Assign [.Tuple [.Name x px, .Name y py] kt pt] (.Tuple [a, b] k2 pt2) pos) (tSS X.K (cParN [i, j] sa)) := (ps_par hc hN hi hj hij hx hy ha hw hs).weak fun D σ H ⟨ρ, F, ev, st, o, hr, sr, e, ok⟩ => by
  simp only [cParN, Option.bind_eq_some_iff] at e
  obtain ⟨⟨ws, st'⟩, e1, e2⟩ := e
  split at e2
  · rename_i hl
    cases e2
    refine ⟨ρ, F, ev, st, ws, st', hr, sr, e1, fun vs ρ' F' H' x hr' wr => ?_⟩
    cases wr with
    | nil => cases hl
    | cons w1 t =>
      cases t with
      | nil => cases hl
      | cons w2 t =>
        cases t with
        | nil => exact ⟨_, _, rfl, ok _ ρ' F' H' x hr' (((sr.mono x).set w1 i).set w2 j)⟩
        | cons w3 t => simp at hl
  · cases e2
/-- a, b, .. = x, y, .. by the tuple (some name is a cell) -/
def gNames : List Nat → TGs
  | [] => gNil
  | i :: is => gCons (gName i) (gNames is)
theorem names_ok {K : PySem.W.Frag} {ρ : Rho} {F : Hp} {H : Hp} {Q : L2.St → Hp → Prop} : ∀ {is : List Nat} {vs : List V} {ws : List U} {ev : Ev} {σ : L2.St}, SR K ρ F ev σ → WRs K ρ F vs ws → ws.length = is.length →
    (∀ σ', SR K ρ F ((is.zip ws).foldl (fun ev q => ev.set q.1 (some q.2)) ev) σ' → Q σ' H) → gNames is vs σ H Q
  | [], _, _, ev, σ, sr, .nil, _, q => ⟨rfl, q _ sr⟩
  | [], _, _, ev, σ, sr, .cons _ _, hl, q => by simp at hl
  | i :: is, _, _, ev, σ, sr, .nil, hl, q => by simp at hl
  | i :: is, _, _, ev, σ, sr, .cons w t, hl, q => ⟨_, _, rfl, names_ok (is := is) (sr.set w i) t (by simpa using hl) q⟩
theorem s_parT {es ts : List Expr} {is : List Nat} {sa : SA} {pt : Pos} {kt k2 pt2} (hc : X.calm = true) (hg : PGs X ts (gNames is)) (ha : PA X es (tA X.K sa)) (hl : is.length ≤ lim := by decide)
    (hn : (assignEach ts X.env).length = is.length := by rfl) (hst : (assignEach ts X.env).findIdx? (·.1) = none := by rfl)
    (hs : swapsWithSole [.Tuple ts kt pt] (.Tuple es k2 pt2) pos.line X.env = pure false := by rfl) (hw : swappedStores [.Tuple ts kt pt] (.Tuple es k2 pt2) X.env = pure none := by rfl)
    (h1 : (assignEach [.Tuple ts kt pt] X.env).map (·.2) = [assign (.Tuple ts kt pt) X.env] := by rfl) :
    PS X (.Assign [.Tuple ts kt pt] (.Tuple es k2 pt2) pos) (tSS X.K (cParN is sa)) := (ps_asg (pe_tup ha) (pg_tup hc hg hn hst) hs hw h1).weak fun D σ H ⟨ρ, F, ev, st, o, hr, sr, e, ok⟩ => by
  simp only [cParN, Option.bind_eq_some_iff] at e
  obtain ⟨⟨ws, st'⟩, e1, e2⟩ := e
  split at e2
  · rename_i hlw
    cases e2
    refine ⟨ρ, F, ev, st, ws, st', hr, sr, e1, fun vs ρ' F' H' x hr' wr => ⟨?_, fun p np => ⟨p, vs, rfl, SqT.of upd_same, ?_, ?_⟩⟩⟩
    · rw [wr.length, hlw]
      exact lim_le hl
    · rw [wr.length]
      exact hlw
    · have hr2 : HR ρ' F' (upd H' p (.tup vs)) st' := ⟨hr'.sub.trans (same_upd np), fun n xs e => by
        obtain ⟨a, us, k1, k2, k3, k4⟩ := hr'.cell n xs e
        exact ⟨a, us, k1, same_upd np _ _ k2, k3, k4⟩, hr'.inj, hr'.len, hr'.obj.new np⟩
      exact names_ok (sr.mono x) wr hlw fun σ' sr' => ok _ ρ' F' _ x hr2 sr'
  · cases e2
end

/-! ### what is walked -/
inductive Src where
  | fix (xs : List PyData)
  | cell (n : Nat)
abbrev SI := Ev → Sto → Option (Src × Sto)
/-- a dict that is filled -/
def Fl (a : Addr) (o : HO) : Prop := (∃ ks, o = .dK ks) ∨ ∃ P w xs, o = NkO P w a xs
theorem nfl {a : Addr} {o : HO} (h1 : ∀ ks, o ≠ .dK ks) (h2 : ∀ φ, o ≠ .ext φ) : ¬ Fl a o := fun h => by
  rcases h with ⟨ks, h⟩ | ⟨P, w, xs, h⟩
  · exact h1 ks h
  · exact h2 _ h
theorem nfl_s {a C dx : Addr} {vs : List (Option V)} : ¬ Fl a (SlX.SlO a C dx vs) := fun h => by
  rcases h with ⟨ks, h⟩ | ⟨P, w, xs, h⟩
  · unfold SlX.SlO at h
    cases h
  · exact nk_slo rfl h.symm
/-- all that stood still stands, but dicts may have changed -/
def SamD (F F1 : Hp) : Prop := ∀ a o, F a = some o → ¬ Fl a o → F1 a = some o
theorem sameD {F F1 : Hp} (h : Same F F1) : SamD F F1 := fun a o e _ => h a o e
theorem SamD.trans {F F1 F2 : Hp} (h : SamD F F1) (g : SamD F1 F2) : SamD F F2 := fun a o e n => g a o (h a o e n) n
theorem SamD.seq {K : PySem.W.Frag} {F F1 : Hp} {a : Addr} {xs : List V} (s : SamD F F1) : SqL K F a xs → SqL K F1 a xs
  | .inl (.inl q) => .inl (.inl (s a _ q (nfl (fun _ q => nomatch q) fun _ q => nomatch q)))
  | .inl (.inr ⟨o, q⟩) => .inl (.inr ⟨o, s a _ q (nfl (fun _ q => nomatch q) fun _ q => nomatch q)⟩)
  | .inr q => .inr q
mutual
theorem Dq.monoD {F F' : Hp} (e : SamD F F') : ∀ {v : V} {d : PyData}, Dq F v d → Dq F' v d
  | _, _, .non => .non
  | _, _, .bl b => .bl b
  | _, _, .int i => .int i
  | _, _, .str x => .str x
  | _, _, .lst h a => .lst (e _ _ h (nfl (fun _ q => nomatch q) fun _ q => nomatch q)) (DqA.monoD e a)
  | _, _, .tup h a => .tup (e _ _ h (nfl (fun _ q => nomatch q) fun _ q => nomatch q)) (DqA.monoD e a)
  | _, _, .obj h g a => .obj (e _ _ h nfl_s) (e _ _ g (nfl (fun _ q => nomatch q) fun _ q => nomatch q)) (DqA.monoD e a)
  | _, _, .hid v => .hid v
  | _, _, .exn h c d k => .exn (e _ _ h (nfl (fun _ q => nomatch q) fun _ q => nomatch q)) c d fun dx z => let ⟨fs, q⟩ := k dx z; ⟨fs, e _ _ q (nfl (fun _ q => nomatch q) fun _ q => nomatch q)⟩
  | _, _, .dtt h n x d t k => .dtt (e _ _ h (nfl (fun _ q => nomatch q) fun _ q => nomatch q)) n x d t fun y hy => e _ _ (k y hy) (nfl (fun _ q => nomatch q) fun _ q => nomatch q)
theorem DqA.monoD {F F' : Hp} (e : SamD F F') : ∀ {vs : List V} {ds : List PyData}, DqA F vs ds → DqA F' vs ds
  | _, _, .nil => .nil
  | _, _, .cons h t => .cons (Dq.monoD e h) (DqA.monoD e t)
end
/-- the walk gives the items one by one, whatever grows meanwhile -/
def Yld (F : Hp) (J : It) (xs : List PyData) : Prop := ∀ F1 H, SamD F F1 → Same F1 H →
  (∀ i d, xs[i]? = some d → J.go i H ∧ ∀ x H', J.yld i H x H' → ∃ F2, Grow F1 H F2 H' ∧ Dq F2 x d) ∧ J.stop xs.length H
def YldS (K : PySem.W.Frag) (ρ : Rho) (F : Hp) (J : It) : Src → Prop
  | .fix xs => Yld F J xs
  | .cell n => ∃ a, ρ[n]? = some (a, 0) ∧ J = Itl K a
def tIt (K : PySem.W.Frag) (c : SI) : TI := fun σ H R => ∃ ρ F ev st src st', HR ρ F H st ∧ SR K ρ F ev σ ∧ c ev st = some (src, st') ∧ ∀ J ρ' F' H', Ext ρ F ρ' F' → HR ρ' F' H' st' → YldS K ρ' F' J src → R J H'
def forL (g : GT) (b : SS) : List PyData → SS
  | [], ev, st => some (.nx ev st)
  | x :: xs, ev, st => (g x ev).bind fun ev1 => (b ev1 st).bind fun o => match o with
    | .nx ev' st' => forL g b xs ev' st'
    | .ct ev' st' => forL g b xs ev' st'
    | .bk ev' st' => some (.nx ev' st')
    | .rt w st' => some (.rt w st')
/-- over a list of the store, as it stands at each turn -/
def forC (g : GT) (b : SS) (n : Nat) : Nat → Nat → SS
  | 0, _, _, _ => none
  | k + 1, i, ev, st => match st[n]? with
    | some (some xs) => match xs[i]? with
      | none => some (.nx ev st)
      | some x => (g x ev).bind fun ev1 => (b ev1 st).bind fun o => match o with
        | .nx ev' st' => forC g b n k (i + 1) ev' st'
        | .ct ev' st' => forC g b n k (i + 1) ev' st'
        | .bk ev' st' => some (.nx ev' st')
        | .rt w st' => some (.rt w st')
    | _ => none
def cFor (it : SI) (g : GT) (b : SS) : SS := fun ev st => (it ev st).bind fun p => match p.1 with
  | .fix xs => forL g b xs ev p.2
  | .cell n => forC g b n lim 0 ev p.2
section
variable {X : Cx} {tg iter : Expr} {ss : List Stmt} {pos : Pos} {ci : SI} {g : GT} {b : SS} {zs : List Nat}
theorem for_ok {D : Ends} {σ : L2.St} {H : Hp} (h : tSS X.K (cFor ci g b) D σ H) : tFor (tIt X.K ci) (tG X.K zs g) (tSS X.K b) D σ H := by
  obtain ⟨ρ, F, ev, st, o, hr, sr, e, ok⟩ := h
  simp only [cFor, Option.bind_eq_some_iff] at e
  obtain ⟨⟨src, st'⟩, e1, e2⟩ := e
  refine ⟨ρ, F, ev, st, src, st', hr, sr, e1, fun J ρ' F' H' x hr' y => ?_⟩
  cases src with
  | fix xs =>
    refine ⟨fun i m σ H => m = xs.length - i ∧ i ≤ xs.length ∧ ∃ ρ1 F1 ev1 st1, Ext ρ' F' ρ1 F1 ∧ HR ρ1 F1 H st1 ∧ SR X.K ρ1 F1 ev1 σ ∧ forL g b (xs.drop i) ev1 st1 = some o, ⟨xs.length, rfl, Nat.zero_le _, ρ', F', ev, st', .refl _ _, hr', sr.mono x, e2⟩, ?_⟩
    rintro i m σ1 H1 ⟨rfl, hi, ρ1, F1, ev1, st1, x1, hr1, sr1, e3⟩
    obtain ⟨yg, ys⟩ := y F1 H1 (sameD x1.same) hr1.sub
    by_cases hlt : i < xs.length
    · rw [List.drop_eq_getElem_cons hlt] at e3
      simp only [forL, Option.bind_eq_some_iff] at e3
      obtain ⟨ev2, e4, o1, e5, e6⟩ := e3
      obtain ⟨go, yl⟩ := yg i xs[i] (List.getElem?_eq_getElem hlt)
      refine .inr ⟨go, fun σ H => ∃ ρ1 F1 ev1 st1, Ext ρ' F' ρ1 F1 ∧ HR ρ1 F1 H st1 ∧ SR X.K ρ1 F1 ev1 σ ∧ forL g b (xs.drop (i + 1)) ev1 st1 = some o, fun σ' H' w => ⟨xs.length - (i + 1), by omega, rfl, hlt, w⟩, fun v H2 yv => ?_⟩
      obtain ⟨F2, gr, d⟩ := yl v H2 yv
      have x2 : Ext ρ1 F1 ρ1 F2 := .of gr
      refine ⟨ρ1, F2, ev1, xs[i], ev2, gr.fh, sr1.mono x2, d, e4, fun σ3 sr3 _ => ⟨ρ1, F2, ev2, st1, o1, hr1.grow gr, sr3, e5, ?_⟩⟩
      refine OutOk.loop (o' := o) (fun ev' st'' q σ' ρ'' F'' H'' x' hr'' sr'' => ⟨ρ'', F'', ev', st'', (x1.trans x2).trans x', hr'', sr'', ?_⟩) (fun ev' st'' q => ?_) (fun w st'' q => ?_) (ok.mono ((x.trans x1).trans x2))
      · rcases q with q | q <;> (subst q; exact e6)
      · subst q; cases e6; rfl
      · subst q; cases e6; rfl
    · have hx : i = xs.length := by omega
      subst hx
      rw [List.drop_length] at e3
      cases e3
      exact .inl ⟨ys, ok _ ρ1 F1 H1 (x.trans x1) hr1 sr1⟩
  | cell n =>
    obtain ⟨a, ha, rfl⟩ := y
    refine ⟨fun i m σ H => ∃ ρ1 F1 ev1 st1, Ext ρ' F' ρ1 F1 ∧ HR ρ1 F1 H st1 ∧ SR X.K ρ1 F1 ev1 σ ∧ forC g b n m i ev1 st1 = some o, ⟨lim, ρ', F', ev, st', .refl _ _, hr', sr.mono x, e2⟩, ?_⟩
    rintro i m σ1 H1 ⟨ρ1, F1, ev1, st1, x1, hr1, sr1, e3⟩
    cases m with
    | zero => cases e3
    | succ m =>
      simp only [forC] at e3
      split at e3
      · rename_i xs q
        obtain ⟨a', vs, h1, h2, h3, h4⟩ := hr1.cell n xs q
        obtain rfl := (h1.eq (x1.pre n a ha)).symm
        have hq : SqL X.K H1 a vs := SqL.of h2
        have fn : ∀ ys, SqL X.K H1 a ys → True := fun _ _ => trivial
        split at e3
        · rename_i q2
          cases e3
          refine .inl ⟨⟨vs, hq, ?_⟩, ok _ ρ1 F1 H1 (x.trans x1) hr1 sr1⟩
          rw [h4.length]
          exact List.getElem?_eq_none_iff.mp q2
        · rename_i d q2
          simp only [Option.bind_eq_some_iff] at e3
          obtain ⟨ev2, e4, o1, e5, e6⟩ := e3
          obtain ⟨v, hv, dv⟩ := h4.get' q2
          refine .inr ⟨⟨vs, v, hq, hv⟩, fun σ H => ∃ ρ1 F1 ev1 st1, Ext ρ' F' ρ1 F1 ∧ HR ρ1 F1 H st1 ∧ SR X.K ρ1 F1 ev1 σ ∧ forC g b n m (i + 1) ev1 st1 = some o, fun σ' H' w => ⟨m, Nat.lt_succ_self _, w⟩, fun v' H2 ⟨eH, yv⟩ => ?_⟩
          subst eH
          have ev' : v' = v := Option.some.inj ((yv vs hq).symm.trans hv)
          subst ev'
          refine ⟨ρ1, F1, ev1, d, ev2, hr1.sub, sr1, dv, e4, fun σ3 sr3 _ => ⟨ρ1, F1, ev2, st1, o1, hr1, sr3, e5, ?_⟩⟩
          refine OutOk.loop (o' := o) (fun ev' st'' q σ' ρ'' F'' H'' x' hr'' sr'' => ⟨ρ'', F'', ev', st'', x1.trans x', hr'', sr'', ?_⟩) (fun ev' st'' q => ?_) (fun w st'' q => ?_) (ok.mono (x.trans x1))
          · rcases q with q | q <;> (subst q; exact e6)
          · subst q; cases e6; rfl
          · subst q; cases e6; rfl
      · cases e3
theorem s_for (hp : PassesOwn (model X.prog X.w) X.A X.env X.xe) (hc : X.calm = true) (hi : PI X tg iter (tIt X.K ci)) (hg : PG X tg (tG X.K zs g)) (hb : PSs X ss (tSS X.K b))
    (hs : ∀ x, foldedSetIterable iter X.env x = pure x := by exact fun _ => rfl) : PS X (.For tg iter ss [] pos) (tSS X.K (cFor ci g b)) := (ps_for hp hc hi hg hb hs).weak fun _ _ _ h => for_ok h
end
/-! sources -/
def iSeq (a : SE) : SI := fun ev st => (a ev st).bind fun p => match p.1 with
  | .l n => match p.2[n]? with
    | some (some _) => some (.cell n, p.2)
    | _ => none
  | .d (.list xs) => some (.fix xs, p.2)
  | .d (.tuple xs) => some (.fix xs, p.2)
  | _ => none
theorem walk_yld {J : It} {n : Nat} {G : Hp → Prop} {Y : Nat → Hp → V → Hp → Prop} {F : Hp} {xs : List PyData} (w : Walk J n G Y) (hn : n = xs.length) (hG : ∀ F1 H, SamD F F1 → Same F1 H → G H)
    (hy : ∀ F1 H i d x H', SamD F F1 → Same F1 H → xs[i]? = some d → Y i H x H' → ∃ F2, Grow F1 H F2 H' ∧ Dq F2 x d) : Yld F J xs := fun F1 H s1 s2 => by
  subst hn
  have lt : ∀ i d, xs[i]? = some d → i < xs.length := fun i d e => by
    rcases Nat.lt_or_ge i xs.length with q | q
    · exact q
    · rw [List.getElem?_eq_none q] at e
      cases e
  exact ⟨fun i d e => ⟨w.goes i H (lt i d e) (hG F1 H s1 s2), fun x H' y => hy F1 H i d x H' s1 s2 e (w.yields i H x H' (lt i d e) (hG F1 H s1 s2) y)⟩, w.stops H (hG F1 H s1 s2)⟩
theorem yld_list {K : PySem.W.Frag} {F : Hp} {a : Addr} {vs : List V} {xs : List PyData} (h : ∀ F1 H, SamD F F1 → Same F1 H → SqL K H a vs) (d : DqA F vs xs) : Yld F (Itl K a) xs :=
  walk_yld (walk_list (xs := vs)) d.length h fun F1 H i x v H' s1 s2 e ⟨e1, e2⟩ => by
    subst e1
    obtain ⟨v', h1, h2⟩ := d.get' e
    rw [e2] at h1
    cases h1
    exact ⟨F1, .refl s2, h2.monoD s1⟩
theorem yld_tup {K : PySem.W.Frag} {F : Hp} {a : Addr} {vs : List V} {xs : List PyData} (h : F a = some (.tup vs)) (d : DqA F vs xs) : Yld F (Itt K a) xs :=
  walk_yld (walk_tup (xs := vs)) d.length (fun F1 H s1 s2 => SqT.of (s2 _ _ (s1 _ _ h (nfl (fun _ q => nomatch q) fun _ q => nomatch q)))) fun F1 H i x v H' s1 s2 e ⟨e1, e2⟩ => by
    subst e1
    obtain ⟨v', h1, h2⟩ := d.get' e
    rw [e2] at h1
    cases h1
    exact ⟨F1, .refl s2, h2.monoD s1⟩
section
variable {X : Cx} {tg e e1 e2 : Expr} {es : List Expr} {p pos : Pos} {ce : SE} {sa : SA}
theorem PI.or {u v : TI} {l : Expr} (h1 : PI X tg l u) (h2 : PI X tg l v) {w : TI} (h : ∀ σ H R, w σ H R → u σ H R ∨ v σ H R) : PI X tg l w := ⟨fun pins s σ H R I q => (h σ H R q).elim (fun z => h1.run pins s σ H R I z) fun z => h2.run pins s σ H R I z⟩
theorem i_seq (he : PE X e (tI X.K ce)) : PI X tg e (tIt X.K (iSeq ce)) := PI.or (pi_list he) (pi_tup he) fun σ H R ⟨ρ, F, ev, st, src, st', hr, sr, e, post⟩ => by
  simp only [iSeq, Option.bind_eq_some_iff] at e
  obtain ⟨⟨w, st1⟩, e1, e2⟩ := e
  split at e2
  · rename_i n q
    cases q
    split at e2
    · rename_i ys q2
      cases e2
      refine .inl ⟨ρ, F, ev, st, _, _, hr, sr, e1, fun v ρ' F' H' x hr' ⟨a, ha, hv⟩ => ⟨a, hv, ?_, post _ ρ' F' H' x hr' ⟨a, ha, rfl⟩⟩⟩
      obtain ⟨b, vs, k1, k2, _⟩ := hr'.cell n ys q2
      obtain rfl := (k1.eq ha).symm
      exact ⟨vs, SqL.of k2⟩
    · cases e2
  · rename_i xs q
    cases q
    cases e2
    refine .inl ⟨ρ, F, ev, st, _, _, hr, sr, e1, fun v ρ' F' H' x hr' d => ?_⟩
    cases d with
    | lst h a => exact ⟨_, rfl, ⟨_, SqL.of (hr'.sub _ _ h)⟩, post _ ρ' F' H' x hr' (yld_list (fun F1 H s1 s2 => SqL.of (s2 _ _ (s1 _ _ h (nfl (fun _ q => nomatch q) fun _ q => nomatch q)))) a)⟩
  · rename_i xs q
    cases q
    cases e2
    refine .inr ⟨ρ, F, ev, st, _, _, hr, sr, e1, fun v ρ' F' H' x hr' d => ?_⟩
    cases d with
    | tup h a => exact ⟨_, rfl, ⟨_, SqT.of (hr'.sub _ _ h)⟩, post _ ρ' F' H' x hr' (yld_tup h a)⟩
  · cases e2
end
end Cm

set_option Elab.async false
set_option linter.all false
set_option maxRecDepth 100000
set_option maxHeartbeats 1000000
/-! enumerate(tuple) -/
namespace Cm
open PySem PySem.Spec PyProof.Rows L2
abbrev tupIt (t : Addr) : Obj := { cls := .type "tuple_iterator", data := .fields #[.ref t, .int 0 0] }
abbrev enumO (a : Addr) : Obj := { cls := .type "enumerate", data := .fields #[.none, .bool false, .ref a, rawInt 0, .none, .none] }
theorem enum_new_tup (l : Addr) (its : Array Value) : Meets (Builtin.«enumerate.__new__» ⟨[.type "enumerate", .ref l], []⟩)
    (fun _ R s => s.heap.IsTuple l its ∧ R (.ok (.ret (.ref (s.heap.push (tupIt l)).objs.size))) { s with heap := (s.heap.push (tupIt l)).push (enumO s.heap.objs.size) }) :=
  .of_wp fun prog w A R s hh => by
    obtain ⟨h0, g, dr, tk, os⟩ := s
    obtain ⟨ht, q⟩ := hh
    have hsub := sub_enumerate
    have hT : Heap.IsTuple (Shared.heap ⟨h0, g, dr, tk, os⟩) l its := ht
    wp_walk using wpAny_pyIter_tuple hT
    apply wpAny_stack_any
    intro st
    apply wpAny_pure
    split
    · rename_i c _ _ _ _ _
      by_cases hc : (c == Value.type "enumerate") = true
      all_goals
        first | rw [hc] | rw [Bool.eq_false_iff.mpr hc]
        wp_walk using wpAny_pyIter_tuple hT
        exact ⟨_, rfl, q⟩
    · wp_walk using wpAny_pyIter_tuple hT
      exact ⟨_, rfl, q⟩
theorem enum_call_tup {prog : Program} {w : World} {A : Around} {E : Value → Shared → Prop} {s : Shared} {l : Addr} {its : Array Value} {Q : Value → Shared → Prop} (ht : s.heap.IsTuple l its)
    (h : ∀ h', IsEnum h' (s.heap.objs.size + 1) s.heap.objs.size 0 .none → h'.IsTupleIter s.heap.objs.size l 0 → (∀ b o, s.heap.get? b = some o → h'.get? b = some o) →
      Q (.ref (s.heap.objs.size + 1)) { s with heap := h' }) : wpAny (model prog w) A (call (.type "enumerate") [.ref l]) Q E s := by
  have z : (s.heap.push (tupIt l)).objs.size = s.heap.objs.size + 1 := Heap.size_push ..
  have e1 : ((s.heap.push (tupIt l)).push (enumO s.heap.objs.size)).get? (s.heap.push (tupIt l)).objs.size = some (enumO s.heap.objs.size) := Heap.get?_push_size _ rfl
  have e2 : ((s.heap.push (tupIt l)).push (enumO s.heap.objs.size)).get? s.heap.objs.size = some (tupIt l) := Heap.get?_push_of_some _ (Heap.get?_push_size _ rfl)
  refine callType_new F.called_enumerate (by decide) (F.typeCall_enumerate_1 _) (F.newCall_enumerate_1 _) (fun o => F.args_object_init_2 o _) F.entry_enumerate_new (enum_new_tup l its) ⟨ht, ?_⟩
  rw [z] at e1
  show _ ∧ _
  rw [z]
  exact ⟨⟨_, e1, rfl⟩, h _ e1 ⟨_, e2, rfl, rfl⟩ fun b o q => Heap.get?_push_of_some _ (Heap.get?_push_of_some _ q)⟩
/-- the tuple at a, each item in a new pair behind its number -/
def ItE (K : PySem.W.Frag) (a : Addr) : It :=
  ⟨fun i H => ∃ (xs : List V) (x : V), H a = some (.tup xs) ∧ xs[i]? = some x, fun i H v H' => ∃ T x, v = .ref T ∧ H T = none ∧ H' = upd H T (.tup [.int (i : Nat), x]) ∧ ∀ xs, H a = some (.tup xs) → xs[i]? = some x, fun i H => ∃ xs : List V, H a = some (.tup xs) ∧ xs.length = i⟩
theorem turn_enumT {P : Program} {w : World} {K : PySem.W.Frag} {elts : List Expr} {kk : Nat} {tpos : Pos} (a e it : Addr) (hai : a ≠ it) (hae : e ≠ a) (hne : e ≠ it) :
    Turn P w K (.Tuple elts kk tpos) (ItE K a) [e, it] e (fun i h => (∃ old, IsEnum h e it ((i : Nat) : Int) old) ∧ h.IsTupleIter it a i) where
  mem := by simp
  obj := by
    rintro i h ⟨⟨old, atE⟩, ob, atI, _, dat⟩ c inC
    have cases2 : c = e ∨ c = it := by simpa using inC
    cases cases2 with
    | inl q => exact q ▸ ⟨_, atE, fun _ bad => nomatch bad⟩
    | inr q => exact q ▸ ⟨ob, atI, fun _ bad => nomatch dat.symm.trans bad⟩
  keep := by
    rintro i h g ⟨⟨old, atE⟩, walk⟩ same
    exact ⟨⟨old, same e (by simp) _ atE⟩, walk.at (same it (by simp))⟩
  item := by
    rintro X rfl rfl rfl calm i pins s σ H E inv away ⟨⟨old, atE⟩, walk⟩ ⟨xs, x, tupA, nth⟩
    obtain ⟨its, vals, isT, _⟩ := inv.tuple (SqT.of tupA)
    obtain ⟨v, nthV, rel⟩ := vals.get nth
    have quiet : X.A.in1.handled = none := inv.ok.hd calm
    have below : i < its.toArray.size := by
      have : i < its.length := (List.getElem?_eq_some_iff.mp nthV).1
      simpa using this
    have eLow := Heap.lt_size atE
    have iLow : it < s.heap.objs.size := let ⟨_, q, _⟩ := walk; Heap.lt_size q
    refine wpAny_pyNext_enum_itemD (Draws.tuple quiet it a hai its.toArray) atE ⟨walk, isT⟩ below hne (by simp [hne, hae]) ?_
    intro v' h1 tk nthV' made next tupNew _ rest
    obtain rfl : v = v' := by
      have two : its[i]? = some v' := by simpa using nthV'
      exact Option.some.inj (nthV.symm.trans two)
    refine ⟨_, rfl, wpAny_letOwnedTupleGo_enum (s := { s with heap := h1, toks := tk + 1 }) made ?_⟩
    intro h2 madeAgain but
    have pairAt : h2.get? s.heap.objs.size = some { cls := .type "tuple", data := .seq #[.int i tk, v] } := (but.2 _ (Nat.ne_of_gt eLow)).trans tupNew
    let pair : HO := .tup [.int (i : Nat), x]
    have pairOk : ObjOk X.prog X.w (upd H s.heap.objs.size pair) h2 s.heap.objs.size pair := ⟨(by decide : 2 ≤ sizeLine), _, .cons ⟨tk, rfl⟩ (.cons rel .nil), _, pairAt, rfl, _, rfl⟩
    have stands : ∀ c o, c ∉ [e, it] → s.heap.get? c = some o → h2.get? c = some o := by
      intro c o out old
      have ne : c ≠ e ∧ c ≠ it := by simpa using out
      exact (but.2 c ne.1).trans (rest c o ne.1 ne.2 old)
    have inv2 : Inv X pins σ (upd H s.heap.objs.size pair) { s with heap := h2, toks := tk + 1 } := inv.turnedNew (ch := [e, it]) stands away (Nat.le_refl _) pairOk
    refine ⟨.ref s.heap.objs.size, _, inv2, rfl, ⟨_, x, rfl, inv.fresh, rfl, ?_⟩, ⟨⟨v, ?_⟩, next.1.at fun _ q => (but.2 it hne.symm).trans q⟩, ?_⟩
    · intro ys tupA'
      cases tupA.symm.trans tupA'
      exact nth
    · have up : ((i + 1 : Nat) : Int) = (i : Int) + 1 := by omega
      exact up ▸ madeAgain
    · intro c inC
      have low : c < s.heap.objs.size := by
        have cases2 : c = e ∨ c = it := by simpa using inC
        exact cases2.elim (fun q => q ▸ eLow) (fun q => q ▸ iLow)
      exact (upd_ne (Nat.ne_of_lt low)).trans (away c inC).1
  done := by
    rintro X rfl rfl rfl calm i pins s σ H E inv away ⟨⟨old, atE⟩, walk⟩ ⟨xs, tupA, len⟩
    obtain ⟨its, vals, isT, _⟩ := inv.tuple (SqT.of tupA)
    have quiet : X.A.in1.handled = none := inv.ok.hd calm
    have size : its.toArray.size = i := by
      have := vals.length
      simp
      omega
    have ⟨g0, g1, _, g3, g4, g5⟩ := away it (by simp)
    refine wpAny_pyNext_enum_endD (Draws.tuple quiet it a hai its.toArray) atE ⟨size ▸ walk, isT⟩ ?_
    intro h1 but
    exact ⟨rfl, inv.turned (t' := s.toks) but g0 g1 g3 g4 g5⟩
  self := by
    rintro A i s Q E ⟨⟨_, atE⟩, _⟩ go
    exact wpAny_pyIter_enum atE go
def iEnumT (ta : TA) (K : PySem.W.Frag) : TI := fun σ H R => ta σ H fun vs H1 => ∃ a xs, vs = [.ref a] ∧ H1 a = some (.tup xs) ∧ R (ItE K a) H1
theorem pi_enumT {X : Cx} {e : Expr} {ta : TA} {p pos tpos : Pos} {elts : List Expr} {kk : Nat} (hg : Gl X "enumerate") (hm : X.mg "enumerate" = none) (ha : PA X [e] ta) (hs : starEach [e] X.env = [(false, eval e X.env)] := by rfl) :
    PI X (.Tuple elts kk tpos) (.Call (.Name "enumerate" p) [e] [] pos) (iEnumT ta X.K) := by
  constructor
  intro pins s σ H R inv asked
  have args := ha.run pos pins s σ H _ inv asked
  refine Call_ ?_
  refine ld_blt inv hg hm boot_enumerate ?_
  refine PyProof.Rows.callWith_type1 (thn args ?_) hs rfl
  rintro us g ⟨_, H1, inv1, rel, a, xs, rfl, tupA, go⟩
  obtain ⟨its, _, isT, _⟩ := inv1.tuple (SqT.of tupA)
  rw [Vals.ref1 rel]
  refine enum_call_tup (its := its.toArray) isT ?_
  intro h1 madeE madeI stands
  apply wpAny_pyIter_enum madeE
  have aLow : a < g.heap.objs.size := isT.lt
  have inv2 := inv1.kept (t' := g.toks) stands
  have turn := turn_enumT (P := X.prog) (w := X.w) (K := X.K) (elts := elts) (kk := kk) (tpos := tpos) a (g.heap.objs.size + 1) g.heap.objs.size (Nat.ne_of_lt aLow) (Nat.ne_of_gt (Nat.lt_succ_of_lt aLow)) (Nat.succ_ne_self _)
  refine ⟨_, _, _, _, H1, rfl, inv2, turn, ⟨⟨.none, madeE⟩, madeI⟩, ?_, go⟩
  intro c inC
  have high : g.heap.objs.size ≤ c := by
    have cases2 : c = g.heap.objs.size + 1 ∨ c = g.heap.objs.size := by simpa using inC
    exact cases2.elim (fun q => q ▸ Nat.le_succ _) (fun q => q ▸ Nat.le_refl _)
  exact inv1.fpOk high (inv1.hok.fresh high)
end Cm

set_option Elab.async false
set_option linter.all false
set_option maxRecDepth 100000
namespace Cm
open PySem PySem.Spec PyProof.Rows L2

/-! ### more that is walked -/
def rangeD (lo : Int) (n : Nat) : List PyData := (List.range n).map fun k => .int (lo + (k : Nat))
def big (i : Int) : Bool := decide (-4611686018427387904 ≤ i ∧ i < 4611686018427387904)
def iRange1 (a : SA) : SI := fun ev st => (a ev st).bind fun p => match p.1 with
  | [.d (.int j)] => if big j then some (.fix (rangeD 0 j.toNat), p.2) else none
  | _ => none
def iRange2 (a : SA) : SI := fun ev st => (a ev st).bind fun p => match p.1 with
  | [.d (.int i), .d (.int j)] => if big i && big j then some (.fix (rangeD i (j - i).toNat), p.2) else none
  | _ => none
def rangeC (lo c : Int) (n : Nat) : List PyData := (List.range n).map fun k => .int (lo + (k : Nat) * c)
/-- range(i, j, c): n turns, as RgC says -/
def iRange3 (a : SA) : SI := fun ev st => (a ev st).bind fun p => match p.1 with
  | [.d (.int i), .d (.int j), .d (.int c)] => if c ≠ 0 ∧ c.natAbs < 1073741824 ∧ Builtin.Range.small i j c = true ∧ 0 ≤ Builtin.Range.rangeSize i j c then some (.fix (rangeC i c (Builtin.Range.rangeSize i j c).toNat), p.2) else none
  | _ => none
def iZip2 (a : SA) : SI := fun ev st => (a ev st).bind fun p => match p.1 with
  | [.d (.list xs), .d (.list ys)] => some (.fix (List.zipWith (fun x y => .tuple [x, y]) xs ys), p.2)
  | [.d (.tuple xs), .d (.tuple ys)] => some (.fix (List.zipWith (fun x y => .tuple [x, y]) xs ys), p.2)
  | _ => none
def enumD (i : Nat) : List PyData → List PyData
  | [] => []
  | x :: xs => .tuple [.int (i : Nat), x] :: enumD (i + 1) xs
def iEnum1 (a : SA) : SI := fun ev st => (a ev st).bind fun p => match p.1 with
  | [.d (.list xs)] => some (.fix (enumD 0 xs), p.2)
  | [.d (.tuple xs)] => some (.fix (enumD 0 xs), p.2)
  | [.s ns] => some (.fix (enumD 0 (ns.map .int)), p.2)
  | _ => none
theorem enumD_get : ∀ (xs : List PyData) (i k : Nat), (enumD k xs)[i]? = (xs[i]?).map fun x => .tuple [.int ((k + i : Nat) : Int), x]
  | [], i, k => by simp [enumD]
  | x :: xs, 0, k => by simp [enumD]
  | x :: xs, i + 1, k => by
    simp only [enumD, List.getElem?_cons_succ]
    rw [enumD_get xs i (k + 1)]
    congr 1
    funext y
    rw [show k + 1 + i = k + (i + 1) by omega]
theorem enumD_length : ∀ (xs : List PyData) (k : Nat), (enumD k xs).length = xs.length
  | [], _ => rfl
  | x :: xs, k => by simp [enumD, enumD_length xs (k + 1)]
theorem yld_range {F : Hp} {lo : Int} {n : Nat} : Yld F (Itr lo n) (rangeD lo n) :=
  walk_yld walk_range (by simp [rangeD]) (fun _ _ _ _ => trivial) fun F1 H i d x H' s1 s2 e ⟨e1, e2⟩ => by
    subst e1 e2
    have : d = .int (lo + (i : Nat)) := by
      simp only [rangeD, List.getElem?_map, Option.map_eq_some_iff] at e
      obtain ⟨k, e3, e4⟩ := e
      have := List.getElem?_range (n := n) (i := i) (by
        rcases Nat.lt_or_ge i n with q | q
        · exact q
        · rw [List.getElem?_eq_none (by simpa using q)] at e3
          cases e3)
      rw [this] at e3
      cases e3
      exact e4.symm
    subst this
    exact ⟨F1, .refl s2, .int _⟩
theorem yld_rangeC {F : Hp} {lo c : Int} {n : Nat} : Yld F (Itc lo c n) (rangeC lo c n) :=
  walk_yld walk_rangeC (by simp [rangeC]) (fun _ _ _ _ => trivial) fun F1 H i d x H' s1 s2 e ⟨e1, e2⟩ => by
    subst e1 e2
    have : d = .int (lo + (i : Nat) * c) := by
      simp only [rangeC, List.getElem?_map, Option.map_eq_some_iff] at e
      obtain ⟨k, e3, e4⟩ := e
      have := List.getElem?_range (n := n) (i := i) (by
        rcases Nat.lt_or_ge i n with q | q
        · exact q
        · rw [List.getElem?_eq_none (by simpa using q)] at e3
          cases e3)
      rw [this] at e3
      cases e3
      exact e4.symm
    subst this
    exact ⟨F1, .refl s2, .int _⟩
/-- a walk that makes pairs -/
theorem yld_pair {J : It} {n : Nat} {G : Hp → Prop} {f g : Nat → Option V} {F : Hp} {xs : List PyData} (w : Walk J n G (YPair f g)) (hn : n = xs.length) (hG : ∀ F1 H, SamD F F1 → Same F1 H → G H)
    (hy : ∀ i d x y, xs[i]? = some d → f i = some x → g i = some y → ∃ a b, d = .tuple [a, b] ∧ Dq F x a ∧ Dq F y b) : Yld F J xs :=
  walk_yld w hn hG fun F1 H i d v H' s1 s2 e ⟨T, x, y, e1, e2, e3, e4, e5⟩ => by
    subst e1 e3
    obtain ⟨a, b, rfl, h1, h2⟩ := hy i d x y e e4 e5
    have nT : F1 T = none := s2.free e2
    have s3 : SamD F (upd F1 T (.tup [x, y])) := fun a o h n => same_upd nT _ _ (s1 a o h n)
    exact ⟨upd F1 T (.tup [x, y]), .new s2 e2, .tup upd_same (.cons (h1.monoD s3) (.cons (h2.monoD s3) .nil))⟩
theorem walk_zipT {K : PySem.W.Frag} {a b : Addr} {xs ys : List V} {n : Nat} (hn : n = min xs.length ys.length) : Walk (RZ.ItzT K a b) n (fun H => SqT K H a xs ∧ SqT K H b ys) (YPair (fun i => xs[i]?) (fun i => ys[i]?)) := by
  subst hn
  refine ⟨fun i H hi q => ?_, fun H q => ⟨xs, ys, q.1, q.2, by omega⟩, fun i H v H' _ q ⟨T, x, z, t1, t2, t3, px, pz⟩ => ⟨T, x, z, t1, t2, t3, px xs q.1, pz ys q.2⟩⟩
  obtain ⟨lx, ly⟩ := Nat.lt_min.mp hi
  exact ⟨xs, ys, _, _, q.1, q.2, List.getElem?_eq_getElem lx, List.getElem?_eq_getElem ly⟩
theorem walk_enumT {K : PySem.W.Frag} {a : Addr} {xs : List V} : Walk (ItE K a) xs.length (fun H => H a = some (.tup xs)) (YPair (fun i => some (.int (i : Nat))) (fun i => xs[i]?)) :=
  ⟨fun _ _ hi q => ⟨xs, _, q, List.getElem?_eq_getElem hi⟩, fun _ q => ⟨xs, q, rfl⟩, fun i _ _ _ _ q ⟨T, x, t1, t2, t3, px⟩ => ⟨T, .int (i : Nat), x, t1, t2, t3, rfl, px xs q⟩⟩
theorem zipWith_get {xs ys : List PyData} {i : Nat} {d : PyData} (e : (List.zipWith (fun x y => PyData.tuple [x, y]) xs ys)[i]? = some d) : ∃ a b, xs[i]? = some a ∧ ys[i]? = some b ∧ d = .tuple [a, b] := by
  rw [List.getElem?_zipWith] at e
  split at e
  · rename_i a b h1 h2
    cases e
    exact ⟨a, b, h1, h2, rfl⟩
  · cases e
section
variable {X : Cx} {tg e e1 e2 e3 : Expr} {es elts : List Expr} {p pos tpos : Pos} {kk : Nat} {ce : SE} {sa : SA}
theorem i_range1 (hg : Gl X "range") (hm : X.mg "range" = none) (ha : PA X [e] (tA X.K sa)) (hs : starEach [e] X.env = [(false, eval e X.env)] := by rfl) : PI X tg (.Call (.Name "range" p) [e] [] pos) (tIt X.K (iRange1 sa)) :=
  L2.PI.weak (pi_range1 hg hm ha hs) fun σ H R ⟨ρ, F, ev, st, src, st', hr, sr, e, post⟩ => by
    simp only [iRange1, Option.bind_eq_some_iff] at e
    obtain ⟨⟨ws, st1⟩, e1, e2⟩ := e
    refine ⟨ρ, F, ev, st, ws, st1, hr, sr, e1, fun vs ρ' F' H' x hr' wr => ?_⟩
    split at e2
    · rename_i j q
      cases q
      split at e2
      · rename_i hb
        cases e2
        have hb' := of_decide_eq_true hb
        cases wr with
        | cons w1 t =>
          cases w1
          cases t
          exact ⟨j, rfl, by omega, by omega, post _ ρ' F' H' x hr' yld_range⟩
      · cases e2
    · cases e2
theorem i_range2 (hg : Gl X "range") (hm : X.mg "range" = none) (ha : PA X [e1, e2] (tA X.K sa)) (hs : starEach [e1, e2] X.env = [(false, eval e1 X.env), (false, eval e2 X.env)] := by rfl) (hs2 : starEach [e2] X.env = [(false, eval e2 X.env)] := by rfl) : PI X tg (.Call (.Name "range" p) [e1, e2] [] pos) (tIt X.K (iRange2 sa)) :=
  L2.PI.weak (pi_range2 hg hm ha hs hs2) fun σ H R ⟨ρ, F, ev, st, src, st', hr, sr, e, post⟩ => by
    simp only [iRange2, Option.bind_eq_some_iff] at e
    obtain ⟨⟨ws, st1⟩, e1, e2⟩ := e
    refine ⟨ρ, F, ev, st, ws, st1, hr, sr, e1, fun vs ρ' F' H' x hr' wr => ?_⟩
    split at e2
    · rename_i i j q
      cases q
      split at e2
      · rename_i hb
        cases e2
        rw [Bool.and_eq_true] at hb
        have h1 := of_decide_eq_true hb.1
        have h2 := of_decide_eq_true hb.2
        cases wr with
        | cons w1 t =>
          cases w1
          cases t with
          | cons w2 t =>
            cases w2
            cases t
            exact ⟨i, j, rfl, ⟨by omega, by omega, by omega, by omega⟩, post _ ρ' F' H' x hr' yld_range⟩
      · cases e2
    · cases e2
theorem i_range3 (hg : Gl X "range") (hm : X.mg "range" = none) (ha : PA X [e1, e2, e3] (tA X.K sa)) (hs : starEach [e1, e2, e3] X.env = (false, eval e1 X.env) :: starEach [e2, e3] X.env := by rfl) (hpl : (backTo pos (starEach [e2, e3] X.env)).any (·.1) = false := by rfl) : PI X tg (.Call (.Name "range" p) [e1, e2, e3] [] pos) (tIt X.K (iRange3 sa)) :=
  L2.PI.weak (pi_range3 hg hm ha hs hpl) fun σ H R ⟨ρ, F, ev, st, src, st', hr, sr, e, post⟩ => by
    simp only [iRange3, Option.bind_eq_some_iff] at e
    obtain ⟨⟨ws, st1⟩, e1, e2⟩ := e
    refine ⟨ρ, F, ev, st, ws, st1, hr, sr, e1, fun vs ρ' F' H' x hr' wr => ?_⟩
    split at e2
    · rename_i i j c q
      cases q
      split at e2
      · rename_i hb
        cases e2
        cases wr with
        | cons w1 t =>
          cases w1
          cases t with
          | cons w2 t =>
            cases w2
            cases t with
            | cons w3 t =>
              cases w3
              cases t
              exact ⟨i, j, c, _, rfl, ⟨hb.1, hb.2.1, hb.2.2.1, by have := hb.2.2.2; omega⟩, post _ ρ' F' H' x hr' yld_rangeC⟩
      · cases e2
    · cases e2
theorem i_zip (hg : Gl X "zip") (hm : X.mg "zip" = none) (ha : PA X [e1, e2] (tA X.K sa)) (hs : starEach [e1, e2] X.env = (false, eval e1 X.env) :: starEach [e2] X.env := by rfl) (hpl : (backTo pos (starEach [e2] X.env)).any (·.1) = false := by rfl) :
    PI X (.Tuple elts kk tpos) (.Call (.Name "zip" p) [e1, e2] [] pos) (tIt X.K (iZip2 sa)) :=
  L2.PI.weak (RZ.pi_zipA hg hm ha hs hpl) fun σ H R ⟨ρ, F, ev, st, src, st', hr, sr, e, post⟩ => by
    simp only [iZip2, Option.bind_eq_some_iff] at e
    obtain ⟨⟨ws, st1⟩, e1, e2⟩ := e
    refine ⟨ρ, F, ev, st, ws, st1, hr, sr, e1, fun vs ρ' F' H' x hr' wr => ?_⟩
    split at e2
    · rename_i xs ys q
      cases q
      cases e2
      cases wr with
      | cons w1 t =>
        cases t with
        | cons w2 t =>
          cases t
          cases w1 with
          | lst h1 a1 =>
            cases w2 with
            | lst h2 a2 =>
              refine ⟨_, _, _, _, rfl, .inl ⟨SqL.of (hr'.sub _ _ h1), SqL.of (hr'.sub _ _ h2), post _ ρ' F' H' x hr' ?_⟩⟩
              refine yld_pair (walk_zip rfl) (by simp [a1.length, a2.length]) (fun F1 H s1 s2 => ⟨SqL.of (s2 _ _ (s1 _ _ h1 (nfl (fun _ q => nomatch q) fun _ q => nomatch q))), SqL.of (s2 _ _ (s1 _ _ h2 (nfl (fun _ q => nomatch q) fun _ q => nomatch q)))⟩) fun i d u v e e' e'' => ?_
              obtain ⟨a, b, k1, k2, k3⟩ := zipWith_get e
              obtain ⟨u', k4, k5⟩ := a1.get' k1
              obtain ⟨v', k6, k7⟩ := a2.get' k2
              rw [e'] at k4
              rw [e''] at k6
              cases k4
              cases k6
              exact ⟨a, b, k3, k5, k7⟩
    · rename_i xs ys q
      cases q
      cases e2
      cases wr with
      | cons w1 t =>
        cases t with
        | cons w2 t =>
          cases t
          cases w1 with
          | tup h1 a1 =>
            cases w2 with
            | tup h2 a2 =>
              refine ⟨_, _, _, _, rfl, .inr ⟨SqT.of (hr'.sub _ _ h1), SqT.of (hr'.sub _ _ h2), post _ ρ' F' H' x hr' ?_⟩⟩
              refine yld_pair (walk_zipT rfl) (by simp [a1.length, a2.length]) (fun F1 H s1 s2 => ⟨SqT.of (s2 _ _ (s1 _ _ h1 (nfl (fun _ q => nomatch q) fun _ q => nomatch q))), SqT.of (s2 _ _ (s1 _ _ h2 (nfl (fun _ q => nomatch q) fun _ q => nomatch q)))⟩) fun i d u v e e' e'' => ?_
              obtain ⟨a, b, k1, k2, k3⟩ := zipWith_get e
              obtain ⟨u', k4, k5⟩ := a1.get' k1
              obtain ⟨v', k6, k7⟩ := a2.get' k2
              rw [e'] at k4
              rw [e''] at k6
              cases k4
              cases k6
              exact ⟨a, b, k3, k5, k7⟩
    · cases e2
theorem i_enum (hg : Gl X "enumerate") (hm : X.mg "enumerate" = none) (ha : PA X [e] (tA X.K sa)) (hs : starEach [e] X.env = [(false, eval e X.env)] := by rfl) :
    PI X (.Tuple elts kk tpos) (.Call (.Name "enumerate" p) [e] [] pos) (tIt X.K (iEnum1 sa)) :=
  PI.or (pi_enum hg hm ha hs) (pi_enumT hg hm ha hs) fun σ H R ⟨ρ, F, ev, st, src, st', hr, sr, e, post⟩ => by
    simp only [iEnum1, Option.bind_eq_some_iff] at e
    obtain ⟨⟨ws, st1⟩, e1, e2⟩ := e
    have lst : ∀ {F' : Hp} {a : Addr} {vs : List V} {xs : List PyData}, (∀ F1 H, SamD F' F1 → Same F1 H → SqL X.K H a vs) → DqA F' vs xs → Yld F' (Ite X.K a) (enumD 0 xs) := fun hq d =>
      yld_pair walk_enum (by rw [enumD_length, d.length]) hq fun i z u v e e' e'' => by
        rw [enumD_get] at e
        obtain ⟨y, k1, k2⟩ := Option.map_eq_some_iff.mp e
        obtain ⟨v', k3, k4⟩ := d.get' k1
        rw [e''] at k3
        cases k3
        cases e'
        subst k2
        refine ⟨_, _, rfl, ?_, k4⟩
        rw [Nat.zero_add]
        exact .int _
    split at e2
    · rename_i xs q
      cases q
      cases e2
      refine .inl ⟨ρ, F, ev, st, _, _, hr, sr, e1, fun vs ρ' F' H' x hr' wr => ?_⟩
      cases wr with
      | cons w1 t =>
        cases t
        cases w1 with
        | lst h a => exact ⟨_, _, rfl, SqL.of (hr'.sub _ _ h), post _ ρ' F' H' x hr' (lst (fun F1 H s1 s2 => SqL.of (s2 _ _ (s1 _ _ h (nfl (fun _ q => nomatch q) fun _ q => nomatch q)))) a)⟩
    · rename_i xs q
      cases q
      cases e2
      refine .inr ⟨ρ, F, ev, st, _, _, hr, sr, e1, fun vs ρ' F' H' x hr' wr => ?_⟩
      cases wr with
      | cons w1 t =>
        cases t
        cases w1 with
        | tup h a =>
          refine ⟨_, _, rfl, hr'.sub _ _ h, post _ ρ' F' H' x hr' ?_⟩
          refine yld_pair walk_enumT (by rw [enumD_length, a.length]) (fun F1 H s1 s2 => s2 _ _ (s1 _ _ h (nfl (fun _ q => nomatch q) fun _ q => nomatch q))) fun i z u v e e' e'' => ?_
          rw [enumD_get] at e
          obtain ⟨y, k1, k2⟩ := Option.map_eq_some_iff.mp e
          obtain ⟨v', k3, k4⟩ := a.get' k1
          rw [e''] at k3
          cases k3
          cases e'
          subst k2
          refine ⟨_, _, rfl, ?_, k4⟩
          rw [Nat.zero_add]
          exact .int _
    · rename_i ns q
      cases q
      cases e2
      refine .inl ⟨ρ, F, ev, st, _, _, hr, sr, e1, fun vs ρ' F' H' x hr' wr => ?_⟩
      cases wr with
      | cons w1 t =>
        cases t
        obtain ⟨a, h1, h2⟩ := w1
        have sq : ∀ F1 H, SamD F' F1 → Same F1 H → SqL X.K H a (ns.map V.int) := fun F1 H s1 s2 => s2.seq (SamD.seq s1 h2)
        exact ⟨a, _, by rw [h1], sq F' H' (sameD (Same.refl _)) hr'.sub, post _ ρ' F' H' x hr' (lst sq DqA.ints)⟩
    · cases e2
end
end Cm

set_option Elab.async false
set_option linter.all false
set_option maxRecDepth 100000
namespace Cm
open PySem PySem.Spec PyProof.Rows L2

/-! ### a list of the store is written -/
theorem HR.write {ρ : Rho} {F H : Hp} {st : Sto} {n : Nat} {a : Addr} {xs ys : List PyData} {vs : List V} (h : HR ρ F H st) (e : st[n]? = some (some xs)) (ha : Ad ρ n a) (d : DqA F vs ys) :
    HR ρ F (upd H a (.lst vs)) (st.set n (some ys)) := by
  obtain ⟨a', us, h1, h2, h3, h4⟩ := h.cell n xs e
  obtain rfl := h1.eq2 ha
  have hn : n < st.length := by
    rcases Nat.lt_or_ge n st.length with q | q
    · exact q
    · rw [List.getElem?_eq_none q] at e
      cases e
  have li : ∀ j : Nat, (∃ zs, (st.set n (some ys))[j]? = some (some zs)) → ∃ zs, st[j]? = some (some zs) := fun j ⟨zs, q⟩ => by
    by_cases hj : n = j
    · subst hj
      exact ⟨_, e⟩
    · rw [List.getElem?_set_ne hj] at q
      exact ⟨zs, q⟩
  refine ⟨fun b o q => ?_, fun m zs q => ?_, fun m k b e1 e2 l1 l2 => h.inj m k b e1 e2 (li m l1) (li k l2), by simp [h.len], h.obj.write h2⟩
  · have hb : b ≠ a := fun z => by
      subst z
      rw [h3] at q
      cases q
    rw [upd_ne hb]
    exact h.sub _ _ q
  · by_cases hm : n = m
    · subst hm
      rw [List.getElem?_set_self hn] at q
      cases q
      exact ⟨a, vs, ha, upd_same, h3, d⟩
    · rw [List.getElem?_set_ne hm] at q
      obtain ⟨b, ws, k1, k2, k3, k4⟩ := h.cell m zs q
      have hb : b ≠ a := fun z => by
        subst z
        exact hm (h.inj n m b ha k1 ⟨_, e⟩ ⟨_, q⟩)
      exact ⟨b, ws, k1, by rw [upd_ne hb]; exact k2, k3, k4⟩
theorem take_set {α : Type} (l : List α) (n : Nat) (x : α) (h : n < l.length) : (l.set n x).take (n + 1) = l.take n ++ [x] := by
  rw [List.take_add_one, List.getElem?_set_self h, List.take_set_of_le (Nat.le_refl _)]
  rfl
theorem lt_of_get {α : Type} {l : List α} {n : Nat} {x : α} (e : l[n]? = some x) : n < l.length := by
  rcases Nat.lt_or_ge n l.length with q | q
  · exact q
  · rw [List.getElem?_eq_none q] at e
    cases e
theorem take_get {α : Type} {l : List α} {n : Nat} {x : α} (e : l[n]? = some x) : l.take (n + 1) = l.take n ++ [x] := by
  rw [List.take_add_one, e]
  rfl

/-! ### comprehensions -/
def lcL (g : GT) (tt : SB) (te : SE) (ev : Ev) : List PyData → Sto → List PyData → Option (List PyData × Sto)
  | [], st, acc => some (acc, st)
  | x :: xs, st, acc => (g x ev).bind fun ev1 => (tt ev1 (st ++ [some acc])).bind fun p =>
    if p.1 then (te ev1 p.2).bind fun q => match q.1, q.2[st.length]? with
      | .d y, some (some acc') => if acc'.length < lim then lcL g tt te ev xs (q.2.take st.length) (acc' ++ [y]) else none
      | _, _ => none
    else match p.2[st.length]? with
      | some (some acc') => lcL g tt te ev xs (p.2.take st.length) acc'
      | _ => none
def lcC (g : GT) (tt : SB) (te : SE) (ev : Ev) (n : Nat) : Nat → Nat → Sto → List PyData → Option (List PyData × Sto)
  | 0, _, _, _ => none
  | k + 1, i, st, acc => match (st ++ [some acc])[n]? with
    | some (some xs) => match xs[i]? with
      | none => some (acc, st)
      | some x => (g x ev).bind fun ev1 => (tt ev1 (st ++ [some acc])).bind fun p =>
        if p.1 then (te ev1 p.2).bind fun q => match q.1, q.2[st.length]? with
          | .d y, some (some acc') => if acc'.length < lim then lcC g tt te ev n k (i + 1) (q.2.take st.length) (acc' ++ [y]) else none
          | _, _ => none
        else match p.2[st.length]? with
          | some (some acc') => lcC g tt te ev n k (i + 1) (p.2.take st.length) acc'
          | _ => none
    | _ => none
def lcR (it : SI) (g : GT) (tt : SB) (te : SE) (vs : List Nat) (ev : Ev) (st : Sto) : Option (List PyData × Sto) := (it ev st).bind fun p => match p.1 with
  | .fix xs => lcL g tt te (wipeE ev vs) xs p.2 []
  | .cell n => lcC g tt te (wipeE ev vs) n lim 0 p.2 []
def cLc (it : SI) (g : GT) (tt : SB) (te : SE) (vs : List Nat) : SE := fun ev st => (lcR it g tt te vs ev st).map fun p => (.d (.list p.1), p.2)
def cLcM (it : SI) (g : GT) (tt : SB) (te : SE) (vs : List Nat) : SE := fun ev st => (lcR it g tt te vs ev st).map fun p => (.l p.2.length, p.2 ++ [some p.1])
def bYes : SB := fun _ st => some (true, st)
section
variable {X : Cx} {e c : Expr}
theorem ts_nil : PTs X [] (tT X.K bYes) := pts_nil.weak fun σ H Q ⟨ρ, F, ev, st, w, st', hr, sr, e, post⟩ => by
  cases e
  exact post ρ F H (.refl _ _) hr
theorem ts_one {b : SB} (h : PT X c (tT X.K b)) : PTs X [c] (tT X.K b) := pts_one h
end
/-- the new list's place stays while a turn runs; what a turn leaves is cut back -/
theorem HR.lcNext {ρ ρ1 : Rho} {F F1 H1 : Hp} {st st1 : Sto} {D : Addr} {acc acc' : List PyData} (hl : ρ.length = st.length) (x : Ext (ρ ++ [(D, 0)]) F ρ1 F1) (h : HR ρ1 F1 H1 st1) (e : st1[st.length]? = some (some acc')) :
    ρ1[st.length]? = some (D, 0) ∧ ∃ vs, H1 D = some (.lst vs) ∧ DqA F1 vs acc' := by
  have hD : ρ1[st.length]? = some (D, 0) := x.pre _ _ (by
    rw [List.getElem?_append_right (by omega), hl]
    simp)
  obtain ⟨a, vs, h1, h2, h3, h4⟩ := h.cell _ _ e
  obtain rfl := (h1.eq hD).symm
  exact ⟨hD, vs, h2, h4⟩
theorem Ext.unpush {ρ ρ1 : Rho} {F F1 : Hp} {D : Addr} (x : Ext (ρ ++ [(D, 0)]) F ρ1 F1) : Ext ρ F (ρ1.take ρ.length) F1 := ((Ext.push D).trans x).take _ (Nat.le_refl _)
theorem length_take_of {α : Type} {l : List α} {n : Nat} {x : α} (e : l[n]? = some x) : (l.take n).length = n := by
  rw [List.length_take]
  have := lt_of_get e
  omega
section
variable {ci : SI} {g : GT} {ct : SB} {ce : SE} {vs : List Nat}
/-- one turn of a comprehension -/
theorem lc_turn {K : PySem.W.Frag} {σ : L2.St} {ev ev1 : Ev} {ρ : Rho} {F H : Hp} {st : Sto} {D : Addr} {acc : List PyData} {x : PyData} {v : V} {Nx : Hp → Prop} {R : List PyData → Sto → Prop}
    (hl : ρ.length = st.length) (hr : HR (ρ ++ [(D, 0)]) F H (st ++ [some acc])) (sr : SR K ρ F (wipeE ev vs) (L2.wipe σ vs)) (d : Dq F v x) (e1 : g x (wipeE ev vs) = some ev1)
    {p : Bool × Sto} (e2 : ct ev1 (st ++ [some acc]) = some p)
    (e3 : if p.1 then ∃ q y acc', ce ev1 p.2 = some q ∧ q.1 = .d y ∧ q.2[st.length]? = some (some acc') ∧ acc'.length < lim ∧ R (acc' ++ [y]) (q.2.take st.length) else ∃ acc', p.2[st.length]? = some (some acc') ∧ R acc' (p.2.take st.length))
    (nx : ∀ ρ1 F1 H1 st1 acc1, Ext ρ F ρ1 F1 → ρ1.length = st1.length ∧ ρ1.length = ρ.length → HR (ρ1 ++ [(D, 0)]) F1 H1 (st1 ++ [some acc1]) → R acc1 st1 → Nx H1) :
    tG K vs g v (L2.wipe σ vs) H fun σ2 H2 => L2.wipe σ2 vs = L2.wipe σ vs ∧ tT K ct σ2 H2 fun b H3 => if b = true then tI K ce σ2 H3 fun y H4 => ∃ acc, H4 D = some (.lst acc) ∧ acc.length < sizeLine ∧ Nx (upd H4 D (.lst (acc ++ [y]))) else Nx H3 := by
  have hwipe : ∀ τ : L2.St, L2.wipe (L2.wipe τ vs) vs = L2.wipe τ vs := fun τ => by
    apply List.ext_getElem?
    intro j
    by_cases hj : j ∈ vs
    · by_cases hlj : j < τ.length
      · rw [wipe_in hj (by rw [wipe_length]; exact hlj), wipe_in hj hlj]
      · rw [List.getElem?_eq_none (by rw [wipe_length, wipe_length]; omega), List.getElem?_eq_none (by rw [wipe_length]; omega)]
    · rw [wipe_out hj]
  refine ⟨ρ, F, _, x, ev1, hr.sub, sr, d, e1, fun σ2 sr2 w2 => ⟨w2.trans (hwipe σ), ?_⟩⟩
  have xp : Ext ρ F (ρ ++ [(D, 0)]) F := .push D
  refine ⟨ρ ++ [(D, 0)], F, ev1, st ++ [some acc], p.1, p.2, hr, sr2.mono xp, e2, fun ρ3 F3 H3 x3 hr3 => ?_⟩
  cases hb : p.1 with
  | false =>
    rw [hb] at e3
    simp only [Bool.false_eq_true, if_false] at e3 ⊢
    obtain ⟨acc', e4, r⟩ := e3
    obtain ⟨hD, us, h1, h2⟩ := HR.lcNext (acc := acc) hl x3 hr3 e4
    refine nx (ρ3.take st.length) F3 H3 (p.2.take st.length) acc' (by rw [← hl]; exact x3.unpush) ?_ ?_ r
    · rw [length_take_of hD, length_take_of e4]
      exact ⟨rfl, hl.symm⟩
    · rw [← take_get hD, ← take_get e4]
      exact hr3.take _ (x3.tri hr.obj (by simp [hl]))
  | true =>
    rw [hb] at e3
    simp only [if_true] at e3 ⊢
    obtain ⟨q, y, acc', e4, e5, e6, e7, r⟩ := e3
    obtain ⟨w, st4⟩ := q
    simp only at e5 e6 r
    subst e5
    refine ⟨ρ3, F3, ev1, p.2, .d y, st4, hr3, (sr2.mono xp).mono x3, e4, fun vy ρ4 F4 H4 x4 hr4 wy => ?_⟩
    obtain ⟨hD, us, h1, h2⟩ := HR.lcNext (acc := acc) hl (x3.trans x4) hr4 e6
    refine ⟨us, h1, ?_, ?_⟩
    · rw [h2.length]
      exact Nat.lt_of_lt_of_le e7 (lim_le (Nat.le_refl _))
    · refine nx (ρ4.take st.length) F4 _ (st4.take st.length) (acc' ++ [y]) (by rw [← hl]; exact (x3.trans x4).unpush) ?_ ?_ r
      · rw [length_take_of hD, length_take_of e6]
        exact ⟨rfl, hl.symm⟩
      · have hw := hr4.write (ys := acc' ++ [y]) (vs := us ++ [vy]) e6 (.of hD) (h2.append (.cons wy .nil))
        have := hw.take (st.length + 1) ((x3.trans x4).tri hr.obj (by simp [hl]))
        rw [take_get hD, take_set _ _ _ (lt_of_get e6)] at this
        exact this
theorem lc_ok {K : PySem.W.Frag} {σ : L2.St} {H : Hp} {Q : VK} {ρ : Rho} {F : Hp} {ev : Ev} {st : Sto} {r : List PyData × Sto} (hr : HR ρ F H st) (sr : SR K ρ F ev σ) (e : lcR ci g ct ce vs ev st = some r)
    (fin : ∀ D ρ' F' H', Ext ρ F ρ' F' → ρ'.length = r.2.length → Tri ρ' ρ'.length → HR (ρ' ++ [(D, 0)]) F' H' (r.2 ++ [some r.1]) → Q (.ref D) H') : tLc (tIt K ci) (tG K vs g) (tT K ct) (tI K ce) vs σ H Q := by
  simp only [lcR, Option.bind_eq_some_iff] at e
  obtain ⟨⟨src, st1⟩, e1, e2⟩ := e
  refine ⟨ρ, F, ev, st, src, st1, hr, sr, e1, fun J ρ1 F1 H1 x1 hr1 y D nD => ?_⟩
  have srw : ∀ {ρ2 : Rho} {F2 : Hp}, Ext ρ1 F1 ρ2 F2 → SR K ρ2 F2 (wipeE ev vs) (L2.wipe σ vs) := fun x2 => (((sr.mono x1).mono x2).wipe vs)
  cases src with
  | fix xs =>
    refine ⟨fun i m H => m = xs.length - i ∧ i ≤ xs.length ∧ ∃ ρ2 F2 st2 acc, Ext ρ1 F1 ρ2 F2 ∧ (ρ2.length = st2.length ∧ ρ2.length = ρ1.length) ∧ HR (ρ2 ++ [(D, 0)]) F2 H (st2 ++ [some acc]) ∧ lcL g ct ce (wipeE ev vs) (xs.drop i) st2 acc = some r,
      ⟨xs.length, rfl, Nat.zero_le _, ρ1, F1, st1, [], .refl _ _, ⟨hr1.len, rfl⟩, hr1.push nD .nil, e2⟩, ?_⟩
    rintro i m H2 ⟨rfl, hi, ρ2, F2, st2, acc, x2, hl2, hr2, e3⟩
    obtain ⟨yg, ys⟩ := y F2 H2 (sameD x2.same) hr2.sub
    by_cases hlt : i < xs.length
    · rw [List.drop_eq_getElem_cons hlt] at e3
      simp only [lcL, Option.bind_eq_some_iff] at e3
      obtain ⟨ev1, e4, p, e5, e6⟩ := e3
      obtain ⟨go, yl⟩ := yg i xs[i] (List.getElem?_eq_getElem hlt)
      refine .inr ⟨go, fun H => ∃ ρ2 F2 st2 acc, Ext ρ1 F1 ρ2 F2 ∧ (ρ2.length = st2.length ∧ ρ2.length = ρ1.length) ∧ HR (ρ2 ++ [(D, 0)]) F2 H (st2 ++ [some acc]) ∧ lcL g ct ce (wipeE ev vs) (xs.drop (i + 1)) st2 acc = some r, fun H' w => ⟨xs.length - (i + 1), by omega, rfl, hlt, w⟩, fun v H3 yv => ?_⟩
      obtain ⟨F3, gr, d⟩ := yl v H3 yv
      have x3 : Ext ρ2 F2 ρ2 F3 := .of gr
      refine lc_turn (R := fun acc st => lcL g ct ce (wipeE ev vs) (xs.drop (i + 1)) st acc = some r) hl2.1 (hr2.grow gr) (srw (x2.trans x3)) d e4 e5 ?_ fun ρ4 F4 H4 st4 acc4 x4 hl4 hr4 e7 => ⟨ρ4, F4, st4, acc4, (x2.trans x3).trans x4, ⟨hl4.1, hl4.2.trans hl2.2⟩, hr4, e7⟩
      split at e6
      · rename_i hp
        rw [if_pos hp]
        simp only [Option.bind_eq_some_iff] at e6
        obtain ⟨q, e7, e8⟩ := e6
        split at e8
        · rename_i y acc' k1 k2
          split at e8
          · rename_i hlm
            exact ⟨q, y, acc', e7, k1, k2, hlm, e8⟩
          · cases e8
        · cases e8
      · rename_i hp
        rw [if_neg hp]
        split at e6
        · rename_i acc' k2
          exact ⟨acc', k2, e6⟩
        · cases e6
    · have hx : i = xs.length := by omega
      subst hx
      rw [List.drop_length] at e3
      cases e3
      exact .inl ⟨ys, fin D ρ2 F2 H2 (x1.trans x2) hl2.1 (x2.tri hr1.obj hl2.2) hr2⟩
  | cell n =>
    obtain ⟨a, ha, rfl⟩ := y
    refine ⟨fun i m H => ∃ ρ2 F2 st2 acc, Ext ρ1 F1 ρ2 F2 ∧ (ρ2.length = st2.length ∧ ρ2.length = ρ1.length) ∧ HR (ρ2 ++ [(D, 0)]) F2 H (st2 ++ [some acc]) ∧ lcC g ct ce (wipeE ev vs) n m i st2 acc = some r,
      ⟨lim, ρ1, F1, st1, [], .refl _ _, ⟨hr1.len, rfl⟩, hr1.push nD .nil, e2⟩, ?_⟩
    rintro i m H2 ⟨ρ2, F2, st2, acc, x2, hl2, hr2, e3⟩
    cases m with
    | zero => cases e3
    | succ m =>
      simp only [lcC] at e3
      split at e3
      · rename_i xs q
        obtain ⟨a', us, h1, h2, h3, h4⟩ := hr2.cell n xs q
        obtain rfl := (h1.eq ((x2.trans (.push D)).pre n a ha)).symm
        have hq : SqL K H2 a us := SqL.of h2
        split at e3
        · rename_i q2
          cases e3
          refine .inl ⟨⟨us, hq, ?_⟩, fin D ρ2 F2 H2 (x1.trans x2) hl2.1 (x2.tri hr1.obj hl2.2) hr2⟩
          rw [h4.length]
          exact List.getElem?_eq_none_iff.mp q2
        · rename_i d q2
          simp only [Option.bind_eq_some_iff] at e3
          obtain ⟨ev1, e4, p, e5, e6⟩ := e3
          obtain ⟨v, hv, dv⟩ := h4.get' q2
          refine .inr ⟨⟨us, v, hq, hv⟩, fun H => ∃ ρ2 F2 st2 acc, Ext ρ1 F1 ρ2 F2 ∧ (ρ2.length = st2.length ∧ ρ2.length = ρ1.length) ∧ HR (ρ2 ++ [(D, 0)]) F2 H (st2 ++ [some acc]) ∧ lcC g ct ce (wipeE ev vs) n m (i + 1) st2 acc = some r, fun H' w => ⟨m, Nat.lt_succ_self _, w⟩, fun v' H3 ⟨eH, yv⟩ => ?_⟩
          subst eH
          have ev' : v' = v := Option.some.inj ((yv us hq).symm.trans hv)
          subst ev'
          refine lc_turn (R := fun acc st => lcC g ct ce (wipeE ev vs) n m (i + 1) st acc = some r) hl2.1 hr2 (srw x2) dv e4 e5 ?_ fun ρ4 F4 H4 st4 acc4 x4 hl4 hr4 e7 => ⟨ρ4, F4, st4, acc4, x2.trans x4, ⟨hl4.1, hl4.2.trans hl2.2⟩, hr4, e7⟩
          split at e6
          · rename_i hp
            rw [if_pos hp]
            simp only [Option.bind_eq_some_iff] at e6
            obtain ⟨q, e7, e8⟩ := e6
            split at e8
            · rename_i y acc' k1 k2
              split at e8
              · rename_i hlm
                exact ⟨q, y, acc', e7, k1, k2, hlm, e8⟩
              · cases e8
            · cases e8
          · rename_i hp
            rw [if_neg hp]
            split at e6
            · rename_i acc' k2
              exact ⟨acc', k2, e6⟩
            · cases e6
      · cases e3
theorem lcD_ok {K : PySem.W.Frag} {σ : L2.St} {H : Hp} {Q : VK} (h : tI K (cLc ci g ct ce vs) σ H Q) : tLc (tIt K ci) (tG K vs g) (tT K ct) (tI K ce) vs σ H Q := by
  obtain ⟨ρ, F, ev, st, w, st', hr, sr, e, post⟩ := h
  simp only [cLc, Option.map_eq_some_iff] at e
  obtain ⟨⟨xs, st1⟩, e1, e2⟩ := e
  cases e2
  refine lc_ok hr sr e1 fun D ρ' F' H' x hl tr hr' => ?_
  replace hl : ρ'.length = st1.length := hl
  have e3 : (st1 ++ [some xs])[st1.length]? = some (some xs) := by simp
  obtain ⟨a, vs, h1, h2, h3, h4, h5⟩ := hr'.freeze e3
  have ha : a = D := by
    exact h1.last hl.symm
  subst ha
  have t := h5.take st1.length (tr.push hl.symm)
  have e4 : (ρ' ++ [(a, 0)]).take st1.length = ρ' := by rw [List.take_append_of_le_length (by omega), List.take_of_length_le (by omega)]
  have e5 : ((st1 ++ [some xs]).set st1.length none).take st1.length = st1 := by
    rw [List.take_set_of_le (Nat.le_refl _), List.take_append_of_le_length (Nat.le_refl _), List.take_length]
  rw [e4, e5] at t
  exact post _ ρ' _ H' (x.trans (.upd h2)) t (.lst upd_same (h4.mono (same_upd h2)))
theorem lcM_ok {K : PySem.W.Frag} {σ : L2.St} {H : Hp} {Q : VK} (h : tI K (cLcM ci g ct ce vs) σ H Q) : tLc (tIt K ci) (tG K vs g) (tT K ct) (tI K ce) vs σ H Q := by
  obtain ⟨ρ, F, ev, st, w, st', hr, sr, e, post⟩ := h
  simp only [cLcM, Option.map_eq_some_iff] at e
  obtain ⟨⟨xs, st1⟩, e1, e2⟩ := e
  cases e2
  refine lc_ok hr sr e1 fun D ρ' F' H' x hl tr hr' => ?_
  replace hl : ρ'.length = st1.length := hl
  exact post _ _ _ H' (x.trans (.push D)) hr' ⟨D, by
    show (ρ' ++ [(D, 0)])[st1.length]? = some (D, 0)
    rw [List.getElem?_append_right (by omega), hl]
    simp, rfl⟩
end
section
variable {X : Cx} {elt tg iter : Expr} {ifs : List Expr} {scope : Scope} {own : List (Str × Nat)} {pos : Pos} {ci : SI} {g : GT} {ct : SB} {ce : SE}
theorem se_lc (hc : X.calm = true) (hN : X.N.Nodup) (hi : PI X tg iter (tIt X.K ci)) (ok : BlkOk X.N X.env.scope scope own)
    (hg : ∀ (s : Shared) (H : Hp) (C : Addr) (cl : List (Str × Addr)) (fp : List Addr), PG (X.blk s H scope (compEnvC scope cl C X.env) fp) tg (tG X.K (own.map (·.2)) g)) (ht : ∀ (s : Shared) (H : Hp) (C : Addr) (cl : List (Str × Addr)) (fp : List Addr), PTs (X.blk s H scope (compEnvC scope cl C X.env) fp) ifs (tT X.K ct))
    (he : ∀ (s : Shared) (H : Hp) (C : Addr) (cl : List (Str × Addr)) (fp : List Addr), PE (X.blk s H scope (compEnvC scope cl C X.env) fp) elt (tI X.K ce)) (hs : ∀ x, foldedSetIterable iter X.env x = pure x := by exact fun _ => rfl) :
    PE X (.ListComp elt [⟨tg, iter, ifs, 0⟩] scope pos) (tI X.K (cLc ci g ct ce (own.map (·.2)))) := (pe_lc hc hN hi ok hg ht he hs).weak fun _ _ _ h => lcD_ok h
theorem se_lcM (hc : X.calm = true) (hN : X.N.Nodup) (hi : PI X tg iter (tIt X.K ci)) (ok : BlkOk X.N X.env.scope scope own)
    (hg : ∀ (s : Shared) (H : Hp) (C : Addr) (cl : List (Str × Addr)) (fp : List Addr), PG (X.blk s H scope (compEnvC scope cl C X.env) fp) tg (tG X.K (own.map (·.2)) g)) (ht : ∀ (s : Shared) (H : Hp) (C : Addr) (cl : List (Str × Addr)) (fp : List Addr), PTs (X.blk s H scope (compEnvC scope cl C X.env) fp) ifs (tT X.K ct))
    (he : ∀ (s : Shared) (H : Hp) (C : Addr) (cl : List (Str × Addr)) (fp : List Addr), PE (X.blk s H scope (compEnvC scope cl C X.env) fp) elt (tI X.K ce)) (hs : ∀ x, foldedSetIterable iter X.env x = pure x := by exact fun _ => rfl) :
    PE X (.ListComp elt [⟨tg, iter, ifs, 0⟩] scope pos) (tI X.K (cLcM ci g ct ce (own.map (·.2)))) := (pe_lc hc hN hi ok hg ht he hs).weak fun _ _ _ h => lcM_ok h
theorem asg_lc {i : Nat} {c : SE} {t : TE} (h : ∀ σ H Q, tI X.K c σ H Q → t σ H Q) {D : Ends} {σ : L2.St} {H : Hp} (q : tSS X.K (cSet i c) D σ H) : tAsg t (gName i) D σ H := h σ H _ (set_ok q)
theorem s_setLc {i : Nat} {y : Str} {py spos : Pos} (hc : X.calm = true) (hN : X.N.Nodup) (hy : X.N[i]? = some y) (hyl : X.env.scope.names.lookup y = some .local)
    (hsw : swapsWith (.ListComp elt [⟨tg, iter, ifs, 0⟩] scope pos) (some (.Name y py)) spos.line X.env = pure true) (hi : PI X tg iter (tIt X.K ci)) (ok : BlkOk X.N X.env.scope scope own)
    (hg : ∀ (s : Shared) (H : Hp) (C : Addr) (cl : List (Str × Addr)) (fp : List Addr), PG (X.blk s H scope (compEnvC scope cl C X.env) fp) tg (tG X.K (own.map (·.2)) g)) (ht : ∀ (s : Shared) (H : Hp) (C : Addr) (cl : List (Str × Addr)) (fp : List Addr), PTs (X.blk s H scope (compEnvC scope cl C X.env) fp) ifs (tT X.K ct))
    (he : ∀ (s : Shared) (H : Hp) (C : Addr) (cl : List (Str × Addr)) (fp : List Addr), PE (X.blk s H scope (compEnvC scope cl C X.env) fp) elt (tI X.K ce)) (hs : ∀ x, foldedSetIterable iter X.env x = pure x := by exact fun _ => rfl) :
    PS X (.Assign [.Name y py] (.ListComp elt [⟨tg, iter, ifs, 0⟩] scope pos) spos) (tSS X.K (cSet i (cLc ci g ct ce (own.map (·.2))))) := (ps_setLc hc hN hy hyl hsw hi ok hg ht he hs).weak fun _ _ _ h => asg_lc (fun _ _ _ z => lcD_ok z) h
theorem s_setLcM {i : Nat} {y : Str} {py spos : Pos} (hc : X.calm = true) (hN : X.N.Nodup) (hy : X.N[i]? = some y) (hyl : X.env.scope.names.lookup y = some .local)
    (hsw : swapsWith (.ListComp elt [⟨tg, iter, ifs, 0⟩] scope pos) (some (.Name y py)) spos.line X.env = pure true) (hi : PI X tg iter (tIt X.K ci)) (ok : BlkOk X.N X.env.scope scope own)
    (hg : ∀ (s : Shared) (H : Hp) (C : Addr) (cl : List (Str × Addr)) (fp : List Addr), PG (X.blk s H scope (compEnvC scope cl C X.env) fp) tg (tG X.K (own.map (·.2)) g)) (ht : ∀ (s : Shared) (H : Hp) (C : Addr) (cl : List (Str × Addr)) (fp : List Addr), PTs (X.blk s H scope (compEnvC scope cl C X.env) fp) ifs (tT X.K ct))
    (he : ∀ (s : Shared) (H : Hp) (C : Addr) (cl : List (Str × Addr)) (fp : List Addr), PE (X.blk s H scope (compEnvC scope cl C X.env) fp) elt (tI X.K ce)) (hs : ∀ x, foldedSetIterable iter X.env x = pure x := by exact fun _ => rfl) :
    PS X (.Assign [.Name y py] (.ListComp elt [⟨tg, iter, ifs, 0⟩] scope pos) spos) (tSS X.K (cSet i (cLcM ci g ct ce (own.map (·.2))))) := (ps_setLc hc hN hy hyl hsw hi ok hg ht he hs).weak fun _ _ _ h => asg_lc (fun _ _ _ z => lcM_ok z) h
end
end Cm

set_option Elab.async false
set_option linter.all false
set_option maxRecDepth 100000
namespace Cm
open PySem PySem.Spec PyProof.Rows L2

/-! ### methods that change a list of the store -/
abbrev MF := List PyData → List PyData → Option (PyData × List PyData)
def cM (f : MF) (o : SE) (a : SA) : SE := fun ev st => (o ev st).bind fun p => match p.1 with
  | .l n => match p.2[n]? with
    | some (some _) => (a ev p.2).bind fun q => (allD q.1).bind fun ds => match q.2[n]? with
      | some (some xs) => (f xs ds).bind fun r => if r.2.length ≤ lim then some (.d r.1, q.2.set n (some r.2)) else none
      | _ => none
    | _ => none
  | _ => none
def SndM (r : V → List V → Hp → VK → Prop) (f : MF) : Prop := ∀ F H l vs xs us ds z ys Q, Same F H → H l = some (.lst vs) → DqA F vs xs → DqA F us ds → f xs ds = some (z, ys) → ys.length ≤ lim →
  (∀ v vs', Dq F v z → DqA F vs' ys → Q v (upd H l (.lst vs'))) → r (.ref l) us H Q
section
variable {X : Cx} {o e : Expr} {es : List Expr} {co : SE} {sa : SA} {name : Str} {apos cpos : Pos} {id : String} {r : V → List V → Hp → VK → Prop} {f : MF}
theorem meth_ok {K : PySem.W.Frag} (hs : SndM r f) {σ : L2.St} {H : Hp} {Q : VK} (h : tI K (cM f co sa) σ H Q) : tBM K "list" r (tI K co) (tA K sa) σ H Q := by
  obtain ⟨ρ, F, ev, st, w, st', hr, sr, e, post⟩ := h
  simp only [cM, Option.bind_eq_some_iff] at e
  obtain ⟨⟨w1, st1⟩, e1, e2⟩ := e
  refine ⟨ρ, F, ev, st, w1, st1, hr, sr, e1, fun v1 ρ1 F1 H1 x1 hr1 wr1 => ?_⟩
  split at e2
  · rename_i n q
    cases q
    split at e2
    · rename_i xs0 q0
      simp only [Option.bind_eq_some_iff] at e2
      obtain ⟨⟨ws, st2⟩, e3, ds, e4, e5⟩ := e2
      obtain ⟨a, ha, rfl⟩ := wr1
      refine ⟨?_, ρ1, F1, ev, st1, ws, st2, hr1, sr.mono x1, e3, fun us ρ2 F2 H2 x2 hr2 wr2 => ?_⟩
      · obtain ⟨a', vs, k1, k2, _⟩ := hr1.cell n xs0 q0
        obtain rfl := (k1.eq ha).symm
        exact .inl ⟨rfl, vs, SqL.of k2⟩
      · split at e5
        · rename_i xs q1
          simp only [Option.bind_eq_some_iff] at e5
          obtain ⟨⟨z, ys⟩, e6, e7⟩ := e5
          split at e7
          · rename_i hl
            cases e7
            obtain ⟨a', vs, k1, k2, k3, k4⟩ := hr2.cell n xs q1
            obtain rfl := (k1.eq (x2.pre n a ha)).symm
            refine hs F2 H2 a vs xs us ds z ys Q hr2.sub k2 k4 (allD_ok wr2 e4) e6 hl fun v vs' d1 d2 => ?_
            exact post v ρ2 F2 _ (x1.trans x2) (hr2.write q1 (.of (x2.pre n a ha)) d2) d1
          · cases e7
        · cases e5
    · cases e2
  · cases e2
theorem meth0_ok {K : PySem.W.Frag} (hs : SndM r f) {σ : L2.St} {H : Hp} {Q : VK} (h : tI K (cM f co cNil) σ H Q) : tBM0 K "list" r (tI K co) σ H Q := by
  obtain ⟨ρ, F, ev, st, w1, st1, hr, sr, e1, k⟩ := meth_ok (K := K) hs h
  refine ⟨ρ, F, ev, st, w1, st1, hr, sr, e1, fun v1 ρ1 F1 H1 x1 hr1 wr1 => ?_⟩
  obtain ⟨ty, ρ2, F2, ev2, st2, ws, st3, h2, s2, e2, k2⟩ := k v1 ρ1 F1 H1 x1 hr1 wr1
  cases e2
  exact ⟨ty, k2 [] ρ2 F2 H1 (.refl _ _) h2 .nil⟩
theorem se_meth (pa : PlainAttrs "list") (slot : Slot "list" name id) (hty : typeOf (.builtin id) = pure (.type "method_descriptor")) (hm : MtR X id r) (hs : SndM r f) (ho : PE X o (tI X.K co)) (ha : PA X (e :: es) (tA X.K sa))
    (hbase : BareBase X o name := by rfl) (hfew : Few X (e :: es) cpos := by rfl) (hline : (apos.endLine == cpos.line) = true := by rfl) (hst : Bare1 X e es := by rfl) (hplain : NoStar X es cpos := by rfl) :
    PE X (.Call (.Attribute o name apos) (e :: es) [] cpos) (tI X.K (cM f co sa)) := (pe_bm pa slot hty hm ho ha hbase hfew hline hst hplain).weak fun _ _ _ h => meth_ok hs h
theorem se_meth0 (pa : PlainAttrs "list") (slot : Slot "list" name id) (hty : typeOf (.builtin id) = pure (.type "method_descriptor")) (hm : MtR X id r) (hs : SndM r f) (ho : PE X o (tI X.K co))
    (hbase : BareBase X o name := by rfl) (hline : (apos.endLine == cpos.line) = true := by rfl) :
    PE X (.Call (.Attribute o name apos) [] [] cpos) (tI X.K (cM f co cNil)) := (pe_bm0 pa slot hty hm ho hbase hline).weak fun _ _ _ h => meth0_ok hs h
end
def mAppend : MF := fun xs ds => match ds with
  | [y] => if xs.length < lim then some (.none, xs ++ [y]) else none
  | _ => none
def mExtend : MF := fun xs ds => match ds with
  | [.list ys] => if xs.length + ys.length ≤ lim then some (.none, xs ++ ys) else none
  | _ => none
def mPop : MF := fun xs ds => match ds with
  | [] => (xs[xs.length - 1]?).map fun y => (y, xs.dropLast)
  | _ => none
def mPopAt : MF := fun xs ds => match ds with
  | [.int i] => if 0 ≤ i ∧ i < xs.length then (xs[i.toNat]?).map fun y => (y, xs.eraseIdx i.toNat) else none
  | _ => none
def mInsert : MF := fun xs ds => match ds with
  | [.int i, y] => if 0 ≤ i ∧ i ≤ xs.length ∧ xs.length < lim then some (.none, xs.take i.toNat ++ y :: xs.drop i.toNat) else none
  | _ => none
theorem snd_append : SndM rAppend mAppend := fun F H l vs xs us ds z ys Q hs h d d2 e hl q => by
  unfold mAppend at e
  split at e
  · rename_i y
    split at e
    · rename_i hlm
      cases e
      cases d2 with
      | cons a t =>
        cases t
        exact ⟨l, vs, _, rfl, rfl, h, by rw [d.length]; exact Nat.lt_of_lt_of_le hlm (lim_le (Nat.le_refl _)), q _ _ .non (d.append (.cons a .nil))⟩
    · cases e
  · cases e
theorem snd_extend : SndM rExtend mExtend := fun F H l vs xs us ds z ys Q hs h d d2 e hl q => by
  unfold mExtend at e
  split at e
  · rename_i y
    split at e
    · rename_i hlm
      cases e
      cases d2 with
      | cons a t =>
        cases t
        cases a with
        | lst h2 d3 => exact ⟨l, _, vs, _, rfl, rfl, h, hs _ _ h2, by rw [d.length, d3.length]; exact lim_le hlm, q _ _ .non (d.append d3)⟩
    · cases e
  · cases e
theorem snd_pop : SndM rPop mPop := fun F H l vs xs us ds z ys Q hs h d d2 e hl q => by
  unfold mPop at e
  split at e
  · simp only [Option.map_eq_some_iff] at e
    obtain ⟨y, e1, e2⟩ := e
    cases e2
    cases d2
    obtain ⟨v, k1, k2⟩ := d.get' e1
    exact ⟨l, vs, v, rfl, rfl, h, by rw [d.length]; exact k1, q _ _ k2 d.dropLast⟩
  · cases e
theorem snd_popAt : SndM rPopAt mPopAt := fun F H l vs xs us ds z ys Q hs h d d2 e hl q => by
  unfold mPopAt at e
  split at e
  · rename_i i
    split at e
    · rename_i hi
      simp only [Option.map_eq_some_iff] at e
      obtain ⟨y, e1, e2⟩ := e
      cases e2
      cases d2 with
      | cons a t =>
        cases t
        cases a
        obtain ⟨v, k1, k2⟩ := d.get' e1
        have hi2 : ixN vs.length i = some i.toNat := by
          unfold ixN
          rw [if_pos hi.1, d.length, if_pos hi.2]
        have hsz : xs.length ≤ lim + 1 := by
          rw [List.length_eraseIdx] at hl
          split at hl <;> omega
        have e2 : (lim : Int) = 1000000 := by decide
        exact ⟨l, vs, i, i.toNat, v, rfl, rfl, h, by omega, by omega, (ixN_seq hi2).1, k1, q _ _ k2 (d.eraseIdx _)⟩
    · cases e
  · cases e
def rInsert : V → List V → Hp → VK → Prop := fun x vs H Q => ∃ (l : Addr) (xs : List V) (i : Int) (y : V), x = .ref l ∧ vs = [.int i, y] ∧ H l = some (.lst xs) ∧ xs.length < sizeLine ∧ 0 ≤ i ∧ i < 2 ^ 63 ∧
    Q .non (upd H l (.lst (xs.take i.toNat ++ [y] ++ xs.drop i.toNat)))
theorem mt_ins {X : Cx} : MtR X "list.insert" rInsert := mt_insert
theorem snd_insert : SndM rInsert mInsert := fun F H l vs xs us ds z ys Q hs h d d2 e hl q => by
  unfold mInsert at e
  split at e
  · rename_i i y
    split at e
    · rename_i hi
      cases e
      cases d2 with
      | cons a t =>
        cases t with
        | cons b t =>
          cases t
          cases a
          have e2 : (lim : Int) = 1000000 := by decide
          refine ⟨l, vs, i, _, rfl, rfl, h, ?_, hi.1, by omega, q _ _ .non ?_⟩
          · rw [d.length]
            exact Nat.lt_of_lt_of_le hi.2.2 (lim_le (Nat.le_refl _))
          · rw [List.append_assoc]
            exact (d.take _).append ((DqA.cons b .nil).append (d.drop _))
    · cases e
  · cases e
/-! o[i] = e at a list of the store -/
def cSetIx (o i e : SE) : SS := fun ev st => (e ev st).bind fun p => match p.1 with
  | .d y => (o ev p.2).bind fun q => match q.1 with
    | .l n => (i ev q.2).bind fun t => match t.1, t.2[n]? with
      | .d (.int k), some (some xs) => (ixN xs.length k).map fun j => .nx ev (t.2.set n (some (xs.set j y)))
      | _, _ => none
    | _ => none
  | _ => none
section
variable {X : Cx} {o i e : Expr} {co ci ce : SE} {pos p2 : Pos}
theorem s_setIx (he : PE X e (tI X.K ce)) (ho : PE X o (tI X.K co)) (hi : PE X i (tI X.K ci))
    (ha : ∀ v, assign (.Subscript o i p2) X.env v = (holding [v] (eval o X.env) >>= fun u => holding [v, u] (eval i X.env) >>= fun j => standAt p2 >>= fun _ => holding [v, u, j] (setItem u j v) >>= fun _ => release [v, u, j] []) := by exact fun _ => rfl)
    (hs : swapsWithSole [.Subscript o i p2] e pos.line X.env = pure false := by rfl) (hw : swappedStores [.Subscript o i p2] e X.env = pure none := by rfl)
    (h1 : (assignEach [.Subscript o i p2] X.env).map (·.2) = [assign (.Subscript o i p2) X.env] := by rfl) : PS X (.Assign [.Subscript o i p2] e pos) (tSS X.K (cSetIx co ci ce)) :=
  (ps_asg he (pg_sub ho hi set_list ha) hs hw h1).weak fun D σ H ⟨ρ, F, ev, st, out, hr, sr, e, ok⟩ => by
    simp only [cSetIx, Option.bind_eq_some_iff] at e
    obtain ⟨⟨w1, st1⟩, e1, e2⟩ := e
    refine ⟨ρ, F, ev, st, w1, st1, hr, sr, e1, fun v1 ρ1 F1 H1 x1 hr1 wr1 => ?_⟩
    split at e2
    · rename_i y q
      cases q
      simp only [Option.bind_eq_some_iff] at e2
      obtain ⟨⟨w2, st2⟩, e3, e4⟩ := e2
      refine ⟨ρ1, F1, ev, st1, w2, st2, hr1, sr.mono x1, e3, fun v2 ρ2 F2 H2 x2 hr2 wr2 => ?_⟩
      split at e4
      · rename_i n q
        cases q
        simp only [Option.bind_eq_some_iff] at e4
        obtain ⟨⟨w3, st3⟩, e5, e6⟩ := e4
        refine ⟨ρ2, F2, ev, st2, w3, st3, hr2, (sr.mono x1).mono x2, e5, fun v3 ρ3 F3 H3 x3 hr3 wr3 => ?_⟩
        split at e6
        · rename_i k xs q1 q2
          cases q1
          simp only [Option.map_eq_some_iff] at e6
          obtain ⟨j, e7, e8⟩ := e6
          subst e8
          obtain ⟨a, ha, rfl⟩ := wr2
          obtain ⟨a', vs, k1, k2, k3, k4⟩ := hr3.cell n xs q2
          obtain rfl := (k1.eq (x3.pre n a ha)).symm
          cases wr3
          refine ⟨a, vs, k, j, rfl, rfl, k2, by rw [k4.length]; exact e7, ?_⟩
          have dy : Dq F3 v1 y := ((show Dq F1 v1 y from wr1).mono x2.same).mono x3.same
          exact ok _ ρ3 F3 _ ((x1.trans x2).trans x3) (hr3.write q2 (.of (x3.pre n a ha)) (k4.set dy j)) (((sr.mono x1).mono x2).mono x3)
        · cases e6
      · cases e4
    · cases e2
end
/-! x op= e -/
def cAug (i : Nat) (f : PyData → PyData → Option PyData) (e : SE) : SS := fun ev st => match ev[i]? with
  | some (some (.d x)) => (e ev st).bind fun p => (rd p.2 p.1).bind fun y => (f x y).map fun z => .nx (ev.set i (some (.d z))) p.2
  | _ => none
theorem s_aug {X : Cx} {e : Expr} {ce : SE} {i : Nat} {x : Str} {op : Operator} {ti : TIp} {f : PyData → PyData → Option PyData} {pos pos' : Pos} (hN : X.N.Nodup) (hi : X.N[i]? = some x) (hx : Loc X.env.scope x) (he : PE X e (tI X.K ce)) (ho : PIp X op ti) (hs : Snd2 X.K ti f)
    (hf : X.fn x = true ∨ X.env.scope.names.lookup x = some .local := by first | exact .inl rfl | exact .inr rfl | assumption) : PS X (.AugAssign (.Name x pos') op e pos) (tSS X.K (cAug i f ce)) :=
  (ps_aug hN hi hx he ho hf).weak fun D σ H ⟨ρ, F, ev, st, out, hr, sr, e, ok⟩ => by
    unfold cAug at e
    split at e
    · rename_i x q
      simp only [Option.bind_eq_some_iff, Option.map_eq_some_iff] at e
      obtain ⟨⟨w1, st1⟩, e1, y, e2, z, e3, e4⟩ := e
      subst e4
      obtain ⟨v, k1, k2⟩ := sr.get i _ q
      refine ⟨v, k1, ρ, F, ev, st, w1, st1, hr, sr, e1, fun v1 ρ1 F1 H1 x1 hr1 wr1 => ?_⟩
      refine hs F1 H1 v v1 x y z _ hr1.sub (.inl ((show Dq F v x from k2).mono x1.same)) (rd_ok hr1 wr1 e2) e3 fun v2 F2 H2 g d => ?_
      exact ok _ ρ1 F2 H2 (x1.trans (.of g)) (hr1.grow g) (((sr.mono x1).mono (.of g)).set (w := .d z) d i)
    · cases e
/-! ### defs -/
abbrev FS := List U → Sto → Option (U × Sto)
def leave (n : Nat) (w : U) (st : Sto) : Option (U × Sto) := match w with
  | .d x => some (.d x, st.take n)
  | .s ns => some (.s ns, st.take n)
  | .k kd => some (.k kd, st.take n)
  | .l k => if k < n then some (.l k, st.take n) else match st[k]? with
    | some (some xs) => some (.d (.list xs), st.take n)
    | _ => none
  | .o C k => if k < n then some (.o C k, st.take n) else match st[k + 1]?, st[k + 2]? with
    | some (some ls), some (some es) => some (.o C n, st.take n ++ [none, some ls, some es])
    | _, _ => none
  | .p _ _ => none
  | .q _ _ => none
/-- some cells alone, in another order -/
theorem HR.sel {ρ ρ' : Rho} {F H : Hp} {st st' : Sto} (h : HR ρ F H st) (φ : Nat → Nat) (hl : ρ'.length = st'.length) (hr : ∀ (m : Nat) (x : Addr × Nat), ρ'[m]? = some x → ρ[φ m]? = some x) (hs : ∀ (m : Nat) (xs : List PyData), st'[m]? = some (some xs) → st[φ m]? = some (some xs))
    (inj : ∀ m m', m < ρ'.length → m' < ρ'.length → φ m = φ m' → m = m') (tri : ∀ (m : Nat) (a C : Addr), ρ'[m]? = some (a, C + 2) → m + 2 < ρ'.length ∧ φ (m + 1) = φ m + 1 ∧ φ (m + 2) = φ m + 2) : HR ρ' F H st' := by
  have lt : ∀ {m : Nat} {x : Addr × Nat}, ρ'[m]? = some x → m < ρ'.length := fun e => (List.getElem?_eq_some_iff.mp e).1
  have back : ∀ {m : Nat} {x : Addr × Nat}, m < ρ'.length → ρ[φ m]? = some x → ρ'[m]? = some x := fun {m x} hm e => by
    have e1 := List.getElem?_eq_getElem hm
    have e2 := hr m _ e1
    rw [e] at e2
    rw [e1, Option.some.inj e2]
  have ad : ∀ {m : Nat} {a : Addr}, Ad ρ' m a → m < ρ'.length ∧ Ad ρ (φ m) a := fun ⟨k, e⟩ => ⟨lt e, k, hr _ _ e⟩
  refine ⟨h.sub, fun m xs e => ?_, fun m m' a e1 e2 ⟨y1, l1⟩ ⟨y2, l2⟩ => inj m m' (ad e1).1 (ad e2).1 (h.inj _ _ a (ad e1).2 (ad e2).2 ⟨_, hs _ _ l1⟩ ⟨_, hs _ _ l2⟩), hl, fun m a C e => ?_, fun m m' a C D e1 e2 => inj m m' (lt e1) (lt e2) (h.obj.inj _ _ a C D (hr _ _ e1) (hr _ _ e2))⟩
  · obtain ⟨a, vs, ⟨k, h1⟩, h2⟩ := h.cell _ _ (hs m xs e)
    exact ⟨a, vs, ⟨k, back (by rw [hl]; exact (List.getElem?_eq_some_iff.mp e).1) h1⟩, h2⟩
  · obtain ⟨t1, t2, t3⟩ := tri m a C e
    obtain ⟨dx, l, e1, k1, k2, h1, h2, r⟩ := h.obj.at_ _ a C (hr _ _ e)
    exact ⟨dx, l, e1, k1, k2, back (by omega) (by rw [t2]; exact h1), back t1 (by rw [t3]; exact h2), r⟩
/-- an object of a def's own, with what stood ahead of the def -/
theorem HR.movedO {ρ : Rho} {F H : Hp} {st : Sto} {n k : Nat} {a C : Addr} {ls es : List PyData} (h : HR ρ F H st) (t : Tri ρ n) (hk : n ≤ k) (ha : ρ[k]? = some (a, C + 2)) (e1 : st[k + 1]? = some (some ls)) (e2 : st[k + 2]? = some (some es)) :
    ∃ l e k1 k2, ρ[k + 1]? = some (l, k1) ∧ HR (ρ.take n ++ [(a, C + 2), (l, k1), (e, k2)]) F H (st.take n ++ [none, some ls, some es]) := by
  obtain ⟨dx, l, e, k1, k2, h1, h2, q1, q2, _⟩ := h.obj.at_ k a C ha
  have hl := h.len
  have hkl : k + 2 < ρ.length := (List.getElem?_eq_some_iff.mp h2).1
  have ln : (ρ.take n).length = n := by rw [List.length_take]; omega
  have ls' : (st.take n).length = n := by rw [List.length_take]; omega
  refine ⟨l, e, k1, k2, h1, h.sel (fun m => if m < n then m else m - n + k) (by simp; omega) (fun m x q => ?_) (fun m xs q => ?_) (fun m m' g1 g2 q => ?_) fun m b D q => ?_⟩
  · by_cases hm : m < n
    · rw [if_pos hm]
      rw [List.getElem?_append_left (by omega)] at q
      exact (get_take q).2
    · rw [if_neg hm]
      rw [List.getElem?_append_right (by omega), ln] at q
      match hj : m - n, q with
      | 0, q => cases q; rw [Nat.zero_add]; exact ha
      | 1, q => cases q; rw [Nat.add_comm]; exact h1
      | 2, q => cases q; rw [Nat.add_comm]; exact h2
      | j + 3, q => simp at q
  · by_cases hm : m < n
    · rw [if_pos hm]
      rw [List.getElem?_append_left (by omega), List.getElem?_take, if_pos hm] at q
      exact q
    · rw [if_neg hm]
      rw [List.getElem?_append_right (by omega), ls'] at q
      match hj : m - n, q with
      | 0, q => cases q
      | 1, q => cases q; rw [Nat.add_comm]; exact e1
      | 2, q => cases q; rw [Nat.add_comm]; exact e2
      | j + 3, q => simp at q
  · split at q <;> split at q <;> omega
  · by_cases hm : m < n
    · rw [List.getElem?_append_left (by omega)] at q
      have := t m b D hm (get_take q).2
      refine ⟨by simp; omega, ?_, ?_⟩
      · rw [if_pos (by omega), if_pos hm]
      · rw [if_pos (by omega), if_pos hm]
    · rw [List.getElem?_append_right (by omega), ln] at q
      match hj : m - n, q with
      | 0, q =>
        have : m = n := by omega
        subst this
        refine ⟨by simp; omega, ?_, ?_⟩
        · rw [if_neg (by omega), if_neg hm]
          omega
        · rw [if_neg (by omega), if_neg hm]
          omega
      | 1, q => cases q; omega
      | 2, q => cases q; omega
      | j + 3, q => simp at q
/-- a def by its body: its own lists are gone behind it, a list of its own that it returns is data -/
def defS (N : Nat) (b : SS) : FS := fun ws st => (b (ws.map some ++ List.replicate (N - ws.length) none) st).bind fun o => match o with
  | .rt w st' => leave st.length w st'
  | .nx _ st' => some (.d .none, st'.take st.length)
  | _ => none
def spF (K : PySem.W.Frag) (f : FS) (n : Nat) : Sp := fun vs H Q _ => ∃ ρ F ws st w st', HR ρ F H st ∧ WRs K ρ F vs ws ∧ ws.length = n ∧ f ws st = some (w, st') ∧ Post K ρ F w st' Q
def cDef (n : Nat) (f : FS) (a : SA) : SE := fun ev st => (a ev st).bind fun p => if p.1.length = n then f p.1 p.2 else none
theorem leave_ok {K : PySem.W.Frag} {ρ ρ' : Rho} {F F' H0 H' : Hp} {st st' st2 : Sto} {v : V} {w w2 : U} {Q : VK} (h0 : HR ρ F H0 st) (x : Ext ρ F ρ' F') (h : HR ρ' F' H' st') (r : WR K ρ' F' v w) (e : leave st.length w st' = some (w2, st2)) (post : Post K ρ F w2 st2 Q) : Q v H' := by
  have hl := h0.len
  have tri : Tri ρ' st.length := x.tri h0.obj hl.symm
  have xt : Ext ρ F (ρ'.take st.length) F' := by
    rw [← hl]
    exact x.take _ (Nat.le_refl _)
  cases w with
  | d y =>
    cases e
    exact post v _ F' H' xt (h.take _ tri) r
  | s ns =>
    cases e
    exact post v _ F' H' xt (h.take _ tri) r
  | k kd =>
    cases e
    exact post v _ F' H' xt (h.take _ tri) r
  | l k =>
    simp only [leave] at e
    split at e
    · rename_i hk
      cases e
      obtain ⟨a, h1, h2⟩ := r
      exact post v _ F' H' xt (h.take _ tri) ⟨a, put_take hk h1, h2⟩
    · rename_i hk
      split at e
      · rename_i xs q
        cases e
        obtain ⟨a, h1, rfl⟩ := r
        obtain ⟨a', vs, k1, k2, k3, k4, k5⟩ := h.freeze q
        obtain rfl := (k1.eq h1).symm
        have t := k5.take st.length tri
        rw [List.take_set_of_le (by omega)] at t
        exact post _ _ _ H' (xt.trans (.upd k2)) t (.lst upd_same (k4.mono (same_upd k2)))
      · cases e
  | p C k => cases e
  | q C k => cases e
  | o C k =>
    simp only [leave] at e
    obtain ⟨a, l0, h1, h1', rfl⟩ := r
    split at e
    · rename_i hk
      cases e
      exact post _ _ F' H' xt (h.take _ tri) ⟨a, l0, put_take hk h1, put_take (by have := tri k a C hk h1; omega) h1', rfl⟩
    · rename_i hk
      split at e
      · rename_i ls es q1 q2
        cases e
        obtain ⟨l, e1, k1, k2, hk1, hm⟩ := h.movedO tri (by omega) h1 q1 q2
        have ln : (ρ'.take st.length).length = st.length := by
          have := (List.getElem?_eq_some_iff.mp h1).1
          rw [List.length_take]
          omega
        rw [h1'] at hk1
        cases hk1
        refine post _ _ F' H' (xt.trans .more) hm ⟨a, l0, ?_, ?_, rfl⟩
        · rw [List.getElem?_append_right (by omega), ln]
          simp
        · rw [List.getElem?_append_right (by omega), ln]
          simp
      · cases e
section
variable {P : Program} {w : World} {K : PySem.W.Frag} {mg : Str → Option Value} {base : Heap}
theorem SR.start {ρ : Rho} {F : Hp} {vs : List V} {ws : List U} {N : List Str} (h : WRs K ρ F vs ws) : SR K ρ F (ws.map some ++ List.replicate (N.length - ws.length) Option.none) (L2.start N vs) := by
  have hl := h.length
  refine ⟨by simp [L2.start, hl], fun i w e => ?_⟩
  have g : ∀ {vs : List V} {ws : List U} (i : Nat) (w : U), WRs K ρ F vs ws → ws[i]? = some w → ∃ v, vs[i]? = some v ∧ WR K ρ F v w := by
    intro vs ws i w h
    induction h generalizing i with
    | nil => intro e; simp at e
    | cons a t ih =>
      intro e
      cases i with
      | zero =>
        simp only [List.getElem?_cons_zero, Option.some.injEq] at e
        subst e
        exact ⟨_, rfl, a⟩
      | succ i =>
        rw [List.getElem?_cons_succ] at e ⊢
        exact ih i e
  by_cases hi : i < ws.length
  · rw [List.getElem?_append_left (by simpa using hi), List.getElem?_map] at e
    obtain ⟨u, e1, e2⟩ := Option.map_eq_some_iff.mp e
    cases e2
    obtain ⟨v, k1, k2⟩ := g i w h e1
    refine ⟨v, ?_, k2⟩
    unfold L2.start
    rw [List.getElem?_append_left (by rw [List.length_map, hl]; exact hi), List.getElem?_map, k1]
    rfl
  · rw [List.getElem?_append_right (by simp; omega)] at e
    have := List.mem_of_getElem? e
    rw [List.mem_replicate] at this
    cases this.2
/-- THE RULE for a def -/
theorem def_ok {x qual : Str} {st : Stmt} {f : Addr} {fd : FuncData} {N ps : List Str} {k : Nat} {b : SS} (F : Fun K x qual st f fd) (S : FnScope N ps (defScope st))
    (h : ∀ (cdv : Value) (A : Around) (outer : List Env) (s : Shared) (H : Hp) (E : XK), Room k (A.deeper (envOfC qual (defScope st) s.heap.objs.size f cdv)) → PSs (cxOf CX0 P w K mg base N qual (defScope st) f cdv A outer s H E).nox (defBody st) (tSS K b)) :
    FnOk P w K mg base CX0 (k + 1) f fd ps (spF K (defS N.length b) ps.length) := by
  refine F.ok S (fun vs H Q E ⟨ρ, F, ws, st, w, st', hr, wr, hl, e, post⟩ => by rw [wr.length, hl]) fun cdv A outer s H vs Q E hrm hsp => ⟨tSS K b, h cdv A outer s H E hrm, ?_⟩
  obtain ⟨ρ, F, ws, st, w, st', hr, wr, hl, e, post⟩ := hsp
  simp only [defS, Option.bind_eq_some_iff] at e
  obtain ⟨o, e1, e2⟩ := e
  refine ⟨ρ, F, _, st, o, hr, SR.start wr, e1, ?_⟩
  cases o with
  | rt w1 st1 => exact fun v ρ' F' H' x hr' r => leave_ok hr x hr' r e2 post
  | nx ev1 st1 =>
    cases e2
    exact fun σ' ρ' F' H' x hr' _ => post .non (ρ'.take st.length) F' H' (by rw [← hr.len]; exact x.take _ (Nat.le_refl _)) (hr'.take _ (x.tri hr.obj hr.len.symm)) .non
  | bk ev1 st1 => cases e2
  | ct ev1 st1 => cases e2
end
section
variable {X : Cx} {k : Nat} {f : Addr} {fd : FuncData} {ps : List Str} {fs : FS} {x : Str} {e : Expr} {es : List Expr} {sa : SA} {p pos : Pos}
theorem defc_ok {E : XK} {σ : L2.St} {H : Hp} {Q : VK} (h : tI X.K (cDef ps.length fs sa) σ H Q) : tCall (spF X.K fs ps.length) [] E (tA X.K sa) σ H Q := by
  obtain ⟨ρ, F, ev, st, w, st', hr, sr, e, post⟩ := h
  simp only [cDef, Option.bind_eq_some_iff] at e
  obtain ⟨⟨ws, st1⟩, e1, e2⟩ := e
  split at e2
  · rename_i hl
    refine ⟨ρ, F, ev, st, ws, st1, hr, sr, e1, fun vs ρ' F' H' x hr' wr => ⟨ρ', F', ws, st1, w, st', hr', by rw [List.append_nil]; exact wr, hl, e2, fun v ρ2 F2 H2 x2 h2 r2 => post v ρ2 F2 H2 (x.trans x2) h2 r2⟩⟩
  · cases e2
theorem se_def (F : FnOk X.prog X.w X.K X.mg X.base CX0 k f fd ps (spF X.K fs ps.length)) (hr : Room k X.A) (hg : Gl X x) (hm : X.mg x = some (.ref f)) (hk : PySem.W.keepIn X.K (.ref f) = true) (hb : Binds X.K fd ps []) (ha : PA X (e :: es) (tA X.K sa))
    (hdb : NotDbg x := by decide) (he : Bare1 X e es := by rfl) (hpl : NoStar X es pos := by rfl) :
    PE X (.Call (.Name x p) (e :: es) [] pos) (tI X.K (cDef ps.length fs sa)) := (pe_call F hr hg hm hk hb .nil pass0 ha hdb he hpl).weak fun _ _ _ h => defc_ok h
theorem se_def0 (F : FnOk X.prog X.w X.K X.mg X.base CX0 k f fd ps (spF X.K fs ps.length)) (hr : Room k X.A) (hg : Gl X x) (hm : X.mg x = some (.ref f)) (hk : PySem.W.keepIn X.K (.ref f) = true) (hb : Binds X.K fd ps [])
    (hdb : NotDbg x := by decide) :
    PE X (.Call (.Name x p) [] [] pos) (tI X.K (cDef ps.length fs cNil)) := (pe_call0 F hr hg hm hk hb .nil pass0 hdb).weak fun σ H Q h => by
  obtain ⟨ρ, F, ev, st, ws, st1, hr, sr, e, k⟩ := defc_ok (E := E0) h
  cases e
  exact k [] ρ F H (.refl _ _) hr .nil
end
end Cm

set_option Elab.async false
set_option linter.all false
set_option maxRecDepth 100000
namespace Cm
open PySem PySem.Spec PyProof.Rows L2

/-! ### operators -/
def fAdd : PyData → PyData → Option PyData
  | .int a, .int b => some (.int (a + b))
  | .list a, .list b => if a.length + b.length ≤ lim then some (.list (a ++ b)) else none
  | .tuple a, .tuple b => if a.length + b.length ≤ lim then some (.tuple (a ++ b)) else none
  | .str a, .str b => if a.length + b.length ≤ lim then some (.str (a ++ b)) else none
  | _, _ => none
def fSub : PyData → PyData → Option PyData
  | .int a, .int b => some (.int (a - b))
  | _, _ => none
def p64 : Int := 18446744073709551616
def mulOk (a b : Int) : Bool := decide ((-p64 < a ∧ a < p64) ∨ (-p64 < b ∧ b < p64) ∨ a.natAbs.log2 + b.natAbs.log2 < 1000000)
def fMul : PyData → PyData → Option PyData
  | .int a, .int b => if mulOk a b then some (.int (a * b)) else none
  | .list a, .int b => if b < 1000000 ∧ -1000000 < b ∧ a.length * b.toNat ≤ lim then some (.list (List.replicate b.toNat a).flatten) else none
  | .tuple a, .int b => if 2 ≤ b ∧ b ≤ 1000 ∧ 0 < a.length ∧ a.length ≤ 1000 then some (.tuple (List.replicate b.toNat a).flatten) else none
  | _, _ => none
def fMod : PyData → PyData → Option PyData
  | .int a, .int b => if 0 < b then some (.int (a % b)) else none
  | _, _ => none
def fDiv : PyData → PyData → Option PyData
  | .int a, .int b => if 0 < b ∧ b.natAbs.log2 < 9000 then some (.int (a / b)) else none
  | _, _ => none
def fPow : PyData → PyData → Option PyData
  | .int a, .int b => if 0 ≤ b ∧ b ≤ 1000000 ∧ a.natAbs < 18446744073709551616 then some (.int (a ^ b.toNat)) else none
  | _, _ => none
def fNeg : PyData → Option PyData
  | .int a => some (.int (-a))
  | _ => none
def asInts : List PyData → Option (List Int)
  | [] => some []
  | .int i :: r => (asInts r).map (i :: ·)
  | _ :: _ => none
def asBools : List PyData → Option (List Bool)
  | [] => some []
  | .bool i :: r => (asBools r).map (i :: ·)
  | _ :: _ => none
def asPairs : List PyData → Option (List (Int × Int))
  | [] => some []
  | .tuple [.int i, .int j] :: r => (asPairs r).map ((i, j) :: ·)
  | _ :: _ => none
theorem asInts_eq : ∀ {xs : List PyData} {ns : List Int}, asInts xs = some ns → xs = ns.map .int
  | [], _, e => by cases e; rfl
  | .int i :: r, _, e => by
    simp only [asInts, Option.map_eq_some_iff] at e
    obtain ⟨ns, e1, rfl⟩ := e
    rw [asInts_eq e1]
    rfl
  | .none :: _, _, e => by cases e
  | .bool _ :: _, _, e => by cases e
  | .str _ :: _, _, e => by cases e
  | .list _ :: _, _, e => by cases e
  | .tuple _ :: _, _, e => by cases e
  | .dict _ :: _, _, e => by cases e
theorem asBools_eq : ∀ {xs : List PyData} {ns : List Bool}, asBools xs = some ns → xs = ns.map .bool
  | [], _, e => by cases e; rfl
  | .bool i :: r, _, e => by
    simp only [asBools, Option.map_eq_some_iff] at e
    obtain ⟨ns, e1, rfl⟩ := e
    rw [asBools_eq e1]
    rfl
  | .none :: _, _, e => by cases e
  | .int _ :: _, _, e => by cases e
  | .str _ :: _, _, e => by cases e
  | .list _ :: _, _, e => by cases e
  | .tuple _ :: _, _, e => by cases e
  | .dict _ :: _, _, e => by cases e
@[simp] theorem asInts_map : ∀ ns : List Int, asInts (ns.map .int) = some ns
  | [] => rfl
  | n :: ns => by simp [asInts, asInts_map ns]
@[simp] theorem asBools_map : ∀ ns : List Bool, asBools (ns.map .bool) = some ns
  | [] => rfl
  | n :: ns => by simp [asBools, asBools_map ns]
def pairD (p : Int × Int) : PyData := .tuple [.int p.1, .int p.2]
theorem asPairs_eq : ∀ {xs : List PyData} {ns : List (Int × Int)}, asPairs xs = some ns → xs = ns.map pairD
  | [], _, e => by cases e; rfl
  | x :: r, _, e => by
    unfold asPairs at e
    split at e
    · rename_i h
      cases h
    · rename_i i j r' h
      cases h
      simp only [Option.map_eq_some_iff] at e
      obtain ⟨ns, e1, rfl⟩ := e
      rw [asPairs_eq e1]
      rfl
    · cases e
@[simp] theorem asPairs_map : ∀ ns : List (Int × Int), asPairs (ns.map pairD) = some ns
  | [] => rfl
  | n :: ns => by simp [asPairs, pairD]; exact asPairs_map ns
def fLt : PyData → PyData → Option PyData
  | .int a, .int b => some (.bool (decide (a < b)))
  | .tuple a, .tuple b => (asInts a).bind fun ns => (asInts b).map fun ms => .bool (HT.lexLt ns ms)
  | _, _ => none
def fLe : PyData → PyData → Option PyData
  | .int a, .int b => some (.bool (decide (a ≤ b)))
  | _, _ => none
def fGt : PyData → PyData → Option PyData
  | .int a, .int b => some (.bool (decide (b < a)))
  | _, _ => none
def fGe : PyData → PyData → Option PyData
  | .int a, .int b => some (.bool (decide (b ≤ a)))
  | _, _ => none
def fEq (x y : PyData) : Option PyData := if SeqAt.shaped x && SeqAt.shaped y then some (.bool (PyData.eqv x y)) else none
def fNe (x y : PyData) : Option PyData := if SeqAt.shaped x && SeqAt.shaped y then some (.bool (!PyData.eqv x y)) else none
def isNone : PyData → Bool
  | .none => true
  | _ => false
def fIs : PyData → PyData → Option PyData
  | x, .none => some (.bool (isNone x))
  | .bool a, .bool b => some (.bool (decide (a = b)))
  | _, _ => none
def fIsNot : PyData → PyData → Option PyData
  | x, .none => some (.bool (!isNone x))
  | .bool a, .bool b => some (.bool (!decide (a = b)))
  | _, _ => none
def flatD : PyData → Bool
  | .none => true
  | .bool _ => true
  | .int _ => true
  | .str _ => true
  | _ => false
def hasD (ds : List PyData) (x : PyData) : Bool := ds.any fun z => PyData.eqv z x
def fIn (x : PyData) : PyData → Option PyData
  | .list ds => if SeqAt.shaped x && SeqAt.shaped (.list ds) then some (.bool (hasD ds x)) else none
  | .tuple ds => if flatD x && ds.all flatD then some (.bool (hasD ds x)) else none
  | _ => none
def fNotIn (x : PyData) : PyData → Option PyData
  | .list ds => if SeqAt.shaped x && SeqAt.shaped (.list ds) then some (.bool (!hasD ds x)) else none
  | .tuple ds => if flatD x && ds.all flatD then some (.bool (!hasD ds x)) else none
  | _ => none
def fIx : PyData → PyData → Option PyData
  | .list xs, .int i => atI xs i
  | .tuple xs, .int i => atI xs i
  | .str z, .int i => if z.length ≤ lim then (atI z.cps.toList i).map fun c => .str ⟨#[c]⟩ else none
  | _, _ => none
/-! sound -/
abbrev rAdd (K : PySem.W.Frag) : R2 := fun x y H Q => rI0 (fun i j => .int (i + j)) x y H Q ∨ (rCat x y H Q ∨ (rCatA K x y H Q ∨ (∃ i j, x = .str i ∧ y = .str j ∧ i.length + j.length ≤ sizeLine ∧ Q (.str (i ++ j)) H)))
theorem op_addA {X : Cx} : OpR X (binaryOp .Add) (rAdd X.K) := op_add.or (op_cat.or (op_catA.or op_add_str))
theorem snd_add {K : PySem.W.Frag} : Snd2s (rAdd K) fAdd := fun F H v u x y z Q hs rx ry e q => by
  unfold fAdd at e
  split at e
  · cases e
    cases (rx.rdd (K := K)).int
    cases (ry.rdd (K := K)).int
    exact .inl ⟨_, _, rfl, rfl, q.now hs (.int _)⟩
  · split at e
    · rename_i hl
      cases e
      obtain ⟨a, vs, rfl, h1, d1⟩ := rx.list hs
      obtain ⟨b, us, rfl, h2, d2⟩ := ry.list hs
      exact .inr (.inl ⟨a, b, vs, us, rfl, rfl, h1, h2, by rw [d1.length, d2.length]; exact lim_le hl, fun p np => q.lst hs (d1.append d2) p np⟩)
    · cases e
  · split at e
    · rename_i hl
      cases e
      obtain ⟨a, vs, rfl, h1, f1, d1⟩ := (rx.rdd (K := K)).tup hs
      obtain ⟨b, us, rfl, h2, f2, d2⟩ := (ry.rdd (K := K)).tup hs
      refine .inr (.inr (.inl ⟨a, b, vs, us, rfl, rfl, SqT.of h1, SqT.of h2, by rw [d1.length, d2.length]; exact lim_le hl, fun e => ?_, fun _ e => ?_, fun _ _ p np => q.tup hs (d1.append d2) p np⟩))
      · subst e
        cases d1
        exact q.now hs (.tup f2 d2)
      · subst e
        cases d2
        rw [List.append_nil] at q
        exact q.now hs (.tup f1 d1)
    · cases e
  · split at e
    · rename_i hl
      cases e
      cases (rx.rdd (K := K)).str
      cases (ry.rdd (K := K)).str
      exact .inr (.inr (.inr ⟨_, _, rfl, rfl, lim_le hl, q.now hs (.str _)⟩))
    · cases e
  · cases e
theorem snd_sub {K : PySem.W.Frag} : Snd2 K (rI0 fun i j => .int (i - j)) fSub := fun F H v u x y z Q hs rx ry e q => by
  unfold fSub at e
  split at e
  · cases e
    cases rx.int
    cases ry.int
    exact ⟨_, _, rfl, rfl, q.now hs (.int _)⟩
  · cases e
abbrev rMul (K : PySem.W.Frag) : R2 := fun x y H Q => rI CMul (fun i j => .int (i * j)) x y H Q ∨ (rI CMulW (fun i j => .int (i * j)) x y H Q ∨ (rRep x y H Q ∨ rRepT K x y H Q))
theorem op_mulA {X : Cx} : OpR X (binaryOp .Mult) (rMul X.K) := op_mul.or (op_mulW.or (op_rep.or op_repT))
theorem snd_mul {K : PySem.W.Frag} : Snd2s (rMul K) fMul := fun F H v u x y z Q hs rx ry e q => by
  unfold fMul at e
  split at e
  · rename_i a b
    split at e
    · rename_i hm
      cases e
      cases (rx.rdd (K := [])).int
      cases (ry.rdd (K := [])).int
      have hm' := of_decide_eq_true hm
      have ep : p64 = 2 ^ 64 := by decide
      rcases hm' with h | h | h
      · rw [ep] at h
        exact .inl ⟨_, _, rfl, rfl, .inl h, q.now hs (.int _)⟩
      · rw [ep] at h
        exact .inl ⟨_, _, rfl, rfl, .inr h, q.now hs (.int _)⟩
      · exact .inr (.inl ⟨_, _, rfl, rfl, h, q.now hs (.int _)⟩)
    · cases e
  · rename_i a b
    split at e
    · rename_i hm
      cases e
      cases (ry.rdd (K := [])).int
      obtain ⟨l, vs, rfl, h1, d1⟩ := rx.list hs
      refine .inr (.inr (.inl ⟨l, b, vs, rfl, rfl, h1, by omega, by omega, ?_, fun p np => q.lst hs (d1.rep _) p np⟩))
      rw [d1.length]
      exact lim_le hm.2.2
    · cases e
  · rename_i a b
    split at e
    · rename_i hm
      cases e
      cases (ry.rdd (K := K)).int
      obtain ⟨l, vs, rfl, h1, f1, d1⟩ := (rx.rdd (K := K)).tup hs
      have hl := d1.length
      refine .inr (.inr (.inr ⟨l, b, vs, rfl, rfl, SqT.of h1, ?_, hm.1, hm.2.1, by omega, fun p np => q.tup hs (d1.rep _) p np⟩))
      intro h0
      rw [h0] at hl
      simp at hl
      omega
    · cases e
  · cases e
theorem snd_mod {K : PySem.W.Frag} : Snd2 K (rI (fun _ j => 0 < j) fun i j => .int (i % j)) fMod := fun F H v u x y z Q hs rx ry e q => by
  unfold fMod at e
  split at e
  · split at e
    · rename_i h
      cases e
      cases rx.int
      cases ry.int
      exact ⟨_, _, rfl, rfl, h, q.now hs (.int _)⟩
    · cases e
  · cases e
theorem snd_div {K : PySem.W.Frag} : Snd2 K (rI CDivW fun i j => .int (i / j)) fDiv := fun F H v u x y z Q hs rx ry e q => by
  unfold fDiv at e
  split at e
  · split at e
    · rename_i h
      cases e
      cases rx.int
      cases ry.int
      exact ⟨_, _, rfl, rfl, h, q.now hs (.int _)⟩
    · cases e
  · cases e
theorem snd_pow {K : PySem.W.Frag} : Snd2 K (rI CPow fun i j => .int (i ^ j.toNat)) fPow := fun F H v u x y z Q hs rx ry e q => by
  unfold fPow at e
  split at e
  · split at e
    · rename_i h
      cases e
      cases rx.int
      cases ry.int
      exact ⟨_, _, rfl, rfl, ⟨h.1, h.2.1, by omega⟩, q.now hs (.int _)⟩
    · cases e
  · cases e
theorem snd_neg {K : PySem.W.Frag} : Snd1 K (rU fun i => .int (-i)) fNeg := fun F H v x z Q hs rx e q => by
  unfold fNeg at e
  split at e
  · cases e
    cases rx.int
    exact ⟨_, rfl, q.now hs (.int _)⟩
  · cases e
abbrev rLt (K : PySem.W.Frag) : R2 := fun x y H Q => rI0 (fun i j => .bl (decide (i < j))) x y H Q ∨ rLtT K x y H Q
theorem op_ltA {X : Cx} {k : Nat} (hr : Room k X.A) : OpR X (compareOp .Lt) (rLt X.K) := op_lt.or (op_ltT hr.units0)
theorem snd_lt {K : PySem.W.Frag} : Snd2 K (rLt K) fLt := fun F H v u x y z Q hs rx ry e q => by
  unfold fLt at e
  split at e
  · cases e
    cases rx.int
    cases ry.int
    exact .inl ⟨_, _, rfl, rfl, q.now hs (.bl _)⟩
  · simp only [Option.bind_eq_some_iff, Option.map_eq_some_iff] at e
    obtain ⟨ns, e1, ms, e2, rfl⟩ := e
    obtain ⟨a, vs, rfl, h1, _, d1⟩ := rx.tup hs
    obtain ⟨b, us, rfl, h2, _, d2⟩ := ry.tup hs
    rw [asInts_eq e1] at d1
    rw [asInts_eq e2] at d2
    rw [d1.of_ints] at h1
    rw [d2.of_ints] at h2
    exact .inr ⟨a, b, ns, ms, rfl, rfl, SqT.of h1, SqT.of h2, q.now hs (.bl _)⟩
  · cases e
theorem snd_le {K : PySem.W.Frag} : Snd2 K (rI0 fun i j => .bl (decide (i ≤ j))) fLe := fun F H v u x y z Q hs rx ry e q => by
  unfold fLe at e
  split at e
  · cases e
    cases rx.int
    cases ry.int
    exact ⟨_, _, rfl, rfl, q.now hs (.bl _)⟩
  · cases e
theorem snd_gt {K : PySem.W.Frag} : Snd2 K (rI0 fun i j => .bl (decide (j < i))) fGt := fun F H v u x y z Q hs rx ry e q => by
  unfold fGt at e
  split at e
  · cases e
    cases rx.int
    cases ry.int
    exact ⟨_, _, rfl, rfl, q.now hs (.bl _)⟩
  · cases e
theorem snd_ge {K : PySem.W.Frag} : Snd2 K (rI0 fun i j => .bl (decide (j ≤ i))) fGe := fun F H v u x y z Q hs rx ry e q => by
  unfold fGe at e
  split at e
  · cases e
    cases rx.int
    cases ry.int
    exact ⟨_, _, rfl, rfl, q.now hs (.bl _)⟩
  · cases e
theorem shp_lay {d : PyData} (h : SeqAt.shaped d = true) : d.hasDict = false := lay_nodict (Bool.and_eq_true_iff.mp h).1
theorem snd_eq {K : PySem.W.Frag} : Snd2 K (rEqD K) fEq := fun F H v u x y z Q hs rx ry e q => by
  unfold fEq at e
  split at e
  · rename_i h
    cases e
    rw [Bool.and_eq_true] at h
    exact ⟨x, y, rx.dp (shp_lay h.1) hs, ry.dp (shp_lay h.2) hs, h.1, h.2, q.now hs (.bl _)⟩
  · cases e
theorem snd_ne {K : PySem.W.Frag} : Snd2 K (rNeD K) fNe := fun F H v u x y z Q hs rx ry e q => by
  unfold fNe at e
  split at e
  · rename_i h
    cases e
    rw [Bool.and_eq_true] at h
    exact ⟨x, y, rx.dp (shp_lay h.1) hs, ry.dp (shp_lay h.2) hs, h.1, h.2, q.now hs (.bl _)⟩
  · cases e
theorem isNone_ok {K : PySem.W.Frag} {F H : Hp} {v : V} {x : PyData} (hs : Same F H) (r : Rdd K F H v x) : decide (v = .non) = isNone x := by
  cases x with
  | none => cases r.non; rfl
  | bool b => cases r.bl; rfl
  | int b => cases r.int; rfl
  | str b => cases r.str; rfl
  | list xs => obtain ⟨a, vs, rfl, _⟩ := r.list hs; rfl
  | tuple xs => obtain ⟨a, vs, rfl, _⟩ := r.tup hs; rfl
  | dict z => obtain ⟨a, rfl⟩ := r.dict; rfl
abbrev rIs : R2 := fun x y H Q => (y = .non ∧ Q (.bl (decide (x = .non))) H) ∨ rIsB x y H Q
abbrev rIsNot : R2 := fun x y H Q => (y = .non ∧ Q (.bl (!decide (x = .non))) H) ∨ rNotB x y H Q
theorem op_isA {X : Cx} : OpR X (compareOp .Is) rIs := op_isN.or op_isBl
theorem op_notA {X : Cx} : OpR X (compareOp .IsNot) rIsNot := op_notN.or op_notBl
theorem snd_is {K : PySem.W.Frag} : Snd2 K rIs fIs := fun F H v u x y z Q hs rx ry e q => by
  unfold fIs at e
  split at e
  · cases e
    cases ry.non
    rw [← isNone_ok hs rx] at q
    exact .inl ⟨rfl, q.now hs (.bl _)⟩
  · cases e
    cases rx.bl
    cases ry.bl
    exact .inr ⟨_, _, rfl, rfl, q.now hs (.bl _)⟩
  · cases e
theorem snd_isnot {K : PySem.W.Frag} : Snd2 K rIsNot fIsNot := fun F H v u x y z Q hs rx ry e q => by
  unfold fIsNot at e
  split at e
  · cases e
    cases ry.non
    rw [← isNone_ok hs rx] at q
    exact .inl ⟨rfl, q.now hs (.bl _)⟩
  · cases e
    cases rx.bl
    cases ry.bl
    exact .inr ⟨_, _, rfl, rfl, q.now hs (.bl _)⟩
  · cases e
theorem flat_ok {K : PySem.W.Frag} {F H : Hp} {v : V} {x : PyData} (hs : Same F H) (r : Rdd K F H v x) (f : flatD x = true) : flatV v = true ∧ ∀ (u : V) (y : PyData), Dq F u y → flatD y = true → eqV u v = PyData.eqv y x := by
  have flat2 : ∀ {u : V} {y : PyData}, Dq F u y → flatD y = true → (y = .none ∧ u = .non) ∨ (∃ b, y = .bool b ∧ u = .bl b) ∨ (∃ b, y = .int b ∧ u = .int b) ∨ ∃ b, y = .str b ∧ u = .str b := fun d f => by
    cases d with
    | non => exact .inl ⟨rfl, rfl⟩
    | bl b => exact .inr (.inl ⟨b, rfl, rfl⟩)
    | int b => exact .inr (.inr (.inl ⟨b, rfl, rfl⟩))
    | str b => exact .inr (.inr (.inr ⟨b, rfl, rfl⟩))
    | lst h a => cases f
    | tup h a => cases f
    | obj h g a => cases f
    | hid v => cases f
    | exn _ _ _ _ => cases f
    | dtt _ _ _ _ _ _ => cases f
  cases x with
  | none =>
    cases r.non
    refine ⟨rfl, fun u y d f2 => ?_⟩
    rcases flat2 d f2 with ⟨rfl, rfl⟩ | ⟨b, rfl, rfl⟩ | ⟨b, rfl, rfl⟩ | ⟨b, rfl, rfl⟩ <;> simp [eqV, PyData.eqv]
  | bool c =>
    cases r.bl
    refine ⟨rfl, fun u y d f2 => ?_⟩
    rcases flat2 d f2 with ⟨rfl, rfl⟩ | ⟨b, rfl, rfl⟩ | ⟨b, rfl, rfl⟩ | ⟨b, rfl, rfl⟩ <;> simp [eqV, PyData.eqv]
  | int c =>
    cases r.int
    refine ⟨rfl, fun u y d f2 => ?_⟩
    rcases flat2 d f2 with ⟨rfl, rfl⟩ | ⟨b, rfl, rfl⟩ | ⟨b, rfl, rfl⟩ | ⟨b, rfl, rfl⟩ <;> simp [eqV, PyData.eqv]
  | str c =>
    cases r.str
    refine ⟨rfl, fun u y d f2 => ?_⟩
    rcases flat2 d f2 with ⟨rfl, rfl⟩ | ⟨b, rfl, rfl⟩ | ⟨b, rfl, rfl⟩ | ⟨b, rfl, rfl⟩ <;> simp [eqV, PyData.eqv]
  | list xs => cases f
  | tuple xs => cases f
  | dict z => cases f
theorem in_flat {F : Hp} {v : V} {x : PyData} (h : ∀ (u : V) (y : PyData), Dq F u y → flatD y = true → eqV u v = PyData.eqv y x) : ∀ {vs : List V} {ds : List PyData}, DqA F vs ds → ds.all flatD = true → inV v vs = hasD ds x
  | _, _, .nil, _ => rfl
  | _, _, .cons a t, f => by
    simp only [List.all_cons, Bool.and_eq_true] at f
    have ih := in_flat h t f.2
    simp only [inV, hasD, List.any_cons] at ih ⊢
    rw [ih, h _ _ a f.1]
theorem all_flat {F : Hp} : ∀ {vs : List V} {ds : List PyData}, DqA F vs ds → ds.all flatD = true → vs.all flatV = true
  | _, _, .nil, _ => rfl
  | _, _, .cons a t, f => by
    simp only [List.all_cons, Bool.and_eq_true] at f ⊢
    refine ⟨?_, all_flat t f.2⟩
    cases a with
    | lst h a => cases f.1
    | tup h a => cases f.1
    | obj h g a => cases f.1
    | hid v => cases f.1
    | exn _ _ _ _ => cases f.1
    | dtt _ _ _ _ _ _ => cases f.1
    | _ => rfl
abbrev rInA (K : PySem.W.Frag) : R2 := fun x y H Q => rInD K x y H Q ∨ rIn K false x y H Q
abbrev rNotInA (K : PySem.W.Frag) : R2 := fun x y H Q => rNotInD K x y H Q ∨ rIn K true x y H Q
theorem op_inA {X : Cx} {k : Nat} (hr : Room k X.A) : OpR X (compareOp .In) (rInA X.K) := (op_inD (by have := hr.un; omega)).or op_in_seq
theorem op_notInA {X : Cx} {k : Nat} (hr : Room k X.A) : OpR X (compareOp .NotIn) (rNotInA X.K) := (op_notInD (by have := hr.un; omega)).or op_notIn_seq
theorem snd_in {K : PySem.W.Frag} : Snd2 K (rInA K) fIn := fun F H v u x y z Q hs rx ry e q => by
  unfold fIn at e
  split at e
  · split at e
    · rename_i h
      cases e
      rw [Bool.and_eq_true] at h
      exact .inl ⟨x, _, rx.dp (shp_lay h.1) hs, ry.dp (shp_lay h.2) hs, h.1, h.2, q.now hs (.bl _)⟩
    · cases e
  · split at e
    · rename_i h
      cases e
      rw [Bool.and_eq_true] at h
      obtain ⟨f1, f2⟩ := flat_ok hs rx h.1
      obtain ⟨a, vs, rfl, h1, _, d1⟩ := ry.tup hs
      rw [← in_flat f2 d1 h.2] at q
      exact .inr ⟨a, vs, rfl, .inr (SqT.of h1), f1, all_flat d1 h.2, q.now hs (.bl _)⟩
    · cases e
  · cases e
theorem snd_notIn {K : PySem.W.Frag} : Snd2 K (rNotInA K) fNotIn := fun F H v u x y z Q hs rx ry e q => by
  unfold fNotIn at e
  split at e
  · split at e
    · rename_i h
      cases e
      rw [Bool.and_eq_true] at h
      exact .inl ⟨x, _, rx.dp (shp_lay h.1) hs, ry.dp (shp_lay h.2) hs, h.1, h.2, q.now hs (.bl _)⟩
    · cases e
  · split at e
    · rename_i h
      cases e
      rw [Bool.and_eq_true] at h
      obtain ⟨f1, f2⟩ := flat_ok hs rx h.1
      obtain ⟨a, vs, rfl, h1, _, d1⟩ := ry.tup hs
      rw [← in_flat f2 d1 h.2] at q
      exact .inr ⟨a, vs, rfl, .inr (SqT.of h1), f1, all_flat d1 h.2, q.now hs (.bl _)⟩
    · cases e
  · cases e
theorem atI_ok {F : Hp} {vs : List V} {ds : List PyData} {i : Int} {d : PyData} (h : DqA F vs ds) (e : atI ds i = some d) : ∃ v, atI vs i = some v ∧ Dq F v d := by
  unfold atI at e ⊢
  rw [h.length]
  obtain ⟨j, e1, e2⟩ := Option.bind_eq_some_iff.mp e
  rw [e1]
  exact h.get' e2
theorem snd_ix {K : PySem.W.Frag} : Snd2 K (rIx K) fIx := fun F H v u x y z Q hs rx ry e q => by
  unfold fIx at e
  split at e
  · cases ry.int
    obtain ⟨a, vs, rfl, h1, d1⟩ := rx.list hs
    obtain ⟨w, k1, k2⟩ := atI_ok d1 e
    exact .inl ⟨a, vs, _, w, rfl, rfl, h1, k1, q.now hs k2⟩
  · cases ry.int
    obtain ⟨a, vs, rfl, h1, _, d1⟩ := rx.tup hs
    obtain ⟨w, k1, k2⟩ := atI_ok d1 e
    exact .inr (.inl ⟨a, vs, _, w, rfl, rfl, SqT.of h1, k1, q.now hs k2⟩)
  · split at e
    · rename_i h
      cases ry.int
      cases rx.str
      obtain ⟨c, e1, rfl⟩ := Option.map_eq_some_iff.mp e
      exact .inr (.inr ⟨_, _, c, rfl, rfl, lim_le h, e1, q.now hs (.str _)⟩)
    · cases e
  · cases e
end Cm

set_option Elab.async false
set_option linter.all false
set_option maxRecDepth 100000
namespace Cm
open PySem PySem.Spec PyProof.Rows L2

/-! ### tuples of ints: sum, min, max, sorted, at the library's level -/
section
variable {prog : Program} {w : World} {A : Around} {s : Shared} {E Q : Value → Shared → Prop}
variable {l : Addr} {its : List Value} {ns : List Int}
theorem intsAre_get : ∀ {us : List Value} {ns : List Int} {i : Nat} {v : Value}, IntsAre us ns → us[i]? = some v → ∃ t, v = .int (ns.getD i 0) t
  | _, _, i, v, .nil, e => by simp at e
  | _, _, 0, v, .cons n t r, e => by
    simp only [List.getElem?_cons_zero, Option.some.injEq] at e
    exact ⟨t, by rw [← e]; rfl⟩
  | _, _, i + 1, v, .cons n t r, e => by
    rw [List.getElem?_cons_succ] at e
    obtain ⟨t', h⟩ := intsAre_get r e
    exact ⟨t', by rw [h]; rfl⟩
theorem preSum_getD (ns : List Int) : ∀ k : Nat, k ≤ ns.length → preSum (fun i => ns.getD i 0) k = (ns.take k).sum
  | 0, _ => by simp [preSum]
  | k + 1, h => by
    have e : ns[k]? = some (ns[k]'(by omega)) := List.getElem?_eq_getElem (by omega)
    have e2 : ns.getD k 0 = ns[k]'(by omega) := by
      simp [List.getD_eq_getElem?_getD, e]
    rw [preSum, preSum_getD ns k (by omega), e2, take_get e, List.sum_append]
    simp
/-- what stood before stands -/
def Stands (g h : Heap) : Prop := ∀ c ob, g.get? c = some ob → h.get? c = some ob
theorem sum_tup (hh : A.handled = none) (hl : s.heap.IsTuple l its.toArray) (hi : IntsAre its ns)
    (h : ∀ (g : Heap) (k u : Nat), Stands s.heap g → Q (.int ns.sum u) { s with heap := g, toks := k }) : wpAny (model prog w) A (call (.builtin "sum") [.ref l]) Q E s := by
  have hlt : l < s.heap.objs.size := by
    obtain ⟨_, e, _⟩ := hl
    exact Heap.lt_size e
  refine call_sum_walkG (wpAny_pyIter_tuple hl ?_)
  have hlen : its.length = ns.length := by
    have := (vals_of_ints hi).length
    simpa using this.symm
  refine ⟨_, _, _, _, _, _, fun i => ns.getD i 0, rfl, Walks.tuple (A := A.in1) hh s.heap.objs.size l (Nat.ne_of_lt hlt) its.toArray, ⟨⟨_, Heap.get?_push_size _ rfl, rfl, rfl⟩, hl.push _⟩, fun b hb => ?_, fun i v hv => ?_, fun h' tk t' hk => ?_⟩
  · have grown : ∀ ob, (s.heap.push ob).objs.size = s.heap.objs.size + 1 := fun ob => Heap.size_push ..
    have one : b = s.heap.objs.size ∨ b = l := by simpa using hb
    refine (grown _).symm ▸ one.elim (fun q => q ▸ Nat.lt_succ_self _) (fun q => q ▸ Nat.lt_succ_of_lt hlt)
  · exact intsAre_get hi (by simpa using hv)
  · rw [show its.toArray.size = ns.length by simpa using hlen, preSum_getD ns _ (Nat.le_refl _), List.take_length]
    refine h h' tk t' fun b o e => hk b o (fun z => ?_) (Heap.get?_push_of_some _ e)
    have z' : b = s.heap.objs.size := by simpa using z
    subst z'
    exact absurd (Heap.lt_size e) (Nat.lt_irrefl _)
end
section
variable {X : Cx}
abbrev rSumT (K : PySem.W.Frag) : List V → Hp → VK → Prop := fun vs H Q => ∃ (a : Addr) (ns : List Int), vs = [V.ref a] ∧ SqT K H a (ns.map V.int) ∧ Q (.int ns.sum) H
theorem cr_sumT (hc : X.calm = true) : CallR X (.builtin "sum") (rSumT X.K) := by
  intro pins s σ H vs us Q I r h
  obtain ⟨a, ns, rfl, hq, q⟩ := h
  obtain ⟨its, rv, hl, hz⟩ := I.tuple hq
  rw [Vals.ref1 r]
  exact sum_tup (I.ok.hd hc) (show s.heap.IsTuple a its.toArray from hl) rv.ints fun h' tk t' hk => ⟨.int _, H, I.kept hk, ⟨_, rfl⟩, q⟩
/-- z is ns, put in order -/
def InOrder (z ns : List Int) : Prop := z.Perm ns ∧ z.Pairwise (· ≤ ·)
abbrev rSortedT (K : PySem.W.Frag) : List V → Hp → VK → Prop := fun vs H Q => ∃ (a : Addr) (ns : List Int), vs = [V.ref a] ∧ SqT K H a (ns.map V.int) ∧
  ∀ (z : List Int) (p : Addr), InOrder z ns → H p = none → Q (.ref p) (upd H p (.lst (z.map V.int)))
theorem cr_sortedT : CallR X (.builtin "sorted") (rSortedT X.K) := by
  intro pins s σ H vs us Q I r h
  obtain ⟨a, ns, rfl, hq, q⟩ := h
  obtain ⟨its, rv, ⟨o, ho, hc, k, hd⟩, hz⟩ := I.tuple hq
  have hi := rv.ints
  have hz2 : its.length ≤ sizeLine := by
    rw [← rv.length]
    exact hz
  rw [Vals.ref1 r]
  apply Calls.call_function_entry kind_sorted plain_sorted entry_sorted (args_sorted1 _)
  simp only [Builtin.«sorted»]
  apply wpAny_bind (m := checkCount "sorted" 1 1 _)
  apply wpAny_pure
  refine wpAny_bind (wpAny_collect_seq a (.inr rfl) ho hc hd (fun h1 k1 => ?_) (by simpa using hz2))
  have e0 : its.toArray.toList = its := by simp
  rw [e0]
  have I1 : Inv X pins σ H { s with heap := h1 } := I.kept (t' := s.toks) k1
  refine wpAny_bind (wpAny_newList ?_ hz2)
  have hoL : (h1.push (seqObj "list" its.toArray 0)).get? h1.objs.size = some (seqObj "list" its.toArray 0) := Heap.get?_push_size _ rfl
  refine wpAny_bind (wpAny_holding (wpAny_call_entry slot_list_sort ⟨_, hoL, rfl⟩ entry_list_sort (SrtO.list_sort_ord SrtO.swo_int hoL hz2 (fun h2 => SrtO.ints_sortable hi h2) fun out hs hb => ⟨_, rfl, ?_⟩) (args_list_sort _)))
  obtain ⟨a1, a2, a3⟩ := SrtO.ints_out hi hs hb
  obtain ⟨n, hn⟩ := sortedHeap_at (out := out.toArray) hoL
  have old : ∀ b u, h1.get? b = some u → (sortedHeap (h1.push (seqObj "list" its.toArray 0)) h1.objs.size its out.toArray).get? b = some u := fun b u e => by
    have hb : b < h1.objs.size := Heap.lt_size e
    rw [sortedHeap_old (Nat.ne_of_lt hb) (by rw [Heap.size_push]; exact Nat.lt_succ_of_lt hb)]
    exact Heap.get?_push_of_some _ e
  refine wpAny_pure ⟨_, rfl, .ref h1.objs.size, upd H h1.objs.size (.lst ((out.map SrtO.iv).map V.int)), ?_, rfl, q _ _ ⟨a2, a3⟩ (I1.hok.fresh (Nat.le_refl _))⟩
  refine I1.laid (t' := s.toks) old (Nat.le_refl _) ⟨?_, out, n, vals_of_ints a1, hn⟩
  rw [List.length_map, a2.length_eq]
  rw [List.length_map] at hz
  exact hz
end
end Cm

set_option Elab.async false
set_option linter.all false
set_option maxRecDepth 100000
namespace Cm
open PySem PySem.Spec PyProof.Rows L2

/-! ### built-in functions -/
def minI : List Int → Option Int
  | [] => none
  | x :: xs => some (xs.foldl (fun a y => if y < a then y else a) x)
def maxI : List Int → Option Int
  | [] => none
  | x :: xs => some (xs.foldl (fun a y => if a < y then y else a) x)
theorem ite_le {z x : Int} : (if z < x then z else x) ≤ x ∧ (if z < x then z else x) ≤ z := by
  split <;> omega
theorem ite_ge {z x : Int} : x ≤ (if x < z then z else x) ∧ z ≤ (if x < z then z else x) := by
  split <;> omega
theorem foldmin_mem : ∀ (xs : List Int) (x : Int), (xs.foldl (fun a y => if y < a then y else a) x ∈ x :: xs) ∧ ∀ y ∈ x :: xs, xs.foldl (fun a y => if y < a then y else a) x ≤ y
  | [], x => by simp
  | z :: zs, x => by
    obtain ⟨h1, h2⟩ := foldmin_mem zs (if z < x then z else x)
    simp only [List.foldl_cons, List.mem_cons] at h1 h2 ⊢
    refine ⟨?_, fun y hy => ?_⟩
    · rcases h1 with h | h
      · rw [h]
        split
        · exact .inr (.inl rfl)
        · exact .inl rfl
      · exact .inr (.inr h)
    · have h0 := h2 _ (.inl rfl)
      rcases hy with rfl | rfl | hy
      · exact Int.le_trans h0 ite_le.1
      · exact Int.le_trans h0 ite_le.2
      · exact h2 y (.inr hy)
theorem foldmax_mem : ∀ (xs : List Int) (x : Int), (xs.foldl (fun a y => if a < y then y else a) x ∈ x :: xs) ∧ ∀ y ∈ x :: xs, y ≤ xs.foldl (fun a y => if a < y then y else a) x
  | [], x => by simp
  | z :: zs, x => by
    obtain ⟨h1, h2⟩ := foldmax_mem zs (if x < z then z else x)
    simp only [List.foldl_cons, List.mem_cons] at h1 h2 ⊢
    refine ⟨?_, fun y hy => ?_⟩
    · rcases h1 with h | h
      · rw [h]
        split
        · exact .inr (.inl rfl)
        · exact .inl rfl
      · exact .inr (.inr h)
    · have h0 := h2 _ (.inl rfl)
      rcases hy with rfl | rfl | hy
      · exact Int.le_trans ite_ge.1 h0
      · exact Int.le_trans ite_ge.2 h0
      · exact h2 y (.inr hy)
theorem minI_spec {ns : List Int} {m : Int} (e : minI ns = some m) : m ∈ ns ∧ ∀ y ∈ ns, m ≤ y := by
  cases ns with
  | nil => cases e
  | cons x xs =>
    cases e
    exact foldmin_mem xs x
theorem maxI_spec {ns : List Int} {m : Int} (e : maxI ns = some m) : m ∈ ns ∧ ∀ y ∈ ns, y ≤ m := by
  cases ns with
  | nil => cases e
  | cons x xs =>
    cases e
    exact foldmax_mem xs x
theorem minD_ints : ∀ (xs : List Int) (x : Int), PySem.W.minD (.int x) (xs.map .int) = .int (xs.foldl (fun a y => if y < a then y else a) x)
  | [], x => rfl
  | z :: zs, x => by
    show PySem.W.minD (if PySem.W.dataLt (.int z) (.int x) then .int z else .int x) (zs.map .int) = _
    rw [PySem.W.dataLt_int, List.foldl_cons, ← minD_ints zs]
    by_cases h : z < x <;> simp [h]
theorem maxD_ints : ∀ (xs : List Int) (x : Int), PySem.W.maxD (.int x) (xs.map .int) = .int (xs.foldl (fun a y => if a < y then y else a) x)
  | [], x => rfl
  | z :: zs, x => by
    show PySem.W.maxD (if PySem.W.dataLt (.int x) (.int z) then .int z else .int x) (zs.map .int) = _
    rw [PySem.W.dataLt_int, List.foldl_cons, ← maxD_ints zs]
    by_cases h : x < z <;> simp [h]
theorem alike_of_ints (ns : List Int) : PySem.W.AlikeAll (ns.map .int) := by
  refine ⟨fun x hx y hy => ?_, fun x hx => ?_⟩
  · obtain ⟨a, _, rfl⟩ := List.mem_map.mp hx
    obtain ⟨b, _, rfl⟩ := List.mem_map.mp hy
    simp [PySem.W.alike]
  · obtain ⟨a, _, rfl⟩ := List.mem_map.mp hx
    intro z
    cases z
theorem readsAll_ints {h : Heap} : ∀ {us : List Value} {ns : List Int}, IntsAre us ns → ∃ as, ReadsAll h us (ns.map .int) as
  | _, _, .nil => ⟨[], .nil⟩
  | _, _, .cons n t r => by
    obtain ⟨as, q⟩ := readsAll_ints (h := h) r
    exact ⟨_, .cons (.int n t) q⟩
theorem depth_of_ints : ∀ ns : List Int, PyData.depthAll (ns.map .int) = 0
  | [] => rfl
  | n :: ns => by
    rw [List.map_cons, PyData.depthAll, PyData.depth, depth_of_ints ns]
    rfl
section
variable {X : Cx} {k : Nat}
abbrev rMinT (K : PySem.W.Frag) : List V → Hp → VK → Prop := fun vs H Q => ∃ (a : Addr) (ns : List Int) (m : Int), vs = [V.ref a] ∧ SqT K H a (ns.map V.int) ∧ minI ns = some m ∧ Q (.int m) H
abbrev rMaxT (K : PySem.W.Frag) : List V → Hp → VK → Prop := fun vs H Q => ∃ (a : Addr) (ns : List Int) (m : Int), vs = [V.ref a] ∧ SqT K H a (ns.map V.int) ∧ maxI ns = some m ∧ Q (.int m) H
theorem cr_minT (hc : X.calm = true) (hr : Room k X.A) : CallR X (.builtin "min") (rMinT X.K) := by
  intro pins s σ H vs us Q I r h
  obtain ⟨a, ns, m, rfl, hq, em, q⟩ := h
  obtain ⟨its, rv, hl, hz⟩ := I.tuple hq
  rw [Vals.ref1 r]
  cases ns with
  | nil => cases em
  | cons x xs =>
    cases em
    obtain ⟨as, ra⟩ := readsAll_ints (h := s.heap) rv.ints
    refine PySem.W.min_tuple_data (vs := its.toArray) (x := .int x) (xs := xs.map .int) (as := as) (I.ok.hd hc) (show s.heap.IsTuple a its.toArray from hl) (by simpa using ra) (alike_of_ints (x :: xs)) ?_ fun i v h' tk bs hv rd hk => ?_
    · have := hr.un
      have e := depth_of_ints (x :: xs)
      rw [List.map_cons] at e
      rw [e]
      omega
    · rw [minD_ints] at rd
      cases rd
      exact ⟨.int _, H, I.kept hk, ⟨_, rfl⟩, q⟩
theorem cr_maxT (hc : X.calm = true) (hr : Room k X.A) : CallR X (.builtin "max") (rMaxT X.K) := by
  intro pins s σ H vs us Q I r h
  obtain ⟨a, ns, m, rfl, hq, em, q⟩ := h
  obtain ⟨its, rv, hl, hz⟩ := I.tuple hq
  rw [Vals.ref1 r]
  cases ns with
  | nil => cases em
  | cons x xs =>
    cases em
    obtain ⟨as, ra⟩ := readsAll_ints (h := s.heap) rv.ints
    refine PySem.W.max_tuple_data (vs := its.toArray) (x := .int x) (xs := xs.map .int) (as := as) (I.ok.hd hc) (show s.heap.IsTuple a its.toArray from hl) (by simpa using ra) (alike_of_ints (x :: xs)) ?_ fun i v h' tk bs hv rd hk => ?_
    · have := hr.un
      have e := depth_of_ints (x :: xs)
      rw [List.map_cons] at e
      rw [e]
      omega
    · rw [maxD_ints] at rd
      cases rd
      exact ⟨.int _, H, I.kept hk, ⟨_, rfl⟩, q⟩
end
def fLen : List PyData → Option PyData
  | [.list xs] => some (.int xs.length)
  | [.tuple xs] => some (.int xs.length)
  | [.str z] => if z.length ≤ lim then some (.int z.length) else none
  | _ => none
def fAbs : List PyData → Option PyData
  | [.int i] => some (.int (if i < 0 then -i else i))
  | _ => none
def fMax : List PyData → Option PyData
  | [.int i, .int j] => some (.int (if j > i then j else i))
  | [.list xs] => (asInts xs).bind fun ns => (maxI ns).map .int
  | [.tuple xs] => (asInts xs).bind fun ns => (maxI ns).map .int
  | _ => none
def fMin : List PyData → Option PyData
  | [.int i, .int j] => some (.int (if j < i then j else i))
  | [.list xs] => (asInts xs).bind fun ns => (minI ns).map .int
  | [.tuple xs] => (asInts xs).bind fun ns => (minI ns).map .int
  | _ => none
def fInt : List PyData → Option PyData
  | [.int i] => some (.int i)
  | [.bool b] => some (.int (if b then 1 else 0))
  | _ => none
def fTuple : List PyData → Option PyData
  | [.list xs] => some (.tuple xs)
  | [.tuple xs] => some (.tuple xs)
  | _ => none
def fList : List PyData → Option PyData
  | [.list xs] => some (.list xs)
  | [.tuple xs] => some (.list xs)
  | _ => none
def fSum : List PyData → Option PyData
  | [.list xs] => (asInts xs).map fun ns => .int ns.sum
  | [.tuple xs] => (asInts xs).map fun ns => .int ns.sum
  | _ => none
def fAll : List PyData → Option PyData
  | [.list xs] => (asBools xs).map fun bs => .bool (bs.all id)
  | _ => none
def fAny : List PyData → Option PyData
  | [.list xs] => (asBools xs).map fun bs => .bool (bs.any id)
  | _ => none
/-! sorting by putting in: the kernel can run it -/
section
variable {α : Type} (le : α → α → Bool)
def putIn (x : α) : List α → List α
  | [] => [x]
  | y :: ys => if le x y then x :: y :: ys else y :: putIn x ys
def sortBy : List α → List α
  | [] => []
  | x :: xs => putIn le x (sortBy xs)
end
theorem putIn_perm {α : Type} (le : α → α → Bool) (x : α) : ∀ ys : List α, (putIn le x ys).Perm (x :: ys)
  | [] => List.Perm.refl _
  | y :: ys => by
    rw [putIn]
    split
    · exact List.Perm.refl _
    · exact ((putIn_perm le x ys).cons y).trans (List.Perm.swap x y ys)
theorem sortBy_perm {α : Type} (le : α → α → Bool) : ∀ xs : List α, (sortBy le xs).Perm xs
  | [] => List.Perm.refl _
  | x :: xs => (putIn_perm le x _).trans ((sortBy_perm le xs).cons x)
theorem putIn_sorted {α : Type} {le : α → α → Bool} (tr : ∀ a b c, le a b = true → le b c = true → le a c = true) (to : ∀ a b, (le a b || le b a) = true) (x : α) : ∀ {ys : List α}, ys.Pairwise (fun a b => le a b = true) → (putIn le x ys).Pairwise (fun a b => le a b = true)
  | [], _ => by simp [putIn]
  | y :: ys, h => by
    have h' := List.pairwise_cons.mp h
    rw [putIn]
    split
    · rename_i c
      refine List.Pairwise.cons (fun z hz => ?_) h
      rcases List.mem_cons.mp hz with rfl | hz
      · exact c
      · exact tr _ _ _ c (h'.1 z hz)
    · rename_i c
      refine List.Pairwise.cons (fun z hz => ?_) (putIn_sorted tr to x h'.2)
      rcases List.mem_cons.mp ((putIn_perm le x ys).mem_iff.mp hz) with rfl | hz
      · have := to z y
        rcases Bool.or_eq_true_iff.mp this with q | q
        · exact absurd q c
        · exact q
      · exact h'.1 z hz
theorem sortBy_sorted {α : Type} {le : α → α → Bool} (tr : ∀ a b c, le a b = true → le b c = true → le a c = true) (to : ∀ a b, (le a b || le b a) = true) : ∀ xs : List α, (sortBy le xs).Pairwise (fun a b => le a b = true)
  | [] => List.Pairwise.nil
  | x :: xs => putIn_sorted tr to x (sortBy_sorted tr to xs)
def sortI (ns : List Int) : List Int := sortBy (fun a b => decide (a ≤ b)) ns
def leP (p q : Int × Int) : Bool := !SrtO.lexB q p
def sortP (ps : List (Int × Int)) : List (Int × Int) := sortBy leP ps
def fSorted : List PyData → Option PyData
  | [.list xs] => match asInts xs with
    | some ns => some (.list ((sortI ns).map .int))
    | none => (asPairs xs).map fun ps => .list ((sortP ps).map pairD)
  | [.tuple xs] => (asInts xs).map fun ns => .list ((sortI ns).map .int)
  | _ => none
theorem sortI_perm (ns : List Int) : (sortI ns).Perm ns := sortBy_perm _ _
theorem sortI_sorted (ns : List Int) : (sortI ns).Pairwise (· ≤ ·) := by
  have := sortBy_sorted (le := fun a b : Int => decide (a ≤ b)) (fun a b c h1 h2 => by
    have h1 := of_decide_eq_true h1
    have h2 := of_decide_eq_true h2
    exact decide_eq_true (by omega)) (fun a b => by
    by_cases h : a ≤ b
    · simp [h]
    · have : b ≤ a := by omega
      simp [this]) ns
  exact this.imp fun h => of_decide_eq_true h
theorem sortI_uniq {ns ms : List Int} (p : ms.Perm ns) (s : ms.Pairwise (· ≤ ·)) : ms = sortI ns :=
  (p.trans (sortI_perm ns).symm).eq_of_pairwise (fun a b _ _ h1 h2 => by omega) s (sortI_sorted ns)
theorem leP_iff {p q : Int × Int} : leP p q = true ↔ p.1 < q.1 ∨ (p.1 = q.1 ∧ p.2 ≤ q.2) := by
  unfold leP
  rw [Bool.not_eq_true', SrtO.lexB_no]
  omega
theorem sortP_perm (ns : List (Int × Int)) : (sortP ns).Perm ns := sortBy_perm _ _
theorem sortP_sorted (ns : List (Int × Int)) : (sortP ns).Pairwise (fun p q => leP p q = true) :=
  sortBy_sorted (le := leP) (fun a b c h1 h2 => by
    rw [leP_iff] at h1 h2 ⊢
    omega) (fun a b => by
    rw [Bool.or_eq_true, leP_iff, leP_iff]
    omega) ns
theorem sortP_uniq {ns ms : List (Int × Int)} (p : ms.Perm ns) (s : ms.Pairwise (fun p q => leP p q = true)) : ms = sortP ns :=
  (p.trans (sortP_perm ns).symm).eq_of_pairwise (fun a b _ _ h1 h2 => by
    rw [leP_iff] at h1 h2
    apply Prod.ext <;> omega) s (sortP_sorted ns)
theorem RdA.one {K : PySem.W.Frag} {F H : Hp} {vs : List V} {x : PyData} (h : RdA K F H vs [x]) : ∃ v, vs = [v] ∧ Rdd K F H v x := by
  cases h with
  | cons a t =>
    cases t
    exact ⟨_, rfl, a⟩
theorem RdA.two {K : PySem.W.Frag} {F H : Hp} {vs : List V} {x y : PyData} (h : RdA K F H vs [x, y]) : ∃ v u, vs = [v, u] ∧ Rdd K F H v x ∧ Rdd K F H u y := by
  cases h with
  | cons a t =>
    obtain ⟨u, rfl, b⟩ := t.one
    exact ⟨_, u, rfl, a, b⟩
section
variable {X : Cx} {k : Nat}
abbrev rLen (K : PySem.W.Frag) : List V → Hp → VK → Prop := fun xs H Q => (∃ p ys, xs = [.ref p] ∧ (SqL K H p ys ∨ SqT K H p ys) ∧ Q (.int ys.length) H) ∨ ∃ z, xs = [.str z] ∧ z.length ≤ sizeLine ∧ Q (.int z.length) H
theorem call_lenA : CallR X (.builtin "len") (rLen X.K) := call_len_seq.or call_len_str
theorem snd_len {K : PySem.W.Frag} : SndN K (rLen K) fLen := fun F H vs xs z Q hs r e q => by
  unfold fLen at e
  split at e
  · cases e
    obtain ⟨v, rfl, r0⟩ := r.one
    obtain ⟨a, us, rfl, h, d⟩ := r0.list hs
    rw [← d.length] at q
    exact .inl ⟨a, us, rfl, .inl h, q.now hs (.int _)⟩
  · cases e
    obtain ⟨v, rfl, r0⟩ := r.one
    obtain ⟨a, us, rfl, h, _, d⟩ := r0.tup hs
    rw [← d.length] at q
    exact .inl ⟨a, us, rfl, .inr (SqT.of h), q.now hs (.int _)⟩
  · split at e
    · rename_i hl
      cases e
      obtain ⟨v, rfl, r0⟩ := r.one
      cases r0.str
      exact .inr ⟨_, rfl, lim_le hl, q.now hs (.int _)⟩
    · cases e
  · cases e
abbrev rAbs : List V → Hp → VK → Prop := fun xs H Q => ∃ i, xs = [.int i] ∧ Q (.int (if i < 0 then -i else i)) H
theorem snd_abs {K : PySem.W.Frag} : SndN K rAbs fAbs := fun F H vs xs z Q hs r e q => by
  unfold fAbs at e
  split at e
  · cases e
    obtain ⟨v, rfl, r0⟩ := r.one
    cases r0.int
    exact ⟨_, rfl, q.now hs (.int _)⟩
  · cases e
abbrev rMaxA (K : PySem.W.Frag) : List V → Hp → VK → Prop := fun xs H Q => (∃ i j, xs = [.int i, .int j] ∧ Q (.int (if j > i then j else i)) H) ∨ (rMax K xs H Q ∨ rMaxT K xs H Q)
theorem call_maxA (hc : X.calm = true) (hr : Room k X.A) : CallR X (.builtin "max") (rMaxA X.K) := (call_max2 hc).or ((cr_max hc).or (cr_maxT hc hr))
theorem snd_max {K : PySem.W.Frag} : SndN K (rMaxA K) fMax := fun F H vs xs z Q hs r e q => by
  unfold fMax at e
  split at e
  · cases e
    obtain ⟨v, u, rfl, r1, r2⟩ := r.two
    cases r1.int
    cases r2.int
    exact .inl ⟨_, _, rfl, q.now hs (.int _)⟩
  · simp only [Option.bind_eq_some_iff, Option.map_eq_some_iff] at e
    obtain ⟨ns, e1, m, e2, rfl⟩ := e
    obtain ⟨v, rfl, r0⟩ := r.one
    obtain ⟨a, us, rfl, h, d⟩ := r0.list hs
    rw [asInts_eq e1] at d
    rw [d.of_ints] at h
    obtain ⟨h1, h2⟩ := maxI_spec e2
    refine .inr (.inl ⟨a, ns, rfl, h, List.length_pos_of_mem h1, fun m' k1 k2 => ?_⟩)
    have : m' = m := Int.le_antisymm (h2 m' k1) (k2 m h1)
    subst this
    exact q.now hs (.int _)
  · simp only [Option.bind_eq_some_iff, Option.map_eq_some_iff] at e
    obtain ⟨ns, e1, m, e2, rfl⟩ := e
    obtain ⟨v, rfl, r0⟩ := r.one
    obtain ⟨a, us, rfl, h, _, d⟩ := r0.tup hs
    rw [asInts_eq e1] at d
    rw [d.of_ints] at h
    exact .inr (.inr ⟨a, ns, m, rfl, SqT.of h, e2, q.now hs (.int _)⟩)
  · cases e
abbrev rMinA (K : PySem.W.Frag) : List V → Hp → VK → Prop := fun xs H Q => (∃ i j, xs = [.int i, .int j] ∧ Q (.int (if j < i then j else i)) H) ∨ (rMin K xs H Q ∨ rMinT K xs H Q)
theorem call_minA (hc : X.calm = true) (hr : Room k X.A) : CallR X (.builtin "min") (rMinA X.K) := (call_min2 hc).or ((cr_min hc).or (cr_minT hc hr))
theorem snd_min {K : PySem.W.Frag} : SndN K (rMinA K) fMin := fun F H vs xs z Q hs r e q => by
  unfold fMin at e
  split at e
  · cases e
    obtain ⟨v, u, rfl, r1, r2⟩ := r.two
    cases r1.int
    cases r2.int
    exact .inl ⟨_, _, rfl, q.now hs (.int _)⟩
  · simp only [Option.bind_eq_some_iff, Option.map_eq_some_iff] at e
    obtain ⟨ns, e1, m, e2, rfl⟩ := e
    obtain ⟨v, rfl, r0⟩ := r.one
    obtain ⟨a, us, rfl, h, d⟩ := r0.list hs
    rw [asInts_eq e1] at d
    rw [d.of_ints] at h
    obtain ⟨h1, h2⟩ := minI_spec e2
    refine .inr (.inl ⟨a, ns, rfl, h, List.length_pos_of_mem h1, fun m' k1 k2 => ?_⟩)
    have : m' = m := Int.le_antisymm (k2 m h1) (h2 m' k1)
    subst this
    exact q.now hs (.int _)
  · simp only [Option.bind_eq_some_iff, Option.map_eq_some_iff] at e
    obtain ⟨ns, e1, m, e2, rfl⟩ := e
    obtain ⟨v, rfl, r0⟩ := r.one
    obtain ⟨a, us, rfl, h, _, d⟩ := r0.tup hs
    rw [asInts_eq e1] at d
    rw [d.of_ints] at h
    exact .inr (.inr ⟨a, ns, m, rfl, SqT.of h, e2, q.now hs (.int _)⟩)
  · cases e
abbrev rInt : List V → Hp → VK → Prop := fun xs H Q => (∃ i, xs = [.int i] ∧ Q (.int i) H) ∨ ∃ k, xs = [.bl k] ∧ Q (.int (if k then 1 else 0)) H
theorem snd_int {K : PySem.W.Frag} : SndN K rInt fInt := fun F H vs xs z Q hs r e q => by
  unfold fInt at e
  split at e
  · cases e
    obtain ⟨v, rfl, r0⟩ := r.one
    cases r0.int
    exact .inl ⟨_, rfl, q.now hs (.int _)⟩
  · cases e
    obtain ⟨v, rfl, r0⟩ := r.one
    cases r0.bl
    exact .inr ⟨_, rfl, q.now hs (.int _)⟩
  · cases e
abbrev rTuple (K : PySem.W.Frag) : List V → Hp → VK → Prop := fun xs H Q => ∃ p ys, xs = [.ref p] ∧ ((SqL K H p ys ∧ ∀ l, H l = none → Q (.ref l) (upd H l (.tup ys))) ∨ (SqT K H p ys ∧ Q (.ref p) H))
theorem snd_tuple {K : PySem.W.Frag} : SndN K (rTuple K) fTuple := fun F H vs xs z Q hs r e q => by
  unfold fTuple at e
  split at e
  · cases e
    obtain ⟨v, rfl, r0⟩ := r.one
    obtain ⟨a, us, rfl, h, d⟩ := r0.list hs
    exact ⟨a, us, rfl, .inl ⟨h, fun p np => q.tup hs d p np⟩⟩
  · cases e
    obtain ⟨v, rfl, r0⟩ := r.one
    obtain ⟨a, us, rfl, h, hf, d⟩ := r0.tup hs
    exact ⟨a, us, rfl, .inr ⟨SqT.of h, q.now hs (.tup hf d)⟩⟩
  · cases e
abbrev rList (K : PySem.W.Frag) : List V → Hp → VK → Prop := fun xs H Q => ∃ p ys, xs = [.ref p] ∧ (SqL K H p ys ∨ SqT K H p ys) ∧ ∀ l, H l = none → Q (.ref l) (upd H l (.lst ys))
theorem list_src {K : PySem.W.Frag} {F H : Hp} {vs : List V} {x : PyData} {xs : List PyData} (hs : Same F H) (r : RdA K F H vs [x]) (e : x = .list xs ∨ x = .tuple xs) : ∃ a us, vs = [.ref a] ∧ (SqL K H a us ∨ SqT K H a us) ∧ DqA F us xs := by
  obtain ⟨v, rfl, r0⟩ := r.one
  rcases e with rfl | rfl
  · obtain ⟨a, us, rfl, h, d⟩ := r0.list hs
    exact ⟨a, us, rfl, .inl h, d⟩
  · obtain ⟨a, us, rfl, h, _, d⟩ := r0.tup hs
    exact ⟨a, us, rfl, .inr (SqT.of h), d⟩
theorem snd_list {K : PySem.W.Frag} : SndN K (rList K) fList := fun F H vs xs z Q hs r e q => by
  unfold fList at e
  split at e
  · cases e
    obtain ⟨a, us, rfl, h, d⟩ := list_src hs r (.inl rfl)
    exact ⟨a, us, rfl, h, fun p np => q.lst hs d p np⟩
  · cases e
    obtain ⟨a, us, rfl, h, d⟩ := list_src hs r (.inr rfl)
    exact ⟨a, us, rfl, h, fun p np => q.lst hs d p np⟩
  · cases e
/-- list(x) as a list of the store -/
def cListM (a : SA) : SE := fun ev st => (a ev st).bind fun p => (rdAll p.2 p.1).bind fun xs => match xs with
  | [.list ys] => some (.l p.2.length, p.2 ++ [some ys])
  | [.tuple ys] => some (.l p.2.length, p.2 ++ [some ys])
  | _ => none
theorem se_listM {e : Expr} {es : List Expr} {sa : SA} {p pos : Pos} (hg : Gl X "list") (hm : X.mg "list" = none) (ha : PA X (e :: es) (tA X.K sa))
    (he : starEach (e :: es) X.env = (false, eval e X.env) :: starEach es X.env := by rfl) (hpl : (backTo pos (starEach es X.env)).any (·.1) = false := by rfl) : PE X (.Call (.Name "list" p) (e :: es) [] pos) (tI X.K (cListM sa)) :=
  (pe_callTy call_list_of hg hm PyProof.Rows.boot_list ha (by decide) (by decide) he hpl).weak fun σ H Q ⟨ρ, F, ev, st, w, st', hr, sr, e, post⟩ => by
    simp only [cListM, Option.bind_eq_some_iff] at e
    obtain ⟨⟨ws, st1⟩, e1, xs, e2, e3⟩ := e
    refine ⟨ρ, F, ev, st, ws, st1, hr, sr, e1, fun vs ρ' F' H' x h r => ?_⟩
    have rr := rdAll_ok (K := X.K) h r e2
    split at e3
    · cases e3
      obtain ⟨a, us, rfl, k1, d⟩ := list_src h.sub rr (.inl rfl)
      exact ⟨a, us, rfl, k1, fun p np => post _ _ _ _ (x.trans (.push p)) (h.push np d) (.pushed h)⟩
    · cases e3
      obtain ⟨a, us, rfl, k1, d⟩ := list_src h.sub rr (.inr rfl)
      exact ⟨a, us, rfl, k1, fun p np => post _ _ _ _ (x.trans (.push p)) (h.push np d) (.pushed h)⟩
    · cases e3
abbrev rSumA (K : PySem.W.Frag) : List V → Hp → VK → Prop := fun xs H Q => rSum K xs H Q ∨ rSumT K xs H Q
theorem call_sumA (hc : X.calm = true) : CallR X (.builtin "sum") (rSumA X.K) := (cr_sum hc).or (cr_sumT hc)
theorem snd_sum {K : PySem.W.Frag} : SndN K (rSumA K) fSum := fun F H vs xs z Q hs r e q => by
  unfold fSum at e
  split at e
  · obtain ⟨ns, e1, rfl⟩ := Option.map_eq_some_iff.mp e
    obtain ⟨v, rfl, r0⟩ := r.one
    obtain ⟨a, us, rfl, h, d⟩ := r0.list hs
    rw [asInts_eq e1] at d
    rw [d.of_ints] at h
    exact .inl ⟨a, ns, rfl, h, q.now hs (.int _)⟩
  · obtain ⟨ns, e1, rfl⟩ := Option.map_eq_some_iff.mp e
    obtain ⟨v, rfl, r0⟩ := r.one
    obtain ⟨a, us, rfl, h, _, d⟩ := r0.tup hs
    rw [asInts_eq e1] at d
    rw [d.of_ints] at h
    exact .inr ⟨a, ns, rfl, SqT.of h, q.now hs (.int _)⟩
  · cases e
theorem snd_all {K : PySem.W.Frag} : SndN K (rAll K) fAll := fun F H vs xs z Q hs r e q => by
  unfold fAll at e
  split at e
  · obtain ⟨bs, e1, rfl⟩ := Option.map_eq_some_iff.mp e
    obtain ⟨v, rfl, r0⟩ := r.one
    obtain ⟨a, us, rfl, h, d⟩ := r0.list hs
    rw [asBools_eq e1] at d
    rw [d.of_bools] at h
    exact ⟨a, bs, rfl, h, q.now hs (.bl _)⟩
  · cases e
theorem snd_any {K : PySem.W.Frag} : SndN K (rAny K) fAny := fun F H vs xs z Q hs r e q => by
  unfold fAny at e
  split at e
  · obtain ⟨bs, e1, rfl⟩ := Option.map_eq_some_iff.mp e
    obtain ⟨v, rfl, r0⟩ := r.one
    obtain ⟨a, us, rfl, h, d⟩ := r0.list hs
    rw [asBools_eq e1] at d
    rw [d.of_bools] at h
    exact ⟨a, bs, rfl, h, q.now hs (.bl _)⟩
  · cases e
abbrev rSortedA (K : PySem.W.Frag) : List V → Hp → VK → Prop := fun xs H Q => rSortedI K xs H Q ∨ (rSortedPO K xs H Q ∨ rSortedT K xs H Q)
theorem call_sortedA : CallR X (.builtin "sorted") (rSortedA X.K) := cr_sortedI.or (cr_sortedPO.or cr_sortedT)
/-- the pair that stands at a value -/
def pairAt (H : Hp) : V → Int × Int
  | .ref t => match H t with
    | some (.tup [.int a, .int b]) => (a, b)
    | _ => (0, 0)
  | _ => (0, 0)
theorem pairs_at {F H : Hp} (hs : Same F H) : ∀ {vs : List V} {ps : List (Int × Int)}, DqA F vs (ps.map pairD) → vs.map (pairAt H) = ps ∧ ∀ x ∈ vs, ∃ t, x = V.ref t ∧ H t = some (.tup [.int (pairAt H x).1, .int (pairAt H x).2]) ∧ Dq F x (pairD (pairAt H x))
  | _, [], .nil => ⟨rfl, fun x h => by cases h⟩
  | _, p :: ps, .cons (.tup h (.cons (.int _) (.cons (.int _) .nil))) t => by
    obtain ⟨h1, h2⟩ := pairs_at hs t
    have e : ∀ a, F a = some (.tup [.int p.1, .int p.2]) → pairAt H (.ref a) = p := fun a q => by
      simp only [pairAt, hs _ _ q]
    refine ⟨by rw [List.map_cons, h1, e _ h], fun x hx => ?_⟩
    rcases List.mem_cons.mp hx with rfl | hx
    · rw [e _ h]
      exact ⟨_, rfl, hs _ _ h, .tup h (.cons (.int _) (.cons (.int _) .nil))⟩
    · exact h2 x hx
theorem dqa_of {F : Hp} (g : V → PyData) : ∀ {vs : List V}, (∀ x ∈ vs, Dq F x (g x)) → DqA F vs (vs.map g)
  | [], _ => .nil
  | v :: vs, h => .cons (h v List.mem_cons_self) (dqa_of g fun x hx => h x (List.mem_cons_of_mem _ hx))
theorem snd_sorted {K : PySem.W.Frag} : SndN K (rSortedA K) fSorted := fun F H vs xs z Q hs r e q => by
  unfold fSorted at e
  split at e
  · split at e
    · rename_i ns e1
      cases e
      obtain ⟨v, rfl, r0⟩ := r.one
      obtain ⟨a, us, rfl, h, d⟩ := r0.list hs
      rw [asInts_eq e1] at d
      rw [d.of_ints] at h
      refine .inl ⟨a, ns, rfl, h, fun ns' p k1 k2 np => ?_⟩
      rw [← sortI_uniq k1 k2] at q
      exact q.lst hs DqA.ints p np
    · obtain ⟨ps, e1, rfl⟩ := Option.map_eq_some_iff.mp e
      obtain ⟨v, rfl, r0⟩ := r.one
      obtain ⟨a, us, rfl, h, d⟩ := r0.list hs
      rw [asPairs_eq e1] at d
      obtain ⟨h1, h2⟩ := pairs_at hs d
      refine .inr (.inl ⟨a, us, pairAt H, rfl, h, fun x hx => ?_, fun ys p k1 k2 np => ?_⟩)
      · obtain ⟨t, e2, e3, _⟩ := h2 x hx
        exact ⟨t, e2, e3⟩
      · have pm : ys.Perm us := k2.perm
        have ey : ys.map (pairAt H) = sortP ps := by
          refine sortP_uniq ?_ ?_
          · rw [← h1]
            exact pm.map _
          · rw [List.pairwise_map]
            exact k1.imp fun {a b} (z : ltP (pairAt H) b a = false) => by
              show (!SrtO.lexB (pairAt H b) (pairAt H a)) = true
              rw [show SrtO.lexB (pairAt H b) (pairAt H a) = false from z]
              rfl
        have dy : DqA F ys (ys.map fun y => pairD (pairAt H y)) := dqa_of _ fun x hx => by
          obtain ⟨t, _, _, e4⟩ := h2 x (pm.mem_iff.mp hx)
          exact e4
        have e5 : (ys.map fun y => pairD (pairAt H y)) = (sortP ps).map pairD := by
          rw [← ey, List.map_map]
          rfl
        rw [e5] at dy
        exact q.lst hs dy p np
  · obtain ⟨ns, e1, rfl⟩ := Option.map_eq_some_iff.mp e
    obtain ⟨v, rfl, r0⟩ := r.one
    obtain ⟨a, us, rfl, h, _, d⟩ := r0.tup hs
    rw [asInts_eq e1] at d
    rw [d.of_ints] at h
    refine .inr (.inr ⟨a, ns, rfl, SqT.of h, fun z p k np => ?_⟩)
    rw [← sortI_uniq k.1 k.2] at q
    exact q.lst hs DqA.ints p np
  · cases e
end
end Cm

set_option Elab.async false
set_option linter.all false
set_option maxRecDepth 100000
namespace Cm
open PySem PySem.Spec PyProof.Rows L2

/-! ### slices -/
def cutD (xs : List PyData) (lo hi : Option Int) : List PyData := (xs.drop (HT.sIx xs.length 0 lo)).take (HT.sIx xs.length xs.length hi - HT.sIx xs.length 0 lo)
abbrev SO := Ev → Sto → Option (Option Int × Sto)
def oNone : SO := fun _ st => some (none, st)
def oSome (a : SE) : SO := fun ev st => (a ev st).bind fun p => match p.1 with
  | .d (.int i) => some (some i, p.2)
  | _ => none
def tO (K : PySem.W.Frag) (c : SO) : TO := fun σ H Q => ∃ ρ F ev st i st', HR ρ F H st ∧ SR K ρ F ev σ ∧ c ev st = some (i, st') ∧ ∀ ρ' F' H', Ext ρ F ρ' F' → HR ρ' F' H' st' → Q i H'
def fSl (x : PyData) (lo hi : Option Int) : Option PyData := match x with
  | .list xs => some (.list (cutD xs lo hi))
  | .tuple xs => some (.tuple (cutD xs lo hi))
  | .str z => if z.length ≤ lim then some (.str (cutS z lo hi)) else none
  | _ => none
def cSl (a : SE) (lo hi : SO) : SE := fun ev st => (a ev st).bind fun p => (lo ev p.2).bind fun q => (hi ev q.2).bind fun r => (rd r.2 p.1).bind fun x => (fSl x q.1 r.1).map fun z => (.d z, r.2)
theorem DqA.cut {F : Hp} {vs : List V} {xs : List PyData} (h : DqA F vs xs) (lo hi : Option Int) : DqA F (cutV vs lo hi) (cutD xs lo hi) := by
  unfold cutV cutD
  rw [h.length]
  exact (h.drop _).take _
theorem cutD_whole {xs : List PyData} {lo hi : Option Int} (h : HT.sIx xs.length 0 lo = 0 ∧ HT.sIx xs.length xs.length hi = xs.length) : cutD xs lo hi = xs := by
  unfold cutD
  rw [h.1, h.2]
  simp
section
variable {X : Cx} {e : Expr} {lo hi : Option Expr} {ca : SE} {cl ch : SO} {p2 pos : Pos}
theorem so_none : PO X none (tO X.K oNone) := ⟨fun pins s σ H Q I ⟨ρ, F, ev, st, i, st', hr, sr, e, post⟩ => po_none.run pins s σ H Q I (by
  cases e
  exact post ρ F H (.refl _ _) hr)⟩
theorem so_some (h : PE X e (tI X.K ca)) : PO X (some e) (tO X.K (oSome ca)) := ⟨fun pins s σ H Q I ⟨ρ, F, ev, st, i, st', hr, sr, e, post⟩ => (po_some h).run pins s σ H Q I (by
  simp only [oSome, Option.bind_eq_some_iff] at e
  obtain ⟨⟨w, st1⟩, e1, e2⟩ := e
  refine ⟨ρ, F, ev, st, w, st1, hr, sr, e1, fun v ρ' F' H' x h r => ?_⟩
  split at e2
  · rename_i k q
    cases q
    cases e2
    cases r
    exact ⟨_, rfl, post _ _ _ x h⟩
  · cases e2)⟩
abbrev rSl (K : PySem.W.Frag) : V → Option Int → Option Int → Hp → VK → Prop := fun x lo hi H Q => rSlL K x lo hi H Q ∨ (rSlA K x lo hi H Q ∨ rSlS x lo hi H Q)
theorem sl_any : SlR X (rSl X.K) := sl_list.or (sl_tupA.or sl_str)
theorem se_sl (ha : PE X e (tI X.K ca)) (hl : PO X lo (tO X.K cl)) (hh : PO X hi (tO X.K ch)) : PE X (.Subscript e (.Slice lo hi none p2) pos) (tI X.K (cSl ca cl ch)) :=
  (pe_slice sl_any ha hl hh).weak fun σ H Q ⟨ρ, F, ev, st, w, st', hr, sr, e, post⟩ => by
    simp only [cSl, Option.bind_eq_some_iff, Option.map_eq_some_iff] at e
    obtain ⟨⟨w1, st1⟩, e1, ⟨i, st2⟩, e2, ⟨j, st3⟩, e3, x, e4, z, e5, e6⟩ := e
    cases e6
    refine ⟨ρ, F, ev, st, w1, st1, hr, sr, e1, fun v1 ρ1 F1 H1 x1 hr1 wr1 => ⟨ρ1, F1, ev, st1, i, st2, hr1, sr.mono x1, e2, fun ρ2 F2 H2 x2 hr2 => ⟨ρ2, F2, ev, st2, j, st3, hr2, (sr.mono x1).mono x2, e3, fun ρ3 F3 H3 x3 hr3 => ?_⟩⟩⟩
    have rr : Rdd X.K F3 H3 v1 x := rd_ok hr3 ((wr1.mono x2).mono x3) e4
    have q : Rep F3 H3 z Q := post.grow ((x1.trans x2).trans x3) hr3
    have hs := hr3.sub
    cases x with
    | list xs =>
      cases e5
      obtain ⟨a, vs, rfl, h, d⟩ := rr.list hs
      exact .inl ⟨a, vs, rfl, h, fun p np => q.lst hs (d.cut _ _) p np⟩
    | tuple xs =>
      cases e5
      obtain ⟨a, vs, rfl, h, hf, d⟩ := rr.tup hs
      refine .inr (.inl ⟨a, vs, rfl, SqT.of h, fun hw => ?_, fun _ p np => q.tup hs (d.cut _ _) p np⟩)
      rw [d.length] at hw
      rw [cutD_whole hw] at q
      exact q.now hs (.tup hf d)
    | str z =>
      simp only [fSl] at e5
      split at e5
      · rename_i hlm
        cases e5
        cases rr.str
        exact .inr (.inr ⟨_, rfl, lim_le hlm, q.now hs (.str _)⟩)
      · cases e5
    | _ => cases e5
end
/-! ### isinstance -/
def tyD : PyData → Option String
  | .none => some "NoneType"
  | .bool _ => some "bool"
  | .int _ => some "int"
  | .str _ => some "str"
  | .list _ => some "list"
  | .tuple _ => some "tuple"
  | .dict _ => none
def isaT (t T : String) : Bool := t == T || (t == "bool" && T == "int")
def known (T : String) : Bool := T == "int" || T == "bool" || T == "str" || T == "list" || T == "tuple"
theorem kitB_ok {x : PyData} {t T : String} (ht : tyD x = some t) (hT : known T = true) : kitB t T = some (isaT t T) := by
  have h1 : t = "NoneType" ∨ t = "bool" ∨ t = "int" ∨ t = "str" ∨ t = "list" ∨ t = "tuple" := by
    cases x <;> simp only [tyD, Option.some.injEq, reduceCtorEq] at ht <;> simp [← ht]
  have h2 : T = "int" ∨ T = "bool" ∨ T = "str" ∨ T = "list" ∨ T = "tuple" := by simpa [known, or_assoc] using hT
  rcases h1 with rfl | rfl | rfl | rfl | rfl | rfl <;> rcases h2 with rfl | rfl | rfl | rfl | rfl <;> decide +kernel
def cIsi (Ts : List String) (a : SE) : SE := fun ev st => (a ev st).bind fun p => (rd p.2 p.1).bind fun x => (tyD x).bind fun t => if Ts.all known then some (.d (.bool (Ts.any (isaT t))), p.2) else none
theorem tyX_of {K : PySem.W.Frag} {ρ : Rho} {F H : Hp} {st : Sto} {v : V} {w : U} {x : PyData} {t : String} (h : HR ρ F H st) (r : WR K ρ F v w) (e : rd st w = some x) (et : tyD x = some t) : TyX K H v (.type t) := by
  cases w with
  | d y =>
    cases e
    cases (show Dq F v x from r) with
    | non => cases et; exact .base .non
    | bl b => cases et; exact .base (.bl b)
    | int b => cases et; exact .base (.int b)
    | str b => cases et; exact .base (.str b)
    | lst q a => cases et; exact .base (.lst (h.sub _ _ q))
    | tup q a => cases et; exact .base (.tup (h.sub _ _ q))
    | obj q g a => cases et
    | hid v => cases et
    | exn _ _ _ _ => cases et
    | dtt _ _ _ _ _ _ => cases et
  | l n =>
    simp only [rd] at e
    split at e
    · rename_i xs q
      cases e
      cases et
      obtain ⟨a, vs, h1, h2, h3, h4⟩ := h.cell n xs q
      obtain ⟨b, h5, rfl⟩ := r
      obtain rfl := h1.eq h5
      exact .base (.lst h2)
    · cases e
  | o C n => cases e
  | p C n => cases e
  | q C n => cases e
  | s ns =>
    cases e
    cases et
    obtain ⟨a, rfl, h2⟩ := r
    rcases h2 with (z | ⟨o, z⟩) | ⟨o, its, n, k1, k2, _⟩
    · exact .base (.lst (h.sub _ _ z))
    · exact .base (.frz (h.sub _ _ z))
    · exact .kList k1 k2
  | k kd => cases e
section
variable {X : Cx} {a : Expr} {ca : SE} {p p1 p2 pos : Pos}
theorem se_isi {T : Str} {t : String} (hg : Gl X "isinstance") (hm : X.mg "isinstance" = none) (hgT : Gl X T) (hmT : X.mg T = none) (hv : bootBuiltins T = some (.type t)) (hk : known t = true) (ha : PE X a (tI X.K ca)) (hn : T ≠ "__name__" := by decide) (hd : (T == ("__debug__" : Str)) = false := by decide)
    (hst : starEach [a, .Name T p2] X.env = (false, eval a X.env) :: starEach [.Name T p2] X.env := by rfl) (hpl : (backTo pos (starEach [.Name T p2] X.env)).any (·.1) = false := by rfl) :
    PE X (.Call (.Name "isinstance" p) [a, .Name T p2] [] pos) (tI X.K (cIsi [t] ca)) :=
  (pe_callB call_isi hg hm PyProof.Rows.boot_isinstance (pa_cons ha (pa_cons (pe_bltn (v := .ty t) hgT hmT hv rfl hn hd) pa_nil) hst) (by decide) (by decide) hst hpl).weak fun σ H Q ⟨ρ, F, ev, st, w, st', hr, sr, e, post⟩ => by
    simp only [cIsi, Option.bind_eq_some_iff] at e
    obtain ⟨⟨w1, st1⟩, e1, x, e2, ty, e3, e4⟩ := e
    refine ⟨ρ, F, ev, st, w1, st1, hr, sr, e1, fun v ρ' F' H' x1 h r => ?_⟩
    split at e4
    · cases e4
      have kb := kitB_ok e3 hk
      have q := post (.bl (isaT ty t)) ρ' F' H' x1 h (by
        show Dq F' _ _
        have : ([t].any (isaT ty)) = isaT ty t := by simp
        rw [this]
        exact .bl _)
      exact ⟨v, .ty t, .type ty, .type t, isaT ty t, rfl, .ty t, tyX_of h r e2 e3, kit_ty kb, q⟩
    · cases e4
theorem se_isi2 {T1 T2 : Str} {t1 t2 : String} {k : Nat} {q1 q2 : Pos} (hg : Gl X "isinstance") (hm : X.mg "isinstance" = none) (hgT : Gl X T1) (hmT : X.mg T1 = none) (hv : bootBuiltins T1 = some (.type t1)) (hk : known t1 = true)
    (hgT2 : Gl X T2) (hmT2 : X.mg T2 = none) (hv2 : bootBuiltins T2 = some (.type t2)) (hk2 : known t2 = true) (ha : PE X a (tI X.K ca)) (hn : T1 ≠ "__name__" := by decide) (hd : (T1 == ("__debug__" : Str)) = false := by decide) (hn2 : T2 ≠ "__name__" := by decide) (hd2 : (T2 == ("__debug__" : Str)) = false := by decide)
    (hst : starEach [a, .Tuple [.Name T1 q1, .Name T2 q2] k p2] X.env = (false, eval a X.env) :: starEach [.Tuple [.Name T1 q1, .Name T2 q2] k p2] X.env := by rfl) (hpl : (backTo pos (starEach [.Tuple [.Name T1 q1, .Name T2 q2] k p2] X.env)).any (·.1) = false := by rfl) :
    PE X (.Call (.Name "isinstance" p) [a, .Tuple [.Name T1 q1, .Name T2 q2] k p2] [] pos) (tI X.K (cIsi [t1, t2] ca)) :=
  (pe_callB call_isiT hg hm PyProof.Rows.boot_isinstance (pa_cons ha (pa_cons (pe_tup (pa_cons (pe_bltn (v := .ty t1) hgT hmT hv rfl hn hd) (pa_cons (pe_bltn (v := .ty t2) hgT2 hmT2 hv2 rfl hn2 hd2) pa_nil))) pa_nil) hst) (by decide) (by decide) hst hpl).weak fun σ H Q ⟨ρ, F, ev, st, w, st', hr, sr, e, post⟩ => by
    simp only [cIsi, Option.bind_eq_some_iff] at e
    obtain ⟨⟨w1, st1⟩, e1, x, e2, ty, e3, e4⟩ := e
    refine ⟨ρ, F, ev, st, w1, st1, hr, sr, e1, fun v ρ' F' H' x1 h r => ⟨by show 2 ≤ sizeLine; decide, fun tp np => ?_⟩⟩
    split at e4
    · cases e4
      have hr2 : HR ρ' F' (upd H' tp (.tup [.ty t1, .ty t2])) st1 := ⟨h.sub.trans (same_upd np), fun n xs e => by
        obtain ⟨b, us, k1, k2, k3, k4⟩ := h.cell n xs e
        exact ⟨b, us, k1, same_upd np _ _ k2, k3, k4⟩, h.inj, h.len, h.obj.new np⟩
      have b1 := kitB_ok e3 hk
      have b2 := kitB_ok e3 hk2
      have q := post (.bl ([t1, t2].any (isaT ty))) ρ' F' _ x1 hr2 (.bl _)
      refine ⟨v, tp, [.ty t1, .ty t2], .type ty, [.type t1, .type t2], [t1, t2].any (isaT ty), rfl, upd_same, .cons (.ty t1) (.cons (.ty t2) .nil), tyX_of hr2 r e2 e3, ?_, q⟩
      refine kitAny_cons (kit_ty b1) (fun f => kitAny_cons (kit_ty b2) (fun f2 => ?_) fun f2 => ?_) fun f => ?_
      · simp [f, f2, kitAny_nil]
      · simp [f, f2]
      · simp [f]
    · cases e4
end
/-! ### calls with keywords -/
def pick {α : Type} (ix : List Nat) (l : List α) : List α := ix.filterMap fun i => l[i]?
def cDefK (n m k : Nat) (ix : List Nat) (f : FS) (a b : SA) : SE := fun ev st => (a ev st).bind fun p => (b ev p.2).bind fun q => if p.1.length = m ∧ q.1.length = k ∧ (pick ix (p.1 ++ q.1)).length = n then f (pick ix (p.1 ++ q.1)) q.2 else none
theorem Vals.pick {vs : List V} {us : List Value} (h : Vals vs us) : ∀ ix : List Nat, Vals (Cm.pick ix vs) (Cm.pick ix us)
  | [] => .nil
  | i :: ix => by
    have ih := Vals.pick h ix
    unfold Cm.pick
    rw [List.filterMap_cons, List.filterMap_cons]
    cases e : vs[i]? with
    | none =>
      have e2 : us[i]? = none := L2.Vals.none_of h e
      rw [e2]
      exact ih
    | some v =>
      obtain ⟨u, e2, r⟩ := L2.Vals.get h e
      rw [e2]
      exact .cons r ih
theorem WRs.get {K : PySem.W.Frag} {ρ : Rho} {F : Hp} : ∀ {vs : List V} {ws : List U} {i : Nat} {v : V}, WRs K ρ F vs ws → vs[i]? = some v → ∃ w, ws[i]? = some w ∧ WR K ρ F v w
  | _, _, _, _, .nil, e => by simp at e
  | _, _, 0, _, .cons a _, e => by
    simp only [List.getElem?_cons_zero, Option.some.injEq] at e
    subst e
    exact ⟨_, rfl, a⟩
  | _, _, i + 1, _, .cons _ t, e => by
    rw [List.getElem?_cons_succ] at e ⊢
    exact WRs.get t e
theorem WRs.pick {K : PySem.W.Frag} {ρ : Rho} {F : Hp} {vs : List V} {ws : List U} (h : WRs K ρ F vs ws) : ∀ ix : List Nat, WRs K ρ F (Cm.pick ix vs) (Cm.pick ix ws)
  | [] => .nil
  | i :: ix => by
    have ih := WRs.pick h ix
    unfold Cm.pick
    rw [List.filterMap_cons, List.filterMap_cons]
    cases e : vs[i]? with
    | none =>
      have e2 : ws[i]? = none := List.getElem?_eq_none_iff.mpr (by rw [← h.length]; exact List.getElem?_eq_none_iff.mp e)
      rw [e2]
      exact ih
    | some v =>
      obtain ⟨u, e2, r⟩ := WRs.get h e
      rw [e2]
      exact .cons r ih
section
variable {X : Cx} {k n : Nat} {f : Addr} {fd : FuncData} {ps ks : List Str} {fs : FS} {x : Str} {e : Expr} {es : List Expr} {kws : List Keyword} {sa sb : SA} {p pos kpos : Pos} {nm : Option Str} {ce : SE} {ix : List Nat}
theorem sk_nil : PK X [] (tA X.K cNil) := ⟨fun pos pins s σ H Q I ⟨ρ, F, ev, st, w, st', hr, sr, e, post⟩ => pk_nil.run pos pins s σ H Q I (by
  cases e
  exact post [] ρ F H (.refl _ _) hr .nil)⟩
theorem sk_cons (ha : PE X e (tI X.K ce)) (hr : PK X kws (tA X.K sb)) : PK X (⟨nm, e, kpos⟩ :: kws) (tA X.K (cCons ce sb)) := ⟨fun pos pins s σ H Q I ⟨ρ, F, ev, st, w, st', hr', sr, e, post⟩ => (pk_cons ha hr).run pos pins s σ H Q I (by
  simp only [cCons, Option.bind_eq_some_iff, Option.map_eq_some_iff] at e
  obtain ⟨⟨w1, st1⟩, e1, ⟨ws, st2⟩, e2, e3⟩ := e
  cases e3
  exact ⟨ρ, F, ev, st, w1, st1, hr', sr, e1, fun v1 ρ1 F1 H1 x1 hr1 wr1 => ⟨ρ1, F1, ev, st1, ws, st2, hr1, sr.mono x1, e2, fun vs ρ2 F2 H2 x2 hr2 wr2 => post _ ρ2 F2 H2 (x1.trans x2) hr2 (.cons (wr1.mono x2) wr2)⟩⟩)⟩
theorem kw_ok {E : XK} {σ : L2.St} {H : Hp} {Q : VK} {m j : Nat} (h : tI X.K (cDefK ps.length m j ix fs sa sb) σ H Q) : tCallN m j (spF X.K fs ps.length) (fun us ws => pick ix (us ++ ws)) E (tA X.K sa) (tA X.K sb) σ H Q := by
  obtain ⟨ρ, F, ev, st, w, st', hr, sr, e, post⟩ := h
  simp only [cDefK, Option.bind_eq_some_iff] at e
  obtain ⟨⟨ws, st1⟩, e1, ⟨zs, st2⟩, e2, e3⟩ := e
  split at e3
  · rename_i hl
    refine ⟨ρ, F, ev, st, ws, st1, hr, sr, e1, fun vs ρ1 F1 H1 x1 hr1 wr1 => ⟨ρ1, F1, ev, st1, zs, st2, hr1, sr.mono x1, e2, fun us ρ2 F2 H2 x2 hr2 wr2 => ?_⟩⟩
    have wr : WRs X.K ρ2 F2 (vs ++ us) (ws ++ zs) := (wr1.mono x2).append wr2
    exact ⟨by rw [wr1.length]; exact hl.1, by rw [wr2.length]; exact hl.2.1, ρ2, F2, _, st2, w, st', hr2, wr.pick ix, hl.2.2, e3, fun v ρ3 F3 H3 x3 h3 r3 => post v ρ3 F3 H3 ((x1.trans x2).trans x3) h3 r3⟩
  · cases e3
theorem se_defK (F : FnOk X.prog X.w X.K X.mg X.base CX0 k f fd ps (spF X.K fs ps.length)) (hr : Room k X.A) (hg : Gl X x) (hm : X.mg x = some (.ref f)) (hk : PySem.W.keepIn X.K (.ref f) = true) (hb : KBn X.K fd ps n ks (fun us ws => pick ix (us ++ ws)) (fun us ws => pick ix (us ++ ws)))
    (ha : PA X (e :: es) (tA X.K sa)) (hkw : PK X kws (tA X.K sb)) (hall : Named X kws pos := by rfl) (hks : NamesAre X kws pos ks := by rfl)
    (hdb : NotDbg x := by decide) (he : Bare1 X e es := by rfl)
    (hpl : NoStarK X (e :: es) kws pos := by rfl) :
    PE X (.Call (.Name x p) (e :: es) kws pos) (tI X.K (cDefK ps.length n ks.length ix fs sa sb)) := (pe_callN F hr hg hm hk hb pass0 ha hkw hall hks hdb he hpl).weak fun _ _ _ h => kw_ok h
theorem se_defK0 (F : FnOk X.prog X.w X.K X.mg X.base CX0 k f fd ps (spF X.K fs ps.length)) (hr : Room k X.A) (hg : Gl X x) (hm : X.mg x = some (.ref f)) (hk : PySem.W.keepIn X.K (.ref f) = true) (hb : KBn X.K fd ps 0 ks (fun us ws => pick ix (us ++ ws)) (fun us ws => pick ix (us ++ ws)))
    (hkw : PK X kws (tA X.K sb)) (hall : Named X kws pos := by rfl) (hks : NamesAre X kws pos ks := by rfl)
    (hdb : NotDbg x := by decide)
    (hpl : NoStarK X [] kws pos := by rfl) :
    PE X (.Call (.Name x p) [] kws pos) (tI X.K (cDefK ps.length 0 ks.length ix fs cNil sb)) := by
  constructor
  intro pins s σ H Q I h
  obtain ⟨ρ, F0, ev, st, ws, st1, hr0, sr0, e0, kk⟩ := kw_ok (E := E0) h
  cases e0
  refine wpAny_Call_Name_kw (ld_glob I hg hm (PySem.W.callWith_KW0 (h₀ := X.base) I.ok.mod.kin hk hall (thn (hkw.run pos pins s σ H _ I (kk [] ρ F0 H (.refl _ _) hr0 .nil)) fun zs s2 ⟨us, H2, I2, rz, l1, l2, q2⟩ => ⟨I2.kIn, ?_⟩) hpl) hdb)
  rw [show _ = ks from hks]
  exact run_fnN F hr hb pass0 I2 .nil rz l1 l2 q2
end
end Cm

set_option Elab.async false
set_option linter.all false
set_option maxRecDepth 100000
namespace Cm
open PySem PySem.Spec PyProof.Rows L2

/-! ### a def that hands back a list of its own, to be changed by the caller -/
def leaveO (n : Nat) (w : U) (st : Sto) : Option (U × Sto) := match w with
  | .l k => if k < n then none else match st[k]? with
    | some (some xs) => some (.l n, st.take n ++ [some xs])
    | _ => none
  | _ => none
def defSO (N : Nat) (b : SS) : FS := fun ws st => (b (ws.map some ++ List.replicate (N - ws.length) none) st).bind fun o => match o with
  | .rt w st' => leaveO st.length w st'
  | _ => none
theorem HR.moved {ρ : Rho} {F H : Hp} {st : Sto} {n k : Nat} {xs : List PyData} {a : Addr} (h : HR ρ F H st) (t : Tri ρ n) (hk : n ≤ k) (e : st[k]? = some (some xs)) (ha : ρ[k]? = some (a, 0)) : HR (ρ.take n ++ [(a, 0)]) F H (st.take n ++ [some xs]) := by
  have lk := lt_of_get e
  have l1 : (st.take n).length = n := by
    rw [List.length_take]
    omega
  have l2 : (ρ.take n).length = n := by
    rw [List.length_take, h.len]
    omega
  refine h.sel (fun m => if m < n then m else k) (by simp [l1, l2]) (fun m x q => ?_) (fun m xs q => ?_) (fun m m' g1 g2 q => ?_) fun m b D q => ?_
  · by_cases hm : m < n
    · rw [if_pos hm]
      rw [List.getElem?_append_left (by omega)] at q
      exact (get_take q).2
    · rw [if_neg hm]
      rw [List.getElem?_append_right (by omega), l2] at q
      match hj : m - n, q with
      | 0, q => cases q; exact ha
      | j + 1, q => simp at q
  · by_cases hm : m < n
    · rw [if_pos hm]
      rw [List.getElem?_append_left (by omega), List.getElem?_take, if_pos hm] at q
      exact q
    · rw [if_neg hm]
      rw [List.getElem?_append_right (by omega), l1] at q
      match hj : m - n, q with
      | 0, q => cases q; exact e
      | j + 1, q => simp at q
  · have z1 : m < n + 1 := by simpa [l2] using g1
    have z2 : m' < n + 1 := by simpa [l2] using g2
    split at q <;> split at q <;> omega
  · by_cases hm : m < n
    · rw [List.getElem?_append_left (by omega)] at q
      have := t m b D hm (get_take q).2
      refine ⟨by simp only [List.length_append, l2, List.length_singleton]; omega, ?_, ?_⟩
      · rw [if_pos (by omega), if_pos hm]
      · rw [if_pos (by omega), if_pos hm]
    · rw [List.getElem?_append_right (by omega), l2] at q
      match hj : m - n, q with
      | 0, q => cases q
      | j + 1, q => simp at q
theorem leaveO_ok {K : PySem.W.Frag} {ρ ρ' : Rho} {F F' H0 H' : Hp} {st st' st2 : Sto} {v : V} {w w2 : U} {Q : VK} (h0 : HR ρ F H0 st) (x : Ext ρ F ρ' F') (h : HR ρ' F' H' st') (r : WR K ρ' F' v w) (e : leaveO st.length w st' = some (w2, st2)) (post : Post K ρ F w2 st2 Q) : Q v H' := by
  have hl := h0.len
  cases w with
  | d y => cases e
  | s ns => cases e
  | k kd => cases e
  | o C n => cases e
  | p C n => cases e
  | q C n => cases e
  | l k =>
    simp only [leaveO] at e
    split at e
    · cases e
    · rename_i hk
      split at e
      · rename_i xs q
        cases e
        obtain ⟨a, h1, rfl⟩ := r
        have xt : Ext ρ F (ρ'.take st.length) F' := by
          rw [← hl]
          exact x.take _ (Nat.le_refl _)
        have lk := lt_of_get q
        have lr := h.len
        refine post _ _ F' H' (xt.trans (.push a)) (h.moved (x.tri h0.obj hl.symm) (Nat.le_of_not_lt hk) q h1) ⟨a, ?_, rfl⟩
        rw [List.getElem?_append_right (by rw [List.length_take]; omega), List.length_take]
        rw [show st.length - min st.length ρ'.length = 0 by omega]
        rfl
      · cases e
section
variable {P : Program} {w : World} {K : PySem.W.Frag} {mg : Str → Option Value} {base : Heap}
abbrev FnP (K : PySem.W.Frag) (x : Str) (st : Stmt) : Addr → FuncData → Prop := FunD K x x (defArgs st) (defBody st) (defScope st) [] []
/-- THE RULE for a def, its frame's end told by lv -/
theorem def_any {x : Str} {st : Stmt} {f : Addr} {fd : FuncData} {N ps : List Str} {k : Nat} {b : SS} {g : FS} (F : FnP K x st f fd) (S : FnScope N ps (defScope st))
    (hg : ∀ {ρ F H st ws w st' Q} {vs : List V}, HR ρ F H st → WRs K ρ F vs ws → g ws st = some (w, st') → Post K ρ F w st' Q → ∃ o, b (ws.map some ++ List.replicate (N.length - ws.length) none) st = some o ∧ OutOk K ρ F { nx := fun _ H' => Q .non H', rt := Q } o)
    (h : ∀ (cdv : Value) (A : Around) (outer : List Env) (s : Shared) (H : Hp) (E : XK), Room k (A.deeper (envOfC x (defScope st) s.heap.objs.size f cdv)) → PSs (cxOf CX0 P w K mg base N x (defScope st) f cdv A outer s H E).nox (defBody st) (tSS K b)) :
    FnOk P w K mg base CX0 (k + 1) f fd ps (spF K g ps.length) := by
  refine F.ok S (fun vs H Q E ⟨ρ, F, ws, st, w, st', hr, wr, hl, e, post⟩ => by rw [wr.length, hl]) fun cdv A outer s H vs Q E hrm hsp => ⟨tSS K b, PSs.nox (h cdv A outer s H E hrm), ?_⟩
  obtain ⟨ρ, F, ws, st, w, st', hr, wr, hl, e, post⟩ := hsp
  obtain ⟨o, e1, ok⟩ := hg hr wr e post
  exact ⟨ρ, F, _, st, o, hr, SR.start wr, e1, ok⟩
theorem def_okD {x : Str} {st : Stmt} {f : Addr} {fd : FuncData} {N ps : List Str} {k : Nat} {b : SS} (F : FnP K x st f fd) (S : FnScope N ps (defScope st))
    (h : ∀ (cdv : Value) (A : Around) (outer : List Env) (s : Shared) (H : Hp) (E : XK), Room k (A.deeper (envOfC x (defScope st) s.heap.objs.size f cdv)) → PSs (cxOf CX0 P w K mg base N x (defScope st) f cdv A outer s H E).nox (defBody st) (tSS K b)) :
    FnOk P w K mg base CX0 (k + 1) f fd ps (spF K (defS N.length b) ps.length) :=
  def_any F S (fun {ρ F H st ws w st' Q vs} hr wr e post => by
    simp only [defS, Option.bind_eq_some_iff] at e
    obtain ⟨o, e1, e2⟩ := e
    refine ⟨o, e1, ?_⟩
    cases o with
    | rt w1 st1 => exact fun v ρ' F' H' x hr' r => leave_ok hr x hr' r e2 post
    | nx ev1 st1 =>
      cases e2
      exact fun σ' ρ' F' H' x hr' _ => post .non (ρ'.take st.length) F' H' (by rw [← hr.len]; exact x.take _ (Nat.le_refl _)) (hr'.take _ (x.tri hr.obj hr.len.symm)) .non
    | bk ev1 st1 => cases e2
    | ct ev1 st1 => cases e2) h
theorem def_okO {x : Str} {st : Stmt} {f : Addr} {fd : FuncData} {N ps : List Str} {k : Nat} {b : SS} (F : FnP K x st f fd) (S : FnScope N ps (defScope st))
    (h : ∀ (cdv : Value) (A : Around) (outer : List Env) (s : Shared) (H : Hp) (E : XK), Room k (A.deeper (envOfC x (defScope st) s.heap.objs.size f cdv)) → PSs (cxOf CX0 P w K mg base N x (defScope st) f cdv A outer s H E).nox (defBody st) (tSS K b)) :
    FnOk P w K mg base CX0 (k + 1) f fd ps (spF K (defSO N.length b) ps.length) :=
  def_any F S (fun {ρ F H st ws w st' Q vs} hr wr e post => by
    simp only [defSO, Option.bind_eq_some_iff] at e
    obtain ⟨o, e1, e2⟩ := e
    refine ⟨o, e1, ?_⟩
    cases o with
    | rt w1 st1 => exact fun v ρ' F' H' x hr' r => leaveO_ok hr x hr' r e2 post
    | nx ev1 st1 => cases e2
    | bk ev1 st1 => cases e2
    | ct ev1 st1 => cases e2) h
/-- a def of which nothing is said -/
def fNo : FS := fun _ _ => none
theorem def_none {f : Addr} {fd : FuncData} {ps : List Str} {k n : Nat} : FnOk P w K mg base CX0 k f fd ps (spF K fNo n) :=
  { len := fun vs H Q E ⟨ρ, F, ws, st, w, st', hr, wr, hl, e, post⟩ => nomatch e
    run := fun A outer s H args us vs Q E _ _ _ _ ⟨ρ, F, ws, st, w, st', hr, wr, hl, e, post⟩ => nomatch e }
end
theorem kbn_mkD {K : PySem.W.Frag} {x : Str} {st : Stmt} {f : Addr} {fd : FuncData} {ps ks : List Str} {n : Nat} (ix : List Nat) (F : FnP K x st f fd)
    (h : ∀ (kV doc pm : Value) (an : Option Addr) (cdv ct : Value) (us ws : List Value), us.length = n → ws.length = ks.length → bindArgs (PySem.W.fnOf x x (defArgs st) (defBody st) (defScope st) .none kV doc pm an cdv ct) ⟨us, ks.zip ws⟩ = pure (ps.zip (pick ix (us ++ ws)))) :
    KBn K fd ps n ks (fun us ws => pick ix (us ++ ws)) (fun us ws => pick ix (us ++ ws)) := by
  obtain ⟨oc, od, dV, kV, doc, pm, an, cdv, ct, osl, rfl, lk, hcd, hdf, _⟩ := F.ex
  have e : dV = .none := by
    rcases hdf with ⟨_, e⟩ | ⟨e, _⟩
    · exact e
    · exact absurd rfl e
  subst e
  exact ⟨fun s us ws _ h1 h2 => .of_eq (h kV doc pm an cdv ct us ws h1 h2), fun r1 r2 => Vals.pick (L2.Vals.append r1 r2) ix⟩
/-! ### the law itself -/
theorem Only.same {H : Hp} : Same H H := Same.refl _
/-- what the end asks of the law's promise -/
theorem law_end {K : PySem.W.Frag} {g : FS} {H : Hp} {a : Addr} {ns : List Int} (hS : SqL K H a (ns.map V.int)) {st : Sto} (e : g [.s ns] [] = some (.d (.bool true), st)) : spF K g 1 [.ref a] H (fun v _ => v = .bl true) fun _ _ _ => False := by
  refine ⟨[], H, [.s ns], [], _, st, ⟨Same.refl _, fun n xs e => by simp at e, fun n m a ⟨_, e⟩ => by simp at e, rfl, .nil⟩, .cons ⟨a, rfl, hS⟩ .nil, rfl, e, fun v ρ' F' H' x h r => ?_⟩
  cases r
  rfl
/-- the def of name d.name does g at every world in which the module stands -/
abbrev Serves (P : Program) (YP : World → Heap → Prop) (d : DefRec) (k : Nat) (x : Str) (g : FS) : Prop :=
  ∀ (w : World) (mg : Str → Option Value) (fa : Addr) (hp : Heap), YP w hp → hp.Ns mainGlobals mg → mg d.name = some (.ref fa) →
    ∃ (K : PySem.W.Frag) (fd : FuncData), K.In hp ∧ (∀ (s : Shared) (u : Value), BindsTo s fd ⟨[u], []⟩ [(x, u)]) ∧
      ∀ base : Heap, K.In base → base.Ns mainGlobals mg → FnOk P w K mg base CX0 k fa fd [x] (spF K g 1)
abbrev Ends (q : Program) (loose : List Str) (XP : (Str → Option Value) → Heap → Prop) (YP : World → Heap → Prop) (l : PySem.W.OpenLaw) (d : DefRec) : Prop :=
  PySem.W.WalkO q loose XP YP l.row.toRowW d [] fun g ws => PySem.call g ws
/-- the end of a law's proof, with the script's bits told -/
theorem walk_cm {l : PySem.W.OpenLaw} {n k : Nat} {q : Program} {loose : List Str} {XP : (Str → Option Value) → Heap → Prop} {YP : World → Heap → Prop} {d : DefRec} {x : Str} {g : FS} (hn : l.most = some n) (hn2 : n ≤ sizeLine) (hdf : d.params.defaults = []) (hr : Room k callerA)
    (F : Serves l.prog YP d k x g) (law : ∀ ns : List Int, ns.length ≤ n → (∀ z ∈ ns, Builtin.Int.intBits z ≤ 1048576) → ∃ st, g [.s ns] [] = some (.d (.bool true), st)) : Ends q loose XP YP l d := by
  refine Att.attach_callB hn hdf fun w _ _ mg _ fa _ _ _ _ _ _ ns G Y _ _ _ hmg hobj hints hlen hbits hg => ?_
  obtain ⟨K, fd, KX, hb, hF⟩ := F w mg fa _ Y G.T.g hmg
  obtain ⟨st, e⟩ := law ns hlen hbits
  exact law_call KX G.T.g G.T.b G.T.builtins G.T.nolimit hg hobj hints (Nat.le_trans hlen hn2) hr hF hb (fun H _ hS => law_end hS e) fun H e s' z => z
end Cm

set_option Elab.async false
set_option linter.all false
set_option maxRecDepth 100000
namespace Cm
open PySem PySem.Spec PyProof.Rows L2
/-- a def of the text that may be called, worth g at level k -/
structure Cal (P : Program) (w : World) (K : PySem.W.Frag) (mg : Str → Option Value) (base : Heap) (k : Nat) (x : Str) (st : Stmt) (ps : List Str) (g : FS) : Prop where
  ex : ∃ (a : Addr) (fd : FuncData), FnOk P w K mg base CX0 k a fd ps (spF K g ps.length) ∧ mg x = some (.ref a) ∧ FnP K x st a fd ∧ Binds K fd ps []
/-- where a def stands -/
def At (K : PySem.W.Frag) (mg : Str → Option Value) (x : Str) (st : Stmt) : Prop := ∃ (a : Addr) (fd : FuncData), FnP K x st a fd ∧ mg x = some (.ref a)
section
variable {P : Program} {w : World} {K : PySem.W.Frag} {mg : Str → Option Value} {base : Heap} {x : Str} {st : Stmt} {N ps : List Str} {k : Nat} {b : SS}
theorem Cal.of {g : FS} (h : At K mg x st) (ok : ∀ a fd, FnP K x st a fd → mg x = some (.ref a) → FnOk P w K mg base CX0 k a fd ps (spF K g ps.length))
    (hb : ∀ (kV doc pm : Value) (an : Option Addr) (cdv ct : Value) (us : List Value), us.length = ps.length → bindArgs (PySem.W.fnOf x x (defArgs st) (defBody st) (defScope st) .none kV doc pm an cdv ct) ⟨us, []⟩ = pure (ps.zip us)) : Cal P w K mg base k x st ps g := by
  obtain ⟨a, fd, F, hm⟩ := h
  exact ⟨a, fd, ok a fd F hm, hm, F, FunD.bindsN F hb⟩
end
theorem Cal.pick {P : Program} {w : World} {K : PySem.W.Frag} {mg : Str → Option Value} {base : Heap} {x : Str} {st : Stmt} {ps : List Str} {k : Nat} {g : FS} {a : Addr} {fd : FuncData} (c : Cal P w K mg base k x st ps g) (F : FnP K x st a fd) (hm : mg x = some (.ref a)) :
    FnOk P w K mg base CX0 k a fd ps (spF K g ps.length) := by
  obtain ⟨a2, fd2, ok, hm2, F2, _⟩ := c.ex
  rw [hm] at hm2
  injection hm2 with hm2
  injection hm2 with hm2
  subst hm2
  obtain ⟨_, _, _, _, _, _, _, _, _, _, _, l1, _⟩ := F.ex
  obtain ⟨_, _, _, _, _, _, _, _, _, _, _, l2, _⟩ := F2.ex
  rw [l1] at l2
  injection l2 with l2
  injection l2 with _ _ l2 _
  injection l2 with l2
  subst l2
  exact ok
section
variable {X : Cx} {k n : Nat} {ps ks : List Str} {fs : FS} {x : Str} {st : Stmt} {e : Expr} {es : List Expr} {kws : List Keyword} {sa sb : SA} {p pos : Pos}
theorem se_cal (c : Cal X.prog X.w X.K X.mg X.base k x st ps fs) (hr : Room k X.A) (hg : Gl X x) (ha : PA X (e :: es) (tA X.K sa))
    (hdb : NotDbg x := by decide) (he : Bare1 X e es := by rfl) (hpl : NoStar X es pos := by rfl) :
    PE X (.Call (.Name x p) (e :: es) [] pos) (tI X.K (cDef ps.length fs sa)) := by
  obtain ⟨a, fd, F, hm, G, hb⟩ := c.ex
  exact se_def F hr hg hm G.kp hb ha hdb he hpl
theorem se_cal0 (c : Cal X.prog X.w X.K X.mg X.base k x st ps fs) (hr : Room k X.A) (hg : Gl X x) (hdb : NotDbg x := by decide) :
    PE X (.Call (.Name x p) [] [] pos) (tI X.K (cDef ps.length fs cNil)) := by
  obtain ⟨a, fd, F, hm, G, hb⟩ := c.ex
  exact se_def0 F hr hg hm G.kp hb hdb
theorem se_calK (ix : List Nat) (c : Cal X.prog X.w X.K X.mg X.base k x st ps fs) (hr : Room k X.A) (hg : Gl X x)
    (hb : ∀ (kV doc pm : Value) (an : Option Addr) (cdv ct : Value) (us ws : List Value), us.length = n → ws.length = ks.length → bindArgs (PySem.W.fnOf x x (defArgs st) (defBody st) (defScope st) .none kV doc pm an cdv ct) ⟨us, ks.zip ws⟩ = pure (ps.zip (pick ix (us ++ ws))))
    (ha : PA X (e :: es) (tA X.K sa)) (hkw : PK X kws (tA X.K sb)) (hall : Named X kws pos := by rfl) (hks : NamesAre X kws pos ks := by rfl)
    (hdb : NotDbg x := by decide) (he : Bare1 X e es := by rfl)
    (hpl : NoStarK X (e :: es) kws pos := by rfl) :
    PE X (.Call (.Name x p) (e :: es) kws pos) (tI X.K (cDefK ps.length n ks.length ix fs sa sb)) := by
  obtain ⟨a, fd, F, hm, G, _⟩ := c.ex
  exact se_defK F hr hg hm G.kp (kbn_mkD ix G hb) ha hkw hall hks hdb he hpl
theorem se_calK0 (ix : List Nat) (c : Cal X.prog X.w X.K X.mg X.base k x st ps fs) (hr : Room k X.A) (hg : Gl X x)
    (hb : ∀ (kV doc pm : Value) (an : Option Addr) (cdv ct : Value) (us ws : List Value), us.length = 0 → ws.length = ks.length → bindArgs (PySem.W.fnOf x x (defArgs st) (defBody st) (defScope st) .none kV doc pm an cdv ct) ⟨us, ks.zip ws⟩ = pure (ps.zip (pick ix (us ++ ws))))
    (hkw : PK X kws (tA X.K sb)) (hall : Named X kws pos := by rfl) (hks : NamesAre X kws pos ks := by rfl)
    (hdb : NotDbg x := by decide)
    (hpl : NoStarK X [] kws pos := by rfl) :
    PE X (.Call (.Name x p) [] kws pos) (tI X.K (cDefK ps.length 0 ks.length ix fs cNil sb)) := by
  obtain ⟨a, fd, F, hm, G, _⟩ := c.ex
  exact se_defK0 F hr hg hm G.kp (kbn_mkD ix G hb) hkw hall hks hdb hpl
end
def fAddI : PyData → PyData → Option PyData
  | .int a, .int b => some (.int (a + b))
  | _, _ => none
theorem snd_ipadd {K : PySem.W.Frag} : Snd2 K (ipI fun i j => i + j) fAddI := fun F H v u x y z Q hs rx ry e q => by
  unfold fAddI at e
  split at e
  · cases e
    cases rx.int
    cases ry.int
    exact ⟨_, _, rfl, rfl, q.now hs (.int _)⟩
  · cases e
theorem snd_ipsub {K : PySem.W.Frag} : Snd2 K (ipI fun i j => i - j) fSub := fun F H v u x y z Q hs rx ry e q => by
  unfold fSub at e
  split at e
  · cases e
    cases rx.int
    cases ry.int
    exact ⟨_, _, rfl, rfl, q.now hs (.int _)⟩
  · cases e
end Cm

set_option Elab.async false
set_option linter.all false
set_option maxRecDepth 100000
namespace Cm
open PySem PySem.Spec PyProof.Rows L2
abbrev VS := U × Sto
def var1 (st : Sto) : Option (Option U) → Option VS
  | some (some w) => some (w, st)
  | _ => none
@[simp] theorem var1_s (st : Sto) (w : U) : var1 st (some (some w)) = some (w, st) := rfl
@[simp] theorem cVar_ap (i : Nat) (ev : Ev) (st : Sto) : cVar i ev st = var1 st ev[i]? := rfl
@[simp] theorem cD_ap (x : PyData) (ev : Ev) (st : Sto) : cD x ev st = some (.d x, st) := rfl
def toD (st : Sto) : Option PyData → Option VS
  | some z => some (.d z, st)
  | none => none
@[simp] theorem toD_s (st : Sto) (z : PyData) : toD st (some z) = some (.d z, st) := rfl
theorem toD_eq (st : Sto) (x : Option PyData) : (x.map fun z => ((.d z : U), st)) = toD st x := by cases x <;> rfl
def d1a (f : PyData → Option PyData) : VS → Option VS := fun p => toD p.2 ((rd p.2 p.1).bind f)
@[simp] theorem d1a_ap (f : PyData → Option PyData) (u : U) (s : Sto) : d1a f (u, s) = toD s ((rd s u).bind f) := rfl
@[simp] theorem cD1_ap (f : PyData → Option PyData) (a : SE) (ev : Ev) (st : Sto) : cD1 f a ev st = (a ev st).bind (d1a f) := by
  unfold cD1 d1a
  congr; funext p
  cases rd p.2 p.1 with
  | none => rfl
  | some x => exact toD_eq _ _
def d2c (f : PyData → PyData → Option PyData) (y : Option PyData) (x : PyData) : Option PyData := y.bind (f x)
@[simp] theorem d2c_s (f : PyData → PyData → Option PyData) (y x : PyData) : d2c f (some y) x = f x y := rfl
def d2b (f : PyData → PyData → Option PyData) (u : U) : VS → Option VS := fun q => toD q.2 ((rd q.2 u).bind (d2c f (rd q.2 q.1)))
@[simp] theorem d2b_ap (f : PyData → PyData → Option PyData) (u v : U) (s : Sto) : d2b f u (v, s) = toD s ((rd s u).bind (d2c f (rd s v))) := rfl
def d2a (f : PyData → PyData → Option PyData) (b : SE) (ev : Ev) : VS → Option VS := fun p => (b ev p.2).bind (d2b f p.1)
@[simp] theorem d2a_ap (f : PyData → PyData → Option PyData) (b : SE) (ev : Ev) (u : U) (s : Sto) : d2a f b ev (u, s) = (b ev s).bind (d2b f u) := rfl
@[simp] theorem cD2_ap (f : PyData → PyData → Option PyData) (a b : SE) (ev : Ev) (st : Sto) : cD2 f a b ev st = (a ev st).bind (d2a f b ev) := by
  unfold cD2 d2a d2b d2c
  congr; funext p; congr; funext q
  cases rd q.2 p.1 with
  | none => rfl
  | some x => cases rd q.2 q.1 with
    | none => rfl
    | some y => exact toD_eq _ _
def d2sb (f : PyData → PyData → Option PyData) (u : U) : VS → Option VS := fun q => toD q.2 ((rdS q.2 u).bind (d2c f (rdS q.2 q.1)))
@[simp] theorem d2sb_ap (f : PyData → PyData → Option PyData) (u v : U) (s : Sto) : d2sb f u (v, s) = toD s ((rdS s u).bind (d2c f (rdS s v))) := rfl
def d2sa (f : PyData → PyData → Option PyData) (b : SE) (ev : Ev) : VS → Option VS := fun p => (b ev p.2).bind (d2sb f p.1)
@[simp] theorem d2sa_ap (f : PyData → PyData → Option PyData) (b : SE) (ev : Ev) (u : U) (s : Sto) : d2sa f b ev (u, s) = (b ev s).bind (d2sb f u) := rfl
@[simp] theorem cD2s_ap (f : PyData → PyData → Option PyData) (a b : SE) (ev : Ev) (st : Sto) : cD2s f a b ev st = (a ev st).bind (d2sa f b ev) := by
  unfold cD2s d2sa d2sb d2c
  congr; funext p; congr; funext q
  cases rdS q.2 p.1 with
  | none => rfl
  | some x => cases rdS q.2 q.1 with
    | none => rfl
    | some y => exact toD_eq _ _
@[simp] theorem cNil_ap (ev : Ev) (st : Sto) : cNil ev st = some ([], st) := rfl
def cons1 (u : U) : List U × Sto → List U × Sto := fun q => (u :: q.1, q.2)
@[simp] theorem cons1_ap (u : U) (us : List U) (s : Sto) : cons1 u (us, s) = (u :: us, s) := rfl
def consa (r : SA) (ev : Ev) : VS → Option (List U × Sto) := fun p => (r ev p.2).map (cons1 p.1)
@[simp] theorem consa_ap (r : SA) (ev : Ev) (u : U) (s : Sto) : consa r ev (u, s) = (r ev s).map (cons1 u) := rfl
@[simp] theorem cCons_ap (a : SE) (r : SA) (ev : Ev) (st : Sto) : cCons a r ev st = (a ev st).bind (consa r ev) := rfl
def app1 (xs : List PyData) : List U × Sto → List U × Sto := fun q => (xs.map U.d ++ q.1, q.2)
@[simp] theorem app1_ap (xs : List PyData) (us : List U) (s : Sto) : app1 xs (us, s) = (xs.map U.d ++ us, s) := rfl
def starb (r : SA) (ev : Ev) (s : Sto) : List PyData → Option (List U × Sto) := fun xs => (r ev s).map (app1 xs)
@[simp] theorem starb_ap (r : SA) (ev : Ev) (s : Sto) (xs : List PyData) : starb r ev s xs = (r ev s).map (app1 xs) := rfl
def stara (r : SA) (ev : Ev) : VS → Option (List U × Sto) := fun p => ((rd p.2 p.1).bind items).bind (starb r ev p.2)
@[simp] theorem stara_ap (r : SA) (ev : Ev) (u : U) (s : Sto) : stara r ev (u, s) = ((rd s u).bind items).bind (starb r ev s) := rfl
@[simp] theorem cStar_ap (a : SE) (r : SA) (ev : Ev) (st : Sto) : cStar a r ev st = (a ev st).bind (stara r ev) := by
  unfold cStar stara
  congr; funext p
  cases rd p.2 p.1 <;> rfl
def lsta (s : Sto) : List PyData → Option VS := fun xs => if xs.length ≤ lim then some (.d (.list xs), s) else none
@[simp] theorem lsta_ap (s : Sto) (xs : List PyData) : lsta s xs = if xs.length ≤ lim then some (.d (.list xs), s) else none := rfl
def tupa (s : Sto) : List PyData → Option VS := fun xs => if xs.length ≤ lim then some (.d (.tuple xs), s) else none
@[simp] theorem tupa_ap (s : Sto) (xs : List PyData) : tupa s xs = if xs.length ≤ lim then some (.d (.tuple xs), s) else none := rfl
def lstMa (s : Sto) : List PyData → Option VS := fun xs => if xs.length ≤ lim then some (.l s.length, s ++ [some xs]) else none
@[simp] theorem lstMa_ap (s : Sto) (xs : List PyData) : lstMa s xs = if xs.length ≤ lim then some (.l s.length, s ++ [some xs]) else none := rfl
def lstb (k : Sto → List PyData → Option VS) : List U × Sto → Option VS := fun p => (allD p.1).bind (k p.2)
@[simp] theorem lstb_ap (k : Sto → List PyData → Option VS) (us : List U) (s : Sto) : lstb k (us, s) = (allD us).bind (k s) := rfl
@[simp] theorem cLst_ap (a : SA) (ev : Ev) (st : Sto) : cLst a ev st = (a ev st).bind (lstb lsta) := rfl
@[simp] theorem cTup_ap (a : SA) (ev : Ev) (st : Sto) : cTup a ev st = (a ev st).bind (lstb tupa) := rfl
@[simp] theorem cLstM_ap (a : SA) (ev : Ev) (st : Sto) : cLstM a ev st = (a ev st).bind (lstb lstMa) := rfl
def calla (f : List PyData → Option PyData) : List U × Sto → Option VS := fun p => toD p.2 ((rdAll p.2 p.1).bind f)
@[simp] theorem calla_ap (f : List PyData → Option PyData) (us : List U) (s : Sto) : calla f (us, s) = toD s ((rdAll s us).bind f) := rfl
@[simp] theorem cCall_ap (f : List PyData → Option PyData) (a : SA) (ev : Ev) (st : Sto) : cCall f a ev st = (a ev st).bind (calla f) := by
  unfold cCall calla
  congr; funext p
  cases rdAll p.2 p.1 with
  | none => rfl
  | some x => exact toD_eq _ _
def toB (st : Sto) : Option Bool → Option (Bool × Sto)
  | some z => some (z, st)
  | none => none
@[simp] theorem toB_s (st : Sto) (z : Bool) : toB st (some z) = some (z, st) := rfl
def tra : VS → Option (Bool × Sto) := fun p => toB p.2 ((rd p.2 p.1).bind truth)
@[simp] theorem tra_ap (u : U) (s : Sto) : tra (u, s) = toB s ((rd s u).bind truth) := rfl
@[simp] theorem cTr_ap (a : SE) (ev : Ev) (st : Sto) : cTr a ev st = (a ev st).bind tra := by
  unfold cTr tra
  congr; funext p
  cases rd p.2 p.1 with
  | none => rfl
  | some x =>
    show (truth x).map _ = toB p.2 (truth x)
    cases truth x <;> rfl
def ba : VS → Option (Bool × Sto) := fun p => match p.1 with
  | .d (.bool b) => some (b, p.2)
  | _ => none
@[simp] theorem ba_ap (b : Bool) (s : Sto) : ba (.d (.bool b), s) = some (b, s) := rfl
@[simp] theorem cB_ap (a : SE) (ev : Ev) (st : Sto) : cB a ev st = (a ev st).bind ba := rfl
def anda (b : SB) (ev : Ev) : Bool × Sto → Option (Bool × Sto) := fun p => if p.1 then b ev p.2 else some (false, p.2)
@[simp] theorem anda_ap (b : SB) (ev : Ev) (t : Bool) (s : Sto) : anda b ev (t, s) = if t then b ev s else some (false, s) := rfl
@[simp] theorem bAnd_ap (a b : SB) (ev : Ev) (st : Sto) : bAnd a b ev st = (a ev st).bind (anda b ev) := rfl
def ora (b : SB) (ev : Ev) : Bool × Sto → Option (Bool × Sto) := fun p => if p.1 then some (true, p.2) else b ev p.2
@[simp] theorem ora_ap (b : SB) (ev : Ev) (t : Bool) (s : Sto) : ora b ev (t, s) = if t then some (true, s) else b ev s := rfl
@[simp] theorem bOr_ap (a b : SB) (ev : Ev) (st : Sto) : bOr a b ev st = (a ev st).bind (ora b ev) := rfl
def nota : Bool × Sto → Bool × Sto := fun p => (!p.1, p.2)
@[simp] theorem nota_ap (t : Bool) (s : Sto) : nota (t, s) = (!t, s) := rfl
@[simp] theorem bNot_ap (a : SB) (ev : Ev) (st : Sto) : bNot a ev st = (a ev st).map nota := rfl
def andEb (b : SE) (ev : Ev) (p : VS) : Bool → Option VS := fun t => if t then b ev p.2 else some p
@[simp] theorem andEb_ap (b : SE) (ev : Ev) (u : U) (s : Sto) (t : Bool) : andEb b ev (u, s) t = if t then b ev s else some (u, s) := rfl
def andEa (b : SE) (ev : Ev) : VS → Option VS := fun p => ((rd p.2 p.1).bind truth).bind (andEb b ev p)
@[simp] theorem andEa_ap (b : SE) (ev : Ev) (u : U) (s : Sto) : andEa b ev (u, s) = ((rd s u).bind truth).bind (andEb b ev (u, s)) := rfl
@[simp] theorem cAnd_ap (a b : SE) (ev : Ev) (st : Sto) : cAnd a b ev st = (a ev st).bind (andEa b ev) := by
  unfold cAnd andEa
  congr; funext p
  cases rd p.2 p.1 <;> rfl
def orEb (b : SE) (ev : Ev) (p : VS) : Bool → Option VS := fun t => if t then some p else b ev p.2
@[simp] theorem orEb_ap (b : SE) (ev : Ev) (u : U) (s : Sto) (t : Bool) : orEb b ev (u, s) t = if t then some (u, s) else b ev s := rfl
def orEa (b : SE) (ev : Ev) : VS → Option VS := fun p => ((rd p.2 p.1).bind truth).bind (orEb b ev p)
@[simp] theorem orEa_ap (b : SE) (ev : Ev) (u : U) (s : Sto) : orEa b ev (u, s) = ((rd s u).bind truth).bind (orEb b ev (u, s)) := rfl
@[simp] theorem cOr_ap (a b : SE) (ev : Ev) (st : Sto) : cOr a b ev st = (a ev st).bind (orEa b ev) := by
  unfold cOr orEa
  congr; funext p
  cases rd p.2 p.1 <;> rfl
def notEb (s : Sto) : Bool → VS := fun t => (.d (.bool !t), s)
@[simp] theorem notEb_ap (s : Sto) (t : Bool) : notEb s t = (.d (.bool !t), s) := rfl
def notEa : VS → Option VS := fun p => ((rd p.2 p.1).bind truth).map (notEb p.2)
@[simp] theorem notEa_ap (u : U) (s : Sto) : notEa (u, s) = ((rd s u).bind truth).map (notEb s) := rfl
@[simp] theorem cNot_ap (a : SE) (ev : Ev) (st : Sto) : cNot a ev st = (a ev st).bind notEa := by
  unfold cNot notEa
  congr; funext p
  cases rd p.2 p.1 <;> rfl
def ifa {β : Type} (a b : Ev → Sto → Option β) (ev : Ev) : Bool × Sto → Option β := fun p => if p.1 then a ev p.2 else b ev p.2
@[simp] theorem ifa_ap {β : Type} (a b : Ev → Sto → Option β) (ev : Ev) (t : Bool) (s : Sto) : ifa a b ev (t, s) = if t then a ev s else b ev s := rfl
@[simp] theorem cIf_ap (c : SB) (a b : SE) (ev : Ev) (st : Sto) : cIf c a b ev st = (c ev st).bind (ifa a b ev) := rfl
@[simp] theorem cIfS_ap (c : SB) (a b : SS) (ev : Ev) (st : Sto) : cIfS c a b ev st = (c ev st).bind (ifa a b ev) := rfl
@[simp] theorem cSkip_ap (ev : Ev) (st : Sto) : cSkip ev st = some (.nx ev st) := rfl
def seqa (b : SS) : Out → Option Out
  | .nx ev' st' => b ev' st'
  | o => some o
@[simp] theorem seqa_nx (b : SS) (ev : Ev) (st : Sto) : seqa b (.nx ev st) = b ev st := rfl
@[simp] theorem seqa_rt (b : SS) (w : U) (st : Sto) : seqa b (.rt w st) = some (.rt w st) := rfl
@[simp] theorem seqa_bk (b : SS) (w : Ev) (st : Sto) : seqa b (.bk w st) = some (.bk w st) := rfl
@[simp] theorem seqa_ct (b : SS) (w : Ev) (st : Sto) : seqa b (.ct w st) = some (.ct w st) := rfl
@[simp] theorem cSeq_ap (a b : SS) (ev : Ev) (st : Sto) : cSeq a b ev st = (a ev st).bind (seqa b) := by
  unfold cSeq
  congr
def seta (i : Nat) (ev : Ev) : VS → Out := fun p => .nx (ev.set i (some p.1)) p.2
@[simp] theorem seta_ap (i : Nat) (ev : Ev) (u : U) (s : Sto) : seta i ev (u, s) = .nx (ev.set i (some u)) s := rfl
@[simp] theorem cSet_ap (i : Nat) (e : SE) (ev : Ev) (st : Sto) : cSet i e ev st = (e ev st).map (seta i ev) := rfl
def reta : VS → Out := fun p => .rt p.1 p.2
@[simp] theorem reta_ap (u : U) (s : Sto) : reta (u, s) = .rt u s := rfl
@[simp] theorem cRet_ap (e : SE) (ev : Ev) (st : Sto) : cRet e ev st = (e ev st).map reta := rfl
@[simp] theorem cRetN_ap (ev : Ev) (st : Sto) : cRetN ev st = some (.rt (.d .none) st) := rfl
def expra (ev : Ev) : VS → Out := fun p => .nx ev p.2
@[simp] theorem expra_ap (ev : Ev) (u : U) (s : Sto) : expra ev (u, s) = .nx ev s := rfl
@[simp] theorem cExpr_ap (e : SE) (ev : Ev) (st : Sto) : cExpr e ev st = (e ev st).map (expra ev) := rfl
@[simp] theorem cFail_ap (ev : Ev) (st : Sto) : cFail ev st = none := rfl
@[simp] theorem cBrk_ap (ev : Ev) (st : Sto) : cBrk ev st = some (.bk ev st) := rfl
@[simp] theorem cCont_ap (ev : Ev) (st : Sto) : cCont ev st = some (.ct ev st) := rfl
def nxa (s : Sto) : Ev → Out := fun ev => .nx ev s
@[simp] theorem nxa_ap (s : Sto) (ev : Ev) : nxa s ev = .nx ev s := rfl
def setTa (g : GT) (ev : Ev) : VS → Option Out := fun p => match p.1 with
  | .d x => (g x ev).map (nxa p.2)
  | _ => none
@[simp] theorem setTa_ap (g : GT) (ev : Ev) (x : PyData) (s : Sto) : setTa g ev (.d x, s) = (g x ev).map (nxa s) := rfl
@[simp] theorem cSetT_ap (g : GT) (e : SE) (ev : Ev) (st : Sto) : cSetT g e ev st = (e ev st).bind (setTa g ev) := rfl
def para (is : List Nat) (ev : Ev) : List U × Sto → Option Out := fun p => if p.1.length = is.length then some (.nx ((is.zip p.1).foldl (fun ev q => ev.set q.1 (some q.2)) ev) p.2) else none
@[simp] theorem para_ap (is : List Nat) (ev : Ev) (us : List U) (s : Sto) : para is ev (us, s) = if us.length = is.length then some (.nx ((is.zip us).foldl (fun ev q => ev.set q.1 (some q.2)) ev) s) else none := rfl
@[simp] theorem cParN_ap (is : List Nat) (a : SA) (ev : Ev) (st : Sto) : cParN is a ev st = (a ev st).bind (para is ev) := rfl
def fora (g : GT) (b : SS) (ev : Ev) : Src × Sto → Option Out
  | (.fix xs, s) => forL g b xs ev s
  | (.cell n, s) => forC g b n lim 0 ev s
@[simp] theorem fora_f (g : GT) (b : SS) (ev : Ev) (xs : List PyData) (s : Sto) : fora g b ev (.fix xs, s) = forL g b xs ev s := rfl
@[simp] theorem fora_c (g : GT) (b : SS) (ev : Ev) (n : Nat) (s : Sto) : fora g b ev (.cell n, s) = forC g b n lim 0 ev s := rfl
@[simp] theorem cFor_ap (it : SI) (g : GT) (b : SS) (ev : Ev) (st : Sto) : cFor it g b ev st = (it ev st).bind (fora g b ev) := by
  unfold cFor
  congr; funext p
  obtain ⟨q, s⟩ := p
  cases q <;> rfl
def cella (n : Nat) (s : Sto) : Option (Option (List PyData)) → Option (Src × Sto)
  | some (some _) => some (.cell n, s)
  | _ => none
@[simp] theorem cella_s (n : Nat) (s : Sto) (xs : List PyData) : cella n s (some (some xs)) = some (.cell n, s) := rfl
def iseqa : VS → Option (Src × Sto)
  | (.l n, s) => cella n s s[n]?
  | (.d (.list xs), s) => some (.fix xs, s)
  | (.d (.tuple xs), s) => some (.fix xs, s)
  | _ => none
@[simp] theorem iseqa_c (n : Nat) (s : Sto) : iseqa (.l n, s) = cella n s s[n]? := rfl
@[simp] theorem iseqa_l (xs : List PyData) (s : Sto) : iseqa (.d (.list xs), s) = some (.fix xs, s) := rfl
@[simp] theorem iseqa_t (xs : List PyData) (s : Sto) : iseqa (.d (.tuple xs), s) = some (.fix xs, s) := rfl
@[simp] theorem iSeq_ap (a : SE) (ev : Ev) (st : Sto) : iSeq a ev st = (a ev st).bind iseqa := by
  unfold iSeq
  congr; funext p
  obtain ⟨q, s⟩ := p
  rcases q with x | n | ns | kd | on | pn | qn; rotate_left 4
  · rfl
  · rfl
  · rfl
  · cases x <;> rfl
  · rfl
  · rfl
  · rfl
def r1a : List U × Sto → Option (Src × Sto) := fun p => match p.1 with
  | [.d (.int j)] => if big j then some (.fix (rangeD 0 j.toNat), p.2) else none
  | _ => none
@[simp] theorem r1a_ap (j : Int) (s : Sto) : r1a ([.d (.int j)], s) = if big j then some (.fix (rangeD 0 j.toNat), s) else none := rfl
@[simp] theorem iRange1_ap (a : SA) (ev : Ev) (st : Sto) : iRange1 a ev st = (a ev st).bind r1a := rfl
def r2a : List U × Sto → Option (Src × Sto) := fun p => match p.1 with
  | [.d (.int i), .d (.int j)] => if big i && big j then some (.fix (rangeD i (j - i).toNat), p.2) else none
  | _ => none
@[simp] theorem r2a_ap (i j : Int) (s : Sto) : r2a ([.d (.int i), .d (.int j)], s) = if big i && big j then some (.fix (rangeD i (j - i).toNat), s) else none := rfl
@[simp] theorem iRange2_ap (a : SA) (ev : Ev) (st : Sto) : iRange2 a ev st = (a ev st).bind r2a := rfl
def zipD (xs ys : List PyData) : List PyData := List.zipWith (fun x y => .tuple [x, y]) xs ys
def zipa : List U × Sto → Option (Src × Sto) := fun p => match p.1 with
  | [.d (.list xs), .d (.list ys)] => some (.fix (zipD xs ys), p.2)
  | [.d (.tuple xs), .d (.tuple ys)] => some (.fix (zipD xs ys), p.2)
  | _ => none
@[simp] theorem zipa_l (xs ys : List PyData) (s : Sto) : zipa ([.d (.list xs), .d (.list ys)], s) = some (.fix (zipD xs ys), s) := rfl
@[simp] theorem zipa_t (xs ys : List PyData) (s : Sto) : zipa ([.d (.tuple xs), .d (.tuple ys)], s) = some (.fix (zipD xs ys), s) := rfl
@[simp] theorem iZip2_ap (a : SA) (ev : Ev) (st : Sto) : iZip2 a ev st = (a ev st).bind zipa := rfl
def enuma : List U × Sto → Option (Src × Sto) := fun p => match p.1 with
  | [.d (.list xs)] => some (.fix (enumD 0 xs), p.2)
  | [.d (.tuple xs)] => some (.fix (enumD 0 xs), p.2)
  | [.s ns] => some (.fix (enumD 0 (ns.map .int)), p.2)
  | _ => none
@[simp] theorem enuma_l (xs : List PyData) (s : Sto) : enuma ([.d (.list xs)], s) = some (.fix (enumD 0 xs), s) := rfl
@[simp] theorem enuma_t (xs : List PyData) (s : Sto) : enuma ([.d (.tuple xs)], s) = some (.fix (enumD 0 xs), s) := rfl
@[simp] theorem enuma_s (ns : List Int) (s : Sto) : enuma ([.s ns], s) = some (.fix (enumD 0 (ns.map .int)), s) := rfl
@[simp] theorem iEnum1_ap (a : SA) (ev : Ev) (st : Sto) : iEnum1 a ev st = (a ev st).bind enuma := rfl
def lca (g : GT) (tt : SB) (te : SE) (ev : Ev) : Src × Sto → Option (List PyData × Sto)
  | (.fix xs, s) => lcL g tt te ev xs s []
  | (.cell n, s) => lcC g tt te ev n lim 0 s []
@[simp] theorem lca_f (g : GT) (tt : SB) (te : SE) (ev : Ev) (xs : List PyData) (s : Sto) : lca g tt te ev (.fix xs, s) = lcL g tt te ev xs s [] := rfl
@[simp] theorem lca_c (g : GT) (tt : SB) (te : SE) (ev : Ev) (n : Nat) (s : Sto) : lca g tt te ev (.cell n, s) = lcC g tt te ev n lim 0 s [] := rfl
theorem lcR_ap (it : SI) (g : GT) (tt : SB) (te : SE) (vs : List Nat) (ev : Ev) (st : Sto) : lcR it g tt te vs ev st = (it ev st).bind (lca g tt te (wipeE ev vs)) := by
  unfold lcR
  congr; funext p
  obtain ⟨q, s⟩ := p
  cases q <;> rfl
def lcb : List PyData × Sto → VS := fun p => (.d (.list p.1), p.2)
@[simp] theorem lcb_ap (xs : List PyData) (s : Sto) : lcb (xs, s) = (.d (.list xs), s) := rfl
def lcMb : List PyData × Sto → VS := fun p => (.l p.2.length, p.2 ++ [some p.1])
@[simp] theorem lcMb_ap (xs : List PyData) (s : Sto) : lcMb (xs, s) = (.l s.length, s ++ [some xs]) := rfl
@[simp] theorem cLc_ap (it : SI) (g : GT) (tt : SB) (te : SE) (vs : List Nat) (ev : Ev) (st : Sto) : cLc it g tt te vs ev st = ((it ev st).bind (lca g tt te (wipeE ev vs))).map lcb := by
  rw [← lcR_ap]; rfl
@[simp] theorem cLcM_ap (it : SI) (g : GT) (tt : SB) (te : SE) (vs : List Nat) (ev : Ev) (st : Sto) : cLcM it g tt te vs ev st = ((it ev st).bind (lca g tt te (wipeE ev vs))).map lcMb := by
  rw [← lcR_ap]; rfl
@[simp] theorem bYes_ap (ev : Ev) (st : Sto) : bYes ev st = some (true, st) := rfl
def md (n : Nat) (s : Sto) : PyData × List PyData → Option VS := fun r => if r.2.length ≤ lim then some (.d r.1, s.set n (some r.2)) else none
@[simp] theorem md_ap (n : Nat) (s : Sto) (z : PyData) (ys : List PyData) : md n s (z, ys) = if ys.length ≤ lim then some (.d z, s.set n (some ys)) else none := rfl
def mc (f : MF) (n : Nat) (s : Sto) (ds : List PyData) : Option (Option (List PyData)) → Option VS
  | some (some xs) => (f xs ds).bind (md n s)
  | _ => none
@[simp] theorem mc_s (f : MF) (n : Nat) (s : Sto) (ds xs : List PyData) : mc f n s ds (some (some xs)) = (f xs ds).bind (md n s) := rfl
def mb2 (f : MF) (n : Nat) (s : Sto) : List PyData → Option VS := fun ds => mc f n s ds s[n]?
@[simp] theorem mb2_ap (f : MF) (n : Nat) (s : Sto) (ds : List PyData) : mb2 f n s ds = mc f n s ds s[n]? := rfl
def mb1 (f : MF) (n : Nat) : List U × Sto → Option VS := fun q => (allD q.1).bind (mb2 f n q.2)
@[simp] theorem mb1_ap (f : MF) (n : Nat) (us : List U) (s : Sto) : mb1 f n (us, s) = (allD us).bind (mb2 f n s) := rfl
def mb (f : MF) (n : Nat) (a : SA) (ev : Ev) (s : Sto) : Option (Option (List PyData)) → Option VS
  | some (some _) => (a ev s).bind (mb1 f n)
  | _ => none
@[simp] theorem mb_s (f : MF) (n : Nat) (a : SA) (ev : Ev) (s : Sto) (xs : List PyData) : mb f n a ev s (some (some xs)) = (a ev s).bind (mb1 f n) := rfl
def ma (f : MF) (a : SA) (ev : Ev) : VS → Option VS
  | (.l n, s) => mb f n a ev s s[n]?
  | _ => none
@[simp] theorem ma_l (f : MF) (a : SA) (ev : Ev) (n : Nat) (s : Sto) : ma f a ev (.l n, s) = mb f n a ev s s[n]? := rfl
@[simp] theorem cM_ap (f : MF) (o : SE) (a : SA) (ev : Ev) (st : Sto) : cM f o a ev st = (o ev st).bind (ma f a ev) := by
  unfold cM
  congr; funext p
  obtain ⟨q, s⟩ := p
  rcases q with x | n | ns | kd | on | pn | qn; rotate_left 4
  · rfl
  · rfl
  · rfl
  · rfl
  · show (match s[n]? with
      | some (some _) => _
      | _ => none) = mb f n a ev s s[n]?
    rcases s[n]? with _ | _ | xs
    · rfl
    · rfl
    · show (a ev s).bind _ = (a ev s).bind _
      congr
  · rfl
  · rfl
def sixd (ev : Ev) (n : Nat) (s : Sto) (xs : List PyData) (y : PyData) : Nat → Out := fun j => .nx ev (s.set n (some (xs.set j y)))
@[simp] theorem sixd_ap (ev : Ev) (n : Nat) (s : Sto) (xs : List PyData) (y : PyData) (j : Nat) : sixd ev n s xs y j = .nx ev (s.set n (some (xs.set j y))) := rfl
def sixc (ev : Ev) (n : Nat) (s : Sto) (y : PyData) (k : Int) : Option (Option (List PyData)) → Option Out
  | some (some xs) => (ixN xs.length k).map (sixd ev n s xs y)
  | _ => none
@[simp] theorem sixc_s (ev : Ev) (n : Nat) (s : Sto) (y : PyData) (k : Int) (xs : List PyData) : sixc ev n s y k (some (some xs)) = (ixN xs.length k).map (sixd ev n s xs y) := rfl
def sixb2 (ev : Ev) (n : Nat) (y : PyData) : VS → Option Out
  | (.d (.int k), s) => sixc ev n s y k s[n]?
  | _ => none
@[simp] theorem sixb2_i (ev : Ev) (n : Nat) (y : PyData) (k : Int) (s : Sto) : sixb2 ev n y (.d (.int k), s) = sixc ev n s y k s[n]? := rfl
def sixb (i : SE) (ev : Ev) (y : PyData) : VS → Option Out
  | (.l n, s) => (i ev s).bind (sixb2 ev n y)
  | _ => none
@[simp] theorem sixb_l (i : SE) (ev : Ev) (y : PyData) (n : Nat) (s : Sto) : sixb i ev y (.l n, s) = (i ev s).bind (sixb2 ev n y) := rfl
def sixa (o i : SE) (ev : Ev) : VS → Option Out
  | (.d y, s) => (o ev s).bind (sixb i ev y)
  | _ => none
@[simp] theorem sixa_d (o i : SE) (ev : Ev) (y : PyData) (s : Sto) : sixa o i ev (.d y, s) = (o ev s).bind (sixb i ev y) := rfl
@[simp] theorem cSetIx_ap (o i e : SE) (ev : Ev) (st : Sto) : cSetIx o i e ev st = (e ev st).bind (sixa o i ev) := by
  unfold cSetIx
  congr; funext p
  obtain ⟨q, s⟩ := p
  rcases q with y | n | ns | kd | on | pn | qn; rotate_left 4
  · rfl
  · rfl
  · rfl
  · show (o ev s).bind _ = (o ev s).bind _
    congr; funext p
    obtain ⟨q, s⟩ := p
    rcases q with y | n | ns | kd | on | pn | qn; rotate_left 4
    · rfl
    · rfl
    · rfl
    · rfl
    · show (i ev s).bind _ = (i ev s).bind _
      congr; funext p
      obtain ⟨q, s⟩ := p
      rcases q with y | n | ns | kd | on | pn | qn; rotate_left 4
      · rfl
      · rfl
      · rfl
      · cases y with
        | int k =>
          show (match (U.d (.int k)), s[n]? with
            | .d (.int k), some (some xs) => _
            | _, _ => none) = sixc ev n s _ k s[n]?
          rcases s[n]? with _ | _ | xs <;> rfl
        | _ => rfl
      · rfl
      · rfl
      · rfl
    · rfl
    · rfl
  · rfl
  · rfl
  · rfl
def augc (f : PyData → PyData → Option PyData) (x : PyData) : VS → Option VS := fun p => toD p.2 ((rd p.2 p.1).bind (f x))
@[simp] theorem augc_ap (f : PyData → PyData → Option PyData) (x : PyData) (u : U) (s : Sto) : augc f x (u, s) = toD s ((rd s u).bind (f x)) := rfl
def auga (i : Nat) (f : PyData → PyData → Option PyData) (e : SE) (ev : Ev) (st : Sto) : Option (Option U) → Option Out
  | some (some (.d x)) => ((e ev st).bind (augc f x)).map (seta i ev)
  | _ => none
@[simp] theorem auga_s (i : Nat) (f : PyData → PyData → Option PyData) (e : SE) (ev : Ev) (st : Sto) (x : PyData) : auga i f e ev st (some (some (.d x))) = ((e ev st).bind (augc f x)).map (seta i ev) := rfl
@[simp] theorem cAug_ap (i : Nat) (f : PyData → PyData → Option PyData) (e : SE) (ev : Ev) (st : Sto) : cAug i f e ev st = auga i f e ev st ev[i]? := by
  unfold cAug
  rcases ev[i]? with _ | _ | w
  · rfl
  · rfl
  · rcases w with x | n | ns | kd | on | pn | qn; rotate_left 4
    · rfl
    · rfl
    · rfl
    · show (e ev st).bind _ = ((e ev st).bind _).map _
      cases e ev st with
      | none => rfl
      | some p =>
        show (rd p.2 p.1).bind _ = (toD p.2 ((rd p.2 p.1).bind (f x))).map _
        cases rd p.2 p.1 with
        | none => rfl
        | some y =>
          show (f x y).map _ = (toD p.2 (f x y)).map _
          cases f x y <;> rfl
    · rfl
    · rfl
    · rfl
def defa (n : Nat) (f : FS) : List U × Sto → Option VS := fun p => if p.1.length = n then f p.1 p.2 else none
@[simp] theorem defa_ap (n : Nat) (f : FS) (us : List U) (s : Sto) : defa n f (us, s) = if us.length = n then f us s else none := rfl
@[simp] theorem cDef_ap (n : Nat) (f : FS) (a : SA) (ev : Ev) (st : Sto) : cDef n f a ev st = (a ev st).bind (defa n f) := rfl
def defKb (n m k : Nat) (ix : List Nat) (f : FS) (us : List U) : List U × Sto → Option VS := fun q => if us.length = m ∧ q.1.length = k ∧ (pick ix (us ++ q.1)).length = n then f (pick ix (us ++ q.1)) q.2 else none
@[simp] theorem defKb_ap (n m k : Nat) (ix : List Nat) (f : FS) (us vs : List U) (s : Sto) : defKb n m k ix f us (vs, s) = if us.length = m ∧ vs.length = k ∧ (pick ix (us ++ vs)).length = n then f (pick ix (us ++ vs)) s else none := rfl
def defKa (n m k : Nat) (ix : List Nat) (f : FS) (b : SA) (ev : Ev) : List U × Sto → Option VS := fun p => (b ev p.2).bind (defKb n m k ix f p.1)
@[simp] theorem defKa_ap (n m k : Nat) (ix : List Nat) (f : FS) (b : SA) (ev : Ev) (us : List U) (s : Sto) : defKa n m k ix f b ev (us, s) = (b ev s).bind (defKb n m k ix f us) := rfl
@[simp] theorem cDefK_ap (n m k : Nat) (ix : List Nat) (f : FS) (a b : SA) (ev : Ev) (st : Sto) : cDefK n m k ix f a b ev st = (a ev st).bind (defKa n m k ix f b ev) := rfl
def listMb (s : Sto) : List PyData → Option VS
  | [.list ys] => some (.l s.length, s ++ [some ys])
  | [.tuple ys] => some (.l s.length, s ++ [some ys])
  | _ => none
@[simp] theorem listMb_l (s : Sto) (ys : List PyData) : listMb s [.list ys] = some (.l s.length, s ++ [some ys]) := rfl
@[simp] theorem listMb_t (s : Sto) (ys : List PyData) : listMb s [.tuple ys] = some (.l s.length, s ++ [some ys]) := rfl
def listMa : List U × Sto → Option VS := fun p => (rdAll p.2 p.1).bind (listMb p.2)
@[simp] theorem listMa_ap (us : List U) (s : Sto) : listMa (us, s) = (rdAll s us).bind (listMb s) := rfl
@[simp] theorem cListM_ap (a : SA) (ev : Ev) (st : Sto) : cListM a ev st = (a ev st).bind listMa := rfl
@[simp] theorem oNone_ap (ev : Ev) (st : Sto) : oNone ev st = some (none, st) := rfl
def osa : VS → Option (Option Int × Sto) := fun p => match p.1 with
  | .d (.int i) => some (some i, p.2)
  | _ => none
@[simp] theorem osa_ap (i : Int) (s : Sto) : osa (.d (.int i), s) = some (some i, s) := rfl
@[simp] theorem oSome_ap (a : SE) (ev : Ev) (st : Sto) : oSome a ev st = (a ev st).bind osa := rfl
def slc (lo hi : Option Int) (x : PyData) : Option PyData := fSl x lo hi
@[simp] theorem slc_ap (lo hi : Option Int) (x : PyData) : slc lo hi x = fSl x lo hi := rfl
def slb (u : U) (lo : Option Int) : Option Int × Sto → Option VS := fun r => toD r.2 ((rd r.2 u).bind (slc lo r.1))
@[simp] theorem slb_ap (u : U) (lo hi : Option Int) (s : Sto) : slb u lo (hi, s) = toD s ((rd s u).bind (slc lo hi)) := rfl
def sla2 (u : U) (hi : SO) (ev : Ev) : Option Int × Sto → Option VS := fun q => (hi ev q.2).bind (slb u q.1)
@[simp] theorem sla2_ap (u : U) (hi : SO) (ev : Ev) (lo : Option Int) (s : Sto) : sla2 u hi ev (lo, s) = (hi ev s).bind (slb u lo) := rfl
def sla (lo hi : SO) (ev : Ev) : VS → Option VS := fun p => (lo ev p.2).bind (sla2 p.1 hi ev)
@[simp] theorem sla_ap (lo hi : SO) (ev : Ev) (u : U) (s : Sto) : sla lo hi ev (u, s) = (lo ev s).bind (sla2 u hi ev) := rfl
@[simp] theorem cSl_ap (a : SE) (lo hi : SO) (ev : Ev) (st : Sto) : cSl a lo hi ev st = (a ev st).bind (sla lo hi ev) := by
  unfold cSl sla sla2 slb slc
  congr; funext p; congr; funext q; congr; funext r
  cases rd r.2 p.1 with
  | none => rfl
  | some x => exact toD_eq _ _
def isib (Ts : List String) (t : String) : Option PyData := if Ts.all known then some (.bool (Ts.any (isaT t))) else none
@[simp] theorem isib_ap (Ts : List String) (t : String) : isib Ts t = if Ts.all known then some (.bool (Ts.any (isaT t))) else none := rfl
def isia (Ts : List String) : VS → Option VS := fun p => toD p.2 (((rd p.2 p.1).bind tyD).bind (isib Ts))
@[simp] theorem isia_ap (Ts : List String) (u : U) (s : Sto) : isia Ts (u, s) = toD s (((rd s u).bind tyD).bind (isib Ts)) := rfl
@[simp] theorem cIsi_ap (Ts : List String) (a : SE) (ev : Ev) (st : Sto) : cIsi Ts a ev st = (a ev st).bind (isia Ts) := by
  unfold cIsi isia isib
  congr; funext p
  cases rd p.2 p.1 with
  | none => rfl
  | some x =>
    simp only [Option.bind_some]
    cases tyD x with
    | none => rfl
    | some t =>
      simp only [Option.bind_some]
      cases Ts.all known <;> rfl
@[simp] theorem fAdd_i (a b : Int) : fAdd (.int a) (.int b) = some (.int (a + b)) := rfl
@[simp] theorem fAdd_l (a b : List PyData) : fAdd (.list a) (.list b) = if a.length + b.length ≤ lim then some (.list (a ++ b)) else none := rfl
@[simp] theorem fAdd_t (a b : List PyData) : fAdd (.tuple a) (.tuple b) = if a.length + b.length ≤ lim then some (.tuple (a ++ b)) else none := rfl
@[simp] theorem fAddI_i (a b : Int) : fAddI (.int a) (.int b) = some (.int (a + b)) := rfl
@[simp] theorem fSub_i (a b : Int) : fSub (.int a) (.int b) = some (.int (a - b)) := rfl
@[simp] theorem fMul_i (a b : Int) : fMul (.int a) (.int b) = if mulOk a b then some (.int (a * b)) else none := rfl
@[simp] theorem fMod_i (a b : Int) : fMod (.int a) (.int b) = if 0 < b then some (.int (a % b)) else none := rfl
@[simp] theorem fDiv_i (a b : Int) : fDiv (.int a) (.int b) = if 0 < b ∧ b.natAbs.log2 < 9000 then some (.int (a / b)) else none := rfl
@[simp] theorem fNeg_i (a : Int) : fNeg (.int a) = some (.int (-a)) := rfl
@[simp] theorem fLt_i (a b : Int) : fLt (.int a) (.int b) = some (.bool (decide (a < b))) := rfl
@[simp] theorem fLe_i (a b : Int) : fLe (.int a) (.int b) = some (.bool (decide (a ≤ b))) := rfl
@[simp] theorem fGt_i (a b : Int) : fGt (.int a) (.int b) = some (.bool (decide (b < a))) := rfl
@[simp] theorem fGe_i (a b : Int) : fGe (.int a) (.int b) = some (.bool (decide (b ≤ a))) := rfl
@[simp] theorem fIs_n (x : PyData) : fIs x .none = some (.bool (isNone x)) := by cases x <;> rfl
@[simp] theorem fIsNot_n (x : PyData) : fIsNot x .none = some (.bool (!isNone x)) := by cases x <;> rfl
@[simp] theorem fLen_l (xs : List PyData) : fLen [.list xs] = some (.int xs.length) := rfl
@[simp] theorem fLen_t (xs : List PyData) : fLen [.tuple xs] = some (.int xs.length) := rfl
@[simp] theorem fAbs_i (i : Int) : fAbs [.int i] = some (.int (if i < 0 then -i else i)) := rfl
@[simp] theorem fMax_ii (i j : Int) : fMax [.int i, .int j] = some (.int (if j > i then j else i)) := rfl
@[simp] theorem fMax_l (xs : List PyData) : fMax [.list xs] = (asInts xs).bind fun ns => (maxI ns).map .int := rfl
@[simp] theorem fMax_t (xs : List PyData) : fMax [.tuple xs] = (asInts xs).bind fun ns => (maxI ns).map .int := rfl
@[simp] theorem fMin_ii (i j : Int) : fMin [.int i, .int j] = some (.int (if j < i then j else i)) := rfl
@[simp] theorem fMin_l (xs : List PyData) : fMin [.list xs] = (asInts xs).bind fun ns => (minI ns).map .int := rfl
@[simp] theorem fMin_t (xs : List PyData) : fMin [.tuple xs] = (asInts xs).bind fun ns => (minI ns).map .int := rfl
@[simp] theorem fInt_i (i : Int) : fInt [.int i] = some (.int i) := rfl
@[simp] theorem fInt_b (b : Bool) : fInt [.bool b] = some (.int (if b then 1 else 0)) := rfl
@[simp] theorem fTuple_l (xs : List PyData) : fTuple [.list xs] = some (.tuple xs) := rfl
@[simp] theorem fTuple_t (xs : List PyData) : fTuple [.tuple xs] = some (.tuple xs) := rfl
@[simp] theorem fList_l (xs : List PyData) : fList [.list xs] = some (.list xs) := rfl
@[simp] theorem fList_t (xs : List PyData) : fList [.tuple xs] = some (.list xs) := rfl
@[simp] theorem fSum_l (xs : List PyData) : fSum [.list xs] = (asInts xs).map fun ns => .int ns.sum := rfl
@[simp] theorem fSum_t (xs : List PyData) : fSum [.tuple xs] = (asInts xs).map fun ns => .int ns.sum := rfl
@[simp] theorem fAll_l (xs : List PyData) : fAll [.list xs] = (asBools xs).map fun bs => .bool (bs.all id) := rfl
@[simp] theorem fAny_l (xs : List PyData) : fAny [.list xs] = (asBools xs).map fun bs => .bool (bs.any id) := rfl
@[simp] theorem rdAll_nil (st : Sto) : rdAll st [] = some [] := rfl
def rdcb (x : PyData) (xs : List PyData) : List PyData := x :: xs
@[simp] theorem rdcb_ap (x : PyData) (xs : List PyData) : rdcb x xs = x :: xs := rfl
def rdc (r : Option (List PyData)) (x : PyData) : Option (List PyData) := r.map (rdcb x)
@[simp] theorem rdc_s (r : List PyData) (x : PyData) : rdc (some r) x = some (x :: r) := rfl
@[simp] theorem rdAll_cons (st : Sto) (w : U) (ws : List U) : rdAll st (w :: ws) = (rd st w).bind (rdc (rdAll st ws)) := rfl
@[simp] theorem allD_nil : allD [] = some [] := rfl
@[simp] theorem allD_cons (x : PyData) (ws : List U) : allD (.d x :: ws) = (allD ws).map (rdcb x) := rfl
@[simp] theorem allD_app (xs : List PyData) (ws : List U) : allD (xs.map U.d ++ ws) = (allD ws).map fun ys => xs ++ ys := by
  induction xs with
  | nil => simp
  | cons x xs ih => simp [ih, Function.comp_def]
@[simp] theorem items_l (xs : List PyData) : items (.list xs) = some xs := rfl
@[simp] theorem items_t (xs : List PyData) : items (.tuple xs) = some xs := rfl
@[simp] theorem truth_n : truth .none = some false := rfl
@[simp] theorem truth_b (b : Bool) : truth (.bool b) = some b := rfl
@[simp] theorem truth_i (i : Int) : truth (.int i) = some (i != 0) := rfl
@[simp] theorem truth_l (xs : List PyData) : truth (.list xs) = some (!xs.isEmpty) := rfl
@[simp] theorem truth_t (xs : List PyData) : truth (.tuple xs) = some (!xs.isEmpty) := rfl
def rda : Option (Option (List PyData)) → Option PyData
  | some (some xs) => some (.list xs)
  | _ => none
@[simp] theorem rda_s (xs : List PyData) : rda (some (some xs)) = some (.list xs) := rfl
@[simp] theorem rd_l (st : Sto) (n : Nat) : rd st (.l n) = rda st[n]? := rfl
@[simp] theorem rd_s (st : Sto) (ns : List Int) : rd st (.s ns) = some (.list (ns.map .int)) := rfl
@[simp] theorem rdS_l (st : Sto) (n : Nat) : rdS st (.l n) = rda st[n]? := rfl
def outa (n : Nat) : Out → Option VS
  | .rt w st' => leave n w st'
  | .nx _ st' => some (.d .none, st'.take n)
  | _ => none
@[simp] theorem outa_rt (n : Nat) (w : U) (s : Sto) : outa n (.rt w s) = leave n w s := rfl
@[simp] theorem outa_nx (n : Nat) (w : Ev) (s : Sto) : outa n (.nx w s) = some (.d .none, s.take n) := rfl
theorem defS_ap (N : Nat) (b : SS) (ws : List U) (st : Sto) : defS N b ws st = (b (ws.map some ++ List.replicate (N - ws.length) none) st).bind (outa st.length) := by
  unfold defS
  congr
def outO (n : Nat) : Out → Option VS
  | .rt w st' => leaveO n w st'
  | _ => none
@[simp] theorem outO_rt (n : Nat) (w : U) (s : Sto) : outO n (.rt w s) = leaveO n w s := rfl
theorem defSO_ap (N : Nat) (b : SS) (ws : List U) (st : Sto) : defSO N b ws st = (b (ws.map some ++ List.replicate (N - ws.length) none) st).bind (outO st.length) := by
  unfold defSO
  congr
@[simp] theorem leave_d (n : Nat) (x : PyData) (st : Sto) : leave n (.d x) st = some (.d x, st.take n) := rfl
@[simp] theorem leave_s (n : Nat) (x : List Int) (st : Sto) : leave n (.s x) st = some (.s x, st.take n) := rfl
def leaveb (n : Nat) (s : Sto) : Option (Option (List PyData)) → Option VS
  | some (some xs) => some (.d (.list xs), s.take n)
  | _ => none
@[simp] theorem leaveb_s (n : Nat) (s : Sto) (xs : List PyData) : leaveb n s (some (some xs)) = some (.d (.list xs), s.take n) := rfl
@[simp] theorem leave_l (n k : Nat) (st : Sto) : leave n (.l k) st = if k < n then some (.l k, st.take n) else leaveb n st st[k]? := rfl
def leaveOb (n : Nat) (s : Sto) : Option (Option (List PyData)) → Option VS
  | some (some xs) => some (.l n, s.take n ++ [some xs])
  | _ => none
@[simp] theorem leaveOb_s (n : Nat) (s : Sto) (xs : List PyData) : leaveOb n s (some (some xs)) = some (.l n, s.take n ++ [some xs]) := rfl
@[simp] theorem leaveO_l (n k : Nat) (st : Sto) : leaveO n (.l k) st = if k < n then none else leaveOb n st st[k]? := rfl
@[simp] theorem gN_ap (i : Nat) (x : PyData) (ev : Ev) : gN i x ev = some (ev.set i (some (.d x))) := rfl
@[simp] theorem gsNil_ap (ev : Ev) : gsNil [] ev = some ev := rfl
@[simp] theorem gsCons_ap (g : GT) (r : List PyData → Ev → Option Ev) (x : PyData) (xs : List PyData) (ev : Ev) : gsCons g r (x :: xs) ev = (g x ev).bind (r xs) := rfl
@[simp] theorem gT_ap (g : List PyData → Ev → Option Ev) (xs : List PyData) (ev : Ev) : gT g (.tuple xs) ev = g xs ev := rfl
@[simp] theorem mAppend_ap (xs : List PyData) (y : PyData) : mAppend xs [y] = if xs.length < lim then some (.none, xs ++ [y]) else none := rfl
@[simp] theorem mExtend_ap (xs ys : List PyData) : mExtend xs [.list ys] = if xs.length + ys.length ≤ lim then some (.none, xs ++ ys) else none := rfl
@[simp] theorem wipeE_nil (ev : Ev) : wipeE ev [] = ev := rfl
@[simp] theorem wipeE_cons (ev : Ev) (v : Nat) (vs : List Nat) : wipeE ev (v :: vs) = (wipeE ev vs).set v none := rfl
@[simp] theorem fSl_l (xs : List PyData) (lo hi : Option Int) : fSl (.list xs) lo hi = some (.list (cutD xs lo hi)) := rfl
@[simp] theorem fSl_t (xs : List PyData) (lo hi : Option Int) : fSl (.tuple xs) lo hi = some (.tuple (cutD xs lo hi)) := rfl
@[simp] theorem tyD_n : tyD .none = some "NoneType" := rfl
@[simp] theorem tyD_b (b : Bool) : tyD (.bool b) = some "bool" := rfl
@[simp] theorem tyD_i (b : Int) : tyD (.int b) = some "int" := rfl
@[simp] theorem tyD_s (b : Str) : tyD (.str b) = some "str" := rfl
@[simp] theorem tyD_l (b : List PyData) : tyD (.list b) = some "list" := rfl
@[simp] theorem tyD_t (b : List PyData) : tyD (.tuple b) = some "tuple" := rfl
/-- a store: what was there, and behind it what this call has laid down -/
def ex (st L : Sto) : Sto := st ++ L
theorem ex_nil (st : Sto) : st = ex st [] := (List.append_nil st).symm
@[simp] theorem ex_len (st L : Sto) : (ex st L).length = st.length + L.length := List.length_append
@[simp] theorem ex_put (st L : Sto) (x : Option (List PyData)) : ex st L ++ [x] = ex st (L ++ [x]) := by simp [ex]
@[simp high] theorem ex_get0 (st L : Sto) : (ex st L)[st.length]? = L[0]? := by
  unfold ex
  rw [List.getElem?_append_right (Nat.le_refl _), Nat.sub_self]
@[simp high] theorem ex_get (st L : Sto) (k : Nat) : (ex st L)[st.length + k]? = L[k]? := by
  unfold ex
  rw [List.getElem?_append_right (Nat.le_add_right _ _), Nat.add_sub_cancel_left]
@[simp high] theorem ex_get0s (st L : Sto) (b : Nat) (x : Option (List PyData)) : (ex (st.set b x) L)[st.length]? = L[0]? := by
  have := ex_get0 (st.set b x) L
  rwa [List.length_set] at this
@[simp high] theorem ex_gets (st L : Sto) (k b : Nat) (x : Option (List PyData)) : (ex (st.set b x) L)[st.length + k]? = L[k]? := by
  have := ex_get (st.set b x) L k
  rwa [List.length_set] at this
@[simp] theorem ex_set0 (st L : Sto) (y : Option (List PyData)) : (ex st L).set st.length y = ex st (L.set 0 y) := by simp [ex, List.set_append]
@[simp] theorem ex_set (st L : Sto) (k : Nat) (y : Option (List PyData)) : (ex st L).set (st.length + k) y = ex st (L.set k y) := by simp [ex, List.set_append]
@[simp] theorem ex_set0s (st L : Sto) (b : Nat) (x y : Option (List PyData)) : (ex (st.set b x) L).set st.length y = ex (st.set b x) (L.set 0 y) := by
  have := ex_set0 (st.set b x) L y
  rwa [List.length_set] at this
@[simp] theorem ex_sets (st L : Sto) (k b : Nat) (x y : Option (List PyData)) : (ex (st.set b x) L).set (st.length + k) y = ex (st.set b x) (L.set k y) := by
  have := ex_set (st.set b x) L k y
  rwa [List.length_set] at this
@[simp] theorem ex_take0 (st L : Sto) : (ex st L).take st.length = st := by simp [ex]
@[simp] theorem ex_take (st L : Sto) (k : Nat) : (ex st L).take (st.length + k) = ex st (L.take k) := by
  unfold ex
  rw [List.take_append, List.take_of_length_le (Nat.le_add_right _ _), Nat.add_sub_cancel_left]
@[simp] theorem ex_take0s (st L : Sto) (b : Nat) (x : Option (List PyData)) : (ex (st.set b x) L).take st.length = st.set b x := by
  have := ex_take0 (st.set b x) L
  rwa [List.length_set] at this
@[simp] theorem ex_takes (st L : Sto) (k b : Nat) (x : Option (List PyData)) : (ex (st.set b x) L).take (st.length + k) = ex (st.set b x) (L.take k) := by
  have := ex_take (st.set b x) L k
  rwa [List.length_set] at this
theorem ex_box {st L : Sto} {b : Nat} (h : b < st.length) (x : Option (List PyData)) : (ex (st.set b x) L)[b]? = some x := by
  simp [ex, List.getElem?_append, h]
theorem ex_setb {st L : Sto} {b : Nat} (h : b < st.length) (x y : Option (List PyData)) : (ex (st.set b x) L).set b y = ex (st.set b y) L := by
  simp [ex, List.set_append, h]
theorem ex_self {st : Sto} {b : Nat} {x : Option (List PyData)} (h : st[b]? = some x) : st.set b x = st := by
  obtain ⟨hb, e⟩ := List.getElem?_eq_some_iff.mp h
  rw [← e]
  simp
/-- loops -/
theorem forL_ind {g : GT} {b : SS} (P : List PyData → Ev → Sto → Prop)
    (h : ∀ x xs ev st, P (x :: xs) ev st → ∃ ev1 ev2 st2, g x ev = some ev1 ∧ b ev1 st = some (.nx ev2 st2) ∧ P xs ev2 st2) :
    ∀ (xs : List PyData) (ev : Ev) (st : Sto), P xs ev st → ∃ ev' st', forL g b xs ev st = some (.nx ev' st') ∧ P [] ev' st'
  | [], ev, st, p => ⟨ev, st, rfl, p⟩
  | x :: xs, ev, st, p => by
    obtain ⟨ev1, ev2, st2, e1, e2, p2⟩ := h x xs ev st p
    obtain ⟨ev', st', e3, p3⟩ := forL_ind P h xs ev2 st2 p2
    exact ⟨ev', st', by simp [forL, e1, e2, e3], p3⟩
theorem lcL_ind {g : GT} {tt : SB} {te : SE} {ev : Ev} (P : List PyData → Sto → List PyData → Prop)
    (h : ∀ x xs st acc, P (x :: xs) st acc → ∃ ev1 p, g x ev = some ev1 ∧ tt ev1 (ex st [some acc]) = some p ∧ ((p.1 = false ∧ ∃ st2, p.2 = ex st2 [some acc] ∧ st2.length = st.length ∧ P xs st2 acc) ∨
      (p.1 = true ∧ ∃ y st2, te ev1 p.2 = some (.d y, ex st2 [some acc]) ∧ st2.length = st.length ∧ acc.length < lim ∧ P xs st2 (acc ++ [y])))) :
    ∀ (xs : List PyData) (st : Sto) (acc : List PyData), P xs st acc → ∃ st' acc', lcL g tt te ev xs st acc = some (acc', st') ∧ P [] st' acc'
  | [], st, acc, p => ⟨st, acc, rfl, p⟩
  | x :: xs, st, acc, p => by
    obtain ⟨ev1, q, e1, e2, c⟩ := h x xs st acc p
    have e2' : tt ev1 (st ++ [some acc]) = some q := e2
    rcases c with ⟨t, st2, e3, hl, p2⟩ | ⟨t, y, st2, e3, hl, ha, p2⟩
    · obtain ⟨st', acc', e4, p4⟩ := lcL_ind P h xs st2 acc p2
      refine ⟨st', acc', ?_, p4⟩
      have g1 : (ex st2 [some acc])[st.length]? = some (some acc) := by rw [← hl, ex_get0]; rfl
      have g2 : (ex st2 [some acc]).take st.length = st2 := by rw [← hl]; simp
      simp [lcL, e1, e2', t, e3, g1, g2, e4]
    · obtain ⟨st', acc', e4, p4⟩ := lcL_ind P h xs st2 (acc ++ [y]) p2
      refine ⟨st', acc', ?_, p4⟩
      have g1 : (ex st2 [some acc])[st.length]? = some (some acc) := by rw [← hl, ex_get0]; rfl
      have g2 : (ex st2 [some acc]).take st.length = st2 := by rw [← hl]; simp
      simp [lcL, e1, e2', t, e3, g1, g2, e4, ha]
/-- a comprehension that reads alone -/
theorem lcL_pure {g : GT} {tt : SB} {te : SE} {ev : Ev} (c : PyData → Bool) (f : PyData → PyData) (st : Sto) :
    ∀ (xs : List PyData) (acc : List PyData), (∀ x ∈ xs, ∀ acc, ∃ ev1, g x ev = some ev1 ∧ tt ev1 (ex st [some acc]) = some (c x, ex st [some acc]) ∧ (c x = true → te ev1 (ex st [some acc]) = some (.d (f x), ex st [some acc]))) →
    acc.length + xs.length ≤ lim → lcL g tt te ev xs st acc = some (acc ++ (xs.filter c).map f, st)
  | [], acc, _, _ => by simp [lcL]
  | x :: xs, acc, h, hl => by
    obtain ⟨ev1, e1, e2, e3⟩ := h x List.mem_cons_self acc
    have e2' : tt ev1 (st ++ [some acc]) = some (c x, ex st [some acc]) := e2
    have g1 : (ex st [some acc])[st.length]? = some (some acc) := by rw [ex_get0]; rfl
    have g2 : (ex st [some acc]).take st.length = st := by simp
    simp only [List.length_cons] at hl
    by_cases t : c x = true
    · have := lcL_pure c f st xs (acc ++ [f x]) (fun y hy => h y (List.mem_cons_of_mem _ hy)) (by simp; omega)
      have ha : acc.length < lim := by omega
      simp [lcL, e1, e2', t, e3 t, g1, g2, ha, this]
    · have := lcL_pure c f st xs acc (fun y hy => h y (List.mem_cons_of_mem _ hy)) (by omega)
      have t' : c x = false := by simpa using t
      simp [lcL, e1, e2', t', g1, g2, this]
@[simp] theorem shaped_int (i : Int) : SeqAt.shaped (.int i) = true := rfl
@[simp] theorem shaped_bool (i : Bool) : SeqAt.shaped (.bool i) = true := rfl
@[simp] theorem shaped_none : SeqAt.shaped .none = true := rfl
@[simp] theorem fEq_int (i j : Int) : fEq (.int i) (.int j) = some (.bool (i == j)) := rfl
@[simp] theorem fNe_int (i j : Int) : fNe (.int i) (.int j) = some (.bool (!(i == j))) := rfl
@[simp] theorem fEq_bool (i j : Bool) : fEq (.bool i) (.bool j) = some (.bool (i == j)) := rfl
@[simp] theorem fNe_bool (i j : Bool) : fNe (.bool i) (.bool j) = some (.bool (!(i == j))) := rfl
@[simp] theorem fIx_list (xs : List PyData) (k : Nat) (h : k < xs.length) : fIx (.list xs) (.int (k : Int)) = some xs[k] := by
  simp [fIx, atI, ixN, h]
@[simp] theorem fIx_tuple (xs : List PyData) (k : Nat) (h : k < xs.length) : fIx (.tuple xs) (.int (k : Int)) = some xs[k] := by
  simp [fIx, atI, ixN, h]
@[simp] theorem big_of {i : Int} (h1 : -4611686018427387904 ≤ i) (h2 : i < 4611686018427387904) : big i = true := by simp [big, h1, h2]
theorem mul_small {a b : Int} (h1 : -18446744073709551616 < b) (h2 : b < 18446744073709551616) : mulOk a b = true := by
  simp [mulOk, p64, h1, h2]
theorem mul_smallL {a b : Int} (h1 : -18446744073709551616 < a) (h2 : a < 18446744073709551616) : mulOk a b = true := by
  simp [mulOk, p64, h1, h2]
/-- a loop over states that are told apart from where the store lies -/
theorem forL_abs {T S : Type} {g : GT} {b : SS} (Θ : T → Prop) (evOf : T → S → Ev) (stOf : T → S → Sto) (P : List PyData → S → Prop)
    (h : ∀ x xs s, P (x :: xs) s → ∃ s', P xs s' ∧ ∀ θ, Θ θ → ∃ ev1, g x (evOf θ s) = some ev1 ∧ b ev1 (stOf θ s) = some (.nx (evOf θ s') (stOf θ s'))) :
    ∀ (xs : List PyData) (s : S), P xs s → ∃ s', P [] s' ∧ ∀ θ, Θ θ → forL g b xs (evOf θ s) (stOf θ s) = some (.nx (evOf θ s') (stOf θ s'))
  | [], s, p => ⟨s, p, fun θ _ => rfl⟩
  | x :: xs, s, p => by
    obtain ⟨s1, p1, e1⟩ := h x xs s p
    obtain ⟨s2, p2, e2⟩ := forL_abs Θ evOf stOf P h xs s1 p1
    refine ⟨s2, p2, fun θ t => ?_⟩
    obtain ⟨ev1, a1, a2⟩ := e1 θ t
    simp [forL, a1, a2, e2 θ t]
theorem lcL_abs {T S : Type} {g : GT} {te : SE} (Θ : T → Prop) (evOf : T → Ev) (stOf : T → S → Sto) (hl : ∀ θ s s', (stOf θ s).length = (stOf θ s').length) (P : List PyData → S → List PyData → Prop)
    (h : ∀ x xs s acc, P (x :: xs) s acc → ∃ y s', P xs s' (acc ++ [y]) ∧ acc.length < lim ∧ ∀ θ, Θ θ → ∃ ev1, g x (evOf θ) = some ev1 ∧ te ev1 (ex (stOf θ s) [some acc]) = some (.d y, ex (stOf θ s') [some acc])) :
    ∀ (xs : List PyData) (s : S) (acc : List PyData), P xs s acc → ∃ s' acc', P [] s' acc' ∧ ∀ θ, Θ θ → lcL g bYes te (evOf θ) xs (stOf θ s) acc = some (acc', stOf θ s')
  | [], s, acc, p => ⟨s, acc, p, fun θ _ => rfl⟩
  | x :: xs, s, acc, p => by
    obtain ⟨y, s1, p1, ha, e1⟩ := h x xs s acc p
    obtain ⟨s2, acc2, p2, e2⟩ := lcL_abs Θ evOf stOf hl P h xs s1 (acc ++ [y]) p1
    refine ⟨s2, acc2, p2, fun θ t => ?_⟩
    obtain ⟨ev1, a1, a2⟩ := e1 θ t
    have a2' : te ev1 (stOf θ s ++ [some acc]) = some (.d y, ex (stOf θ s1) [some acc]) := a2
    have g1 : (ex (stOf θ s1) [some acc])[(stOf θ s).length]? = some (some acc) := by rw [hl θ s s1, ex_get0]; rfl
    have g2 : (ex (stOf θ s1) [some acc]).take (stOf θ s).length = stOf θ s1 := by rw [hl θ s s1]; simp
    simp [lcL, bYes, a1, a2', g1, g2, ha, e2 θ t]
@[simp] theorem rangeD_len (a : Int) (n : Nat) : (rangeD a n).length = n := by simp [rangeD]
theorem rangeD_mem {a : Int} {n : Nat} {x : PyData} : x ∈ rangeD a n ↔ ∃ k : Nat, k < n ∧ x = .int (a + k) := by
  unfold rangeD
  simp only [List.mem_map, List.mem_range]
  constructor
  · rintro ⟨k, h, e⟩; exact ⟨k, h, e.symm⟩
  · rintro ⟨k, h, e⟩; exact ⟨k, h, e.symm⟩
@[simp] theorem fPow_i (a b : Int) : fPow (.int a) (.int b) = if 0 ≤ b ∧ b ≤ 1000000 ∧ a.natAbs < 18446744073709551616 then some (.int (a ^ b.toNat)) else none := rfl
@[simp] theorem lim_eq : lim = 1000000 := rfl
end Cm

set_option Elab.async false
set_option linter.all false
set_option maxRecDepth 100000
set_option maxHeartbeats 1000000
/-! more rules: list + list to be changed, three plain names, slices from behind -/
namespace Cm
open PySem PySem.Spec PyProof.Rows L2
def cAddM (a b : SE) : SE := fun ev st => (a ev st).bind fun p => (b ev p.2).bind fun q => (rdS q.2 p.1).bind fun x => (rdS q.2 q.1).bind fun y => match x, y with
  | .list xs, .list ys => if xs.length + ys.length ≤ lim then some (.l q.2.length, q.2 ++ [some (xs ++ ys)]) else none
  | _, _ => none
def cSlM (a : SE) (lo hi : SO) : SE := fun ev st => (a ev st).bind fun p => (lo ev p.2).bind fun q => (hi ev q.2).bind fun r => (rd r.2 p.1).bind fun x => match x with
  | .list xs => some (.l r.2.length, r.2 ++ [some (cutD xs q.1 r.1)])
  | _ => none
def fRev : PyData → Option PyData
  | .list xs => some (.list xs.reverse)
  | _ => none
def cRevM (a : SE) : SE := fun ev st => (a ev st).bind fun p => (rd p.2 p.1).bind fun x => match x with
  | .list xs => some (.l p.2.length, p.2 ++ [some xs.reverse])
  | _ => none
section
variable {X : Cx} {a b : Expr} {ca cb : SE} {pos : Pos}
theorem se_addM (ha : PE X a (tI X.K ca)) (hb : PE X b (tI X.K cb)) : PE X (.BinOp a .Add b pos) (tI X.K (cAddM ca cb)) :=
  (pe_op op_cat ha hb).weak fun σ H Q ⟨ρ, F, ev, st, w, st', hr, sr, e, post⟩ => by
    simp only [cAddM, Option.bind_eq_some_iff] at e
    obtain ⟨⟨w1, st1⟩, e1, ⟨w2, st2⟩, e2, x, e3, y, e4, e5⟩ := e
    refine ⟨ρ, F, ev, st, w1, st1, hr, sr, e1, fun v1 ρ1 F1 H1 x1 hr1 wr1 => ⟨ρ1, F1, ev, st1, w2, st2, hr1, sr.mono x1, e2, fun v2 ρ2 F2 H2 x2 hr2 wr2 => ?_⟩⟩
    have rx := rdS_ok hr2 (wr1.mono x2) e3
    have ry := rdS_ok hr2 wr2 e4
    split at e5
    · split at e5
      · rename_i hl
        cases e5
        obtain ⟨a, vs, rfl, h1, d1⟩ := rx.list hr2.sub
        obtain ⟨b, us, rfl, h2, d2⟩ := ry.list hr2.sub
        exact ⟨a, b, vs, us, rfl, rfl, h1, h2, by rw [d1.length, d2.length]; exact lim_le hl, fun p np => post _ _ _ _ ((x1.trans x2).trans (.push p)) (hr2.push np (d1.append d2)) (.pushed hr2)⟩
      · cases e5
    · cases e5
theorem se_slM {lo hi : Option Expr} {cl ch : SO} {p2 : Pos} (ha : PE X a (tI X.K ca)) (hl : PO X lo (tO X.K cl)) (hh : PO X hi (tO X.K ch)) : PE X (.Subscript a (.Slice lo hi none p2) pos) (tI X.K (cSlM ca cl ch)) :=
  (pe_slice sl_list ha hl hh).weak fun σ H Q ⟨ρ, F, ev, st, w, st', hr, sr, e, post⟩ => by
    simp only [cSlM, Option.bind_eq_some_iff] at e
    obtain ⟨⟨w1, st1⟩, e1, ⟨i, st2⟩, e2, ⟨j, st3⟩, e3, x, e4, e5⟩ := e
    refine ⟨ρ, F, ev, st, w1, st1, hr, sr, e1, fun v1 ρ1 F1 H1 x1 hr1 wr1 => ⟨ρ1, F1, ev, st1, i, st2, hr1, sr.mono x1, e2, fun ρ2 F2 H2 x2 hr2 => ⟨ρ2, F2, ev, st2, j, st3, hr2, (sr.mono x1).mono x2, e3, fun ρ3 F3 H3 x3 hr3 => ?_⟩⟩⟩
    have rr : Rdd X.K F3 H3 v1 x := rd_ok hr3 ((wr1.mono x2).mono x3) e4
    split at e5
    · cases e5
      obtain ⟨a, vs, rfl, h, d⟩ := rr.list hr3.sub
      exact ⟨a, vs, rfl, h, fun p np => post _ _ _ _ (((x1.trans x2).trans x3).trans (.push p)) (hr3.push np (d.cut _ _)) (.pushed hr3)⟩
    · cases e5
theorem se_rev {k : Nat} {p1 p2 p3 : Pos} (ha : PE X a (tI X.K ca)) : PE X (.Subscript a (.Slice none none (some (.UnaryOp .USub (.Constant (.int 1) k p1) p2)) p3) pos) (tI X.K (cD1 fRev ca)) :=
  (pe_revL ha).weak fun σ H Q ⟨ρ, F, ev, st, w, st', hr, sr, e, post⟩ => by
    simp only [cD1, Option.bind_eq_some_iff, Option.map_eq_some_iff] at e
    obtain ⟨⟨w1, st1⟩, e1, x, e3, z, e5, e6⟩ := e
    cases e6
    refine ⟨ρ, F, ev, st, w1, st1, hr, sr, e1, fun v1 ρ1 F1 H1 x1 hr1 wr1 => ?_⟩
    have rr : Rdd X.K F1 H1 v1 x := rd_ok hr1 wr1 e3
    have q : Rep F1 H1 z Q := post.grow x1 hr1
    unfold fRev at e5
    split at e5
    · cases e5
      obtain ⟨a, vs, rfl, h, d⟩ := rr.list hr1.sub
      exact ⟨a, vs, rfl, h, fun p np => q.lst hr1.sub d.reverse p np⟩
    · cases e5
theorem se_revM {k : Nat} {p1 p2 p3 : Pos} (ha : PE X a (tI X.K ca)) : PE X (.Subscript a (.Slice none none (some (.UnaryOp .USub (.Constant (.int 1) k p1) p2)) p3) pos) (tI X.K (cRevM ca)) :=
  (pe_revL ha).weak fun σ H Q ⟨ρ, F, ev, st, w, st', hr, sr, e, post⟩ => by
    simp only [cRevM, Option.bind_eq_some_iff] at e
    obtain ⟨⟨w1, st1⟩, e1, x, e3, e5⟩ := e
    refine ⟨ρ, F, ev, st, w1, st1, hr, sr, e1, fun v1 ρ1 F1 H1 x1 hr1 wr1 => ?_⟩
    have rr : Rdd X.K F1 H1 v1 x := rd_ok hr1 wr1 e3
    split at e5
    · cases e5
      obtain ⟨a, vs, rfl, h, d⟩ := rr.list hr1.sub
      exact ⟨a, vs, rfl, h, fun p np => post _ _ _ _ (x1.trans (.push p)) (hr1.push np d.reverse) (.pushed hr1)⟩
    · cases e5
theorem s_par3 {i j l : Nat} {x y z : Str} {a b c : Expr} {sa : SA} {px py pz pt : Pos} {kt k2 pt2} (hc : X.calm = true) (hN : X.N.Nodup) (hi : X.N[i]? = some x) (hj : X.N[j]? = some y) (hl : X.N[l]? = some z) (hij : i ≠ j) (hil : i ≠ l) (hjl : j ≠ l)
    (hx : X.env.scope.names.lookup x = some .local) (hy : X.env.scope.names.lookup y = some .local) (hz : X.env.scope.names.lookup z = some .local) (ha : PA X [a, b, c] (tA X.K sa))
    (hw : Swaps X (.Tuple [.Name x px, .Name y py, .Name z pz] kt pt) (.Tuple [a, b, c] k2 pt2) (some [x, y, z])) (hs : NoSole X (.Tuple [.Name x px, .Name y py, .Name z pz] kt pt) (.Tuple [a, b, c] k2 pt2) pos := by rfl) :
    PS X (.Assign [.Tuple [.Name x px, .Name y py, .Name z pz] kt pt] (.Tuple [a, b, c] k2 pt2) pos) (tSS X.K (cParN [i, j, l] sa)) := (ps_par3 hc hN hi hj hl hij hil hjl hx hy hz ha hw hs).weak fun D σ H ⟨ρ, F, ev, st, o, hr, sr, e, ok⟩ => by
  simp only [cParN, Option.bind_eq_some_iff] at e
  obtain ⟨⟨ws, st'⟩, e1, e2⟩ := e
  split at e2
  · rename_i hlw
    cases e2
    refine ⟨ρ, F, ev, st, ws, st', hr, sr, e1, fun vs ρ' F' H' x hr' wr => ?_⟩
    cases wr with
    | nil => cases hlw
    | cons w1 t =>
      cases t with
      | nil => cases hlw
      | cons w2 t =>
        cases t with
        | nil => cases hlw
        | cons w3 t =>
          cases t with
          | nil => exact ⟨_, _, _, rfl, ok _ ρ' F' H' x hr' ((((sr.mono x).set w1 i).set w2 j).set w3 l)⟩
          | cons w4 t => simp at hlw
  · cases e2
end
def addMc (s : Sto) : PyData → PyData → Option VS
  | .list xs, .list ys => if xs.length + ys.length ≤ lim then some (.l s.length, s ++ [some (xs ++ ys)]) else none
  | _, _ => none
@[simp] theorem addMc_l (s : Sto) (xs ys : List PyData) : addMc s (.list xs) (.list ys) = if xs.length + ys.length ≤ lim then some (.l s.length, s ++ [some (xs ++ ys)]) else none := rfl
def addMd (s : Sto) (y : Option PyData) (x : PyData) : Option VS := y.bind (addMc s x)
@[simp] theorem addMd_s (s : Sto) (y x : PyData) : addMd s (some y) x = addMc s x y := rfl
def addMb (u : U) : VS → Option VS := fun q => (rdS q.2 u).bind (addMd q.2 (rdS q.2 q.1))
@[simp] theorem addMb_ap (u v : U) (s : Sto) : addMb u (v, s) = (rdS s u).bind (addMd s (rdS s v)) := rfl
def addMa (b : SE) (ev : Ev) : VS → Option VS := fun p => (b ev p.2).bind (addMb p.1)
@[simp] theorem addMa_ap (b : SE) (ev : Ev) (u : U) (s : Sto) : addMa b ev (u, s) = (b ev s).bind (addMb u) := rfl
@[simp] theorem cAddM_ap (a b : SE) (ev : Ev) (st : Sto) : cAddM a b ev st = (a ev st).bind (addMa b ev) := by
  unfold cAddM addMa addMb addMd
  congr
def revMb (s : Sto) : PyData → Option VS
  | .list xs => some (.l s.length, s ++ [some xs.reverse])
  | _ => none
@[simp] theorem revMb_l (s : Sto) (xs : List PyData) : revMb s (.list xs) = some (.l s.length, s ++ [some xs.reverse]) := rfl
def revMa : VS → Option VS := fun p => (rd p.2 p.1).bind (revMb p.2)
@[simp] theorem revMa_ap (u : U) (s : Sto) : revMa (u, s) = (rd s u).bind (revMb s) := rfl
@[simp] theorem cRevM_ap (a : SE) (ev : Ev) (st : Sto) : cRevM a ev st = (a ev st).bind revMa := by
  unfold cRevM revMa
  congr
@[simp] theorem fRev_l (xs : List PyData) : fRev (.list xs) = some (.list xs.reverse) := rfl
def slMc (s : Sto) (lo hi : Option Int) : PyData → Option VS
  | .list xs => some (.l s.length, s ++ [some (cutD xs lo hi)])
  | _ => none
@[simp] theorem slMc_l (s : Sto) (lo hi : Option Int) (xs : List PyData) : slMc s lo hi (.list xs) = some (.l s.length, s ++ [some (cutD xs lo hi)]) := rfl
def slMb (u : U) (lo : Option Int) : Option Int × Sto → Option VS := fun r => (rd r.2 u).bind (slMc r.2 lo r.1)
@[simp] theorem slMb_ap (u : U) (lo hi : Option Int) (s : Sto) : slMb u lo (hi, s) = (rd s u).bind (slMc s lo hi) := rfl
def slMa2 (u : U) (hi : SO) (ev : Ev) : Option Int × Sto → Option VS := fun q => (hi ev q.2).bind (slMb u q.1)
@[simp] theorem slMa2_ap (u : U) (hi : SO) (ev : Ev) (lo : Option Int) (s : Sto) : slMa2 u hi ev (lo, s) = (hi ev s).bind (slMb u lo) := rfl
def slMa (lo hi : SO) (ev : Ev) : VS → Option VS := fun p => (lo ev p.2).bind (slMa2 p.1 hi ev)
@[simp] theorem slMa_ap (lo hi : SO) (ev : Ev) (u : U) (s : Sto) : slMa lo hi ev (u, s) = (lo ev s).bind (slMa2 u hi ev) := rfl
@[simp] theorem cSlM_ap (a : SE) (lo hi : SO) (ev : Ev) (st : Sto) : cSlM a lo hi ev st = (a ev st).bind (slMa lo hi ev) := by
  unfold cSlM slMa slMa2 slMb
  congr
def frzb (i : Nat) (s : SS) (ev : Ev) (st : Sto) (n : Nat) : Option (Option (List PyData)) → Option Out
  | some (some xs) => s (ev.set i (some (.d (.list xs)))) (st.set n none)
  | _ => none
@[simp] theorem frzb_s (i : Nat) (s : SS) (ev : Ev) (st : Sto) (n : Nat) (xs : List PyData) : frzb i s ev st n (some (some xs)) = s (ev.set i (some (.d (.list xs)))) (st.set n none) := rfl
def frza (i : Nat) (s : SS) (ev : Ev) (st : Sto) : Option (Option U) → Option Out
  | some (some (.l n)) => frzb i s ev st n st[n]?
  | _ => none
@[simp] theorem frza_s (i : Nat) (s : SS) (ev : Ev) (st : Sto) (n : Nat) : frza i s ev st (some (some (.l n))) = frzb i s ev st n st[n]? := rfl
@[simp] theorem cFreeze_ap (i : Nat) (s : SS) (ev : Ev) (st : Sto) : cFreeze i s ev st = frza i s ev st ev[i]? := by
  unfold cFreeze
  rcases ev[i]? with _ | _ | w
  · rfl
  · rfl
  · rcases w with x | n | ns | kd | on | pn | qn; rotate_left 4
    · rfl
    · rfl
    · rfl
    · rfl
    · show (freeze st n).bind _ = frzb i s ev st n st[n]?
      unfold freeze
      rcases st[n]? with _ | _ | xs <;> rfl
    · rfl
    · rfl
def chc (g : PyData → PyData → Option PyData) (c : SE) (ev : Ev) (q : VS) : PyData → Option VS
  | .bool true => (c ev q.2).bind (d2b g q.1)
  | .bool false => some (.d (.bool false), q.2)
  | _ => none
@[simp] theorem chc_b (g : PyData → PyData → Option PyData) (c : SE) (ev : Ev) (u : U) (s : Sto) (t : Bool) : chc g c ev (u, s) (.bool t) = if t then (c ev s).bind (d2b g u) else some (.d (.bool false), s) := by cases t <;> rfl
def chb (f g : PyData → PyData → Option PyData) (c : SE) (ev : Ev) (u : U) : VS → Option VS := fun q => ((rd q.2 u).bind (d2c f (rd q.2 q.1))).bind (chc g c ev q)
@[simp] theorem chb_ap (f g : PyData → PyData → Option PyData) (c : SE) (ev : Ev) (u v : U) (s : Sto) : chb f g c ev u (v, s) = ((rd s u).bind (d2c f (rd s v))).bind (chc g c ev (v, s)) := rfl
def cha (f g : PyData → PyData → Option PyData) (b c : SE) (ev : Ev) : VS → Option VS := fun p => (b ev p.2).bind (chb f g c ev p.1)
@[simp] theorem cha_ap (f g : PyData → PyData → Option PyData) (b c : SE) (ev : Ev) (u : U) (s : Sto) : cha f g b c ev (u, s) = (b ev s).bind (chb f g c ev u) := rfl
@[simp] theorem cChain_ap (f g : PyData → PyData → Option PyData) (a b c : SE) (ev : Ev) (st : Sto) : cChain f g a b c ev st = (a ev st).bind (cha f g b c ev) := by
  unfold cChain
  congr; funext p
  show (b ev p.2).bind _ = (b ev p.2).bind _
  congr; funext q
  unfold chb d2c
  cases rd q.2 p.1 with
  | none => rfl
  | some x =>
    cases rd q.2 q.1 with
    | none => rfl
    | some y =>
      show (f x y).bind _ = (f x y).bind _
      congr; funext z
      cases z with
      | bool t =>
        cases t with
        | false => rfl
        | true =>
          show (c ev q.2).bind _ = (c ev q.2).bind (d2b g q.1)
          congr; funext r
          unfold d2b d2c
          cases rd r.2 q.1 with
          | none => rfl
          | some x =>
            cases rd r.2 r.1 with
            | none => rfl
            | some y => exact toD_eq _ _
      | _ => rfl
theorem fIn_ints (n : Int) (ns : List Int) : fIn (.int n) (.tuple (ns.map .int)) = some (.bool (ns.contains n)) := by
  have h1 : (ns.map PyData.int).all flatD = true := by simp [flatD]
  have h2 : hasD (ns.map .int) (.int n) = ns.contains n := by
    clear h1
    induction ns with
    | nil => rfl
    | cons z zs ih =>
      have e : hasD ((z :: zs).map .int) (.int n) = ((z == n) || hasD (zs.map .int) (.int n)) := rfl
      rw [e, ih, List.contains_cons, BEq.comm]
  simp only [fIn, h1, h2, flatD, Bool.and_self, if_true]
@[simp] theorem fIs_b (a b : Bool) : fIs (.bool a) (.bool b) = some (.bool (decide (a = b))) := rfl
@[simp] theorem fIsNot_b (a b : Bool) : fIsNot (.bool a) (.bool b) = some (.bool (!decide (a = b))) := rfl
end Cm

set_option Elab.async false
set_option linter.all false
set_option maxRecDepth 100000
set_option maxHeartbeats 1000000
/-! a comprehension with two fors; tuples from behind -/
namespace Cm
open PySem PySem.Spec PyProof.Rows L2
def lcL2 (g : GT) (ct : SB) (ci1 : SI) (g1 : GT) (ct1 : SB) (ce : SE) (vs1 : List Nat) (ev : Ev) : List PyData → Sto → List PyData → Option (List PyData × Sto)
  | [], st, acc => some (acc, st)
  | x :: xs, st, acc => (g x ev).bind fun ev1 => (ct ev1 (st ++ [some acc])).bind fun p =>
    if p.1 then (ci1 ev1 p.2).bind fun q => match q.1, q.2[st.length]? with
      | .fix ys, some (some acc') => (lcL g1 ct1 ce (wipeE ev1 vs1) ys (q.2.take st.length) acc').bind fun r => lcL2 g ct ci1 g1 ct1 ce vs1 ev xs r.2 r.1
      | _, _ => none
    else match p.2[st.length]? with
      | some (some acc') => lcL2 g ct ci1 g1 ct1 ce vs1 ev xs (p.2.take st.length) acc'
      | _ => none
def lcR2 (ci : SI) (g : GT) (ct : SB) (ci1 : SI) (g1 : GT) (ct1 : SB) (ce : SE) (vs vs1 : List Nat) (ev : Ev) (st : Sto) : Option (List PyData × Sto) := (ci ev st).bind fun p => match p.1 with
  | .fix xs => lcL2 g ct ci1 g1 ct1 ce vs1 (wipeE ev vs) xs p.2 []
  | .cell _ => none
def cLc2 (ci : SI) (g : GT) (ct : SB) (ci1 : SI) (g1 : GT) (ct1 : SB) (ce : SE) (vs vs1 : List Nat) : SE := fun ev st => (lcR2 ci g ct ci1 g1 ct1 ce vs vs1 ev st).map fun p => (.d (.list p.1), p.2)
section
variable {ci ci1 : SI} {g g1 : GT} {ct ct1 : SB} {ce : SE} {vs vs1 : List Nat}
theorem lc2_ok {K : PySem.W.Frag} {σ : L2.St} {H : Hp} {Q : VK} {ρ : Rho} {F : Hp} {ev : Ev} {st : Sto} {r : List PyData × Sto} (hr : HR ρ F H st) (sr : SR K ρ F ev σ) (e : lcR2 ci g ct ci1 g1 ct1 ce vs vs1 ev st = some r)
    (fin : ∀ D ρ' F' H', Ext ρ F ρ' F' → ρ'.length = r.2.length → Tri ρ' ρ'.length → HR (ρ' ++ [(D, 0)]) F' H' (r.2 ++ [some r.1]) → Q (.ref D) H') : tLc2 (tIt K ci) (tG K vs g) (tT K ct) (tIt K ci1) (tG K vs1 g1) (tT K ct1) (tI K ce) vs vs1 σ H Q := by
  simp only [lcR2, Option.bind_eq_some_iff] at e
  obtain ⟨⟨src, st1⟩, e1, e2⟩ := e
  refine ⟨ρ, F, ev, st, src, st1, hr, sr, e1, fun J ρ1 F1 H1 x1 hr1 y D nD => ?_⟩
  have srw : ∀ {ρ2 : Rho} {F2 : Hp}, Ext ρ1 F1 ρ2 F2 → SR K ρ2 F2 (wipeE ev vs) (L2.wipe σ vs) := fun x2 => (((sr.mono x1).mono x2).wipe vs)
  have hwipe : ∀ τ : L2.St, L2.wipe (L2.wipe τ vs) vs = L2.wipe τ vs := fun τ => by
    apply List.ext_getElem?
    intro j
    by_cases hj : j ∈ vs
    · by_cases hlj : j < τ.length
      · rw [wipe_in hj (by rw [wipe_length]; exact hlj), wipe_in hj hlj]
      · rw [List.getElem?_eq_none (by rw [wipe_length, wipe_length]; omega), List.getElem?_eq_none (by rw [wipe_length]; omega)]
    · rw [wipe_out hj]
  cases src with
  | cell n => cases e2
  | fix xs =>
    refine ⟨fun i m H => m = xs.length - i ∧ i ≤ xs.length ∧ ∃ ρ2 F2 st2 acc, Ext ρ1 F1 ρ2 F2 ∧ (ρ2.length = st2.length ∧ ρ2.length = ρ1.length) ∧ HR (ρ2 ++ [(D, 0)]) F2 H (st2 ++ [some acc]) ∧ lcL2 g ct ci1 g1 ct1 ce vs1 (wipeE ev vs) (xs.drop i) st2 acc = some r,
      ⟨xs.length, rfl, Nat.zero_le _, ρ1, F1, st1, [], .refl _ _, ⟨hr1.len, rfl⟩, hr1.push nD .nil, e2⟩, ?_⟩
    rintro i m H2 ⟨rfl, hi, ρ2, F2, st2, acc, x2, hl2, hr2, e3⟩
    obtain ⟨yg, ys⟩ := y F2 H2 (sameD x2.same) hr2.sub
    by_cases hlt : i < xs.length
    · rw [List.drop_eq_getElem_cons hlt] at e3
      simp only [lcL2, Option.bind_eq_some_iff] at e3
      obtain ⟨ev1, e4, p, e5, e6⟩ := e3
      obtain ⟨go, yl⟩ := yg i xs[i] (List.getElem?_eq_getElem hlt)
      refine .inr ⟨go, fun H => ∃ ρ2 F2 st2 acc, Ext ρ1 F1 ρ2 F2 ∧ (ρ2.length = st2.length ∧ ρ2.length = ρ1.length) ∧ HR (ρ2 ++ [(D, 0)]) F2 H (st2 ++ [some acc]) ∧ lcL2 g ct ci1 g1 ct1 ce vs1 (wipeE ev vs) (xs.drop (i + 1)) st2 acc = some r, fun H' w => ⟨xs.length - (i + 1), by omega, rfl, hlt, w⟩, fun v H3 yv => ?_⟩
      obtain ⟨F3, gr, d⟩ := yl v H3 yv
      have x3 : Ext ρ2 F2 ρ2 F3 := .of gr
      have hr3 := hr2.grow gr
      refine ⟨ρ2, F3, _, xs[i], ev1, hr3.sub, srw (x2.trans x3), d, e4, fun σ2 sr2 w2 => ⟨w2.trans (hwipe σ), ?_⟩⟩
      have xp : Ext ρ2 F3 (ρ2 ++ [(D, 0)]) F3 := .push D
      refine ⟨ρ2 ++ [(D, 0)], F3, ev1, st2 ++ [some acc], p.1, p.2, hr3, sr2.mono xp, e5, fun ρ4 F4 H4 x4 hr4 => ?_⟩
      cases hb : p.1 with
      | false =>
        rw [hb] at e6
        simp only [Bool.false_eq_true, if_false] at e6 ⊢
        split at e6
        · rename_i acc' k2
          obtain ⟨hD, us, h1, h2⟩ := HR.lcNext (acc := acc) hl2.1 x4 hr4 k2
          refine ⟨ρ4.take st2.length, F4, p.2.take st2.length, acc', (x2.trans x3).trans (by rw [← hl2.1]; exact x4.unpush), ?_, ?_, e6⟩
          · rw [length_take_of hD, length_take_of k2]
            exact ⟨rfl, hl2.1.symm.trans hl2.2⟩
          · rw [← take_get hD, ← take_get k2]
            exact hr4.take _ (x4.tri hr3.obj (by simp [hl2.1]))
        · cases e6
      | true =>
        rw [hb] at e6
        simp only [if_true, Option.bind_eq_some_iff] at e6 ⊢
        obtain ⟨⟨src1, st5⟩, e7, e8⟩ := e6
        split at e8
        · rename_i ys1 acc' k1 k2
          simp only at k1 k2
          subst k1
          obtain ⟨r1, e9, e10⟩ := Option.bind_eq_some_iff.mp e8
          refine ⟨ρ4, F4, ev1, p.2, .fix ys1, st5, hr4, (sr2.mono xp).mono x4, e7, fun J1 ρ5 F5 H5 x5 hr5 y1 => ?_⟩
          obtain ⟨hD, us, h1, h2⟩ := HR.lcNext (acc := acc) hl2.1 (x4.trans x5) hr5 k2
          have x5' : Ext ρ2 F3 (ρ5.take st2.length) F5 := by rw [← hl2.1]; exact (x4.trans x5).unpush
          refine ⟨fun j k H => k = ys1.length - j ∧ j ≤ ys1.length ∧ ∃ ρ6 F6 st6 acc6, Ext (ρ5.take st2.length) F5 ρ6 F6 ∧ (ρ6.length = st6.length ∧ ρ6.length = ρ1.length) ∧ HR (ρ6 ++ [(D, 0)]) F6 H (st6 ++ [some acc6]) ∧ lcL g1 ct1 ce (wipeE ev1 vs1) (ys1.drop j) st6 acc6 = some r1,
            ⟨ys1.length, rfl, Nat.zero_le _, ρ5.take st2.length, F5, st5.take st2.length, acc', .refl _ _, by rw [length_take_of hD, length_take_of k2]; exact ⟨rfl, hl2.1.symm.trans hl2.2⟩, by rw [← take_get hD, ← take_get k2]; exact hr5.take _ ((x4.trans x5).tri hr3.obj (by simp [hl2.1])), e9⟩, ?_⟩
          rintro j k H6 ⟨rfl, hj, ρ6, F6, st6, acc6, x6, hl6, hr6, e11⟩
          obtain ⟨yg1, ys2⟩ := y1 F6 H6 (sameD x6.same) hr6.sub
          by_cases hltj : j < ys1.length
          · rw [List.drop_eq_getElem_cons hltj] at e11
            simp only [lcL, Option.bind_eq_some_iff] at e11
            obtain ⟨ev2, e12, p2, e13, e14⟩ := e11
            obtain ⟨go1, yl1⟩ := yg1 j ys1[j] (List.getElem?_eq_getElem hltj)
            refine .inr ⟨go1, fun H => ∃ ρ6 F6 st6 acc6, Ext (ρ5.take st2.length) F5 ρ6 F6 ∧ (ρ6.length = st6.length ∧ ρ6.length = ρ1.length) ∧ HR (ρ6 ++ [(D, 0)]) F6 H (st6 ++ [some acc6]) ∧ lcL g1 ct1 ce (wipeE ev1 vs1) (ys1.drop (j + 1)) st6 acc6 = some r1, fun H' w => ⟨ys1.length - (j + 1), by omega, rfl, hltj, w⟩, fun v1 H7 yv1 => ?_⟩
            obtain ⟨F7, gr7, d7⟩ := yl1 v1 H7 yv1
            have x7 : Ext ρ6 F6 ρ6 F7 := .of gr7
            refine lc_turn (R := fun acc st => lcL g1 ct1 ce (wipeE ev1 vs1) (ys1.drop (j + 1)) st acc = some r1) hl6.1 (hr6.grow gr7) ((sr2.mono ((x5'.trans x6).trans x7)).wipe vs1) d7 e12 e13 ?_ fun ρ8 F8 H8 st8 acc8 x8 hl8 hr8 e15 => ⟨ρ8, F8, st8, acc8, (x6.trans x7).trans x8, ⟨hl8.1, hl8.2.trans hl6.2⟩, hr8, e15⟩
            split at e14
            · rename_i hp
              rw [if_pos hp]
              simp only [Option.bind_eq_some_iff] at e14
              obtain ⟨q, e16, e17⟩ := e14
              split at e17
              · rename_i y2 acc9 k3 k4
                split at e17
                · rename_i hlm
                  exact ⟨q, y2, acc9, e16, k3, k4, hlm, e17⟩
                · cases e17
              · cases e17
            · rename_i hp
              rw [if_neg hp]
              split at e14
              · rename_i acc9 k4
                exact ⟨acc9, k4, e14⟩
              · cases e14
          · have hx : j = ys1.length := by omega
            subst hx
            rw [List.drop_length] at e11
            cases e11
            exact .inl ⟨ys2, ρ6, F6, st6, acc6, (x2.trans x3).trans (x5'.trans x6), hl6, hr6, e10⟩
        · cases e8
    · have hx : i = xs.length := by omega
      subst hx
      rw [List.drop_length] at e3
      cases e3
      exact .inl ⟨ys, fin D ρ2 F2 H2 (x1.trans x2) hl2.1 (x2.tri hr1.obj hl2.2) hr2⟩
theorem lc2D_ok {K : PySem.W.Frag} {σ : L2.St} {H : Hp} {Q : VK} (h : tI K (cLc2 ci g ct ci1 g1 ct1 ce vs vs1) σ H Q) : tLc2 (tIt K ci) (tG K vs g) (tT K ct) (tIt K ci1) (tG K vs1 g1) (tT K ct1) (tI K ce) vs vs1 σ H Q := by
  obtain ⟨ρ, F, ev, st, w, st', hr, sr, e, post⟩ := h
  simp only [cLc2, Option.map_eq_some_iff] at e
  obtain ⟨⟨xs, st1⟩, e1, e2⟩ := e
  cases e2
  refine lc2_ok hr sr e1 fun D ρ' F' H' x hl tr hr' => ?_
  replace hl : ρ'.length = st1.length := hl
  have e3 : (st1 ++ [some xs])[st1.length]? = some (some xs) := by simp
  obtain ⟨a, vs, h1, h2, h3, h4, h5⟩ := hr'.freeze e3
  have ha : a = D := by
    exact h1.last hl.symm
  subst ha
  have t := h5.take st1.length (tr.push hl.symm)
  have e4 : (ρ' ++ [(a, 0)]).take st1.length = ρ' := by rw [List.take_append_of_le_length (by omega), List.take_of_length_le (by omega)]
  have e5 : ((st1 ++ [some xs]).set st1.length none).take st1.length = st1 := by
    rw [List.take_set_of_le (Nat.le_refl _), List.take_append_of_le_length (Nat.le_refl _), List.take_length]
  rw [e4, e5] at t
  exact post _ ρ' _ H' (x.trans (.upd h2)) t (.lst upd_same (h4.mono (same_upd h2)))
end
theorem se_lc2 {X : Cx} {elt tg iter tg1 iter1 : Expr} {ifs ifs1 : List Expr} {scope : Scope} {own : List (Str × Nat)} {pos : Pos} {ci ci1 : SI} {g g1 : GT} {ct ct1 : SB} {ce : SE} {vs1 : List Nat} (hc : X.calm = true) (hN : X.N.Nodup) (hi : PI X tg iter (tIt X.K ci)) (ok : BlkOk X.N X.env.scope scope own) (hv : ∀ i ∈ vs1, i ∈ own.map (·.2))
    (hg : ∀ (s : Shared) (H : Hp) (C : Addr) (cl : List (Str × Addr)) (fp : List Addr), PG (X.blk s H scope (compEnvC scope cl C X.env) fp) tg (tG X.K (own.map (·.2)) g)) (ht : ∀ (s : Shared) (H : Hp) (C : Addr) (cl : List (Str × Addr)) (fp : List Addr), PTs (X.blk s H scope (compEnvC scope cl C X.env) fp) ifs (tT X.K ct))
    (hi1 : ∀ (s : Shared) (H : Hp) (C : Addr) (cl : List (Str × Addr)) (fp : List Addr), PI (X.blk s H scope (compEnvC scope cl C X.env) fp) tg1 iter1 (tIt X.K ci1))
    (hg1 : ∀ (s : Shared) (H : Hp) (C : Addr) (cl : List (Str × Addr)) (fp : List Addr), PG (X.blk s H scope (compEnvC scope cl C X.env) fp) tg1 (tG X.K vs1 g1)) (ht1 : ∀ (s : Shared) (H : Hp) (C : Addr) (cl : List (Str × Addr)) (fp : List Addr), PTs (X.blk s H scope (compEnvC scope cl C X.env) fp) ifs1 (tT X.K ct1))
    (he : ∀ (s : Shared) (H : Hp) (C : Addr) (cl : List (Str × Addr)) (fp : List Addr), PE (X.blk s H scope (compEnvC scope cl C X.env) fp) elt (tI X.K ce)) (hs : ∀ x, foldedSetIterable iter X.env x = pure x := by exact fun _ => rfl) (hs1 : ∀ env x, foldedSetIterable iter1 env x = pure x := by exact fun _ _ => rfl) :
    PE X (.ListComp elt [⟨tg, iter, ifs, 0⟩, ⟨tg1, iter1, ifs1, 0⟩] scope pos) (tI X.K (cLc2 ci g ct ci1 g1 ct1 ce (own.map (·.2)) vs1)) := (pe_lc2 hc hN hi ok hv hg ht hi1 hg1 ht1 he hs hs1).weak fun _ _ _ h => lc2D_ok h
def lc2a (g : GT) (ct : SB) (ci1 : SI) (g1 : GT) (ct1 : SB) (ce : SE) (vs1 : List Nat) (ev : Ev) : Src × Sto → Option (List PyData × Sto)
  | (.fix xs, s) => lcL2 g ct ci1 g1 ct1 ce vs1 ev xs s []
  | _ => none
@[simp] theorem lc2a_f (g : GT) (ct : SB) (ci1 : SI) (g1 : GT) (ct1 : SB) (ce : SE) (vs1 : List Nat) (ev : Ev) (xs : List PyData) (s : Sto) : lc2a g ct ci1 g1 ct1 ce vs1 ev (.fix xs, s) = lcL2 g ct ci1 g1 ct1 ce vs1 ev xs s [] := rfl
@[simp] theorem cLc2_ap (ci : SI) (g : GT) (ct : SB) (ci1 : SI) (g1 : GT) (ct1 : SB) (ce : SE) (vs vs1 : List Nat) (ev : Ev) (st : Sto) : cLc2 ci g ct ci1 g1 ct1 ce vs vs1 ev st = ((ci ev st).bind (lc2a g ct ci1 g1 ct1 ce vs1 (wipeE ev vs))).map lcb := by
  unfold cLc2 lcR2
  congr
  funext p
  obtain ⟨q, s⟩ := p
  cases q <;> rfl
theorem lcL2_pure {g : GT} {ci1 : SI} {g1 : GT} {ct1 : SB} {ce : SE} {vs1 : List Nat} {ev : Ev} (f : PyData → List PyData) (st : Sto) :
    ∀ (xs : List PyData) (acc : List PyData), (∀ x ∈ xs, ∀ acc : List PyData, ∃ ev1 ys, g x ev = some ev1 ∧ ci1 ev1 (ex st [some acc]) = some (.fix ys, ex st [some acc]) ∧ (acc.length + (f x).length ≤ lim → lcL g1 ct1 ce (wipeE ev1 vs1) ys st acc = some (acc ++ f x, st))) →
    acc.length + (xs.flatMap f).length ≤ lim → lcL2 g bYes ci1 g1 ct1 ce vs1 ev xs st acc = some (acc ++ xs.flatMap f, st)
  | [], acc, _, _ => by simp [lcL2]
  | x :: xs, acc, h, hl => by
    obtain ⟨ev1, ys, e1, e2, e3⟩ := h x List.mem_cons_self acc
    have e2' : ci1 ev1 (st ++ [some acc]) = some (.fix ys, ex st [some acc]) := e2
    have g1 : (ex st [some acc])[st.length]? = some (some acc) := by rw [ex_get0]; rfl
    have g2 : (ex st [some acc]).take st.length = st := by simp
    rw [List.flatMap_cons, List.length_append] at hl
    have ih := lcL2_pure f st xs (acc ++ f x) (fun y hy => h y (List.mem_cons_of_mem _ hy)) (by rw [List.length_append]; omega)
    have e3' := e3 (by omega)
    simp only [lcL2, e1, bYes, e2', g1, g2, e3', ih, Option.bind_some, if_true]
    rw [List.flatMap_cons, List.append_assoc]
end Cm

set_option Elab.async false
set_option linter.all false
set_option maxHeartbeats 1000000
/-! a tuple from behind -/
namespace Cm
open PySem PySem.Spec PyProof.Rows L2
theorem back_places (n : Nat) : Builtin.Slice.slicePlaces ((n : Int) - 1) (-1) (-1) = n := by
  simp [Builtin.Slice.slicePlaces]; omega
section
variable {P : Program} {wd : World} {R : Around} {Er : Value → Shared → Prop} {h : Shared}
/-- where a slice with the step -1 and no ends goes -/
theorem back_applied {c : Addr} {x y z : Value} {n : Nat} {K : Int × Int × Nat → Shared → Prop} (is : h.heap.IsSliceOf c x y z) (ex : IsPart x none) (ey : IsPart y none) (ez : IsPart z (some (-1)))
    (go : K ((n : Int) - 1, -1, n) h) : wpAny (model P wd) R (Builtin.Slice.sliceApplied (.ref c) (pure (n : Int))) K Er h := by
  have ⟨ob, at_, _, fields⟩ := is
  simp only [Builtin.Slice.sliceApplied, Builtin.Slice.sliceFields]
  apply wpAny_bind
  have three : wpAny (model P wd) R (do let a ← field (.ref c) 0; let b ← field (.ref c) 1; let d ← field (.ref c) 2; pure (a, b, d)) (fun r s' => r = (x, y, z) ∧ s' = h) Er h := by
    apply wpAny_bind; apply wpAny_field at_ fields (x := x) rfl
    apply wpAny_bind; apply wpAny_field at_ fields (x := y) rfl
    apply wpAny_bind; apply wpAny_field at_ fields (x := z) rfl
    exact wpAny_pure ⟨rfl, rfl⟩
  refine wpAny_mono three (fun r s' ⟨e1, e2⟩ => ?_) (fun _ _ q => q)
  subst e1 e2
  apply wpAny_bind; apply HT.slicePart_ ez
  apply wpAny_bind; apply HT.slicePart_ ex
  apply wpAny_bind; apply HT.slicePart_ ey
  have adj : Builtin.Slice.sliceAdjust none none (-1) (n : Int) = ((n : Int) - 1, -1) := by simp [Builtin.Slice.sliceAdjust]
  apply wpAny_bind; apply wpAny_pure
  simp only [Option.getD_some, adj, back_places]
  exact wpAny_pure go
/-- the items that such a slice picks -/
theorem back_pick (xs : Array Value) : (List.range xs.size).filterMap (fun (k : Nat) => xs[((xs.size : Int) - 1 + (k : Int) * -1).toNat]?) = xs.toList.reverse := by
  have step : ∀ m : Nat, m ≤ xs.size → (List.range m).filterMap (fun (k : Nat) => xs[((xs.size : Int) - 1 + (k : Int) * -1).toNat]?) = xs.toList.reverse.take m := by
    intro m
    induction m with
    | zero => intro _; simp
    | succ m ih =>
      intro hm
      have at1 : ((xs.size : Int) - 1 + (m : Int) * -1).toNat = xs.size - 1 - m := by omega
      have lt1 : xs.size - 1 - m < xs.size := by omega
      have lt2 : m < xs.toList.reverse.length := by simp; omega
      have one : xs[((xs.size : Int) - 1 + (m : Int) * -1).toNat]? = some xs[xs.size - 1 - m] := by rw [at1]; exact Array.getElem?_eq_getElem lt1
      have last : xs.toList.reverse[m] = xs[xs.size - 1 - m] := by simp [List.getElem_reverse]
      rw [List.range_succ, List.filterMap_append, ih (by omega), List.take_succ_eq_append_getElem lt2, last]
      simp only [List.filterMap_cons, one, List.filterMap_nil]
  have all := step xs.size (Nat.le_refl _)
  rwa [List.take_of_length_le (by simp)] at all
/-- t[::-1] of a tuple is a new tuple -/
theorem back_item {t c : Addr} {its : Array Value} {x y z : Value} {K : Value → Shared → Prop} (tup : IsTup h.heap t its) (is : h.heap.IsSliceOf c x y z) (ex : IsPart x none) (ey : IsPart y none) (ez : IsPart z (some (-1))) (room : its.size ≤ sizeLine)
    (go : K (.ref h.heap.objs.size) { h with heap := h.heap.push { cls := .type "tuple", data := .seq its.toList.reverse.toArray } }) : wpAny (model P wd) R (getItem (.ref t) (.ref c)) K Er h := by
  have fits : sizeOk (.seq its.toList.reverse.toArray) := by
    show its.toList.reverse.toArray.size ≤ sizeLine
    simpa using room
  have slice : h.TypeIs (.ref c) "slice" := let ⟨ob, e, k, _⟩ := is; ⟨ob, e, k⟩
  simp only [getItem]
  try with_reducible apply wpAny_holding
  first | (apply wpAny_bind; apply wpAny_pure) | skip
  apply wpAny_bind; apply wpAny_sequenceKey tup.typeIs (by decide)
  apply wpAny_bind
  apply wpAny_callSpecial?_slot (name := Str.ofString "__getitem__") tup.typeIs PyProof.Rows.slot_tuple_getitem
  apply wpAny_call_entry PyProof.Rows.slot_tuple_getitem tup.typeIs entry_tuple_getitem _ (args_tuple_getitem _ _)
  show wpAny (model P wd) _ (do let xs ← Builtin.Tuple.tupleItemsOf (.ref t); _) _ _ h
  apply wpAny_bind; apply tupleItemsOf_ tup
  apply wpAny_bind; apply wpAny_typeOf slice
  rw [if_pos (by decide)]
  apply wpAny_bind; apply back_applied is ex ey ez
  have other : (((its.size : Int) - 1 == 0) && ((-1 : Int) == 1) && (its.size == its.size)) = false := by
    have : ((-1 : Int) == 1) = false := by decide
    simp [this]
  simp only [other, Bool.false_eq_true, if_false, back_pick]
  have made : wpAny (model P wd) R.in1 (Builtin.Tuple.tupleExact its.toList.reverse.toArray) (fun v g => v = .ref h.heap.objs.size ∧ g = { h with heap := h.heap.push { cls := .type "tuple", data := .seq its.toList.reverse.toArray } }) Er h :=
    wpAny_newObj_type ⟨rfl, rfl⟩ fits
  apply wpAny_bind
  refine wpAny_mono made (fun v g both => ?_) (fun _ _ q => q)
  rw [both.1, both.2]
  exact wpAny_pure ⟨_, rfl, wpAny_pure go⟩
end
/-- what t[::-1] asks of its tuple -/
def askBack (K : PySem.W.Frag) (te : TE) : TE := fun σ H Q => te σ H fun x G => ∃ (a : Addr) (xs : List V), x = .ref a ∧ SqT K G a xs ∧ ∀ p, G p = none → Q (.ref p) (upd G p (.tup xs.reverse))
theorem pe_back {X : Cx} {e : Expr} {te : TE} {k : Nat} {p1 p2 p3 pos : Pos} (run_e : PE X e te) : PE X (.Subscript e (.Slice none none (some (.UnaryOp .USub (.Constant (.int 1) k p1) p2)) p3) pos) (askBack X.K te) := by
  constructor
  intro pins s σ H Q inv asked
  apply Subscript_
  refine thn (run_e.run pins s σ H _ inv asked) ?_
  rintro _ s1 ⟨_, H1, inv1, rel, a, xs, rfl, seq, fin⟩
  cases rel
  apply wpAny_Slice
  refine thn (po_none.run pins s1 σ H1 (fun o G => o = none ∧ G = H1) inv1 ⟨rfl, rfl⟩) ?_
  rintro x s2 ⟨_, _, inv2, ex, rfl, rfl⟩
  refine thn (po_none.run pins s2 σ _ (fun o G => o = none ∧ G = _) inv2 ⟨rfl, rfl⟩) ?_
  rintro y s3 ⟨_, _, inv3, ey, rfl, rfl⟩
  have minus : PO X (some (.UnaryOp .USub (.Constant (.int 1) k p1) p2)) (tPart (tUn (rU fun i => .int (-i)) (tC (.int 1)))) := po_some (pe_un un_neg pe_int)
  refine thn (minus.run pins s3 σ _ (fun o G => o = some (-1) ∧ G = _) inv3 ⟨1, rfl, -1, rfl, rfl, rfl⟩) ?_
  rintro z s4 ⟨_, G, inv4, ez, rfl, rfl⟩
  have grown : Inv X pins σ G { s4 with heap := s4.heap.push { cls := .type "slice", data := .fields #[x, y, z] } } := inv4.kept (t' := s4.toks) (fun _ _ old => Heap.get?_push_of_some _ old)
  obtain ⟨its, vals, tup, room⟩ := grown.tuple seq
  have many := vals.length
  refine tail_any (ops := [.ref a, .ref s4.heap.objs.size]) tup.typeIs PyProof.Rows.slot_tuple_getitem.lookup ?_ (by with_unfolding_all rfl)
  apply back_item tup (Heap.IsSliceOf.new _ x y z) ex ey ez (by simp; omega)
  refine ⟨V.ref _, _, grown.laid (t' := s4.toks) (o := .tup xs.reverse) (fun _ _ old => Heap.get?_push_of_some _ old) (Nat.le_refl _) ?_, rfl, fin _ (grown.hok.fresh (Nat.le_refl _))⟩
  refine ⟨?_, _, vals.reverse, ⟨_, Heap.get?_push_size _ rfl, rfl, _, rfl⟩⟩
  show xs.reverse.length ≤ sizeLine
  simp
  omega
def fRevA : PyData → Option PyData
  | .list xs => some (.list xs.reverse)
  | .tuple xs => some (.tuple xs.reverse)
  | _ => none
@[simp] theorem fRevA_l (xs : List PyData) : fRevA (.list xs) = some (.list xs.reverse) := rfl
@[simp] theorem fRevA_t (xs : List PyData) : fRevA (.tuple xs) = some (.tuple xs.reverse) := rfl
/-- x[::-1], of a list by se_rev, of a tuple by pe_back -/
theorem se_revA {X : Cx} {e : Expr} {c : SE} {k : Nat} {p1 p2 p3 pos : Pos} (he : PE X e (tI X.K c)) : PE X (.Subscript e (.Slice none none (some (.UnaryOp .USub (.Constant (.int 1) k p1) p2)) p3) pos) (tI X.K (cD1 fRevA c)) := by
  have onList := se_rev (pos := pos) (k := k) (p1 := p1) (p2 := p2) (p3 := p3) he
  have onTup := pe_back (pos := pos) (k := k) (p1 := p1) (p2 := p2) (p3 := p3) he
  refine ⟨fun pins s σ H Q inv asked => ?_⟩
  obtain ⟨ρ, F, ev, st, w, st', hr, sr, eq, post⟩ := asked
  simp only [cD1, Option.bind_eq_some_iff, Option.map_eq_some_iff] at eq
  obtain ⟨⟨u, st1⟩, eu, d, ed, z, ez, last⟩ := eq
  cases d with
  | list xs =>
    refine onList.run pins s σ H Q inv ⟨ρ, F, ev, st, w, st', hr, sr, ?_, post⟩
    simp only [cD1, Option.bind_eq_some_iff, Option.map_eq_some_iff]
    exact ⟨⟨u, st1⟩, eu, .list xs, ed, z, ez, last⟩
  | tuple xs =>
    cases ez
    cases last
    refine onTup.run pins s σ H Q inv ⟨ρ, F, ev, st, u, st1, hr, sr, eu, fun v ρ1 F1 H1 grow hr1 wr => ?_⟩
    obtain ⟨a, vs, rfl, at_, _, items⟩ := (rd_ok (K := X.K) hr1 wr ed).tup hr1.sub
    exact ⟨a, vs, rfl, SqT.of at_, fun p free => (post.grow grow hr1).tup hr1.sub items.reverse p free⟩
  | _ => cases ez
end Cm

set_option Elab.async false
set_option linter.all false
set_option maxRecDepth 100000
set_option maxHeartbeats 4000000
/-! sorted(set(x)), sorted(x, reverse=True), list(range(..)) -/
namespace Cm
open PySem PySem.Spec PyProof.Rows L2
section
variable {P : Program} {w : World} {A : Around} {E : Value → Shared → Prop} {s : Shared}
/-- an empty set, as set(..) lays it -/
abbrev void (w : World) : Obj := { cls := .type "set", dict := none, data := .set #[] 0 (.fresh 0 0 (!w.params.followText "set-order")) }
/-- what set(..) leaves: at the first free place the set of these numbers; all else stands -/
def Filled (w : World) (g : Heap) (ns : List Int) (g' : Heap) : Prop := ∃ c, SetR w g' g.objs.size (fun j => decide (j ∈ ns)) c ∧ c ≤ ns.length ∧ Stands g g'
abbrev FilledQ (w : World) (s : Shared) (ns : List Int) : Value → Shared → Prop := fun r t => r = .none ∧ ∃ g' tk, t = { s with heap := g', toks := tk } ∧ Filled w s.heap ns g'
theorem ints_pick {us : List Value} {ns : List Int} (hi : IntsAre us ns) {j : Nat} {v : Value} (e : us[j]? = some v) : ∃ k t, ns[j]? = some k ∧ v = .int k t := by
  obtain ⟨t, q⟩ := intsAre_get hi e
  have lt : j < ns.length := by
    have := hi.length
    have := lt_of_get e
    omega
  refine ⟨ns[j], t, List.getElem?_eq_getElem lt, ?_⟩
  rw [q, List.getD_eq_getElem?_getD, List.getElem?_eq_getElem lt]
  rfl
theorem fill_list {l : Addr} {its : Array Value} {ns : List Int} (hh : A.handled = none) (hl : s.heap.IsList l its) (hi : IntsAre its.toList ns) (few : ns.length + 1 < scanBound) :
    codeAny (model P w) A (.call (.builtin "set.__init__") ⟨[.ref s.heap.objs.size, .ref l], []⟩) (wants (FilledQ w s ns) E) { s with heap := s.heap.push (void w) } := by
  have atS : (s.heap.push (void w)).get? s.heap.objs.size = some (void w) := Heap.get?_push_size _ rfl
  have ty : Shared.TypeIs { s with heap := s.heap.push (void w) } (.ref s.heap.objs.size) "set" := ⟨_, atS, rfl⟩
  refine codeAny_call_builtin F.called_set.init.plain F.entry_set_init (check_set_init_1 ty ?_)
  obtain ⟨⟨c0, d0, x0, y0⟩, at0, e1, n0, e2⟩ := hl
  dsimp only at e1 e2
  subst e1 e2
  have many : its.size = ns.length := by
    have := hi.length
    rwa [Array.length_toList] at this
  have at1 : (s.heap.push (void w)).get? l = some { cls := .type "list", dict := d0, data := .seq its n0, slots := y0 } := Heap.get?_push_of_some _ at0
  have is1 : (s.heap.push (void w)).IsList l its := ⟨_, at1, rfl, n0, rfl⟩
  have low : l < s.heap.objs.size := Heap.lt_size at0
  have no1 := F.sub_list_set
  have no2 := F.sub_list_frozenset
  have no3 : (Value.type "list" == Value.type "dict") = false := by decide
  unfold Builtin.«set.__init__»
  unfold noKeywords Builtin.Frozenset.updateFrom
  generalize keep : pyIter = itr
  wp_walk
  subst keep
  apply wpAny_pyIter_list is1
  apply wpAny_bind
  apply wpAny_runValue
  have sz : (s.heap.push (void w)).objs.size = s.heap.objs.size + 1 := Heap.size_push ..
  have far : l ≠ (s.heap.push (void w)).objs.size := sz ▸ Nat.ne_of_lt (Nat.lt_succ_of_lt low)
  have apart : s.heap.objs.size ∉ [(s.heap.push (void w)).objs.size, l] := by
    rw [sz]
    intro q
    rcases List.mem_cons.mp q with q | q
    · exact Nat.ne_of_lt (Nat.lt_succ_self _) q
    · exact Nat.ne_of_gt low (List.mem_singleton.mp q)
  have calm3 : A.in1.in1.handled = none := by simp [hh]
  refine set_update_ints (Walks.list calm3 _ l far its).toS s.heap.objs.size apart ns many few (fun j v e => ints_pick hi (by rw [Array.getElem?_toList]; exact e)) its.size 0 _ rfl (Nat.zero_le _) ?begin ?first ?last
  case begin =>
    refine ⟨⟨_, Heap.get?_push_size _ rfl, rfl, rfl⟩, ?_⟩
    exact is1.push _
  case first =>
    refine ⟨0, Nat.le_refl _, setR_new_at ?_⟩
    exact Heap.get?_push_of_some _ atS
  rintro ⟨g', gs', dr', tk', os'⟩ c moved le isS
  cases show gs' = s.gens from moved.gens
  cases show dr' = s.drawn from moved.drawn
  cases show os' = s.os from moved.os
  show wpAny _ _ _ _ _ _
  apply wpAny_pure
  change wpAny (model P w) _ (ret Value.none) _ _ _
  refine wpAny_pure ⟨rfl, g', tk', rfl, c, isS, many ▸ le, fun b o e => ?_⟩
  have lt := Heap.lt_size e
  refine moved.heap b o ?_ (Heap.get?_push_of_some _ (Heap.get?_push_of_some _ e))
  intro q
  rcases List.mem_cons.mp q with q | q
  · exact Nat.ne_of_lt lt q
  · rw [List.mem_singleton.mp q, sz] at lt
    exact Nat.lt_irrefl _ (Nat.lt_of_succ_lt lt)
theorem call_set_ints {l : Addr} {its : Array Value} {ns : List Int} {Q : Value → Shared → Prop} (hh : A.handled = none) (hl : s.heap.IsList l its) (hi : IntsAre its.toList ns) (few : ns.length + 1 < scanBound)
    (go : ∀ g' tk, Filled w s.heap ns g' → Q (.ref s.heap.objs.size) { s with heap := g', toks := tk }) : wpAny (model P w) A (call (.type "set") [.ref l]) Q E s := by
  have ⟨c, tl, mro⟩ := F.called_set.mro
  have made := F.called_set.made
  have sub := F.called_set.sub
  have not1 := F.called_set.notType
  have can := F.called_set.canCreate
  have chk := F.typeCall_set_1 (.ref l)
  apply wpAny_call
  apply codeAny_of_tree
  change wpAny (model P w) _ (callAny (.type "set") _) _ _ _
  apply wpAny_pure
  refine ⟨Code.quiet_builtin _ (by decide +kernel), ?_⟩
  apply codeAny_builtin F.entry_type_call
  have wt := weight_type_call_type "set" [.ref l] []
  rw [Around.under_plain wt rfl]
  repeat' (first | assumption | wp_step)
  refine codeAny_mono (code_set_led1 (.ref l) (E := E) (Q₁ := fun o t => o = .ref s.heap.objs.size ∧ t = { s with heap := s.heap.push (void w) }) ⟨rfl, rfl⟩) fun r t hr => ?_
  rcases r with _ | fl
  · exact hr
  cases fl with
  | ret o =>
    obtain ⟨rfl, rfl⟩ := hr
    have ty : Shared.TypeIs { s with heap := s.heap.push (void w) } (.ref s.heap.objs.size) "set" := ⟨_, Heap.get?_push_size _ rfl, rfl⟩
    have look := F.called_set.init.lookup
    have bnd := F.called_set.init.bind (.ref s.heap.objs.size)
    repeat' (first | assumption | wp_step)
    refine codeAny_mono (fill_list (E := E) (by simp [hh]) hl hi few) fun r2 t2 hr2 => ?_
    rcases r2 with _ | f2
    · exact hr2
    cases f2 with
    | ret o2 =>
      obtain ⟨rfl, g', tk, rfl, fd⟩ := hr2
      repeat' (first | assumption | wp_step)
      exact go g' tk fd
    | _ => exact hr2.elim
  | _ => exact hr.elim
end
/-! ### numbers, each once, ascending -/
def putU (x : Int) : List Int → List Int
  | [] => [x]
  | y :: ys => if x < y then x :: y :: ys else if x = y then y :: ys else y :: putU x ys
def setI : List Int → List Int
  | [] => []
  | x :: xs => putU x (setI xs)
theorem mem_putU {x z : Int} : ∀ {ys : List Int}, z ∈ putU x ys ↔ z = x ∨ z ∈ ys
  | [] => by simp [putU]
  | y :: ys => by
    rw [putU]
    split
    · simp
    · split
      · rename_i h
        subst h
        simp
      · simp only [List.mem_cons, mem_putU (ys := ys)]
        constructor
        · rintro (h | h | h)
          · exact .inr (.inl h)
          · exact .inl h
          · exact .inr (.inr h)
        · rintro (h | h | h)
          · exact .inr (.inl h)
          · exact .inl h
          · exact .inr (.inr h)
theorem mem_setI {z : Int} : ∀ {ns : List Int}, z ∈ setI ns ↔ z ∈ ns
  | [] => by simp [setI]
  | x :: xs => by rw [setI, mem_putU, mem_setI (ns := xs), List.mem_cons]
theorem putU_asc {x : Int} : ∀ {ys : List Int}, ys.Pairwise (· < ·) → (putU x ys).Pairwise (· < ·)
  | [], _ => by simp [putU]
  | y :: ys, h => by
    have h' := List.pairwise_cons.mp h
    rw [putU]
    split
    · rename_i c
      refine List.Pairwise.cons (fun z hz => ?_) h
      rcases List.mem_cons.mp hz with rfl | hz
      · exact c
      · have := h'.1 z hz
        omega
    · split
      · exact h
      · refine List.Pairwise.cons (fun z hz => ?_) (putU_asc h'.2)
        rcases mem_putU.mp hz with rfl | hz
        · omega
        · exact h'.1 z hz
theorem setI_asc : ∀ ns : List Int, (setI ns).Pairwise (· < ·)
  | [] => List.Pairwise.nil
  | x :: xs => putU_asc (setI_asc xs)
theorem asc_uniq : ∀ {xs ys : List Int}, xs.Pairwise (· < ·) → ys.Pairwise (· < ·) → (∀ k, k ∈ xs ↔ k ∈ ys) → xs = ys
  | [], [], _, _, _ => rfl
  | [], y :: ys, _, _, h => absurd ((h y).mpr List.mem_cons_self) (by simp)
  | x :: xs, [], _, _, h => absurd ((h x).mp List.mem_cons_self) (by simp)
  | x :: xs, y :: ys, h1, h2, h => by
    have a := List.pairwise_cons.mp h1
    have b := List.pairwise_cons.mp h2
    have e : x = y := by
      rcases List.mem_cons.mp ((h x).mp List.mem_cons_self) with q | q
      · exact q
      · rcases List.mem_cons.mp ((h y).mpr List.mem_cons_self) with z | z
        · exact z.symm
        · have := b.1 x q
          have := a.1 y z
          omega
    subst e
    refine congrArg (x :: ·) (asc_uniq a.2 b.2 fun k => ⟨fun hk => ?_, fun hk => ?_⟩)
    · rcases List.mem_cons.mp ((h k).mp (List.mem_cons_of_mem _ hk)) with q | q
      · have := a.1 k hk
        omega
      · exact q
    · rcases List.mem_cons.mp ((h k).mpr (List.mem_cons_of_mem _ hk)) with q | q
      · have := b.1 k hk
        omega
      · exact q
theorem setI_uniq {ns ms : List Int} (h : ms.Pairwise (· < ·)) (e : ∀ k, k ∈ ms ↔ k ∈ ns) : ms = setI ns :=
  asc_uniq h (setI_asc ns) fun k => (e k).trans mem_setI.symm
def fSetSorted : PyData → Option PyData
  | .list xs => (asInts xs).bind fun ns => if ns.length < 64 then some (.list ((setI ns).map .int)) else none
  | .tuple xs => (asInts xs).bind fun ns => if ns.length < 64 then some (.list ((setI ns).map .int)) else none
  | _ => none
/-- x[::-1] of sorted(x): what reverse=True does -/
def fSortRev : PyData → Option PyData
  | .list xs => (asInts xs).map fun ns => .list ((sortI ns).reverse.map .int)
  | _ => none
theorem sortRev_uniq {ns ms : List Int} (p : ms.Perm ns) (h : ms.Pairwise (· ≥ ·)) : ms = (sortI ns).reverse := by
  have : ms.reverse = sortI ns := sortI_uniq ((List.reverse_perm ms).trans p) (List.pairwise_reverse.mpr h)
  rw [← this, List.reverse_reverse]
section
variable {X : Cx} {e e2 : Expr} {p p2 q pos : Pos} {c c2 : SE}
/-- set(x), x a list or a tuple of not too many ints -/
abbrev rSetI (w : World) (K : PySem.W.Frag) : List V → Hp → VK → Prop := fun vs H Q => ∃ (a : Addr) (ns : List Int), vs = [V.ref a] ∧ (SqL K H a (ns.map V.int) ∨ SqT K H a (ns.map V.int)) ∧ ns.length < 64 ∧
  ∀ (p : Addr) (n : Nat), n ≤ ns.length → H p = none → Q (.ref p) (upd H p (SetO w p (fun j => decide (j ∈ ns)) n))
theorem cr_setI (hc : X.calm = true) : CallR X (.type "set") (rSetI X.w X.K) := by
  intro pins s σ H vs us Q inv rel asked
  obtain ⟨a, ns, rfl, seq, few, go⟩ := asked
  rw [Vals.ref1 rel]
  have bound : ns.length + 1 < scanBound := by unfold scanBound; omega
  have fin : ∀ g' tk n, SetR X.w g' s.heap.objs.size (fun j => decide (j ∈ ns)) n → n ≤ ns.length → Stands s.heap g' → EP X pins σ Q (.ref s.heap.objs.size) { s with heap := g', toks := tk } := fun g' tk n isS le st =>
    ⟨.ref s.heap.objs.size, upd H s.heap.objs.size (SetO X.w s.heap.objs.size (fun j => decide (j ∈ ns)) n), inv.laid st (Nat.le_refl _) (setO_new isS), rfl, go _ n le (inv.hok.fresh (Nat.le_refl _))⟩
  rcases seq with sl | sq
  · obtain ⟨its, rv, pl, _⟩ := inv.list sl
    refine call_set_ints (inv.ok.hd hc) pl.isList (by simpa using rv.ints) bound ?_
    rintro g' tk ⟨n, isS, le, st⟩
    exact fin g' tk n isS le st
  · obtain ⟨its, rv, pl, _⟩ := inv.tuple sq
    exact call_set_tupI ns (inv.ok.hd hc) pl (by simpa using rv.ints) bound fun g' tk n isS le st => fin g' tk n isS le st
theorem Grow.side {F H : Hp} {p : Addr} {o : HO} (h : Same F H) (n : H p = none) : Grow F H F (upd H p o) := ⟨Same.refl _, same_upd n, h.trans (same_upd n), fun _ _ _ z => z⟩
theorem se_sortedSet (hc : X.calm = true) (hg : Gl X "sorted") (hm : X.mg "sorted" = none) (hg2 : Gl X "set") (hm2 : X.mg "set" = none) (ha : PE X e (tI X.K c)) (he : Bare1 X e [] := by rfl)
    (he2 : Bare1 X (.Call (.Name "set" p2) [e] [] q) [] := by rfl) : PE X (.Call (.Name "sorted" p) [.Call (.Name "set" p2) [e] [] q] [] pos) (tI X.K (cD1 fSetSorted c)) := by
  have inner : PE X (.Call (.Name "set" p2) [e] [] q) _ := pe_callTy (cr_setI hc) hg2 hm2 PyProof.Rows.boot_set (pa_cons ha pa_nil he) (by decide) (by decide) he
  refine (pe_callB (cr_sortedSet hc) hg hm PyProof.Rows.boot_sorted (pa_cons inner pa_nil he2) (by decide) (by decide) he2).weak fun σ H Q ⟨ρ, F, ev, st, w, st', hr, sr, eq, post⟩ => ?_
  simp only [cD1, Option.bind_eq_some_iff, Option.map_eq_some_iff] at eq
  obtain ⟨⟨u, st1⟩, eu, d, ed, z, ez, last⟩ := eq
  cases last
  refine ⟨ρ, F, ev, st, u, st1, hr, sr, eu, fun v ρ1 F1 H1 x1 hr1 wr => ?_⟩
  have rr := rd_ok (K := X.K) hr1 wr ed
  have fin : ∀ (a : Addr) (ns : List Int), v = .ref a → (SqL X.K H1 a (ns.map V.int) ∨ SqT X.K H1 a (ns.map V.int)) → ns.length < 64 → z = .list ((setI ns).map .int) → rSetI X.w X.K [v] H1 fun x H2 => rSortedSet X.w [x] H2 Q := fun a ns ev' sq few ez' => by
    subst ev' ez'
    refine ⟨a, ns, rfl, sq, few, fun p n le np => ⟨p, _, n, rfl, upd_same, by omega, fun ms p' asc mem _ np' => ?_⟩⟩
    have em : ms = setI ns := setI_uniq asc fun k => by rw [mem k, decide_eq_true_iff]
    subst em
    have g1 : Grow F1 H1 F1 (upd H1 p (SetO X.w p (fun j => decide (j ∈ ns)) n)) := .side hr1.sub np
    exact (post.grow x1 (hr1.grow g1)).lst (hr1.grow g1).sub DqA.ints p' np'
  cases d with
  | list xs =>
    simp only [fSetSorted, Option.bind_eq_some_iff] at ez
    obtain ⟨ns, e1, e2⟩ := ez
    split at e2
    · rename_i few
      cases e2
      obtain ⟨a, vs, ea, sq, dq⟩ := rr.list hr1.sub
      rw [asInts_eq e1] at dq
      rw [dq.of_ints] at sq
      exact fin a ns ea (.inl sq) few rfl
    · cases e2
  | tuple xs =>
    simp only [fSetSorted, Option.bind_eq_some_iff] at ez
    obtain ⟨ns, e1, e2⟩ := ez
    split at e2
    · rename_i few
      cases e2
      obtain ⟨a, vs, ea, sq, _, dq⟩ := rr.tup hr1.sub
      rw [asInts_eq e1] at dq
      rw [dq.of_ints] at sq
      exact fin a ns ea (.inr (SqT.of sq)) few rfl
    · cases e2
  | _ => cases ez
theorem se_sortedRev {kp : Pos} {b : Expr} (hg : Gl X "sorted") (hm : X.mg "sorted" = none) (ha : PE X e (tI X.K c)) (hb : PE X b (tI X.K (cD (.bool true)))) (he : backTo pos (starEach [e] X.env) = (false, eval e X.env) :: backTo pos (starEach [] X.env) := by rfl) (h1 : NoStar X [e] pos := by rfl)
    (h2 : Named X [⟨some "reverse", b, kp⟩] pos := by rfl) (h3 : (backToKw pos (keywordEach [⟨some "reverse", b, kp⟩] X.env)).any (·.1.isNone) = false := by rfl) (h4 : NamesAre X [⟨some "reverse", b, kp⟩] pos [Str.ofString "reverse"] := by rfl) (he1 : Bare1 X e [] := by rfl) :
    PE X (.Call (.Name "sorted" p) [e] [⟨some "reverse", b, kp⟩] pos) (tI X.K (cD1 fSortRev c)) := by
  refine (pe_callBK (cr_sortedRev (b := true)) hg hm PyProof.Rows.boot_sorted (pa_cons ha pa_nil he1) (pk_cons hb pk_nil) (by decide) (by decide) he h1 h2 h3 h4).weak fun σ H Q ⟨ρ, F, ev, st, w, st', hr, sr, eq, post⟩ => ?_
  simp only [cD1, Option.bind_eq_some_iff, Option.map_eq_some_iff] at eq
  obtain ⟨⟨u, st1⟩, eu, d, ed, z, ez, last⟩ := eq
  cases last
  refine ⟨ρ, F, ev, st, u, st1, hr, sr, eu, fun v ρ1 F1 H1 x1 hr1 wr => ⟨ρ1, F1, ev, st1, _, st1, hr1, sr.mono x1, rfl, fun v2 ρ2 F2 H2 x2 hr2 wr2 => ?_⟩⟩
  cases wr2
  have rr := rd_ok (K := X.K) hr2 (wr.mono x2) ed
  cases d with
  | list xs =>
    simp only [fSortRev, Option.map_eq_some_iff] at ez
    obtain ⟨ns, e1, rfl⟩ := ez
    obtain ⟨a, vs, rfl, sq, dq⟩ := rr.list hr2.sub
    rw [asInts_eq e1] at dq
    rw [dq.of_ints] at sq
    refine ⟨a, ns, rfl, rfl, sq, fun ms p' pm od np' => ?_⟩
    have em : ms = (sortI ns).reverse := sortRev_uniq pm od
    subst em
    exact (post.grow (x1.trans x2) hr2).lst hr2.sub DqA.ints p' np'
  | _ => cases ez
/-! ### list(range(..)), tuple(range(..)) -/
def rgFit (a b : Int) : Bool := big a && big b && decide ((b - a).toNat ≤ lim)
def rg2 (k : List PyData → PyData) : PyData → PyData → Option PyData
  | .int a, .int b => if rgFit a b then some (k (rangeD a (b - a).toNat)) else none
  | _, _ => none
def rg1 (k : List PyData → PyData) : PyData → Option PyData
  | .int b => if rgFit 0 b then some (k (rangeD 0 b.toNat)) else none
  | _ => none
theorem rg_ok {a b : Int} (h : rgFit a b = true) : RgOk a b := by
  simp only [rgFit, Bool.and_eq_true, big, decide_eq_true_iff] at h
  have le : (b - a).toNat ≤ 1000000 := h.2
  refine ⟨by omega, by omega, by omega, by omega, Nat.le_trans le (by decide)⟩
theorem dqa_rg {F : Hp} (a b : Int) : DqA F (rgV a b) (rangeD a (b - a).toNat) := by
  unfold rgV rangeD
  have h : ∀ ks : List Nat, DqA F (ks.map fun i => V.int (a + (i : Nat))) (ks.map fun k => PyData.int (a + (k : Nat))) := fun ks => by
    induction ks with
    | nil => exact .nil
    | cons k ks ih => exact .cons (.int _) ih
  exact h _
theorem rg2_ask {k : List PyData → PyData} {σ : L2.St} {H : Hp} {Q : VK} {T : Int → Int → Hp → Prop} (h : tI X.K (cD2 (rg2 k) c c2) σ H Q)
    (fin : ∀ a b F H1, Same F H1 → RgOk a b → Rep F H1 (k (rangeD a (b - a).toNat)) Q → T a b H1) : tRg2 (tI X.K c) (tI X.K c2) σ H T := by
  obtain ⟨ρ, F, ev, st, w, st', hr, sr, eq, post⟩ := h
  simp only [cD2, Option.bind_eq_some_iff, Option.map_eq_some_iff] at eq
  obtain ⟨⟨u, st1⟩, eu, ⟨u2, st2⟩, eu2, x, ex, y, ey, z, ez, last⟩ := eq
  cases last
  refine ⟨ρ, F, ev, st, u, st1, hr, sr, eu, fun v ρ1 F1 H1 x1 hr1 wr => ⟨ρ1, F1, ev, st1, u2, st2, hr1, sr.mono x1, eu2, fun v2 ρ2 F2 H2 x2 hr2 wr2 => ?_⟩⟩
  have r1 := rd_ok (K := X.K) hr2 (wr.mono x2) ex
  have r2 := rd_ok (K := X.K) hr2 wr2 ey
  unfold rg2 at ez
  split at ez
  · split at ez
    · rename_i ok
      cases ez
      cases r1.int
      cases r2.int
      exact ⟨_, _, rfl, rfl, fin _ _ F2 H2 hr2.sub (rg_ok ok) (post.grow (x1.trans x2) hr2)⟩
    · cases ez
  · cases ez
theorem rg1_ask {k : List PyData → PyData} {σ : L2.St} {H : Hp} {Q : VK} {T : Int → Int → Hp → Prop} (h : tI X.K (cD1 (rg1 k) c) σ H Q)
    (fin : ∀ b F H1, Same F H1 → RgOk 0 b → Rep F H1 (k (rangeD 0 (b - 0).toNat)) Q → T 0 b H1) : tRg1 (tI X.K c) σ H T := by
  obtain ⟨ρ, F, ev, st, w, st', hr, sr, eq, post⟩ := h
  simp only [cD1, Option.bind_eq_some_iff, Option.map_eq_some_iff] at eq
  obtain ⟨⟨u, st1⟩, eu, x, ex, z, ez, last⟩ := eq
  cases last
  refine ⟨ρ, F, ev, st, u, st1, hr, sr, eu, fun v ρ1 F1 H1 x1 hr1 wr => ?_⟩
  have r1 := rd_ok (K := X.K) hr1 wr ex
  unfold rg1 at ez
  split at ez
  · split at ez
    · rename_i b ok
      cases ez
      cases r1.int
      refine ⟨_, rfl, fin _ F1 H1 hr1.sub (rg_ok ok) ?_⟩
      rw [Int.sub_zero]
      exact post.grow x1 hr1
    · cases ez
  · cases ez
section
variable {p0 : Pos}
theorem se_listRg2 (hc : X.calm = true) (hg : Gl X "list") (hm : X.mg "list" = none) (hg2 : Gl X "range") (hm2 : X.mg "range" = none) (ha : PE X e (tI X.K c)) (hb : PE X e2 (tI X.K c2)) (n1 : Bare1 X e [e2] := by rfl) (n2 : Bare1 X e2 [] := by rfl) (n3 : NoStar X [e2] p0 := by rfl)
    (n4 : Bare1 X (.Call (.Name "range" p) [e, e2] [] p0) [] := by rfl) : PE X (.Call (.Name "list" p2) [.Call (.Name "range" p) [e, e2] [] p0] [] pos) (tI X.K (cD2 (rg2 .list) c c2)) :=
  (pe_listRg hc hg hm (prg_2 hg2 hm2 ha hb n1 n2 n3) n4).weak fun σ H Q h => rg2_ask h fun a b F H1 hs ok rp => ⟨ok, fun p np => rp.lst hs (dqa_rg a b) p np⟩
theorem se_tupRg2 (hc : X.calm = true) (hg : Gl X "tuple") (hm : X.mg "tuple" = none) (hg2 : Gl X "range") (hm2 : X.mg "range" = none) (ha : PE X e (tI X.K c)) (hb : PE X e2 (tI X.K c2)) (n1 : Bare1 X e [e2] := by rfl) (n2 : Bare1 X e2 [] := by rfl) (n3 : NoStar X [e2] p0 := by rfl)
    (n4 : Bare1 X (.Call (.Name "range" p) [e, e2] [] p0) [] := by rfl) : PE X (.Call (.Name "tuple" p2) [.Call (.Name "range" p) [e, e2] [] p0] [] pos) (tI X.K (cD2 (rg2 .tuple) c c2)) :=
  (pe_tupRg hc hg hm (prg_2 hg2 hm2 ha hb n1 n2 n3) n4).weak fun σ H Q h => rg2_ask h fun a b F H1 hs ok rp => ⟨ok, fun p np => rp.tup hs (dqa_rg a b) p np⟩
theorem se_listRg1 (hc : X.calm = true) (hg : Gl X "list") (hm : X.mg "list" = none) (hg2 : Gl X "range") (hm2 : X.mg "range" = none) (ha : PE X e (tI X.K c)) (n1 : Bare1 X e [] := by rfl)
    (n4 : Bare1 X (.Call (.Name "range" p) [e] [] p0) [] := by rfl) : PE X (.Call (.Name "list" p2) [.Call (.Name "range" p) [e] [] p0] [] pos) (tI X.K (cD1 (rg1 .list) c)) :=
  (pe_listRg hc hg hm (prg_1 hg2 hm2 ha n1) n4).weak fun σ H Q h => rg1_ask h fun b F H1 hs ok rp => ⟨ok, fun p np => rp.lst hs (dqa_rg 0 b) p np⟩
theorem se_tupRg1 (hc : X.calm = true) (hg : Gl X "tuple") (hm : X.mg "tuple" = none) (hg2 : Gl X "range") (hm2 : X.mg "range" = none) (ha : PE X e (tI X.K c)) (n1 : Bare1 X e [] := by rfl)
    (n4 : Bare1 X (.Call (.Name "range" p) [e] [] p0) [] := by rfl) : PE X (.Call (.Name "tuple" p2) [.Call (.Name "range" p) [e] [] p0] [] pos) (tI X.K (cD1 (rg1 .tuple) c)) :=
  (pe_tupRg hc hg hm (prg_1 hg2 hm2 ha n1) n4).weak fun σ H Q h => rg1_ask h fun b F H1 hs ok rp => ⟨ok, fun p np => rp.tup hs (dqa_rg 0 b) p np⟩
/-- list(range(n)), to be changed -/
def cRgM (c : SE) : SE := fun ev st => (c ev st).bind fun p => match p.1 with
  | .d (.int b) => if rgFit 0 b then some (.l p.2.length, p.2 ++ [some (rangeD 0 b.toNat)]) else none
  | _ => none
theorem se_rgM (hc : X.calm = true) (hg : Gl X "list") (hm : X.mg "list" = none) (hg2 : Gl X "range") (hm2 : X.mg "range" = none) (ha : PE X e (tI X.K c)) (n1 : Bare1 X e [] := by rfl)
    (n4 : Bare1 X (.Call (.Name "range" p) [e] [] p0) [] := by rfl) : PE X (.Call (.Name "list" p2) [.Call (.Name "range" p) [e] [] p0] [] pos) (tI X.K (cRgM c)) :=
  (pe_listRg hc hg hm (prg_1 hg2 hm2 ha n1) n4).weak fun σ H Q ⟨ρ, F, ev, st, w, st', hr, sr, eq, post⟩ => by
    simp only [cRgM, Option.bind_eq_some_iff] at eq
    obtain ⟨⟨u, st1⟩, eu, ez⟩ := eq
    refine ⟨ρ, F, ev, st, u, st1, hr, sr, eu, fun v ρ1 F1 H1 x1 hr1 wr => ?_⟩
    split at ez
    · rename_i b q
      cases q
      split at ez
      · rename_i ok
        cases ez
        cases wr
        refine ⟨b, rfl, rg_ok ok, fun p np => post _ _ _ _ (x1.trans (.push p)) (hr1.push np ?_) (.pushed hr1)⟩
        have := dqa_rg (F := F1) 0 b
        rwa [Int.sub_zero] at this
      · cases ez
    · cases ez
end
end
end Cm

set_option Elab.async false
set_option linter.all false
set_option maxRecDepth 100000
set_option maxHeartbeats 4000000
/-! what is known of the values: runs that go through in every layout of the store -/
namespace Cm
open PySem PySem.Spec PyProof.Rows L2
/-- the box's three cells -/
structure Bx where
  x : Int
  y : Int
  n : Int
def lay (B : Bx) : List PyData := [.int B.x, .int B.y, .int B.n]
structure BxOk (m : Nat) (B : Bx) : Prop where
  x0 : 0 ≤ B.x
  y0 : 0 ≤ B.y
  n0 : 0 ≤ B.n
  n1 : B.n ≤ m
  m1 : (m : Int) ≤ 1000000000000
theorem bx_up {m c : Nat} {B : Bx} (h : BxOk m B) (h1 : m ≤ c) (h2 : c ≤ 1000000000000) : BxOk c B := ⟨h.x0, h.y0, h.n0, by have := h.n1; omega, by omega⟩
def Mx : Nat := 1000000000000
theorem bx_le {m c : Nat} {B : Bx} (h : BxOk m B) (h1 : m ≤ c) (h2 : c ≤ Mx) : BxOk c B := bx_up h h1 h2
/-- a value in no layout yet: data, the box, a list of one's own -/
inductive W where
  | d (x : PyData)
  | b
  | c (i : Nat)
/-- a layout: the store ahead, with the box in it -/
structure Th where
  st : Sto
  L : Sto
  b : Nat
  ok : b < st.length
abbrev Wv := List (Option W)
def Th.at (θ : Th) (i : Nat) : Nat := θ.st.length + (θ.L.length + i)
def Th.u (θ : Th) : W → U
  | .d x => .d x
  | .b => .l θ.b
  | .c i => .l (θ.at i)
def Th.ev (θ : Th) (e : Wv) : Ev := e.map (Option.map θ.u)
def Th.sto (θ : Th) (B : Bx) (cs : Sto) : Sto := ex (θ.st.set θ.b (some (lay B))) (θ.L ++ cs)
section
variable (θ : Th) (B : Bx) (cs js : Sto)
theorem Th.cell (i : Nat) : (θ.sto B cs)[θ.at i]? = cs[i]? := by
  unfold Th.sto Th.at
  rw [ex_gets, List.getElem?_append_right (Nat.le_add_right _ _), Nat.add_sub_cancel_left]
theorem Th.box : (θ.sto B cs)[θ.b]? = some (some (lay B)) := ex_box θ.ok _
theorem Th.app : θ.sto B cs ++ js = θ.sto B (cs ++ js) := by simp [Th.sto, ex]
theorem Th.len : (θ.sto B cs).length = θ.at cs.length := by simp [Th.sto, Th.at]
theorem Th.take (n : Nat) : (θ.sto B cs).take (θ.at n) = θ.sto B (cs.take n) := by
  unfold Th.sto Th.at
  rw [ex_takes, List.take_append, List.take_of_length_le (Nat.le_add_right _ _), Nat.add_sub_cancel_left]
theorem Th.put (i : Nat) (v : Option (List PyData)) : (θ.sto B cs).set (θ.at i) v = θ.sto B (cs.set i v) := by
  unfold Th.sto Th.at
  rw [ex_sets, List.set_append_right _ _ (Nat.le_add_right _ _), Nat.add_sub_cancel_left]
theorem Th.get (e : Wv) (i : Nat) : (θ.ev e)[i]? = (e[i]?).map (Option.map θ.u) := by simp [Th.ev]
theorem Th.evset (e : Wv) (i : Nat) (w : W) : (θ.ev e).set i (some (θ.u w)) = θ.ev (e.set i (some w)) := by
  unfold Th.ev
  rw [List.map_set]
  rfl
theorem Th.evnone (e : Wv) (i : Nat) : (θ.ev e).set i none = θ.ev (e.set i none) := by
  unfold Th.ev
  rw [List.map_set]
  rfl
def wipeW (e : Wv) : List Nat → Wv
  | [] => e
  | v :: vs => (wipeW e vs).set v none
theorem Th.wipe (e : Wv) : ∀ vs : List Nat, wipeE (θ.ev e) vs = θ.ev (wipeW e vs)
  | [] => rfl
  | v :: vs => by rw [wipeE, wipeW, Th.wipe e vs, Th.evnone]
def rdW (cs : Sto) : W → Option PyData
  | .d x => some x
  | .c j => match cs[j]? with
    | some (some xs) => some (.list xs)
    | _ => none
  | .b => none
theorem Th.rd {w : W} {x : PyData} (h : rdW cs w = some x) : Cm.rd (θ.sto B cs) (θ.u w) = some x := by
  cases w with
  | d y => exact h
  | b => cases h
  | c j =>
    simp only [rdW] at h
    simp only [Th.u, Cm.rd, Th.cell]
    exact h
theorem Th.rdS {w : W} {x : PyData} (h : rdW cs w = some x) : Cm.rdS (θ.sto B cs) (θ.u w) = some x := by
  cases w with
  | d y => exact h
  | b => cases h
  | c j =>
    simp only [rdW] at h
    simp only [Th.u, Cm.rdS, Th.cell]
    exact h
theorem rdW_mono {w : W} {x : PyData} (h : rdW cs w = some x) : rdW (cs ++ js) w = some x := by
  cases w with
  | d y => exact h
  | b => cases h
  | c j =>
    simp only [rdW] at h ⊢
    split at h
    · rename_i xs q
      rw [List.getElem?_append_left (lt_of_get q), q]
      exact h
    · cases h
end
/-! ### what is known -/
abbrev Pd := PyData → Prop
inductive AW where
  | dat (a : Pd)
  | own (e : Pd) (lo hi : Nat)
  | box
abbrev AS := List (Option AW)
def Cont (e : Pd) (lo hi : Nat) (xs : List PyData) : Prop := lo ≤ xs.length ∧ xs.length ≤ hi ∧ ∀ y ∈ xs, e y
def satW (cs : Sto) : AW → W → Prop
  | .dat a, w => ∃ x, w = .d x ∧ a x
  | .own e lo hi, w => ∃ j xs, w = .c j ∧ cs[j]? = some (some xs) ∧ Cont e lo hi xs
  | .box, w => w = .b
def isOwn (A : AS) (i : Nat) : Prop := ∃ e lo hi, A[i]? = some (some (.own e lo hi))
structure Sat (A : AS) (ev : Wv) (cs : Sto) : Prop where
  len : ev.length = A.length
  get : ∀ (i : Nat) (aw : AW), A[i]? = some (some aw) → ∃ w, ev[i]? = some (some w) ∧ satW cs aw w
  sep : ∀ (i i' j : Nat), isOwn A i → isOwn A i' → ev[i]? = some (some (.c j)) → ev[i']? = some (some (.c j)) → i = i'
theorem satW_mono {cs js : Sto} {aw : AW} {w : W} (h : satW cs aw w) : satW (cs ++ js) aw w := by
  cases aw with
  | dat a => exact h
  | own e lo hi =>
    obtain ⟨j, xs, h1, h2, h3⟩ := h
    exact ⟨j, xs, h1, by rw [List.getElem?_append_left (lt_of_get h2)]; exact h2, h3⟩
  | box => exact h
theorem Sat.mono {A : AS} {ev : Wv} {cs : Sto} (h : Sat A ev cs) (js : Sto) : Sat A ev (cs ++ js) :=
  ⟨h.len, fun i aw e => let ⟨w, h1, h2⟩ := h.get i aw e; ⟨w, h1, satW_mono h2⟩, h.sep⟩
theorem get_set {α : Type} {l : List α} {i j : Nat} {x y : α} (h : (l.set i x)[j]? = some y) : (i = j ∧ y = x ∧ i < l.length) ∨ (i ≠ j ∧ l[j]? = some y) := by
  rw [List.getElem?_set] at h
  split at h
  · rename_i e
    split at h
    · rename_i hl
      cases h
      exact .inl ⟨e, rfl, hl⟩
    · cases h
  · rename_i e
    exact .inr ⟨e, h⟩
/-- a slot is set to data -/
theorem Sat.setD {A : AS} {ev : Wv} {cs : Sto} {a : Pd} {x : PyData} (h : Sat A ev cs) (i : Nat) (hx : a x) : Sat (A.set i (some (.dat a))) (ev.set i (some (.d x))) cs := by
  have own : ∀ k, isOwn (A.set i (some (.dat a))) k → i ≠ k ∧ isOwn A k := fun k ⟨e, lo, hi, q⟩ => by
    rcases get_set q with ⟨_, z, _⟩ | ⟨n, z⟩
    · cases z
    · exact ⟨n, e, lo, hi, z⟩
  refine ⟨by simp [h.len], fun k aw e => ?_, fun k k' j o1 o2 e1 e2 => ?_⟩
  · rcases get_set e with ⟨rfl, z, hl⟩ | ⟨n, z⟩
    · cases z
      exact ⟨.d x, by rw [List.getElem?_set_self (by rw [h.len]; exact hl)], x, rfl, hx⟩
    · obtain ⟨w, h1, h2⟩ := h.get k aw z
      exact ⟨w, by rw [List.getElem?_set_ne n]; exact h1, h2⟩
  · obtain ⟨n1, o1⟩ := own k o1
    obtain ⟨n2, o2⟩ := own k' o2
    rw [List.getElem?_set_ne n1] at e1
    rw [List.getElem?_set_ne n2] at e2
    exact h.sep k k' j o1 o2 e1 e2
/-- a slot is set to a new list of one's own -/
theorem Sat.setO {A : AS} {ev : Wv} {cs js : Sto} {e : Pd} {lo hi j : Nat} {xs : List PyData} (h : Sat A ev cs) (i : Nat) (hj : cs.length ≤ j) (hc : (cs ++ js)[j]? = some (some xs)) (hx : Cont e lo hi xs) :
    Sat (A.set i (some (.own e lo hi))) (ev.set i (some (.c j))) (cs ++ js) := by
  have own : ∀ k, i ≠ k → isOwn (A.set i (some (.own e lo hi))) k → isOwn A k := fun k n ⟨e', lo', hi', q⟩ => by
    rcases get_set q with ⟨z, _, _⟩ | ⟨_, z⟩
    · exact absurd z n
    · exact ⟨e', lo', hi', z⟩
  have old : ∀ k, i ≠ k → isOwn A k → (ev.set i (some (.c j)))[k]? ≠ some (some (.c j)) := fun k n ⟨e', lo', hi', q⟩ z => by
    rw [List.getElem?_set_ne n] at z
    obtain ⟨w, h1, j', xs', h2, h3, _⟩ := h.get k _ q
    rw [z] at h1
    cases h1
    cases h2
    have := lt_of_get h3
    omega
  refine ⟨by simp [h.len], fun k aw q => ?_, fun k k' l o1 o2 e1 e2 => ?_⟩
  · rcases get_set q with ⟨rfl, z, hl⟩ | ⟨n, z⟩
    · cases z
      exact ⟨.c j, by rw [List.getElem?_set_self (by rw [h.len]; exact hl)], j, xs, rfl, hc, hx⟩
    · obtain ⟨w, h1, h2⟩ := h.get k aw z
      exact ⟨w, by rw [List.getElem?_set_ne n]; exact h1, satW_mono h2⟩
  · by_cases n1 : i = k
    · by_cases n2 : i = k'
      · omega
      · have l1 : (ev.set i (some (.c j)))[k]? = some (some (.c j)) := by
          subst n1
          rcases get_set e1 with ⟨_, z, hl⟩ | ⟨z, _⟩
          · rw [List.getElem?_set_self hl]
          · exact absurd rfl z
        rw [e1] at l1
        cases l1
        exact absurd e2 (old k' n2 (own k' n2 o2))
    · by_cases n2 : i = k'
      · have l1 : (ev.set i (some (.c j)))[k']? = some (some (.c j)) := by
          subst n2
          rcases get_set e2 with ⟨_, z, hl⟩ | ⟨z, _⟩
          · rw [List.getElem?_set_self hl]
          · exact absurd rfl z
        rw [e2] at l1
        cases l1
        exact absurd e1 (old k n1 (own k n1 o1))
      · rw [List.getElem?_set_ne n1] at e1
        rw [List.getElem?_set_ne n2] at e2
        exact h.sep k k' l (own k n1 o1) (own k' n2 o2) e1 e2
/-- nothing is known of a slot any more -/
theorem Sat.drop {A : AS} {ev : Wv} {cs : Sto} (h : Sat A ev cs) (i : Nat) (o : Option W) : Sat (A.set i none) (ev.set i o) cs := by
  have own : ∀ k, isOwn (A.set i none) k → i ≠ k ∧ isOwn A k := fun k ⟨e, lo, hi, q⟩ => by
    rcases get_set q with ⟨_, z, _⟩ | ⟨n, z⟩
    · cases z
    · exact ⟨n, e, lo, hi, z⟩
  refine ⟨by simp [h.len], fun k aw e => ?_, fun k k' j o1 o2 e1 e2 => ?_⟩
  · rcases get_set e with ⟨_, z, _⟩ | ⟨n, z⟩
    · cases z
    · obtain ⟨w, h1, h2⟩ := h.get k aw z
      exact ⟨w, by rw [List.getElem?_set_ne n]; exact h1, h2⟩
  · obtain ⟨n1, o1⟩ := own k o1
    obtain ⟨n2, o2⟩ := own k' o2
    rw [List.getElem?_set_ne n1] at e1
    rw [List.getElem?_set_ne n2] at e2
    exact h.sep k k' j o1 o2 e1 e2
def wipeA (A : AS) : List Nat → AS
  | [] => A
  | v :: vs => (wipeA A vs).set v none
theorem Sat.wipe {A : AS} {ev : Wv} {cs : Sto} (h : Sat A ev cs) : ∀ vs : List Nat, Sat (wipeA A vs) (wipeW ev vs) cs
  | [] => h
  | v :: vs => (Sat.wipe h vs).drop v none
/-- a list of one's own is changed -/
theorem Sat.write {A : AS} {ev : Wv} {cs : Sto} {e e' : Pd} {lo hi lo' hi' i j : Nat} {ys : List PyData} (h : Sat A ev cs) (hi1 : A[i]? = some (some (.own e lo hi))) (hj : ev[i]? = some (some (.c j))) (hy : Cont e' lo' hi' ys) :
    Sat (A.set i (some (.own e' lo' hi'))) ev (cs.set j (some ys)) := by
  have oi : isOwn A i := ⟨_, _, _, hi1⟩
  obtain ⟨w, k1, j', xs, k2, k3, k4⟩ := h.get i _ hi1
  rw [hj] at k1
  cases k1
  cases k2
  have hl := lt_of_get k3
  have own : ∀ k, isOwn (A.set i (some (.own e' lo' hi'))) k → isOwn A k := fun k ⟨e2, lo2, hi2, q⟩ => by
    rcases get_set q with ⟨z, _, _⟩ | ⟨_, z⟩
    · subst z
      exact oi
    · exact ⟨e2, lo2, hi2, z⟩
  refine ⟨by simp [h.len], fun k aw q => ?_, fun k k' l o1 o2 e1 e2 => h.sep k k' l (own k o1) (own k' o2) e1 e2⟩
  rcases get_set q with ⟨rfl, z, _⟩ | ⟨n, z⟩
  · cases z
    exact ⟨.c j, hj, j, ys, rfl, by rw [List.getElem?_set_self hl], hy⟩
  · obtain ⟨w, h1, h2⟩ := h.get k aw z
    refine ⟨w, h1, ?_⟩
    cases aw with
    | dat a => exact h2
    | box => exact h2
    | own e2 lo2 hi2 =>
      obtain ⟨l, zs, g1, g2, g3⟩ := h2
      subst g1
      have nl : j ≠ l := fun z2 => by
        subst z2
        exact n (h.sep i k j oi ⟨_, _, _, z⟩ hj h1)
      exact ⟨l, zs, rfl, by rw [List.getElem?_set_ne nl]; exact g2, g3⟩
/-! ### less is known -/
def AwLe : Option AW → Option AW → Prop
  | _, none => True
  | some (.dat a), some (.dat b) => ∀ x, a x → b x
  | some (.own e lo hi), some (.own e' lo' hi') => (∀ x, e x → e' x) ∧ lo' ≤ lo ∧ hi ≤ hi'
  | some .box, some .box => True
  | _, _ => False
inductive AsLe : AS → AS → Prop
  | nil : AsLe [] []
  | cons {a b : Option AW} {A B : AS} : AwLe a b → AsLe A B → AsLe (a :: A) (b :: B)
theorem AsLe.length : ∀ {A B : AS}, AsLe A B → A.length = B.length
  | _, _, .nil => rfl
  | _, _, .cons _ t => by simp [AsLe.length t]
theorem AsLe.get : ∀ {A B : AS}, AsLe A B → ∀ {i : Nat} {b : AW}, B[i]? = some (some b) → ∃ a, A[i]? = some (some a) ∧ AwLe (some a) (some b)
  | _, _, .nil, i, b, e => by simp at e
  | _, _, .cons (a := a) (b := b0) h t, 0, b, e => by
    simp only [List.getElem?_cons_zero, Option.some.injEq] at e
    subst e
    cases a with
    | none => exact absurd h (by simp [AwLe])
    | some a => exact ⟨a, rfl, h⟩
  | _, _, .cons h t, i + 1, b, e => by
    rw [List.getElem?_cons_succ] at e ⊢
    exact t.get e
theorem awle_own {a : AW} {e : Pd} {lo hi : Nat} (h : AwLe (some a) (some (.own e lo hi))) : ∃ e' lo' hi', a = .own e' lo' hi' := by
  cases a with
  | dat a => exact h.elim
  | box => exact h.elim
  | own e' lo' hi' => exact ⟨e', lo', hi', rfl⟩
theorem satW_le {cs : Sto} {a b : AW} {w : W} (h : AwLe (some a) (some b)) (s : satW cs a w) : satW cs b w := by
  cases a with
  | dat a =>
    cases b with
    | dat b =>
      obtain ⟨x, h1, h2⟩ := s
      exact ⟨x, h1, h x h2⟩
    | own => exact h.elim
    | box => exact h.elim
  | own e lo hi =>
    cases b with
    | dat b => exact h.elim
    | own e' lo' hi' =>
      obtain ⟨j, xs, h1, h2, h3, h4, h5⟩ := s
      obtain ⟨g1, g2, g3⟩ := h
      exact ⟨j, xs, h1, h2, by omega, by omega, fun y hy => g1 y (h5 y hy)⟩
    | box => exact h.elim
  | box =>
    cases b with
    | dat b => exact h.elim
    | own => exact h.elim
    | box => exact s
theorem Sat.le {A A' : AS} {ev : Wv} {cs : Sto} (h : Sat A ev cs) (l : AsLe A A') : Sat A' ev cs := by
  have own : ∀ k, isOwn A' k → isOwn A k := fun k ⟨e, lo, hi, q⟩ => by
    obtain ⟨a, g1, g2⟩ := l.get q
    obtain ⟨e', lo', hi', rfl⟩ := awle_own g2
    exact ⟨e', lo', hi', g1⟩
  refine ⟨by rw [h.len, l.length], fun i b e => ?_, fun k k' j o1 o2 => h.sep k k' j (own k o1) (own k' o2)⟩
  obtain ⟨a, g1, g2⟩ := l.get e
  obtain ⟨w, h1, h2⟩ := h.get i a g1
  exact ⟨w, h1, satW_le g2 h2⟩
/-! ### expressions -/
inductive AR where
  | dat (a : Pd)
  | val (a : Pd)
  | own (e : Pd) (lo hi : Nat)
  | box
def rsat (n : Nat) (cs : Sto) : AR → W → Prop
  | .dat a, w => ∃ x, w = .d x ∧ a x
  | .val a, w => ∃ x, rdW cs w = some x ∧ a x
  | .own e lo hi, w => ∃ j xs, w = .c j ∧ n ≤ j ∧ cs[j]? = some (some xs) ∧ Cont e lo hi xs
  | .box, w => w = .b
theorem rsat_mono {n : Nat} {cs js : Sto} {r : AR} {w : W} (h : rsat n cs r w) : rsat n (cs ++ js) r w := by
  cases r with
  | dat a => exact h
  | val a =>
    obtain ⟨x, h1, h2⟩ := h
    exact ⟨x, rdW_mono cs js h1, h2⟩
  | own e lo hi =>
    obtain ⟨j, xs, h1, h2, h3, h4⟩ := h
    exact ⟨j, xs, h1, h2, by rw [List.getElem?_append_left (lt_of_get h3)]; exact h3, h4⟩
  | box => exact h
theorem rsat_low {n n' : Nat} {cs : Sto} {r : AR} {w : W} (l : n' ≤ n) (h : rsat n cs r w) : rsat n' cs r w := by
  cases r with
  | dat a => exact h
  | val a => exact h
  | own e lo hi =>
    obtain ⟨j, xs, h1, h2, h3, h4⟩ := h
    exact ⟨j, xs, h1, Nat.le_trans l h2, h3, h4⟩
  | box => exact h
/-- one after another: what comes later is newer -/
inductive RAll : Nat → Sto → List AR → List W → Prop
  | nil {n : Nat} {cs : Sto} : RAll n cs [] []
  | cons {n : Nat} {cs : Sto} {r : AR} {w : W} {rs : List AR} {ws : List W} (n' : Nat) : n ≤ n' → rsat n cs r w → (∀ j, w = .c j → j < n') → n' ≤ cs.length → RAll n' cs rs ws → RAll n cs (r :: rs) (w :: ws)
inductive All2 : List Pd → List PyData → Prop
  | nil : All2 [] []
  | cons {a : Pd} {x : PyData} {as : List Pd} {xs : List PyData} : a x → All2 as xs → All2 (a :: as) (x :: xs)
theorem All2.length : ∀ {as : List Pd} {xs : List PyData}, All2 as xs → as.length = xs.length
  | _, _, .nil => rfl
  | _, _, .cons _ t => by simp [All2.length t]
def Fit (k m : Nat) (B' : Bx) : Prop := BxOk (m + k) B'
def AE (c : SE) (A : AS) (r : AR) (k : Nat) : Prop := ∀ ev cs B m, Sat A ev cs → BxOk m B → m + k ≤ Mx → ∃ w B' js, rsat cs.length (cs ++ js) r w ∧ BxOk (m + k) B' ∧ ∀ θ : Th, c (θ.ev ev) (θ.sto B cs) = some (θ.u w, θ.sto B' (cs ++ js))
def AA (c : SA) (A : AS) (rs : List AR) (k : Nat) : Prop := ∀ ev cs B m, Sat A ev cs → BxOk m B → m + k ≤ Mx → ∃ ws B' js, RAll cs.length (cs ++ js) rs ws ∧ BxOk (m + k) B' ∧ ∀ θ : Th, c (θ.ev ev) (θ.sto B cs) = some (ws.map θ.u, θ.sto B' (cs ++ js))
def AB (c : SB) (A : AS) (q : Bool → Prop) (k : Nat) : Prop := ∀ ev cs B m, Sat A ev cs → BxOk m B → m + k ≤ Mx → ∃ t B' js, q t ∧ BxOk (m + k) B' ∧ ∀ θ : Th, c (θ.ev ev) (θ.sto B cs) = some (t, θ.sto B' (cs ++ js))
def Tr1 (f : PyData → Option PyData) (a r : Pd) : Prop := ∀ x, a x → ∃ z, r z ∧ f x = some z
def Tr2 (f : PyData → PyData → Option PyData) (a b r : Pd) : Prop := ∀ x y, a x → b y → ∃ z, r z ∧ f x y = some z
def TrN (f : List PyData → Option PyData) (as : List Pd) (r : Pd) : Prop := ∀ xs, All2 as xs → ∃ z, r z ∧ f xs = some z
section
variable {A : AS} {c c2 c3 : SE} {sa : SA} {a b r : Pd} {k k1 k2 k3 : Nat} {f g : PyData → PyData → Option PyData}
theorem ae_val (h : AE c A (.dat a) k) : AE c A (.val a) k := fun ev cs B m hs hb hm => by
  obtain ⟨w, B', js, ⟨x, rfl, hx⟩, h2, h3⟩ := h ev cs B m hs hb hm
  exact ⟨.d x, B', js, ⟨x, rfl, hx⟩, h2, h3⟩
theorem ae_le (h : AE c A (.dat a) k) (l : ∀ x, a x → b x) : AE c A (.dat b) k := fun ev cs B m hs hb hm => by
  obtain ⟨w, B', js, ⟨x, rfl, hx⟩, h2, h3⟩ := h ev cs B m hs hb hm
  exact ⟨.d x, B', js, ⟨x, rfl, l x hx⟩, h2, h3⟩
theorem ae_lev (h : AE c A (.val a) k) (l : ∀ x, a x → b x) : AE c A (.val b) k := fun ev cs B m hs hb hm => by
  obtain ⟨w, B', js, ⟨x, h1, hx⟩, h2, h3⟩ := h ev cs B m hs hb hm
  exact ⟨w, B', js, ⟨x, h1, l x hx⟩, h2, h3⟩
theorem ae_up {r : AR} (h : AE c A r k) (l : k ≤ k1) : AE c A r k1 := fun ev cs B m hs hb hm => by
  obtain ⟨w, B', js, h1, h2, h3⟩ := h ev cs B m hs hb (by omega)
  exact ⟨w, B', js, h1, bx_le h2 (by omega) hm, h3⟩
theorem ae_var {i : Nat} (e : A[i]? = some (some (.dat a))) : AE (cVar i) A (.dat a) 0 := fun ev cs B m hs hb hm => by
  obtain ⟨w, h1, x, rfl, hx⟩ := hs.get i _ e
  refine ⟨.d x, B, [], ⟨x, rfl, hx⟩, hb, fun θ => ?_⟩
  rw [cVar_ap, Th.get, h1, List.append_nil]
  rfl
theorem ae_own {i lo hi : Nat} {e : Pd} (q : A[i]? = some (some (.own e lo hi))) (l : ∀ xs, Cont e lo hi xs → a (.list xs)) : AE (cVar i) A (.val a) 0 := fun ev cs B m hs hb hm => by
  obtain ⟨w, h1, j, xs, rfl, hx, hc⟩ := hs.get i _ q
  refine ⟨.c j, B, [], ⟨.list xs, by simp only [List.append_nil, rdW, hx], l xs hc⟩, hb, fun θ => ?_⟩
  rw [cVar_ap, Th.get, h1, List.append_nil]
  rfl
theorem ae_box {i : Nat} (q : A[i]? = some (some .box)) : AE (cVar i) A .box 0 := fun ev cs B m hs hb hm => by
  obtain ⟨w, h1, rfl⟩ := hs.get i _ q
  refine ⟨.b, B, [], rfl, hb, fun θ => ?_⟩
  rw [cVar_ap, Th.get, h1, List.append_nil]
  rfl
theorem ae_c {x : PyData} (h : a x) : AE (cD x) A (.dat a) 0 := fun ev cs B m hs hb hm => ⟨.d x, B, [], ⟨x, rfl, h⟩, hb, fun θ => by rw [List.append_nil]; rfl⟩
theorem ae_1 {f : PyData → Option PyData} (h : AE c A (.val a) k) (t : Tr1 f a r) : AE (cD1 f c) A (.dat r) k := fun ev cs B m hs hb hm => by
  obtain ⟨w, B', js, ⟨x, h1, hx⟩, h2, h3⟩ := h ev cs B m hs hb hm
  obtain ⟨z, rz, ez⟩ := t x hx
  refine ⟨.d z, B', js, ⟨z, rfl, rz⟩, h2, fun θ => ?_⟩
  rw [cD1_ap, h3 θ]
  simp only [Option.bind_some, d1a_ap, Th.rd θ B' _ h1, ez, toD_s]
  rfl
theorem ae_both (h1 : AE c A (.val a) k1) (h2 : AE c2 A (.val b) k2) : ∀ ev cs B m, Sat A ev cs → BxOk m B → m + (k1 + k2) ≤ Mx → ∃ (w w2 : W) (x y : PyData) (B1 B2 : Bx) (j1 js : Sto), a x ∧ b y ∧ rdW (cs ++ js) w = some x ∧ rdW (cs ++ js) w2 = some y ∧ BxOk (m + (k1 + k2)) B2 ∧
    ∀ θ : Th, c (θ.ev ev) (θ.sto B cs) = some (θ.u w, θ.sto B1 (cs ++ j1)) ∧ c2 (θ.ev ev) (θ.sto B1 (cs ++ j1)) = some (θ.u w2, θ.sto B2 (cs ++ js)) := fun ev cs B m hs hb hm => by
  obtain ⟨w1, B1, j1, ⟨x, r1, ax⟩, b1, e1⟩ := h1 ev cs B m hs hb (by omega)
  obtain ⟨w2, B2, j2, ⟨y, r2, ay⟩, b2, e2⟩ := h2 ev (cs ++ j1) B1 (m + k1) (hs.mono j1) b1 (by omega)
  rw [List.append_assoc] at r2
  refine ⟨w1, w2, x, y, B1, B2, j1, j1 ++ j2, ax, ay, ?_, r2, by rw [← Nat.add_assoc]; exact b2, fun θ => ⟨e1 θ, ?_⟩⟩
  · rw [← List.append_assoc]
    exact rdW_mono _ _ r1
  · rw [← List.append_assoc]
    exact e2 θ
theorem ae_2 (h1 : AE c A (.val a) k1) (h2 : AE c2 A (.val b) k2) (t : Tr2 f a b r) : AE (cD2 f c c2) A (.dat r) (k1 + k2) := fun ev cs B m hs hb hm => by
  obtain ⟨w, w2, x, y, B1, B2, j1, js, ax, ay, r1, r2, b2, e⟩ := ae_both h1 h2 ev cs B m hs hb hm
  obtain ⟨z, rz, ez⟩ := t x y ax ay
  refine ⟨.d z, B2, js, ⟨z, rfl, rz⟩, b2, fun θ => ?_⟩
  rw [cD2_ap, (e θ).1]
  simp only [Option.bind_some, d2a_ap, (e θ).2, d2b_ap, Th.rd θ B2 _ r1, Th.rd θ B2 _ r2, d2c_s, ez, toD_s]
  rfl
theorem ae_2s (h1 : AE c A (.val a) k1) (h2 : AE c2 A (.val b) k2) (t : Tr2 f a b r) : AE (cD2s f c c2) A (.dat r) (k1 + k2) := fun ev cs B m hs hb hm => by
  obtain ⟨w, w2, x, y, B1, B2, j1, js, ax, ay, r1, r2, b2, e⟩ := ae_both h1 h2 ev cs B m hs hb hm
  obtain ⟨z, rz, ez⟩ := t x y ax ay
  refine ⟨.d z, B2, js, ⟨z, rfl, rz⟩, b2, fun θ => ?_⟩
  rw [cD2s_ap, (e θ).1]
  simp only [Option.bind_some, d2sa_ap, (e θ).2, d2sb_ap, Th.rdS θ B2 _ r1, Th.rdS θ B2 _ r2, d2c_s, ez, toD_s]
  rfl
theorem aa_nil : AA cNil A [] 0 := fun ev cs B m hs hb hm => ⟨[], B, [], .nil, hb, fun θ => by rw [List.append_nil]; rfl⟩
theorem RAll.length {n : Nat} {cs : Sto} {rs : List AR} {ws : List W} (h : RAll n cs rs ws) : ws.length = rs.length := by
  induction h with
  | nil => rfl
  | cons _ _ _ _ _ _ ih => simp [ih]
theorem rsat_lt {n : Nat} {cs : Sto} {r : AR} {w : W} (h : rsat n cs r w) : ∀ j, w = .c j → j < cs.length := fun j e => by
  subst e
  cases r with
  | dat a =>
    obtain ⟨x, h1, _⟩ := h
    cases h1
  | val a =>
    obtain ⟨x, h1, _⟩ := h
    simp only [rdW] at h1
    split at h1
    · rename_i q
      exact lt_of_get q
    · cases h1
  | own e lo hi =>
    obtain ⟨j', xs, h1, _, h3, _⟩ := h
    cases h1
    exact lt_of_get h3
  | box => cases h
theorem aa_cons {r : AR} {rs : List AR} (h1 : AE c A r k1) (h2 : AA sa A rs k2) : AA (cCons c sa) A (r :: rs) (k1 + k2) := fun ev cs B m hs hb hm => by
  obtain ⟨w1, B1, j1, r1, b1, e1⟩ := h1 ev cs B m hs hb (by omega)
  obtain ⟨w2, B2, j2, r2, b2, e2⟩ := h2 ev (cs ++ j1) B1 (m + k1) (hs.mono j1) b1 (by omega)
  refine ⟨w1 :: w2, B2, j1 ++ j2, ?_, by rw [← Nat.add_assoc]; exact b2, fun θ => ?_⟩
  · rw [← List.append_assoc]
    exact .cons (cs ++ j1).length (by simp) (rsat_mono r1) (rsat_lt r1) (by simp) r2
  · rw [cCons_ap, e1 θ]
    simp only [Option.bind_some, consa_ap, e2 θ, Option.map_some, cons1_ap, List.append_assoc, List.map_cons]
abbrev vals (as : List Pd) : List AR := as.map .val
abbrev dats (as : List Pd) : List AR := as.map .dat
theorem read_vals {cs : Sto} : ∀ {n : Nat} {as : List Pd} {ws : List W}, RAll n cs (vals as) ws → ∃ xs, All2 as xs ∧ ∀ (θ : Th) (B : Bx), rdAll (θ.sto B cs) (ws.map θ.u) = some xs
  | _, [], _, .nil => ⟨[], .nil, fun _ _ => rfl⟩
  | _, a :: as, _, .cons (ws := ws) _ _ ⟨x, h1, h2⟩ _ _ t => by
    obtain ⟨xs, g1, g2⟩ := read_vals t
    refine ⟨x :: xs, .cons h2 g1, fun θ B => ?_⟩
    rw [List.map_cons, rdAll_cons, Th.rd θ B _ h1, g2]
    rfl
theorem read_dats {cs : Sto} : ∀ {n : Nat} {as : List Pd} {ws : List W}, RAll n cs (dats as) ws → ∃ xs, All2 as xs ∧ ws = xs.map .d
  | _, [], _, .nil => ⟨[], .nil, rfl⟩
  | _, a :: as, _, .cons (ws := ws) _ _ ⟨x, h1, h2⟩ _ _ t => by
    obtain ⟨xs, g1, g2⟩ := read_dats t
    exact ⟨x :: xs, .cons h2 g1, by rw [h1, g2]; rfl⟩
theorem u_dats (θ : Th) (xs : List PyData) : (xs.map W.d).map θ.u = xs.map U.d := by rw [List.map_map]; rfl
theorem ae_call {f : List PyData → Option PyData} {as : List Pd} (h : AA sa A (vals as) k) (t : TrN f as r) : AE (cCall f sa) A (.dat r) k := fun ev cs B m hs hb hm => by
  obtain ⟨ws, B', js, h1, h2, h3⟩ := h ev cs B m hs hb hm
  obtain ⟨xs, g1, g2⟩ := read_vals h1
  obtain ⟨z, rz, ez⟩ := t xs g1
  refine ⟨.d z, B', js, ⟨z, rfl, rz⟩, h2, fun θ => ?_⟩
  rw [cCall_ap, h3 θ]
  simp only [Option.bind_some, calla_ap, g2, ez, toD_s]
  rfl
/-- tuples and lists of so many things -/
def TpOf (as : List Pd) : Pd := fun x => ∃ xs, x = .tuple xs ∧ All2 as xs
def LsOf (as : List Pd) : Pd := fun x => ∃ xs, x = .list xs ∧ All2 as xs
theorem allD_d (xs : List PyData) : allD (xs.map U.d) = some xs := by
  induction xs with
  | nil => rfl
  | cons x xs ih => rw [List.map_cons, allD_cons, ih]; rfl
theorem ae_tup {as : List Pd} (h : AA sa A (dats as) k) (l : as.length ≤ lim) : AE (cTup sa) A (.dat (TpOf as)) k := fun ev cs B m hs hb hm => by
  obtain ⟨ws, B', js, h1, h2, h3⟩ := h ev cs B m hs hb hm
  obtain ⟨xs, g1, rfl⟩ := read_dats h1
  refine ⟨.d (.tuple xs), B', js, ⟨_, rfl, xs, rfl, g1⟩, h2, fun θ => ?_⟩
  have lx : xs.length ≤ lim := by rw [← g1.length]; exact l
  rw [cTup_ap, h3 θ]
  simp only [Option.bind_some, lstb_ap, u_dats, allD_d, tupa_ap, if_pos lx]
  rfl
theorem ae_lst {as : List Pd} (h : AA sa A (dats as) k) (l : as.length ≤ lim) : AE (cLst sa) A (.dat (LsOf as)) k := fun ev cs B m hs hb hm => by
  obtain ⟨ws, B', js, h1, h2, h3⟩ := h ev cs B m hs hb hm
  obtain ⟨xs, g1, rfl⟩ := read_dats h1
  refine ⟨.d (.list xs), B', js, ⟨_, rfl, xs, rfl, g1⟩, h2, fun θ => ?_⟩
  have lx : xs.length ≤ lim := by rw [← g1.length]; exact l
  rw [cLst_ap, h3 θ]
  simp only [Option.bind_some, lstb_ap, u_dats, allD_d, lsta_ap, if_pos lx]
  rfl
theorem all2_cont {e : Pd} : ∀ {as : List Pd} {xs : List PyData}, All2 as xs → (∀ a ∈ as, ∀ x, a x → e x) → ∀ y ∈ xs, e y
  | _, _, .nil, _, y, hy => by cases hy
  | _, _, .cons h t, l, y, hy => by
    rcases List.mem_cons.mp hy with rfl | hy
    · exact l _ List.mem_cons_self _ h
    · exact all2_cont t (fun a ha => l a (List.mem_cons_of_mem _ ha)) y hy
/-- a new list of one's own -/
theorem ao_lst {as : List Pd} {e : Pd} {n : Nat} (h : AA sa A (dats as) k) (l : as.length ≤ lim) (he : ∀ a ∈ as, ∀ x, a x → e x) (hn : as.length = n := by rfl) : AE (cLstM sa) A (.own e n n) k := fun ev cs B m hs hb hm => by
  obtain ⟨ws, B', js, h1, h2, h3⟩ := h ev cs B m hs hb hm
  obtain ⟨xs, g1, rfl⟩ := read_dats h1
  have lx : xs.length ≤ lim := by rw [← g1.length]; exact l
  have ln : xs.length = n := by rw [← g1.length]; exact hn
  refine ⟨.c (cs ++ js).length, B', js ++ [some xs], ⟨_, xs, rfl, by simp, ?_, by omega, by omega, all2_cont g1 he⟩, h2, fun θ => ?_⟩
  · rw [← List.append_assoc, List.getElem?_append_right (Nat.le_refl _), Nat.sub_self]
    rfl
  · rw [cLstM_ap, h3 θ]
    simp only [Option.bind_some, lstb_ap, u_dats, allD_d, lstMa_ap, if_pos lx, Th.len, Th.app, List.append_assoc]
    rfl
/-! tests -/
theorem ab_up {t : SB} {q : Bool → Prop} (h : AB t A q k) (l : k ≤ k1) : AB t A q k1 := fun ev cs B m hs hb hm => by
  obtain ⟨w, B', js, h1, h2, h3⟩ := h ev cs B m hs hb (by omega)
  exact ⟨w, B', js, h1, bx_le h2 (by omega) hm, h3⟩
abbrev anyB : Bool → Prop := fun _ => True
def Bq (q : Bool → Prop) : Pd := fun x => ∃ t, x = .bool t ∧ q t
theorem ab_b {q : Bool → Prop} (h : AE c A (.dat (Bq q)) k) : AB (cB c) A q k := fun ev cs B m hs hb hm => by
  obtain ⟨w, B', js, ⟨x, rfl, t, rfl, qt⟩, h2, h3⟩ := h ev cs B m hs hb hm
  refine ⟨t, B', js, qt, h2, fun θ => ?_⟩
  rw [cB_ap, h3 θ]
  rfl
theorem ab_tr {q : Bool → Prop} (h : AE c A (.val a) k) (tr : ∀ x, a x → ∃ t, truth x = some t ∧ q t) : AB (cTr c) A q k := fun ev cs B m hs hb hm => by
  obtain ⟨w, B', js, ⟨x, h1, hx⟩, h2, h3⟩ := h ev cs B m hs hb hm
  obtain ⟨t, e, qt⟩ := tr x hx
  refine ⟨t, B', js, qt, h2, fun θ => ?_⟩
  rw [cTr_ap, h3 θ]
  simp only [Option.bind_some, tra_ap, Th.rd θ B' _ h1, e, toB_s]
theorem ab_not {t : SB} {q : Bool → Prop} (h : AB t A (fun b => q (!b)) k) : AB (bNot t) A q k := fun ev cs B m hs hb hm => by
  obtain ⟨w, B', js, h1, h2, h3⟩ := h ev cs B m hs hb hm
  refine ⟨!w, B', js, h1, h2, fun θ => ?_⟩
  rw [bNot_ap, h3 θ]
  rfl
theorem ab_and {t t2 : SB} (h : AB t A anyB k1) (h2 : AB t2 A anyB k2) : AB (bAnd t t2) A anyB (k1 + k2) := fun ev cs B m hs hb hm => by
  obtain ⟨w, B1, j1, q1, b1, e1⟩ := h ev cs B m hs hb (by omega)
  cases w with
  | false => exact ⟨false, B1, j1, trivial, bx_le b1 (by omega) hm, fun θ => by rw [bAnd_ap, e1 θ]; rfl⟩
  | true =>
    obtain ⟨w2, B2, j2, q2, b2, e2⟩ := h2 ev (cs ++ j1) B1 (m + k1) (hs.mono j1) b1 (by omega)
    refine ⟨w2, B2, j1 ++ j2, trivial, by rw [← Nat.add_assoc]; exact b2, fun θ => ?_⟩
    rw [bAnd_ap, e1 θ]
    simp only [Option.bind_some, anda_ap, if_true, e2 θ, List.append_assoc]
theorem ab_or {t t2 : SB} (h : AB t A anyB k1) (h2 : AB t2 A anyB k2) : AB (bOr t t2) A anyB (k1 + k2) := fun ev cs B m hs hb hm => by
  obtain ⟨w, B1, j1, q1, b1, e1⟩ := h ev cs B m hs hb (by omega)
  cases w with
  | true => exact ⟨true, B1, j1, trivial, bx_le b1 (by omega) hm, fun θ => by rw [bOr_ap, e1 θ]; rfl⟩
  | false =>
    obtain ⟨w2, B2, j2, q2, b2, e2⟩ := h2 ev (cs ++ j1) B1 (m + k1) (hs.mono j1) b1 (by omega)
    refine ⟨w2, B2, j1 ++ j2, trivial, by rw [← Nat.add_assoc]; exact b2, fun θ => ?_⟩
    rw [bOr_ap, e1 θ]
    simp only [Option.bind_some, ora_ap, e2 θ, List.append_assoc]
    rfl
theorem ab_yes : AB bYes A (· = true) 0 := fun ev cs B m hs hb hm => ⟨true, B, [], rfl, hb, fun θ => by rw [List.append_nil]; rfl⟩
theorem ab_any {t : SB} {q : Bool → Prop} (h : AB t A q k) : AB t A anyB k := fun ev cs B m hs hb hm => by
  obtain ⟨w, B', js, h1, h2, h3⟩ := h ev cs B m hs hb hm
  exact ⟨w, B', js, trivial, h2, h3⟩
theorem ae_if {t : SB} {q : Bool → Prop} {r : AR} (h : AB t A q k) (h1 : q true → AE c A r k1) (h2 : q false → AE c2 A r k1) : AE (cIf t c c2) A r (k + k1) := fun ev cs B m hs hb hm => by
  obtain ⟨w, B1, j1, q1, b1, e1⟩ := h ev cs B m hs hb (by omega)
  cases w with
  | true =>
    obtain ⟨w2, B2, j2, r2, b2, e2⟩ := h1 q1 ev (cs ++ j1) B1 (m + k) (hs.mono j1) b1 (by omega)
    refine ⟨w2, B2, j1 ++ j2, ?_, by rw [← Nat.add_assoc]; exact b2, fun θ => ?_⟩
    · rw [← List.append_assoc]
      exact rsat_low (by simp) r2
    · rw [cIf_ap, e1 θ]
      simp only [Option.bind_some, ifa_ap, if_true, e2 θ, List.append_assoc]
  | false =>
    obtain ⟨w2, B2, j2, r2, b2, e2⟩ := h2 q1 ev (cs ++ j1) B1 (m + k) (hs.mono j1) b1 (by omega)
    refine ⟨w2, B2, j1 ++ j2, ?_, by rw [← Nat.add_assoc]; exact b2, fun θ => ?_⟩
    · rw [← List.append_assoc]
      exact rsat_low (by simp) r2
    · rw [cIf_ap, e1 θ]
      simp only [Option.bind_some, ifa_ap, e2 θ, List.append_assoc]
      rfl
/-- a and b, both true -/
abbrev Tt : Pd := Bq (· = true)
abbrev Bl : Pd := Bq anyB
theorem ae_andT (h1 : AE c A (.dat Tt) k1) (h2 : AE c2 A (.dat r) k2) : AE (cAnd c c2) A (.dat r) (k1 + k2) := fun ev cs B m hs hb hm => by
  obtain ⟨w, B1, j1, ⟨x, rfl, t, rfl, rfl⟩, b1, e1⟩ := h1 ev cs B m hs hb (by omega)
  obtain ⟨w2, B2, j2, ⟨y, rfl, ry⟩, b2, e2⟩ := h2 ev (cs ++ j1) B1 (m + k1) (hs.mono j1) b1 (by omega)
  refine ⟨.d y, B2, j1 ++ j2, ⟨y, rfl, ry⟩, by rw [← Nat.add_assoc]; exact b2, fun θ => ?_⟩
  rw [cAnd_ap, e1 θ]
  simp only [Th.u, Option.bind_some, andEa_ap, rd_d, truth_b, andEb_ap, if_true, e2 θ, List.append_assoc]
theorem ae_and (h1 : AE c A (.dat Bl) k1) (h2 : AE c2 A (.dat Bl) k2) : AE (cAnd c c2) A (.dat Bl) (k1 + k2) := fun ev cs B m hs hb hm => by
  obtain ⟨w, B1, j1, ⟨x, rfl, t, rfl, _⟩, b1, e1⟩ := h1 ev cs B m hs hb (by omega)
  cases t with
  | false =>
    refine ⟨.d (.bool false), B1, j1, ⟨_, rfl, false, rfl, trivial⟩, bx_le b1 (by omega) hm, fun θ => ?_⟩
    rw [cAnd_ap, e1 θ]
    rfl
  | true =>
    obtain ⟨w2, B2, j2, ⟨y, rfl, ry⟩, b2, e2⟩ := h2 ev (cs ++ j1) B1 (m + k1) (hs.mono j1) b1 (by omega)
    refine ⟨.d y, B2, j1 ++ j2, ⟨y, rfl, ry⟩, by rw [← Nat.add_assoc]; exact b2, fun θ => ?_⟩
    rw [cAnd_ap, e1 θ]
    simp only [Th.u, Option.bind_some, andEa_ap, rd_d, truth_b, andEb_ap, if_true, e2 θ, List.append_assoc]
theorem ae_not {q : Bool → Prop} (h1 : AE c A (.dat (Bq fun b => q (!b))) k1) : AE (cNot c) A (.dat (Bq q)) k1 := fun ev cs B m hs hb hm => by
  obtain ⟨w, B1, j1, ⟨x, rfl, t, rfl, qt⟩, b1, e1⟩ := h1 ev cs B m hs hb (by omega)
  refine ⟨.d (.bool !t), B1, j1, ⟨_, rfl, !t, rfl, qt⟩, b1, fun θ => ?_⟩
  rw [cNot_ap, e1 θ]
  rfl
/-! defs -/
/-- a def that draws nothing -/
def PF (f : FS) (as : List Pd) (r : Pd) : Prop := ∀ xs, All2 as xs → ∃ z, r z ∧ ∀ st, f (xs.map .d) st = some (.d z, st)
/-- a def that draws from the box, k times at most -/
def DF (f : FS) (as : List Pd) (r : Pd) (k : Nat) : Prop := ∀ xs m B, All2 as xs → BxOk m B → m + k ≤ Mx → ∃ z B', r z ∧ BxOk (m + k) B' ∧ ∀ (st L : Sto) (b : Nat), b < st.length → f (.l b :: xs.map .d) (ex (st.set b (some (lay B))) L) = some (.d z, ex (st.set b (some (lay B'))) L)
theorem ae_pf {f : FS} {as : List Pd} {n : Nat} (h : AA sa A (dats as) k) (p : PF f as r) (hn : as.length = n := by rfl) : AE (cDef n f sa) A (.dat r) k := fun ev cs B m hs hb hm => by
  obtain ⟨ws, B', js, h1, h2, h3⟩ := h ev cs B m hs hb hm
  obtain ⟨xs, g1, rfl⟩ := read_dats h1
  obtain ⟨z, rz, ez⟩ := p xs g1
  refine ⟨.d z, B', js, ⟨z, rfl, rz⟩, h2, fun θ => ?_⟩
  have ln : (xs.map U.d).length = n := by rw [List.length_map, ← g1.length]; exact hn
  rw [cDef_ap, h3 θ]
  simp only [Option.bind_some, u_dats, defa_ap, if_pos ln, ez]
  rfl
theorem ae_df {f : FS} {as : List Pd} {n : Nat} (h : AA sa A (.box :: dats as) k) (p : DF f as r k1) (hn : as.length + 1 = n := by rfl) : AE (cDef n f sa) A (.dat r) (k + k1) := fun ev cs B m hs hb hm => by
  obtain ⟨ws, B', js, h1, h2, h3⟩ := h ev cs B m hs hb (by omega)
  cases h1 with
  | cons n' _ hw _ _ t =>
    cases hw
    obtain ⟨xs, g1, rfl⟩ := read_dats t
    obtain ⟨z, B2, rz, b2, ez⟩ := p xs (m + k) B' g1 h2 (by omega)
    refine ⟨.d z, B2, js, ⟨z, rfl, rz⟩, by rw [← Nat.add_assoc]; exact b2, fun θ => ?_⟩
    have ln : (U.l θ.b :: xs.map U.d).length = n := by rw [List.length_cons, List.length_map, ← g1.length]; exact hn
    rw [cDef_ap, h3 θ]
    simp only [Option.bind_some, List.map_cons, u_dats]
    show defa n f (U.l θ.b :: xs.map U.d, _) = _
    rw [defa_ap, if_pos ln]
    exact ez θ.st (θ.L ++ (cs ++ js)) θ.b θ.ok
theorem df_le {f : FS} {as : List Pd} (p : DF f as r k) (l : ∀ x, r x → b x) (hk : k ≤ k1) : DF f as b k1 := fun xs m B h1 h2 h3 => by
  obtain ⟨z, B', g1, g2, g3⟩ := p xs m B h1 h2 (by omega)
  exact ⟨z, B', l z g1, bx_le g2 (by omega) h3, g3⟩
theorem pf_df {f : FS} {as : List Pd} (p : PF f as r) : PF f as r := p
end
end Cm

set_option Elab.async false
set_option linter.all false
set_option maxRecDepth 100000
set_option maxHeartbeats 4000000
namespace Cm
open PySem PySem.Spec PyProof.Rows L2
/-- lists, tuples of like things -/
def Ls (e : Pd) (lo hi : Nat) : Pd := fun x => ∃ xs, x = .list xs ∧ Cont e lo hi xs
def Tp (e : Pd) (lo hi : Nat) : Pd := fun x => ∃ xs, x = .tuple xs ∧ Cont e lo hi xs
def Is (v : PyData) : Pd := fun x => x = v
def Or2 (a b : Pd) : Pd := fun x => a x ∨ b x
theorem cont_le {e e' : Pd} {lo hi lo' hi' : Nat} {xs : List PyData} (h : Cont e lo hi xs) (l : ∀ x, e x → e' x) (h1 : lo' ≤ lo) (h2 : hi ≤ hi') : Cont e' lo' hi' xs :=
  ⟨Nat.le_trans h1 h.1, Nat.le_trans h.2.1 h2, fun y hy => l y (h.2.2 y hy)⟩
/-! ### what is walked -/
def AIt (it : SI) (A : AS) (e : Pd) (lo hi k : Nat) : Prop := ∀ ev cs B m, Sat A ev cs → BxOk m B → m + k ≤ Mx → ∃ xs B' js, Cont e lo hi xs ∧ BxOk (m + k) B' ∧ ∀ θ : Th, it (θ.ev ev) (θ.sto B cs) = some (.fix xs, θ.sto B' (cs ++ js))
section
variable {A A1 A2 : AS} {c c2 c3 : SE} {sa : SA} {a b r e e1 e2 : Pd} {k k1 k2 k3 lo hi lo1 hi1 lo2 hi2 : Nat}
theorem it_seq (h : AE c A (.dat a) k) (l : ∀ x, a x → ∃ xs, (x = .list xs ∨ x = .tuple xs) ∧ Cont e lo hi xs) : AIt (iSeq c) A e lo hi k := fun ev cs B m hs hb hm => by
  obtain ⟨w, B', js, ⟨x, rfl, hx⟩, h2, h3⟩ := h ev cs B m hs hb hm
  obtain ⟨xs, hq, hc⟩ := l x hx
  refine ⟨xs, B', js, hc, h2, fun θ => ?_⟩
  rw [iSeq_ap, h3 θ]
  rcases hq with rfl | rfl <;> rfl
theorem it_ls (h : AE c A (.dat (Ls e lo hi)) k) : AIt (iSeq c) A e lo hi k := it_seq h fun x ⟨xs, h1, h2⟩ => ⟨xs, .inl h1, h2⟩
theorem it_tp (h : AE c A (.dat (Tp e lo hi)) k) : AIt (iSeq c) A e lo hi k := it_seq h fun x ⟨xs, h1, h2⟩ => ⟨xs, .inr h1, h2⟩
/-- ints between bounds -/
def LoB : Option Int → Int → Prop
  | none, _ => True
  | some l, i => l ≤ i
def HiB : Option Int → Int → Prop
  | none, _ => True
  | some h, i => i ≤ h
def Iz (lo hi : Option Int) : Pd := fun x => ∃ i, x = .int i ∧ LoB lo i ∧ HiB hi i
theorem it_range1 {l h : Int} (g : AE c A (.dat (Iz (some l) (some h))) k) (h1 : -4611686018427387904 ≤ l) (h2 : h < 4611686018427387904) (hl : lo = l.toNat) (hh : hi = h.toNat) : AIt (iRange1 (cCons c cNil)) A (Iz (some 0) (some (h - 1))) lo hi k := fun ev cs B m hs hb hm => by
  obtain ⟨w, B', js, ⟨x, rfl, i, rfl, q1, q2⟩, g2, g3⟩ := g ev cs B m hs hb hm
  simp only [LoB, HiB] at q1 q2
  subst hl hh
  refine ⟨rangeD 0 i.toNat, B', js, ⟨by simp [rangeD]; omega, by simp [rangeD]; omega, fun y hy => ?_⟩, g2, fun θ => ?_⟩
  · obtain ⟨n, hn, rfl⟩ := rangeD_mem.mp hy
    refine ⟨_, rfl, ?_, ?_⟩ <;> simp only [LoB, HiB] <;> omega
  · have bg : big i = true := by
      unfold big
      exact decide_eq_true (by omega)
    unfold iRange1
    rw [cCons_ap, g3 θ]
    simp only [Option.bind_some, consa_ap, cNil_ap, Option.map_some, cons1_ap, Th.u, bg, if_true]
theorem it_range2 {l h l2 h2 : Int} (g : AE c A (.dat (Iz (some l) (some h))) k1) (g2 : AE c2 A (.dat (Iz (some l2) (some h2))) k2) (b1 : -4611686018427387904 ≤ l) (b2 : h < 4611686018427387904) (b3 : -4611686018427387904 ≤ l2) (b4 : h2 < 4611686018427387904) (hl : lo = (l2 - h).toNat) (hh : hi = (h2 - l).toNat) :
    AIt (iRange2 (cCons c (cCons c2 cNil))) A (Iz (some l) (some (h2 - 1))) lo hi (k1 + k2) := fun ev cs B m hs hb hm => by
  obtain ⟨w, B1, j1, ⟨x, rfl, i, rfl, q1, q2⟩, b1', e1⟩ := g ev cs B m hs hb (by omega)
  obtain ⟨w2, B2, j2, ⟨x2, rfl, i2, rfl, q3, q4⟩, b2', e2⟩ := g2 ev (cs ++ j1) B1 (m + k1) (hs.mono j1) b1' (by omega)
  simp only [LoB, HiB] at q1 q2 q3 q4
  subst hl hh
  refine ⟨rangeD i (i2 - i).toNat, B2, j1 ++ j2, ⟨by simp [rangeD]; omega, by simp [rangeD]; omega, fun y hy => ?_⟩, by rw [← Nat.add_assoc]; exact b2', fun θ => ?_⟩
  · obtain ⟨n, hn, rfl⟩ := rangeD_mem.mp hy
    refine ⟨_, rfl, ?_, ?_⟩ <;> simp only [LoB, HiB] <;> omega
  · have bg : big i = true := by
      unfold big
      exact decide_eq_true (by omega)
    have bg2 : big i2 = true := by
      unfold big
      exact decide_eq_true (by omega)
    unfold iRange2
    rw [cCons_ap, e1 θ]
    simp only [Option.bind_some, consa_ap, cCons_ap, e2 θ, cNil_ap, Option.map_some, cons1_ap, Th.u, bg, bg2, Bool.and_self, if_true, List.append_assoc]
theorem cont_zip {xs ys : List PyData} (h1 : Cont e1 lo1 hi1 xs) (h2 : Cont e2 lo2 hi2 ys) : Cont (TpOf [e1, e2]) (min lo1 lo2) (min hi1 hi2) (List.zipWith (fun x y => .tuple [x, y]) xs ys) := by
  refine ⟨?_, ?_, fun z hz => ?_⟩
  · rw [List.length_zipWith]
    have := h1.1
    have := h2.1
    omega
  · rw [List.length_zipWith]
    have := h1.2.1
    have := h2.2.1
    omega
  · obtain ⟨i, hi, rfl⟩ := List.mem_iff_getElem.mp hz
    rw [List.getElem_zipWith]
    exact ⟨_, rfl, .cons (h1.2.2 _ (List.getElem_mem _)) (.cons (h2.2.2 _ (List.getElem_mem _)) .nil)⟩
theorem it_zipL (g : AE c A (.dat (Ls e1 lo1 hi1)) k1) (g2 : AE c2 A (.dat (Ls e2 lo2 hi2)) k2) (hl : lo = min lo1 lo2) (hh : hi = min hi1 hi2) : AIt (iZip2 (cCons c (cCons c2 cNil))) A (TpOf [e1, e2]) lo hi (k1 + k2) := fun ev cs B m hs hb hm => by
  obtain ⟨w, B1, j1, ⟨x, rfl, xs, rfl, q1⟩, b1', f1⟩ := g ev cs B m hs hb (by omega)
  obtain ⟨w2, B2, j2, ⟨x2, rfl, ys, rfl, q2⟩, b2', f2⟩ := g2 ev (cs ++ j1) B1 (m + k1) (hs.mono j1) b1' (by omega)
  refine ⟨_, B2, j1 ++ j2, hl ▸ hh ▸ cont_zip q1 q2, by rw [← Nat.add_assoc]; exact b2', fun θ => ?_⟩
  unfold iZip2
  rw [cCons_ap, f1 θ]
  simp only [Option.bind_some, consa_ap, cCons_ap, f2 θ, cNil_ap, Option.map_some, cons1_ap, Th.u, List.append_assoc]
theorem it_zipT (g : AE c A (.dat (Tp e1 lo1 hi1)) k1) (g2 : AE c2 A (.dat (Tp e2 lo2 hi2)) k2) (hl : lo = min lo1 lo2) (hh : hi = min hi1 hi2) : AIt (iZip2 (cCons c (cCons c2 cNil))) A (TpOf [e1, e2]) lo hi (k1 + k2) := fun ev cs B m hs hb hm => by
  obtain ⟨w, B1, j1, ⟨x, rfl, xs, rfl, q1⟩, b1', f1⟩ := g ev cs B m hs hb (by omega)
  obtain ⟨w2, B2, j2, ⟨x2, rfl, ys, rfl, q2⟩, b2', f2⟩ := g2 ev (cs ++ j1) B1 (m + k1) (hs.mono j1) b1' (by omega)
  refine ⟨_, B2, j1 ++ j2, hl ▸ hh ▸ cont_zip q1 q2, by rw [← Nat.add_assoc]; exact b2', fun θ => ?_⟩
  unfold iZip2
  rw [cCons_ap, f1 θ]
  simp only [Option.bind_some, consa_ap, cCons_ap, f2 θ, cNil_ap, Option.map_some, cons1_ap, Th.u, List.append_assoc]
theorem cont_enum : ∀ {xs : List PyData} (i : Nat), (∀ y ∈ xs, e y) → ∀ y ∈ enumD i xs, TpOf [Iz (some (i : Nat)) (some ((i + xs.length : Nat) - 1)), e] y
  | [], _, _, y, hy => by cases hy
  | x :: xs, i, h, y, hy => by
    rcases List.mem_cons.mp hy with rfl | hy
    · refine ⟨_, rfl, .cons ⟨_, rfl, ?_, ?_⟩ (.cons (h x List.mem_cons_self) .nil)⟩ <;> simp only [LoB, HiB, List.length_cons] <;> omega
    · obtain ⟨zs, rfl, t⟩ := cont_enum (i + 1) (fun z hz => h z (List.mem_cons_of_mem _ hz)) y hy
      cases t with
      | cons h1 t =>
        obtain ⟨n, rfl, g1, g2⟩ := h1
        refine ⟨_, rfl, .cons ⟨n, rfl, ?_, ?_⟩ t⟩
        · simp only [LoB] at g1 ⊢
          omega
        · simp only [HiB, List.length_cons] at g2 ⊢
          omega
theorem it_enum (l : ∀ x, a x → ∃ xs, (x = .list xs ∨ x = .tuple xs) ∧ Cont e lo hi xs) (g : AE c A (.dat a) k) : AIt (iEnum1 (cCons c cNil)) A (TpOf [Iz (some 0) (some ((hi : Int) - 1)), e]) lo hi k := fun ev cs B m hs hb hm => by
  obtain ⟨w, B', js, ⟨x, rfl, hx⟩, g2, g3⟩ := g ev cs B m hs hb hm
  obtain ⟨xs, hq, hc⟩ := l x hx
  refine ⟨enumD 0 xs, B', js, ⟨by rw [enumD_length]; exact hc.1, by rw [enumD_length]; exact hc.2.1, fun y hy => ?_⟩, g2, fun θ => ?_⟩
  · obtain ⟨zs, rfl, t⟩ := cont_enum 0 hc.2.2 y hy
    cases t with
    | cons h1 t =>
      obtain ⟨n, rfl, g1, g2⟩ := h1
      have := hc.2.1
      refine ⟨_, rfl, .cons ⟨n, rfl, ?_, ?_⟩ t⟩
      · simp only [LoB] at g1 ⊢
        omega
      · simp only [HiB] at g2 ⊢
        omega
  · unfold iEnum1
    rw [cCons_ap, g3 θ]
    rcases hq with rfl | rfl <;> simp only [Option.bind_some, consa_ap, cNil_ap, Option.map_some, cons1_ap, Th.u]
/-! ### targets -/
def AG (g : GT) (A : AS) (e : Pd) (A' : AS) : Prop := ∀ x ev cs, e x → Sat A ev cs → ∃ ev', Sat A' ev' cs ∧ ∀ θ : Th, g x (θ.ev ev) = some (θ.ev ev')
def AGs (g : List PyData → Ev → Option Ev) (A : AS) (es : List Pd) (A' : AS) : Prop := ∀ xs ev cs, All2 es xs → Sat A ev cs → ∃ ev', Sat A' ev' cs ∧ ∀ θ : Th, g xs (θ.ev ev) = some (θ.ev ev')
theorem ag_name {i : Nat} : AG (gN i) A e (A.set i (some (.dat e))) := fun x ev cs hx hs => ⟨_, hs.setD i hx, fun θ => by
  rw [gN_ap]
  exact congrArg some (Th.evset θ ev i (.d x))⟩
theorem ags_nil : AGs gsNil A [] A := fun xs ev cs hx hs => by
  cases hx
  exact ⟨ev, hs, fun θ => rfl⟩
theorem ags_cons {g : GT} {gs : List PyData → Ev → Option Ev} {es : List Pd} (h1 : AG g A e A1) (h2 : AGs gs A1 es A2) : AGs (gsCons g gs) A (e :: es) A2 := fun xs ev cs hx hs => by
  cases hx with
  | cons q t =>
    obtain ⟨ev1, s1, f1⟩ := h1 _ ev cs q hs
    obtain ⟨ev2, s2, f2⟩ := h2 _ ev1 cs t s1
    refine ⟨ev2, s2, fun θ => ?_⟩
    rw [gsCons_ap, f1 θ]
    exact f2 θ
theorem ag_tup {gs : List PyData → Ev → Option Ev} {es : List Pd} (h : AGs gs A es A1) : AG (gT gs) A (TpOf es) A1 := fun x ev cs ⟨xs, hx, q⟩ hs => by
  subst hx
  obtain ⟨ev1, s1, f1⟩ := h xs ev cs q hs
  exact ⟨ev1, s1, fun θ => f1 θ⟩
theorem ag_le {g : GT} (h : AG g A e A1) (l : ∀ x, b x → e x) : AG g A b A1 := fun x ev cs hx hs => h x ev cs (l x hx) hs
/-! ### comprehensions -/
theorem lc_run {g : GT} {tt : SB} {te : SE} {q : Bool → Prop} {kt ke : Nat} (hg : AG g A e A1) (ht : AB tt A1 q kt) (he : AE te A1 (.dat r) ke) : ∀ (xs : List PyData), (∀ y ∈ xs, e y) → ∀ ev cs B m acc, Sat A ev cs → BxOk m B → m + xs.length * (kt + ke) ≤ Mx → acc.length + xs.length ≤ lim → (∀ y ∈ acc, r y) →
    ∃ ys B', (∀ y ∈ ys, r y) ∧ acc.length ≤ ys.length ∧ ys.length ≤ acc.length + xs.length ∧ ((∀ b, q b → b = true) → ys.length = acc.length + xs.length) ∧ BxOk (m + xs.length * (kt + ke)) B' ∧ ∀ θ : Th, lcL g tt te (θ.ev ev) xs (θ.sto B cs) acc = some (ys, θ.sto B' cs)
  | [], _, ev, cs, B, m, acc, hs, hb, hm, hl, ha => ⟨acc, B, ha, Nat.le_refl _, Nat.le_refl _, fun _ => rfl, by simpa using hb, fun θ => rfl⟩
  | x :: xs, hx, ev, cs, B, m, acc, hs, hb, hm, hl, ha => by
    rw [List.length_cons] at hm hl
    have hm' : (xs.length + 1) * (kt + ke) = xs.length * (kt + ke) + (kt + ke) := Nat.succ_mul _ _
    obtain ⟨ev1, s1, f1⟩ := hg x ev cs (hx x List.mem_cons_self) hs
    obtain ⟨t, B1, j1, qt, b1, f2⟩ := ht ev1 (cs ++ [some acc]) B m (s1.mono _) hb (by omega)
    have cell : ∀ js : Sto, (cs ++ [some acc] ++ js)[cs.length]? = some (some acc) := fun js => by simp
    have cut : ∀ js : Sto, (cs ++ [some acc] ++ js).take cs.length = cs := fun js => by simp
    cases t with
    | true =>
      obtain ⟨w, B2, j2, ⟨y, rfl, ry⟩, b2, f3⟩ := he ev1 (cs ++ [some acc] ++ j1) B1 (m + kt) ((s1.mono _).mono _) b1 (by omega)
      obtain ⟨ys, B3, g1, g2, g3, g4, b3, f4⟩ := lc_run hg ht he xs (fun z hz => hx z (List.mem_cons_of_mem _ hz)) ev cs B2 (m + kt + ke) (acc ++ [y]) hs b2 (by omega) (by rw [List.length_append, List.length_singleton]; omega) (fun z hz => by
        rcases List.mem_append.mp hz with h | h
        · exact ha z h
        · rw [List.mem_singleton.mp h]
          exact ry)
      rw [List.length_append, List.length_singleton] at g2 g3 g4
      refine ⟨ys, B3, g1, by omega, by rw [List.length_cons]; omega, fun h => by rw [List.length_cons, g4 h]; omega, by rw [List.length_cons, hm']; exact bx_le b3 (by omega) (by omega), fun θ => ?_⟩
      have la : acc.length < lim := by omega
      have cell2 := cell (j1 ++ j2)
      have cut2 := cut (j1 ++ j2)
      rw [← List.append_assoc] at cell2 cut2
      simp only [lcL, f1 θ, Option.bind_some, Th.app, f2 θ, if_true, f3 θ, Th.u, Th.len, Th.cell, cell2, if_pos la, Th.take, cut2]
      exact f4 θ
    | false =>
      obtain ⟨ys, B3, g1, g2, g3, g4, b3, f4⟩ := lc_run hg ht he xs (fun z hz => hx z (List.mem_cons_of_mem _ hz)) ev cs B1 (m + kt) acc hs b1 (by omega) (by omega) ha
      refine ⟨ys, B3, g1, g2, by rw [List.length_cons]; omega, fun h => absurd (h false qt) (by decide), by rw [List.length_cons, hm']; exact bx_le b3 (by omega) (by omega), fun θ => ?_⟩
      simp only [lcL, f1 θ, Option.bind_some, Th.app, f2 θ, Th.len, Th.cell, cell, Bool.false_eq_true, if_false, Th.take, cut]
      exact f4 θ
theorem lc_all {it : SI} {g : GT} {tt : SB} {te : SE} {q : Bool → Prop} {kt ke : Nat} {vs : List Nat} {A0 : AS} (hi' : AIt it A e lo hi k) (hw : wipeA A vs = A0) (hg : AG g A0 e A1) (ht : AB tt A1 q kt) (he : AE te A1 (.dat r) ke) (hl : hi ≤ lim) :
    ∀ ev cs B m, Sat A ev cs → BxOk m B → m + (k + hi * (kt + ke)) ≤ Mx → ∃ ys B' js, (∀ y ∈ ys, r y) ∧ ys.length ≤ hi ∧ ((∀ b, q b → b = true) → lo ≤ ys.length) ∧ BxOk (m + (k + hi * (kt + ke))) B' ∧ ∀ θ : Th, lcR it g tt te vs (θ.ev ev) (θ.sto B cs) = some (ys, θ.sto B' (cs ++ js)) := fun ev cs B m hs hb hm => by
  obtain ⟨xs, B1, js, ⟨c1, c2, c3⟩, b1, f1⟩ := hi' ev cs B m hs hb (by omega)
  have mono : xs.length * (kt + ke) ≤ hi * (kt + ke) := Nat.mul_le_mul_right _ c2
  obtain ⟨ys, B2, g1, g2, g3, g4, b2, f2⟩ := lc_run hg ht he xs c3 (wipeW ev vs) (cs ++ js) B1 (m + k) [] (hw ▸ (hs.mono js).wipe vs) b1 (by omega) (by rw [List.length_nil]; omega) (by simp)
  simp only [List.length_nil, Nat.zero_add] at g3 g4
  refine ⟨ys, B2, js, g1, by omega, fun h => by rw [g4 h]; exact c1, bx_le b2 (by omega) hm, fun θ => ?_⟩
  unfold lcR
  rw [f1 θ]
  simp only [Option.bind_some, Th.wipe]
  exact f2 θ
theorem ae_lc {it : SI} {g : GT} {tt : SB} {te : SE} {q : Bool → Prop} {kt ke : Nat} {vs : List Nat} {A0 : AS} (hi' : AIt it A e lo hi k) (hw : wipeA A vs = A0) (hg : AG g A0 e A1) (ht : AB tt A1 q kt) (he : AE te A1 (.dat r) ke) (hl : hi ≤ lim) : AE (cLc it g tt te vs) A (.dat (Ls r 0 hi)) (k + hi * (kt + ke)) := fun ev cs B m hs hb hm => by
  obtain ⟨ys, B', js, g1, g2, _, b2, f2⟩ := lc_all hi' hw hg ht he hl ev cs B m hs hb hm
  refine ⟨.d (.list ys), B', js, ⟨_, rfl, ys, rfl, Nat.zero_le _, g2, g1⟩, b2, fun θ => ?_⟩
  unfold cLc
  rw [f2 θ]
  rfl
theorem ae_lcA {it : SI} {g : GT} {te : SE} {ke : Nat} {vs : List Nat} {A0 : AS} (hi' : AIt it A e lo hi k) (hw : wipeA A vs = A0) (hg : AG g A0 e A1) (he : AE te A1 (.dat r) ke) (hl : hi ≤ lim) : AE (cLc it g bYes te vs) A (.dat (Ls r lo hi)) (k + hi * ke) := fun ev cs B m hs hb hm => by
  have z : 0 + ke = ke := Nat.zero_add _
  obtain ⟨ys, B', js, g1, g2, g3, b2, f2⟩ := lc_all hi' hw hg ab_yes he hl ev cs B m hs hb (by rw [z]; exact hm)
  rw [z] at b2
  refine ⟨.d (.list ys), B', js, ⟨_, rfl, ys, rfl, g3 fun b h => h, g2, g1⟩, b2, fun θ => ?_⟩
  unfold cLc
  rw [f2 θ]
  rfl
theorem ao_lc {it : SI} {g : GT} {tt : SB} {te : SE} {q : Bool → Prop} {kt ke : Nat} {vs : List Nat} {A0 : AS} (hi' : AIt it A e lo hi k) (hw : wipeA A vs = A0) (hg : AG g A0 e A1) (ht : AB tt A1 q kt) (he : AE te A1 (.dat r) ke) (hl : hi ≤ lim) : AE (cLcM it g tt te vs) A (.own r 0 hi) (k + hi * (kt + ke)) := fun ev cs B m hs hb hm => by
  obtain ⟨ys, B', js, g1, g2, _, b2, f2⟩ := lc_all hi' hw hg ht he hl ev cs B m hs hb hm
  refine ⟨.c (cs ++ js).length, B', js ++ [some ys], ⟨_, ys, rfl, by simp, ?_, Nat.zero_le _, g2, g1⟩, b2, fun θ => ?_⟩
  · rw [← List.append_assoc, List.getElem?_append_right (Nat.le_refl _), Nat.sub_self]
    rfl
  · unfold cLcM
    rw [f2 θ]
    simp only [Option.map_some, Th.len, Th.app, List.append_assoc]
    rfl
theorem ao_lcA {it : SI} {g : GT} {te : SE} {ke : Nat} {vs : List Nat} {A0 : AS} (hi' : AIt it A e lo hi k) (hw : wipeA A vs = A0) (hg : AG g A0 e A1) (he : AE te A1 (.dat r) ke) (hl : hi ≤ lim) : AE (cLcM it g bYes te vs) A (.own r lo hi) (k + hi * ke) := fun ev cs B m hs hb hm => by
  have z : 0 + ke = ke := Nat.zero_add _
  obtain ⟨ys, B', js, g1, g2, g3, b2, f2⟩ := lc_all hi' hw hg ab_yes he hl ev cs B m hs hb (by rw [z]; exact hm)
  rw [z] at b2
  refine ⟨.c (cs ++ js).length, B', js ++ [some ys], ⟨_, ys, rfl, by simp, ?_, g3 fun b h => h, g2, g1⟩, b2, fun θ => ?_⟩
  · rw [← List.append_assoc, List.getElem?_append_right (Nat.le_refl _), Nat.sub_self]
    rfl
  · unfold cLcM
    rw [f2 θ]
    simp only [Option.map_some, Th.len, Th.app, List.append_assoc]
    rfl
/-- a list of one's own, read -/
theorem ae_ov (h : AE c A (.own e lo hi) k) : AE c A (.val (Ls e lo hi)) k := fun ev cs B m hs hb hm => by
  obtain ⟨w, B', js, ⟨j, xs, rfl, h1, h2, h3⟩, b1, f1⟩ := h ev cs B m hs hb hm
  exact ⟨.c j, B', js, ⟨.list xs, by simp only [rdW, h2], xs, rfl, h3⟩, b1, f1⟩
theorem ae_ole {e' : Pd} {lo' hi' : Nat} (h : AE c A (.own e lo hi) k) (l : ∀ x, e x → e' x) (h1 : lo' ≤ lo) (h2 : hi ≤ hi') : AE c A (.own e' lo' hi') k := fun ev cs B m hs hb hm => by
  obtain ⟨w, B', js, ⟨j, xs, rfl, g1, g2, g3⟩, b1, f1⟩ := h ev cs B m hs hb hm
  exact ⟨.c j, B', js, ⟨j, xs, rfl, g1, g2, cont_le g3 l h1 h2⟩, b1, f1⟩
/-- new lists of one's own, by other ways -/
theorem ao_made {c' : SE} (h : AE c A (.val a) k) (l : ∀ x, a x → ∃ ys, Cont e lo hi ys ∧ ∀ (θ : Th) (w : W) (ev : Ev) (st : Sto) (B : Bx) (cs : Sto), c ev st = some (θ.u w, θ.sto B cs) → rdW cs w = some x → c' ev st = some (.l (θ.at cs.length), θ.sto B (cs ++ [some ys]))) : AE c' A (.own e lo hi) k := fun ev cs B m hs hb hm => by
  obtain ⟨w, B', js, ⟨x, h1, hx⟩, h2, h3⟩ := h ev cs B m hs hb hm
  obtain ⟨ys, hc, q⟩ := l x hx
  refine ⟨.c (cs ++ js).length, B', js ++ [some ys], ⟨_, ys, rfl, by simp, ?_, hc⟩, h2, fun θ => ?_⟩
  · rw [← List.append_assoc, List.getElem?_append_right (Nat.le_refl _), Nat.sub_self]
    rfl
  · rw [q θ w _ _ B' (cs ++ js) (h3 θ) h1, List.append_assoc]
    rfl
theorem ao_rev (h : AE c A (.val (Ls e lo hi)) k) : AE (cRevM c) A (.own e lo hi) k := ao_made h fun x ⟨xs, hx, hc⟩ => ⟨xs.reverse, ⟨by simpa using hc.1, by simpa using hc.2.1, fun y hy => hc.2.2 y (List.mem_reverse.mp hy)⟩, fun θ w ev st B cs q1 q2 => by
  subst hx
  unfold cRevM
  rw [q1]
  simp only [Option.bind_some, Th.rd θ B _ q2, Th.len, Th.app]⟩
theorem ao_listM (l : ∀ x, a x → ∃ xs, (x = .list xs ∨ x = .tuple xs) ∧ Cont e lo hi xs) (h : AE c A (.val a) k) : AE (cListM (cCons c cNil)) A (.own e lo hi) k := ao_made h fun x hx => by
  obtain ⟨xs, hq, hc⟩ := l x hx
  refine ⟨xs, hc, fun θ w ev st B cs q1 q2 => ?_⟩
  rw [cListM_ap, cCons_ap, q1]
  simp only [Option.bind_some, consa_ap, cNil_ap, Option.map_some, cons1_ap, listMa_ap, rdAll_cons, rdAll_nil, Th.rd θ B _ q2, rdc_s]
  rcases hq with rfl | rfl <;> simp only [listMb_l, listMb_t, Th.len, Th.app]
end
end Cm

set_option Elab.async false
set_option linter.all false
set_option maxRecDepth 100000
set_option maxHeartbeats 4000000
namespace Cm
open PySem PySem.Spec PyProof.Rows L2
/-! ### statements -/
inductive Ao where
  | nx (ev : Wv) (cs : Sto)
  | rt (w : W) (cs : Sto)
  | bk (ev : Wv) (cs : Sto)
  | ct (ev : Wv) (cs : Sto)
def Th.out (θ : Th) (B : Bx) : Ao → Out
  | .nx ev cs => .nx (θ.ev ev) (θ.sto B cs)
  | .rt w cs => .rt (θ.u w) (θ.sto B cs)
  | .bk ev cs => .bk (θ.ev ev) (θ.sto B cs)
  | .ct ev cs => .ct (θ.ev ev) (θ.sto B cs)
/-- where a statement may end besides the next one -/
structure Xt where
  K : Option AS := none
  C : Option AS := none
  R : Option AR := none
def osat (N : Option AS) (X : Xt) : Ao → Prop
  | .nx ev cs => ∃ A, N = some A ∧ Sat A ev cs
  | .bk ev cs => ∃ A, X.K = some A ∧ Sat A ev cs
  | .ct ev cs => ∃ A, X.C = some A ∧ Sat A ev cs
  | .rt w cs => ∃ r, X.R = some r ∧ rsat 0 cs r w
def ASt (c : SS) (A : AS) (k : Nat) (N : Option AS) (X : Xt) : Prop := ∀ ev cs B m, Sat A ev cs → BxOk m B → m + k ≤ Mx → ∃ o B', osat N X o ∧ BxOk (m + k) B' ∧ ∀ θ : Th, c (θ.ev ev) (θ.sto B cs) = some (θ.out B' o)
section
variable {A A1 A2 : AS} {N : Option AS} {X : Xt} {c c2 : SE} {s s2 : SS} {sa : SA} {a b r e e' : Pd} {k k1 k2 lo hi : Nat}
theorem as_up (h : ASt s A k N X) (l : k ≤ k1) : ASt s A k1 N X := fun ev cs B m hs hb hm => by
  obtain ⟨o, B', h1, h2, h3⟩ := h ev cs B m hs hb (by omega)
  exact ⟨o, B', h1, bx_le h2 (by omega) hm, h3⟩
theorem as_pre (l : AsLe A A1) (h : ASt s A1 k N X) : ASt s A k N X := fun ev cs B m hs hb hm => h ev cs B m (hs.le l) hb hm
theorem as_post (h : ASt s A k (some A1) X) (l : AsLe A1 A2) : ASt s A k (some A2) X := fun ev cs B m hs hb hm => by
  obtain ⟨o, B', h1, h2, h3⟩ := h ev cs B m hs hb hm
  refine ⟨o, B', ?_, h2, h3⟩
  cases o with
  | nx ev cs =>
    obtain ⟨A', q, s⟩ := h1
    cases q
    exact ⟨A2, rfl, s.le l⟩
  | rt => exact h1
  | bk => exact h1
  | ct => exact h1
theorem as_no (h : ASt s A k none X) : ASt s A k N X := fun ev cs B m hs hb hm => by
  obtain ⟨o, B', h1, h2, h3⟩ := h ev cs B m hs hb hm
  refine ⟨o, B', ?_, h2, h3⟩
  cases o with
  | nx ev cs =>
    obtain ⟨A', q, s⟩ := h1
    cases q
  | rt => exact h1
  | bk => exact h1
  | ct => exact h1
theorem as_skip : ASt cSkip A 0 (some A) X := fun ev cs B m hs hb hm => ⟨.nx ev cs, B, ⟨A, rfl, hs⟩, hb, fun θ => rfl⟩
theorem as_seq (h1 : ASt s A k1 (some A1) X) (h2 : ASt s2 A1 k2 N X) : ASt (cSeq s s2) A (k1 + k2) N X := fun ev cs B m hs hb hm => by
  obtain ⟨o, B1, o1, b1, f1⟩ := h1 ev cs B m hs hb (by omega)
  cases o with
  | nx ev1 cs1 =>
    obtain ⟨A', q, s1⟩ := o1
    cases q
    obtain ⟨o2, B2, p2, b2, f2⟩ := h2 ev1 cs1 B1 (m + k1) s1 b1 (by omega)
    refine ⟨o2, B2, p2, by rw [← Nat.add_assoc]; exact b2, fun θ => ?_⟩
    rw [cSeq_ap, f1 θ]
    exact f2 θ
  | rt w cs1 => exact ⟨.rt w cs1, B1, o1, bx_le b1 (by omega) hm, fun θ => by rw [cSeq_ap, f1 θ]; rfl⟩
  | bk w cs1 => exact ⟨.bk w cs1, B1, o1, bx_le b1 (by omega) hm, fun θ => by rw [cSeq_ap, f1 θ]; rfl⟩
  | ct w cs1 => exact ⟨.ct w cs1, B1, o1, bx_le b1 (by omega) hm, fun θ => by rw [cSeq_ap, f1 θ]; rfl⟩
theorem as_seqR (h1 : ASt s A k none X) : ASt (cSeq s s2) A k N X := fun ev cs B m hs hb hm => by
  obtain ⟨o, B1, o1, b1, f1⟩ := h1 ev cs B m hs hb (by omega)
  cases o with
  | nx ev1 cs1 =>
    obtain ⟨A', q, s1⟩ := o1
    cases q
  | rt w cs1 => exact ⟨.rt w cs1, B1, o1, b1, fun θ => by rw [cSeq_ap, f1 θ]; rfl⟩
  | bk w cs1 => exact ⟨.bk w cs1, B1, o1, b1, fun θ => by rw [cSeq_ap, f1 θ]; rfl⟩
  | ct w cs1 => exact ⟨.ct w cs1, B1, o1, b1, fun θ => by rw [cSeq_ap, f1 θ]; rfl⟩
theorem as_set {i : Nat} (h : AE c A (.dat a) k) : ASt (cSet i c) A k (some (A.set i (some (.dat a)))) X := fun ev cs B m hs hb hm => by
  obtain ⟨w, B', js, ⟨x, rfl, hx⟩, h2, h3⟩ := h ev cs B m hs hb hm
  refine ⟨.nx (ev.set i (some (.d x))) (cs ++ js), B', ⟨_, rfl, (hs.mono js).setD i hx⟩, h2, fun θ => ?_⟩
  rw [cSet_ap, h3 θ]
  simp only [Option.map_some, seta_ap, Th.evset]
  rfl
theorem as_setO {i : Nat} (h : AE c A (.own e lo hi) k) : ASt (cSet i c) A k (some (A.set i (some (.own e lo hi)))) X := fun ev cs B m hs hb hm => by
  obtain ⟨w, B', js, ⟨j, xs, rfl, h1, hx, hc⟩, h2, h3⟩ := h ev cs B m hs hb hm
  refine ⟨.nx (ev.set i (some (.c j))) (cs ++ js), B', ⟨_, rfl, hs.setO i h1 hx hc⟩, h2, fun θ => ?_⟩
  rw [cSet_ap, h3 θ]
  simp only [Option.map_some, seta_ap, Th.evset]
  rfl
theorem as_ret (h : AE c A (.val r) k) (hR : X.R = some (.val r)) : ASt (cRet c) A k N X := fun ev cs B m hs hb hm => by
  obtain ⟨w, B', js, ⟨x, h1, hx⟩, h2, h3⟩ := h ev cs B m hs hb hm
  refine ⟨.rt w (cs ++ js), B', ⟨_, hR, x, h1, hx⟩, h2, fun θ => ?_⟩
  rw [cRet_ap, h3 θ]
  rfl
theorem as_retO (h : AE c A (.own e lo hi) k) (hR : X.R = some (.own e lo hi)) : ASt (cRet c) A k N X := fun ev cs B m hs hb hm => by
  obtain ⟨w, B', js, h1, h2, h3⟩ := h ev cs B m hs hb hm
  refine ⟨.rt w (cs ++ js), B', ⟨_, hR, rsat_low (Nat.zero_le _) h1⟩, h2, fun θ => ?_⟩
  rw [cRet_ap, h3 θ]
  rfl
/-- a list of one's own handed back by its name -/
theorem as_retV {i : Nat} (q : A[i]? = some (some (.own e lo hi))) (hR : X.R = some (.own e lo hi)) : ASt (cRet (cVar i)) A 0 N X := fun ev cs B m hs hb hm => by
  obtain ⟨w, h1, j, xs, rfl, hx, hc⟩ := hs.get i _ q
  refine ⟨.rt (.c j) cs, B, ⟨_, hR, j, xs, rfl, Nat.zero_le _, hx, hc⟩, hb, fun θ => ?_⟩
  rw [cRet_ap, cVar_ap, Th.get, h1]
  rfl
theorem as_if {t : SB} {q : Bool → Prop} (h : AB t A q k) (h1 : q true → ASt s A k1 N X) (h2 : q false → ASt s2 A k1 N X) : ASt (cIfS t s s2) A (k + k1) N X := fun ev cs B m hs hb hm => by
  obtain ⟨w, B1, j1, q1, b1, e1⟩ := h ev cs B m hs hb (by omega)
  cases w with
  | true =>
    obtain ⟨o, B2, o2, b2, e2⟩ := h1 q1 ev (cs ++ j1) B1 (m + k) (hs.mono j1) b1 (by omega)
    refine ⟨o, B2, o2, by rw [← Nat.add_assoc]; exact b2, fun θ => ?_⟩
    rw [cIfS_ap, e1 θ]
    simp only [Option.bind_some, ifa_ap, if_true, e2 θ]
  | false =>
    obtain ⟨o, B2, o2, b2, e2⟩ := h2 q1 ev (cs ++ j1) B1 (m + k) (hs.mono j1) b1 (by omega)
    refine ⟨o, B2, o2, by rw [← Nat.add_assoc]; exact b2, fun θ => ?_⟩
    rw [cIfS_ap, e1 θ]
    simp only [Option.bind_some, ifa_ap, e2 θ]
    rfl
theorem as_expr {r : AR} (h : AE c A r k) : ASt (cExpr c) A k (some A) X := fun ev cs B m hs hb hm => by
  obtain ⟨w, B', js, h1, h2, h3⟩ := h ev cs B m hs hb hm
  refine ⟨.nx ev (cs ++ js), B', ⟨_, rfl, hs.mono js⟩, h2, fun θ => ?_⟩
  rw [cExpr_ap, h3 θ]
  rfl
theorem as_break (q : X.K = some A) : ASt cBrk A 0 N X := fun ev cs B m hs hb hm => ⟨.bk ev cs, B, ⟨A, q, hs⟩, hb, fun θ => rfl⟩
theorem as_cont (q : X.C = some A) : ASt cCont A 0 N X := fun ev cs B m hs hb hm => ⟨.ct ev cs, B, ⟨A, q, hs⟩, hb, fun θ => rfl⟩
/-- a list of one's own is changed by a method -/
theorem as_meth {f : MF} {i lo' hi' : Nat} {as : List Pd} (q : A[i]? = some (some (.own e lo hi))) (h : AA sa A (dats as) k) (hf : ∀ xs ds, Cont e lo hi xs → All2 as ds → ∃ z ys, f xs ds = some (z, ys) ∧ Cont e' lo' hi' ys) (hl : hi' ≤ lim) :
    ASt (cExpr (cM f (cVar i) sa)) A k (some (A.set i (some (.own e' lo' hi')))) X := fun ev cs B m hs hb hm => by
  obtain ⟨ws, B', js, h1, h2, h3⟩ := h ev cs B m hs hb hm
  obtain ⟨ds, g1, rfl⟩ := read_dats h1
  obtain ⟨w, k1, j, xs, rfl, hx, hc⟩ := hs.get i _ q
  obtain ⟨z, ys, f1, f2⟩ := hf xs ds hc g1
  have hx2 : (cs ++ js)[j]? = some (some xs) := by rw [List.getElem?_append_left (lt_of_get hx)]; exact hx
  refine ⟨.nx ev ((cs ++ js).set j (some ys)), B', ⟨_, rfl, (hs.mono js).write q k1 f2⟩, h2, fun θ => ?_⟩
  have ly : ys.length ≤ lim := Nat.le_trans f2.2.1 hl
  rw [cExpr_ap, cM_ap, cVar_ap, Th.get, k1]
  simp only [Option.map_some, var1_s, Option.bind_some, Th.u, ma_l, Th.cell, hx, mb_s, h3 θ, mb1_ap, u_dats, allD_d, mb2_ap, hx2, mc_s, f1, md_ap, if_pos ly, expra_ap, Th.put]
  rfl
theorem as_append {i : Nat} (q : A[i]? = some (some (.own e lo hi))) (h : AE c A (.dat a) k) (l1 : ∀ x, e x → e' x) (l2 : ∀ x, a x → e' x) (hl : hi + 1 ≤ lim) : ASt (cExpr (cM mAppend (cVar i) (cCons c cNil))) A k (some (A.set i (some (.own e' (lo + 1) (hi + 1))))) X :=
  as_meth (as := [a]) q (aa_cons h aa_nil) (fun xs ds hc hd => by
    cases hd with
    | cons hy t =>
      rename_i x0 _
      cases t
      refine ⟨.none, xs ++ [x0], ?_, ?_⟩
      · unfold mAppend
        have := hc.2.1
        simp only
        rw [if_pos (by omega)]
      · refine ⟨by rw [List.length_append, List.length_singleton]; have := hc.1; omega, by rw [List.length_append, List.length_singleton]; have := hc.2.1; omega, fun y hy2 => ?_⟩
        rcases List.mem_append.mp hy2 with z | z
        · exact l1 y (hc.2.2 y z)
        · rw [List.mem_singleton.mp z]
          exact l2 _ hy) hl
/-- found[i] = y -/
theorem as_setIx {i : Nat} {l h : Int} (q : A[i]? = some (some (.own e lo hi))) (hv : AE c A (.dat a) k1) (hi' : AE c2 A (.dat (Iz (some l) (some h))) k2) (l1 : ∀ x, e x → e' x) (l2 : ∀ x, a x → e' x) (b1 : -(lo : Int) ≤ l) (b2 : h < lo) : ASt (cSetIx (cVar i) c2 c) A (k1 + k2) (some (A.set i (some (.own e' lo hi)))) X := fun ev cs B m hs hb hm => by
  obtain ⟨w, B1, j1, ⟨y, rfl, hy⟩, b1', f1⟩ := hv ev cs B m hs hb (by omega)
  obtain ⟨w2, B2, j2, ⟨x2, rfl, n, rfl, q1, q2⟩, b2', f2⟩ := hi' ev (cs ++ j1) B1 (m + k1) (hs.mono j1) b1' (by omega)
  obtain ⟨w3, g1, j, xs, rfl, hx, hc⟩ := hs.get i _ q
  simp only [LoB, HiB] at q1 q2
  have hx2 : (cs ++ j1 ++ j2)[j]? = some (some xs) := by rw [List.append_assoc, List.getElem?_append_left (lt_of_get hx)]; exact hx
  have lx := hc.1
  obtain ⟨p, hp, hp2⟩ : ∃ p, ixN xs.length n = some p ∧ p < xs.length := by
    by_cases n0 : 0 ≤ n
    · exact ⟨n.toNat, by unfold ixN; rw [if_pos n0, if_pos (by omega)], by omega⟩
    · exact ⟨(n + xs.length).toNat, by unfold ixN; rw [if_neg n0, if_pos (by omega)], by omega⟩
  have hc2 : Cont e' lo hi (xs.set p y) := ⟨by rw [List.length_set]; exact hc.1, by rw [List.length_set]; exact hc.2.1, fun z hz => by
    rcases List.mem_or_eq_of_mem_set hz with z1 | z1
    · exact l1 z (hc.2.2 z z1)
    · subst z1
      exact l2 _ hy⟩
  refine ⟨.nx ev ((cs ++ j1 ++ j2).set j (some (xs.set p y))), B2, ⟨_, rfl, ((hs.mono j1).mono j2).write q g1 hc2⟩, by rw [← Nat.add_assoc]; exact b2', fun θ => ?_⟩
  rw [cSetIx_ap, f1 θ]
  simp only [Option.bind_some, Th.u, sixa_d, cVar_ap, Th.get, g1, Option.map_some, var1_s, sixb_l, f2 θ, sixb2_i, Th.cell, hx2, sixc_s, hp, sixd_ap, Th.put]
  rfl
theorem as_setT {g : GT} (h : AE c A (.dat e) k) (hg : AG g A e A1) : ASt (cSetT g c) A k (some A1) X := fun ev cs B m hs hb hm => by
  obtain ⟨w, B', js, ⟨x, rfl, hx⟩, h2, h3⟩ := h ev cs B m hs hb hm
  obtain ⟨ev1, s1, f1⟩ := hg x ev (cs ++ js) hx (hs.mono js)
  refine ⟨.nx ev1 (cs ++ js), B', ⟨_, rfl, s1⟩, h2, fun θ => ?_⟩
  rw [cSetT_ap, h3 θ]
  simp only [Option.bind_some, Th.u, setTa_ap, f1 θ, Option.map_some, nxa_ap]
  rfl
theorem as_aug {i : Nat} {f : PyData → PyData → Option PyData} (q : A[i]? = some (some (.dat a))) (h : AE c A (.val b) k) (t : Tr2 f a b r) : ASt (cAug i f c) A k (some (A.set i (some (.dat r)))) X := fun ev cs B m hs hb hm => by
  obtain ⟨w, B', js, ⟨y, h1, hy⟩, h2, h3⟩ := h ev cs B m hs hb hm
  obtain ⟨w2, g1, x, rfl, hx⟩ := hs.get i _ q
  obtain ⟨z, rz, ez⟩ := t x y hx hy
  refine ⟨.nx (ev.set i (some (.d z))) (cs ++ js), B', ⟨_, rfl, (hs.mono js).setD i rz⟩, h2, fun θ => ?_⟩
  have hr := Th.rd θ B' _ h1
  rw [cAug_ap, Th.get, g1]
  show auga i f c (θ.ev ev) (θ.sto B cs) (some (some (.d x))) = _
  simp only [auga_s, h3 θ, Option.bind_some, augc_ap, hr, ez, toD_s, Option.map_some, seta_ap]
  show some (Out.nx ((θ.ev ev).set i (some (θ.u (.d z)))) _) = _
  rw [Th.evset]
  rfl
/-! several names at once -/
def putA (A : AS) : List Nat → List AR → AS
  | i :: is, .dat a :: rs => putA (A.set i (some (.dat a))) is rs
  | i :: is, .own e lo hi :: rs => putA (A.set i (some (.own e lo hi))) is rs
  | _, _ => A
inductive Sets : List AR → Prop
  | nil : Sets []
  | dat {a : Pd} {rs : List AR} : Sets rs → Sets (.dat a :: rs)
  | own {e : Pd} {lo hi : Nat} {rs : List AR} : Sets rs → Sets (.own e lo hi :: rs)
/-- what is set is newer than all that the slots have -/
structure SatN (n : Nat) (A : AS) (ev : Wv) (cs : Sto) : Prop extends Sat A ev cs where
  below : ∀ (i : Nat), isOwn A i → ∀ j, ev[i]? = some (some (.c j)) → j < n
theorem SatN.low {n n' : Nat} {A : AS} {ev : Wv} {cs : Sto} (h : SatN n A ev cs) (l : n ≤ n') : SatN n' A ev cs := ⟨h.toSat, fun i o j e => Nat.lt_of_lt_of_le (h.below i o j e) l⟩
theorem SatN.setD {n : Nat} {A : AS} {ev : Wv} {cs : Sto} {a : Pd} {x : PyData} (h : SatN n A ev cs) (i : Nat) (hx : a x) : SatN n (A.set i (some (.dat a))) (ev.set i (some (.d x))) cs := by
  refine ⟨h.toSat.setD i hx, fun k ⟨e, lo, hi, q⟩ j e2 => ?_⟩
  rcases get_set q with ⟨_, z, _⟩ | ⟨n, z⟩
  · cases z
  · rw [List.getElem?_set_ne n] at e2
    exact h.below k ⟨e, lo, hi, z⟩ j e2
theorem SatN.setO {n n' : Nat} {A : AS} {ev : Wv} {cs : Sto} {e : Pd} {lo hi j : Nat} {xs : List PyData} (h : SatN n A ev cs) (i : Nat) (hj : n ≤ j) (hc : cs[j]? = some (some xs)) (hx : Cont e lo hi xs) (l : n ≤ n') (l2 : j < n') : SatN n' (A.set i (some (.own e lo hi))) (ev.set i (some (.c j))) cs := by
  have own : ∀ k, i ≠ k → isOwn (A.set i (some (.own e lo hi))) k → isOwn A k := fun k n ⟨e', lo', hi', q⟩ => by
    rcases get_set q with ⟨z, _, _⟩ | ⟨_, z⟩
    · exact absurd z n
    · exact ⟨e', lo', hi', z⟩
  have hit : ∀ k l, (ev.set i (some (.c j)))[k]? = some (some (.c l)) → (i = k ∧ l = j) ∨ (i ≠ k ∧ ev[k]? = some (some (.c l))) := fun k l e1 => by
    rcases get_set e1 with ⟨z, z2, _⟩ | ⟨z, z2⟩
    · cases z2
      exact .inl ⟨z, rfl⟩
    · exact .inr ⟨z, z2⟩
  refine ⟨⟨by simp [h.len], fun k aw q => ?_, fun k k' l o1 o2 e1 e2 => ?_⟩, fun k o l e1 => ?_⟩
  · rcases get_set q with ⟨rfl, z, hl⟩ | ⟨n, z⟩
    · cases z
      exact ⟨.c j, by rw [List.getElem?_set_self (by rw [h.len]; exact hl)], j, xs, rfl, hc, hx⟩
    · obtain ⟨w, h1, h2⟩ := h.get k aw z
      exact ⟨w, by rw [List.getElem?_set_ne n]; exact h1, h2⟩
  · rcases hit k l e1 with ⟨z1, z2⟩ | ⟨z1, z2⟩ <;> rcases hit k' l e2 with ⟨y1, y2⟩ | ⟨y1, y2⟩
    · omega
    · have := h.below k' (own k' y1 o2) l y2
      omega
    · have := h.below k (own k z1 o1) l z2
      omega
    · exact h.sep k k' l (own k z1 o1) (own k' y1 o2) z2 y2
  · rcases hit k l e1 with ⟨z1, z2⟩ | ⟨z1, z2⟩
    · omega
    · have := h.below k (own k z1 o) l z2
      omega
theorem put_run {cs : Sto} : ∀ {rs : List AR} (is : List Nat) {n : Nat} {ws : List W} {A : AS} {ev : Wv}, Sets rs → is.length = rs.length → RAll n cs rs ws → SatN n A ev cs → Sat (putA A is rs) ((is.zip ws).foldl (fun ev q => ev.set q.1 (some q.2)) ev) cs
  | [], [], _, _, A, ev, _, _, .nil, hs => hs.toSat
  | .dat a :: rs, i :: is, n, _, A, ev, .dat st, hl, .cons (ws := ws) n' hn ⟨x, hw, hx⟩ hb _ t, hs => by
    subst hw
    exact put_run (rs := rs) is st (by simpa using hl) t ((hs.setD i hx).low hn)
  | .own e lo hi :: rs, i :: is, n, _, A, ev, .own st, hl, .cons (ws := ws) n' hn ⟨j, xs, hw, hj, hx, hc⟩ hb _ t, hs => by
    subst hw
    exact put_run (rs := rs) is st (by simpa using hl) t (hs.setO i hj hx hc hn (hb j rfl))
theorem fold_u (θ : Th) : ∀ (is : List Nat) (ws : List W) (ev : Wv), (is.zip (ws.map θ.u)).foldl (fun (ev : Ev) q => ev.set q.1 (some q.2)) (θ.ev ev) = θ.ev ((is.zip ws).foldl (fun ev q => ev.set q.1 (some q.2)) ev)
  | [], ws, ev => rfl
  | i :: is, [], ev => rfl
  | i :: is, w :: ws, ev => by
    simp only [List.map_cons, List.zip_cons_cons, List.foldl_cons]
    rw [Th.evset]
    exact fold_u θ is ws _
theorem as_par {is : List Nat} {rs : List AR} (h : AA sa A rs k) (st : Sets rs) (hl : is.length = rs.length := by rfl) : ASt (cParN is sa) A k (some (putA A is rs)) X := fun ev cs B m hs hb hm => by
  obtain ⟨ws, B', js, h1, h2, h3⟩ := h ev cs B m hs hb hm
  have sn : SatN cs.length A ev (cs ++ js) := ⟨hs.mono js, fun i ⟨e, lo, hi, q⟩ j e2 => by
    obtain ⟨w, g1, j', xs, g2, g3, _⟩ := hs.get i _ q
    rw [e2] at g1
    cases g1
    cases g2
    exact lt_of_get g3⟩
  refine ⟨.nx ((is.zip ws).foldl (fun ev q => ev.set q.1 (some q.2)) ev) (cs ++ js), B', ⟨_, rfl, put_run is st hl h1 sn⟩, h2, fun θ => ?_⟩
  have lw : (ws.map θ.u).length = is.length := by rw [List.length_map, h1.length, hl]
  rw [cParN_ap, h3 θ]
  simp only [Option.bind_some, para_ap, if_pos lw, fold_u]
  rfl
/-! loops -/
theorem for_run {g : GT} {I J : Nat → AS} {kb n : Nat} (hg : ∀ j, j < n → AG g (I j) e (J j)) (hb : ∀ j, j < n → ASt s (J j) kb (some (I (j + 1))) { X with K := none, C := none }) : ∀ (xs : List PyData) (j : Nat), (∀ y ∈ xs, e y) → j + xs.length ≤ n → ∀ ev cs B m, Sat (I j) ev cs → BxOk m B → m + xs.length * kb ≤ Mx →
    ∃ o B', osat (some (I (j + xs.length))) X o ∧ BxOk (m + xs.length * kb) B' ∧ ∀ θ : Th, forL g s xs (θ.ev ev) (θ.sto B cs) = some (θ.out B' o)
  | [], j, _, _, ev, cs, B, m, hs, hb', hm => ⟨.nx ev cs, B, ⟨_, rfl, hs⟩, by simpa using hb', fun θ => rfl⟩
  | x :: xs, j, hx, hj, ev, cs, B, m, hs, hb', hm => by
    rw [List.length_cons] at hj hm
    have hm' : (xs.length + 1) * kb = xs.length * kb + kb := Nat.succ_mul _ _
    obtain ⟨ev1, s1, f1⟩ := hg j (by omega) x ev cs (hx x List.mem_cons_self) hs
    obtain ⟨o, B1, o1, b1, f2⟩ := hb j (by omega) ev1 cs B m s1 hb' (by omega)
    cases o with
    | nx ev2 cs2 =>
      obtain ⟨A', q, s2⟩ := o1
      cases q
      obtain ⟨o3, B3, o3', b3, f3⟩ := for_run hg hb xs (j + 1) (fun z hz => hx z (List.mem_cons_of_mem _ hz)) (by omega) ev2 cs2 B1 (m + kb) s2 b1 (by omega)
      refine ⟨o3, B3, ?_, by rw [List.length_cons, hm']; exact bx_le b3 (by omega) (by omega), fun θ => ?_⟩
      · rw [List.length_cons, show j + (xs.length + 1) = j + 1 + xs.length by omega]
        exact o3'
      · simp only [forL, f1 θ, Option.bind_some, f2 θ, Th.out]
        exact f3 θ
    | rt w cs2 =>
      refine ⟨.rt w cs2, B1, o1, by rw [List.length_cons, hm']; exact bx_le b1 (by omega) (by omega), fun θ => ?_⟩
      simp only [forL, f1 θ, Option.bind_some, f2 θ, Th.out]
    | bk w cs2 =>
      obtain ⟨A', q, _⟩ := o1
      cases q
    | ct w cs2 =>
      obtain ⟨A', q, _⟩ := o1
      cases q
theorem as_for {it : SI} {g : GT} {I J : Nat → AS} {kb : Nat} (hi' : AIt it A e lo hi k) (h0 : AsLe A (I 0)) (hg : ∀ j, j < hi → AG g (I j) e (J j)) (hb : ∀ j, j < hi → ASt s (J j) kb (some (I (j + 1))) { X with K := none, C := none }) (hN : ∀ j, lo ≤ j → j ≤ hi → AsLe (I j) A1) : ASt (cFor it g s) A (k + hi * kb) (some A1) X := fun ev cs B m hs hb' hm => by
  obtain ⟨xs, B1, js, ⟨c1, c2, c3⟩, b1, f1⟩ := hi' ev cs B m hs hb' (by omega)
  have mono : xs.length * kb ≤ hi * kb := Nat.mul_le_mul_right _ c2
  obtain ⟨o, B2, o2, b2, f2⟩ := for_run (X := X) hg hb xs 0 c3 (by omega) ev (cs ++ js) B1 (m + k) ((hs.mono js).le h0) b1 (by omega)
  rw [Nat.zero_add] at o2
  refine ⟨o, B2, ?_, bx_le b2 (by omega) hm, fun θ => ?_⟩
  · cases o with
    | nx ev2 cs2 =>
      obtain ⟨A', q, s2⟩ := o2
      cases q
      exact ⟨A1, rfl, s2.le (hN _ c1 c2)⟩
    | rt => exact o2
    | bk => exact o2
    | ct => exact o2
  · rw [cFor_ap, f1 θ]
    exact f2 θ
/-- nothing runs: a list of one's own becomes data -/
theorem as_frz {i : Nat} (q : A[i]? = some (some (.own e lo hi))) (h : ASt s (A.set i (some (.dat (Ls e lo hi)))) k N X) : ASt (cFreeze i s) A k N X := fun ev cs B m hs hb hm => by
  obtain ⟨w, g1, j, xs, rfl, hx, hc⟩ := hs.get i _ q
  have oi : isOwn A i := ⟨_, _, _, q⟩
  have s2 : Sat (A.set i (some (.dat (Ls e lo hi)))) (ev.set i (some (.d (.list xs)))) (cs.set j none) := by
    have s1 := hs.setD (a := Ls e lo hi) i (x := .list xs) ⟨xs, rfl, hc⟩
    refine ⟨s1.len, fun k aw z => ?_, s1.sep⟩
    obtain ⟨w, h1, h2⟩ := s1.get k aw z
    refine ⟨w, h1, ?_⟩
    cases aw with
    | dat a => exact h2
    | box => exact h2
    | own e2 lo2 hi2 =>
      obtain ⟨l, zs, e1, e2, e3⟩ := h2
      subst e1
      have nl : j ≠ l := fun z2 => by
        subst z2
        rcases get_set z with ⟨_, y, _⟩ | ⟨n, y⟩
        · cases y
        · rw [List.getElem?_set_ne n] at h1
          exact n (hs.sep i k j oi ⟨_, _, _, y⟩ g1 h1)
      exact ⟨l, zs, rfl, by rw [List.getElem?_set_ne nl]; exact e2, e3⟩
  obtain ⟨o, B', o1, b1, f1⟩ := h _ _ B m s2 hb hm
  refine ⟨o, B', o1, b1, fun θ => ?_⟩
  have f2 := f1 θ
  unfold cFreeze
  rw [Th.get, g1]
  simp only [Option.map_some, Th.u, freeze, Th.cell, hx, Option.bind_some, Th.put]
  rw [show (θ.ev ev).set i (some (U.d (.list xs))) = θ.ev (ev.set i (some (.d (.list xs)))) from Th.evset θ ev i (.d (.list xs))]
  exact f2
/-! ### defs -/
def slots0 (as : List Pd) (n : Nat) : AS := (as.map fun a => some (.dat a)) ++ List.replicate n none
theorem sat0 {cs : Sto} : ∀ {as : List Pd} {xs : List PyData} (n : Nat), All2 as xs → Sat (slots0 as n) ((xs.map fun x => some (.d x)) ++ List.replicate n none) cs
  | _, _, n, h => by
    have key : ∀ {as : List Pd} {xs : List PyData}, All2 as xs → ∀ (i : Nat) (aw : AW), (slots0 as n)[i]? = some (some aw) → ∃ a x, aw = .dat a ∧ ((xs.map fun x => some (W.d x)) ++ List.replicate n none)[i]? = some (some (.d x)) ∧ a x := by
      intro as xs h
      induction h with
      | nil =>
        intro i aw e
        simp only [slots0, List.map_nil, List.nil_append] at e
        have := List.mem_of_getElem? e
        simp at this
      | cons h1 t ih =>
        intro i aw e
        cases i with
        | zero =>
          simp only [slots0, List.map_cons, List.cons_append, List.getElem?_cons_zero, Option.some.injEq] at e
          subst e
          exact ⟨_, _, rfl, rfl, h1⟩
        | succ i =>
          simp only [slots0, List.map_cons, List.cons_append, List.getElem?_cons_succ] at e ⊢
          exact ih i aw e
    refine ⟨by simp [slots0, h.length], fun i aw e => ?_, fun i i' j o1 _ _ _ => ?_⟩
    · obtain ⟨a, x, rfl, h1, h2⟩ := key h i aw e
      exact ⟨.d x, h1, x, rfl, h2⟩
    · obtain ⟨e, lo, hi, q⟩ := o1
      obtain ⟨a, x, z, _⟩ := key h i _ q
      cases z
theorem satBox {A : AS} {ev : Wv} {cs : Sto} (h : Sat A ev cs) : Sat (some .box :: A) (some .b :: ev) cs := by
  refine ⟨by simp [h.len], fun i aw e => ?_, fun i i' j ⟨e, lo, hi, o1⟩ ⟨e', lo', hi', o2⟩ e1 e2 => ?_⟩
  · cases i with
    | zero =>
      simp only [List.getElem?_cons_zero, Option.some.injEq] at e
      subst e
      exact ⟨.b, rfl, rfl⟩
    | succ i =>
      rw [List.getElem?_cons_succ] at e ⊢
      exact h.get i aw e
  · cases i with
    | zero => simp at o1
    | succ i =>
      cases i' with
      | zero => simp at o2
      | succ i' =>
        rw [List.getElem?_cons_succ] at o1 o2 e1 e2
        have := h.sep i i' j ⟨_, _, _, o1⟩ ⟨_, _, _, o2⟩ e1 e2
        omega
theorem start_u (θ : Th) (xs : List PyData) (n : Nat) : (U.l θ.b :: xs.map U.d).map some ++ List.replicate n none = θ.ev (some .b :: ((xs.map fun x => some (.d x)) ++ List.replicate n none)) := by
  simp only [Th.ev, List.map_cons, List.map_append, List.map_replicate, List.map_map, List.cons_append, Option.map_some, Option.map_none, Function.comp_def]
  rfl
/-- a def that draws -/
theorem df_of {as : List Pd} {n n0 : Nat} {bd : SS} (h : ASt bd (some .box :: slots0 as n0) k N { R := some (.val r) }) (hn : n = as.length + 1 + n0) (hN : N = none) : DF (defS n bd) as r k := fun xs m B hx hb hm => by
  obtain ⟨o, B', o1, b1, f1⟩ := h (some .b :: ((xs.map fun x => some (.d x)) ++ List.replicate n0 none)) [] B m (satBox (sat0 n0 hx)) hb hm
  subst hN
  cases o with
  | nx ev cs =>
    obtain ⟨A', q, _⟩ := o1
    cases q
  | bk ev cs =>
    obtain ⟨A', q, _⟩ := o1
    cases q
  | ct ev cs =>
    obtain ⟨A', q, _⟩ := o1
    cases q
  | rt w cs =>
    obtain ⟨r', q, o1⟩ := o1
    cases q
    obtain ⟨x, e1, rx⟩ := o1
    refine ⟨x, B', rx, b1, fun st L b hb' => ?_⟩
    have f2 := f1 ⟨st, L, b, hb'⟩
    have e0 : ex (st.set b (some (lay B))) L = Th.sto ⟨st, L, b, hb'⟩ B [] := by simp [Th.sto]
    have e9 : ex (st.set b (some (lay B'))) L = Th.sto ⟨st, L, b, hb'⟩ B' [] := by simp [Th.sto]
    rw [← start_u] at f2
    rw [defS_ap, e0, e9]
    have hl : n - (U.l b :: xs.map U.d).length = n0 := by
      rw [List.length_cons, List.length_map, ← hx.length]
      omega
    rw [hl, f2]
    simp only [Option.bind_some, Th.out, Th.len, List.length_nil]
    cases w with
    | d y =>
      cases e1
      simp only [Th.u, outa, leave_d, Th.take, List.take_zero]
    | b => cases e1
    | c j =>
      simp only [rdW] at e1
      split at e1
      · rename_i ys q
        cases e1
        have nl : ¬ (Th.at ⟨st, L, b, hb'⟩ j < Th.at ⟨st, L, b, hb'⟩ 0) := by
          simp only [Th.at]
          omega
        simp only [Th.u, outa, leave_l, if_neg nl, Th.cell, q, leaveb_s, Th.take, List.take_zero]
      · cases e1
/-- a def that draws, and hands back a list to be changed -/
def DO (f : FS) (as : List Pd) (e : Pd) (lo hi k : Nat) : Prop := ∀ xs m B, All2 as xs → BxOk m B → m + k ≤ Mx → ∃ ys B', Cont e lo hi ys ∧ BxOk (m + k) B' ∧ ∀ (st L : Sto) (b : Nat), b < st.length → f (.l b :: xs.map .d) (ex (st.set b (some (lay B))) L) = some (.l (st.length + L.length), ex (st.set b (some (lay B'))) (L ++ [some ys]))
theorem do_of {as : List Pd} {n n0 : Nat} {bd : SS} (h : ASt bd (some .box :: slots0 as n0) k N { R := some (.own e lo hi) }) (hn : n = as.length + 1 + n0) (hN : N = none) : DO (defSO n bd) as e lo hi k := fun xs m B hx hb hm => by
  obtain ⟨o, B', o1, b1, f1⟩ := h (some .b :: ((xs.map fun x => some (.d x)) ++ List.replicate n0 none)) [] B m (satBox (sat0 n0 hx)) hb hm
  subst hN
  cases o with
  | nx ev cs =>
    obtain ⟨A', q, _⟩ := o1
    cases q
  | bk ev cs =>
    obtain ⟨A', q, _⟩ := o1
    cases q
  | ct ev cs =>
    obtain ⟨A', q, _⟩ := o1
    cases q
  | rt w cs =>
    obtain ⟨r', q, o1⟩ := o1
    cases q
    obtain ⟨j, ys, rfl, _, e1, rx⟩ := o1
    refine ⟨ys, B', rx, b1, fun st L b hb' => ?_⟩
    have f2 := f1 ⟨st, L, b, hb'⟩
    have e0 : ex (st.set b (some (lay B))) L = Th.sto ⟨st, L, b, hb'⟩ B [] := by simp [Th.sto]
    have e9 : ex (st.set b (some (lay B'))) (L ++ [some ys]) = Th.sto ⟨st, L, b, hb'⟩ B' [some ys] := rfl
    rw [← start_u] at f2
    rw [defSO_ap, e0, e9]
    have hl : n - (U.l b :: xs.map U.d).length = n0 := by
      rw [List.length_cons, List.length_map, ← hx.length]
      omega
    rw [hl, f2]
    have nl : ¬ (Th.at ⟨st, L, b, hb'⟩ j < Th.at ⟨st, L, b, hb'⟩ 0) := by
      simp only [Th.at]
      omega
    simp only [Option.bind_some, Th.out, Th.len, List.length_nil, Th.u, outO, leaveO_l, if_neg nl, Th.cell, e1, leaveOb_s, Th.take, List.take_zero, Th.app, List.nil_append]
    rfl
theorem ao_df {f : FS} {as : List Pd} {n : Nat} (h : AA sa A (.box :: dats as) k) (p : DO f as e lo hi k1) (hn : as.length + 1 = n := by rfl) : AE (cDef n f sa) A (.own e lo hi) (k + k1) := fun ev cs B m hs hb hm => by
  obtain ⟨ws, B', js, h1, h2, h3⟩ := h ev cs B m hs hb (by omega)
  cases h1 with
  | cons n' _ hw _ _ t =>
    cases hw
    obtain ⟨xs, g1, rfl⟩ := read_dats t
    obtain ⟨ys, B2, rz, b2, ez⟩ := p xs (m + k) B' g1 h2 (by omega)
    refine ⟨.c (cs ++ js).length, B2, js ++ [some ys], ⟨_, ys, rfl, by simp, ?_, rz⟩, by rw [← Nat.add_assoc]; exact b2, fun θ => ?_⟩
    · rw [← List.append_assoc, List.getElem?_append_right (Nat.le_refl _), Nat.sub_self]
      rfl
    · have ln : (U.l θ.b :: xs.map U.d).length = n := by rw [List.length_cons, List.length_map, ← g1.length]; exact hn
      rw [cDef_ap, h3 θ]
      simp only [Option.bind_some, List.map_cons, u_dats]
      show defa n f (U.l θ.b :: xs.map U.d, _) = _
      rw [defa_ap, if_pos ln]
      have := ez θ.st (θ.L ++ (cs ++ js)) θ.b θ.ok
      rw [List.append_assoc, List.append_assoc] at this
      refine this.trans ?_
      simp only [Th.u, Th.at, Th.sto, List.length_append]
end
end Cm

set_option Elab.async false
set_option linter.all false
set_option maxRecDepth 100000
set_option maxHeartbeats 4000000
namespace Cm
open PySem PySem.Spec PyProof.Rows L2
/-! ### how what is known goes through the operations -/
def leLo : Option Int → Option Int → Bool
  | none, _ => true
  | some a, some b => decide (a ≤ b)
  | some _, none => false
def leHi : Option Int → Option Int → Bool
  | _, none => true
  | some a, some b => decide (a ≤ b)
  | none, some _ => false
theorem lo_le {l l' : Option Int} {i : Int} (e : leLo l' l = true) (h : LoB l i) : LoB l' i := by
  cases l' with
  | none => trivial
  | some a =>
    cases l with
    | none => cases e
    | some b =>
      have e := of_decide_eq_true e
      simp only [LoB] at h ⊢
      omega
theorem hi_le {h h' : Option Int} {i : Int} (e : leHi h h' = true) (g : HiB h i) : HiB h' i := by
  cases h' with
  | none => trivial
  | some a =>
    cases h with
    | none => cases e
    | some b =>
      have e := of_decide_eq_true e
      simp only [HiB] at g ⊢
      omega
theorem iz_le {l h l' h' : Option Int} (e1 : leLo l' l = true) (e2 : leHi h h' = true) : ∀ x, Iz l h x → Iz l' h' x := fun x ⟨i, hx, g1, g2⟩ => ⟨i, hx, lo_le e1 g1, hi_le e2 g2⟩
theorem iz_c (c : Int) : Iz (some c) (some c) (.int c) := ⟨c, rfl, Int.le_refl _, Int.le_refl _⟩
theorem self_le {a : Pd} : ∀ x, a x → a x := fun _ h => h
theorem ls_le {e e' : Pd} {lo hi lo' hi' : Nat} (l : ∀ x, e x → e' x) (h1 : lo' ≤ lo) (h2 : hi ≤ hi') : ∀ x, Ls e lo hi x → Ls e' lo' hi' x := fun x ⟨xs, hx, hc⟩ => ⟨xs, hx, cont_le hc l h1 h2⟩
theorem tp_le {e e' : Pd} {lo hi lo' hi' : Nat} (l : ∀ x, e x → e' x) (h1 : lo' ≤ lo) (h2 : hi ≤ hi') : ∀ x, Tp e lo hi x → Tp e' lo' hi' x := fun x ⟨xs, hx, hc⟩ => ⟨xs, hx, cont_le hc l h1 h2⟩
theorem lsof_ls {as : List Pd} {e : Pd} {lo hi : Nat} (l : ∀ a ∈ as, ∀ x, a x → e x) (h1 : lo ≤ as.length) (h2 : as.length ≤ hi) : ∀ x, LsOf as x → Ls e lo hi x := fun x ⟨xs, hx, q⟩ => ⟨xs, hx, by rw [← q.length]; exact h1, by rw [← q.length]; exact h2, all2_cont q l⟩
theorem tpof_tp {as : List Pd} {e : Pd} {lo hi : Nat} (l : ∀ a ∈ as, ∀ x, a x → e x) (h1 : lo ≤ as.length) (h2 : as.length ≤ hi) : ∀ x, TpOf as x → Tp e lo hi x := fun x ⟨xs, hx, q⟩ => ⟨xs, hx, by rw [← q.length]; exact h1, by rw [← q.length]; exact h2, all2_cont q l⟩
inductive Le2 : List Pd → List Pd → Prop
  | nil : Le2 [] []
  | cons {a b : Pd} {as bs : List Pd} : (∀ x, a x → b x) → Le2 as bs → Le2 (a :: as) (b :: bs)
theorem Le2.all : ∀ {as bs : List Pd} {xs : List PyData}, Le2 as bs → All2 as xs → All2 bs xs
  | _, _, _, .nil, .nil => .nil
  | _, _, _, .cons l t, .cons h q => .cons (l _ h) (Le2.all t q)
theorem tpof_le {as bs : List Pd} (l : Le2 as bs) : ∀ x, TpOf as x → TpOf bs x := fun x ⟨xs, hx, q⟩ => ⟨xs, hx, l.all q⟩
theorem lsof_le {as bs : List Pd} (l : Le2 as bs) : ∀ x, LsOf as x → LsOf bs x := fun x ⟨xs, hx, q⟩ => ⟨xs, hx, l.all q⟩
theorem or_l {a b c : Pd} (l : ∀ x, a x → b x) : ∀ x, a x → Or2 b c x := fun x h => .inl (l x h)
theorem or_r {a b c : Pd} (l : ∀ x, a x → b x) : ∀ x, a x → Or2 c b x := fun x h => .inr (l x h)
theorem or_e {a b c : Pd} (l : ∀ x, a x → c x) (l2 : ∀ x, b x → c x) : ∀ x, Or2 a b x → c x := fun x h => h.elim (l x) (l2 x)
theorem nil_le {e : Pd} : ∀ x, TpOf [] x → Tp e 0 0 x := tpof_tp (fun a ha => by cases ha) (Nat.le_refl _) (Nat.le_refl _)
/-- all of a list of preds -/
theorem mem1 {a e : Pd} {as : List Pd} (h : ∀ x, a x → e x) (t : ∀ b ∈ as, ∀ x, b x → e x) : ∀ b ∈ a :: as, ∀ x, b x → e x := fun b hb => by
  rcases List.mem_cons.mp hb with rfl | hb
  · exact h
  · exact t b hb
theorem mem0 {e : Pd} : ∀ b ∈ ([] : List Pd), ∀ x, b x → e x := fun b hb => by cases hb
theorem cont_ints {l h : Option Int} {lo hi : Nat} : ∀ {xs : List PyData}, (∀ y ∈ xs, Iz l h y) → ∃ ns : List Int, xs = ns.map .int ∧ ∀ n ∈ ns, LoB l n ∧ HiB h n
  | [], _ => ⟨[], rfl, by simp⟩
  | x :: xs, q => by
    obtain ⟨i, rfl, g1, g2⟩ := q x List.mem_cons_self
    obtain ⟨ns, rfl, g3⟩ := cont_ints (lo := lo) (hi := hi) (xs := xs) fun y hy => q y (List.mem_cons_of_mem _ hy)
    refine ⟨i :: ns, rfl, fun n hn => ?_⟩
    rcases List.mem_cons.mp hn with rfl | hn
    · exact ⟨g1, g2⟩
    · exact g3 n hn
theorem ints_cont {l h : Option Int} {lo hi : Nat} {ns : List Int} (h1 : lo ≤ ns.length) (h2 : ns.length ≤ hi) (q : ∀ n ∈ ns, LoB l n ∧ HiB h n) : Cont (Iz l h) lo hi (ns.map .int) :=
  ⟨by simpa using h1, by simpa using h2, fun y hy => by
    obtain ⟨n, hn, rfl⟩ := List.mem_map.mp hy
    exact ⟨n, rfl, (q n hn).1, (q n hn).2⟩⟩
def oadd : Option Int → Option Int → Option Int
  | some a, some b => some (a + b)
  | _, _ => none
def osub : Option Int → Option Int → Option Int
  | some a, some b => some (a - b)
  | _, _ => none
def omul : Option Int → Option Int → Option Int
  | some a, some b => some (a * b)
  | _, _ => none
def omap (f : Int → Int) : Option Int → Option Int
  | some a => some (f a)
  | none => none
section
variable {l1 h1 l2 h2 l h : Option Int} {e e1 e2 a b r : Pd} {lo hi lo1 hi1 lo2 hi2 : Nat}
theorem tr_add (q1 : oadd l1 l2 = l) (q2 : oadd h1 h2 = h) : Tr2 fAdd (Iz l1 h1) (Iz l2 h2) (Iz l h) := fun x y ⟨i, hx, a1, a2⟩ ⟨j, hy, b1, b2⟩ => by
  subst hx hy q1 q2
  refine ⟨_, ⟨i + j, rfl, ?_, ?_⟩, rfl⟩
  · cases l1 <;> cases l2 <;> simp only [oadd, LoB] at * <;> omega
  · cases h1 <;> cases h2 <;> simp only [oadd, HiB] at * <;> omega
theorem tr_addI (q1 : oadd l1 l2 = l) (q2 : oadd h1 h2 = h) : Tr2 fAddI (Iz l1 h1) (Iz l2 h2) (Iz l h) := fun x y ⟨i, hx, a1, a2⟩ ⟨j, hy, b1, b2⟩ => by
  subst hx hy q1 q2
  refine ⟨_, ⟨i + j, rfl, ?_, ?_⟩, rfl⟩
  · cases l1 <;> cases l2 <;> simp only [oadd, LoB] at * <;> omega
  · cases h1 <;> cases h2 <;> simp only [oadd, HiB] at * <;> omega
theorem tr_sub (q1 : osub l1 h2 = l) (q2 : osub h1 l2 = h) : Tr2 fSub (Iz l1 h1) (Iz l2 h2) (Iz l h) := fun x y ⟨i, hx, a1, a2⟩ ⟨j, hy, b1, b2⟩ => by
  subst hx hy q1 q2
  refine ⟨_, ⟨i - j, rfl, ?_, ?_⟩, rfl⟩
  · cases l1 <;> cases h2 <;> simp only [osub, LoB, HiB] at * <;> omega
  · cases h1 <;> cases l2 <;> simp only [osub, LoB, HiB] at * <;> omega
theorem tr_neg (q1 : omap (fun i => -i) h1 = l) (q2 : omap (fun i => -i) l1 = h) : Tr1 fNeg (Iz l1 h1) (Iz l h) := fun x ⟨i, hx, a1, a2⟩ => by
  subst hx q1 q2
  refine ⟨_, ⟨-i, rfl, ?_, ?_⟩, rfl⟩
  · cases h1 <;> simp only [omap, LoB, HiB] at * <;> omega
  · cases l1 <;> simp only [omap, LoB, HiB] at * <;> omega
theorem mul_lo {a b i j : Int} (p1 : 0 ≤ a) (p2 : 0 ≤ b) (g1 : a ≤ i) (g2 : b ≤ j) : a * b ≤ i * j := Int.mul_le_mul g1 g2 p2 (by omega)
/-- a product of two that are not negative, the first one small -/
theorem tr_mulL {a b c : Int} (p1 : 0 ≤ a) (p2 : 0 ≤ c) (sm : b < 18446744073709551616) (q1 : some (a * c) = l) (q2 : omul (some b) h2 = h) : Tr2 fMul (Iz (some a) (some b)) (Iz (some c) h2) (Iz l h) := fun x y ⟨i, hx, a1, a2⟩ ⟨j, hy, b1, b2⟩ => by
  subst hx hy q1 q2
  simp only [LoB, HiB] at a1 a2 b1
  have ok : mulOk i j = true := mul_smallL (by omega) (by omega)
  refine ⟨.int (i * j), ⟨i * j, rfl, mul_lo p1 p2 a1 b1, ?_⟩, by rw [fMul_i, if_pos ok]⟩
  cases h2 with
  | none => trivial
  | some d => exact mul_lo (by omega) (by omega) a2 b2
theorem tr_mulR {a b c : Int} (p1 : 0 ≤ a) (p2 : 0 ≤ c) (sm : b < 18446744073709551616) (q1 : some (c * a) = l) (q2 : omul h2 (some b) = h) : Tr2 fMul (Iz (some c) h2) (Iz (some a) (some b)) (Iz l h) := fun x y ⟨i, hx, a1, a2⟩ ⟨j, hy, b1, b2⟩ => by
  subst hx hy q1 q2
  simp only [LoB, HiB] at a1 b1 b2
  have ok : mulOk i j = true := mul_small (by omega) (by omega)
  refine ⟨.int (i * j), ⟨i * j, rfl, mul_lo p2 p1 a1 b1, ?_⟩, by rw [fMul_i, if_pos ok]⟩
  cases h2 with
  | none => trivial
  | some d => exact mul_lo (by omega) (by omega) a2 b2
/-- a small factor, nothing said of the product -/
theorem tr_mulX {a b : Int} (p1 : -18446744073709551616 < a) (sm : b < 18446744073709551616) : Tr2 fMul (Iz (some a) (some b)) (Iz l1 h1) (Iz none none) := fun x y ⟨i, hx, a1, a2⟩ ⟨j, hy, b1, b2⟩ => by
  subst hx hy
  simp only [LoB, HiB] at a1 a2
  have ok : mulOk i j = true := mul_smallL (by omega) (by omega)
  exact ⟨.int (i * j), ⟨i * j, rfl, trivial, trivial⟩, by rw [fMul_i, if_pos ok]⟩
theorem tr_mod {a : Int} (p : 1 ≤ a) (q : omap (fun i => i - 1) h2 = h) : Tr2 fMod (Iz l1 h1) (Iz (some a) h2) (Iz (some 0) h) := fun x y ⟨i, hx, a1, a2⟩ ⟨j, hy, b1, b2⟩ => by
  subst hx hy q
  simp only [LoB] at b1
  have jp : 0 < j := by omega
  refine ⟨.int (i % j), ⟨i % j, rfl, Int.emod_nonneg _ (by omega), ?_⟩, by rw [fMod_i, if_pos jp]⟩
  have := Int.emod_lt_of_pos i jp
  cases h2 with
  | none => trivial
  | some d =>
    simp only [HiB, omap] at b2 ⊢
    omega
theorem tr_div {c : Int} (p : 1 ≤ c) (lg : c.natAbs.log2 < 9000) (q1 : omap (fun i => i / c) l1 = l) (q2 : omap (fun i => i / c) h1 = h) : Tr2 fDiv (Iz l1 h1) (Iz (some c) (some c)) (Iz l h) := fun x y ⟨i, hx, a1, a2⟩ ⟨j, hy, b1, b2⟩ => by
  subst hx hy q1 q2
  have : j = c := by
    simp only [LoB, HiB] at b1 b2
    omega
  subst this
  have jp : 0 < j := by omega
  refine ⟨.int (i / j), ⟨i / j, rfl, ?_, ?_⟩, by rw [fDiv_i, if_pos ⟨jp, lg⟩]⟩
  · cases l1 with
    | none => trivial
    | some d => exact Int.ediv_le_ediv jp a1
  · cases h1 with
    | none => trivial
    | some d => exact Int.ediv_le_ediv jp a2
theorem tr_const2 {f : PyData → PyData → Option PyData} {x y z : PyData} (q : f x y = some z) (hz : r z) : Tr2 f (Is x) (Is y) r := fun a b h1 h2 => by
  cases h1
  cases h2
  exact ⟨z, hz, q⟩
theorem bl_any (t : Bool) : Bl (.bool t) := ⟨t, rfl, trivial⟩
theorem tr_lt : Tr2 fLt (Iz l1 h1) (Iz l2 h2) Bl := fun x y ⟨i, hx, _⟩ ⟨j, hy, _⟩ => by
  subst hx hy
  exact ⟨_, bl_any _, rfl⟩
theorem tr_leI : Tr2 fLe (Iz l1 h1) (Iz l2 h2) Bl := fun x y ⟨i, hx, _⟩ ⟨j, hy, _⟩ => by
  subst hx hy
  exact ⟨_, bl_any _, rfl⟩
theorem tr_gt : Tr2 fGt (Iz l1 h1) (Iz l2 h2) Bl := fun x y ⟨i, hx, _⟩ ⟨j, hy, _⟩ => by
  subst hx hy
  exact ⟨_, bl_any _, rfl⟩
theorem tr_geI : Tr2 fGe (Iz l1 h1) (Iz l2 h2) Bl := fun x y ⟨i, hx, _⟩ ⟨j, hy, _⟩ => by
  subst hx hy
  exact ⟨_, bl_any _, rfl⟩
/-- how deep a value is -/
def Sd (k : Nat) (a : Pd) : Prop := ∀ x, a x → x.canLay0 = true ∧ x.depth ≤ k
theorem sd_iz : Sd 0 (Iz l h) := fun x ⟨i, hx, _⟩ => by
  subst hx
  exact ⟨rfl, Nat.le_refl _⟩
theorem sd_bl {q : Bool → Prop} : Sd 0 (Bq q) := fun x ⟨i, hx, _⟩ => by
  subst hx
  exact ⟨rfl, Nat.le_refl _⟩
theorem sd_nn : Sd 0 (Is .none) := fun x hx => by
  cases hx
  exact ⟨rfl, Nat.le_refl _⟩
theorem sd_all {k : Nat} (q : Sd k e) : ∀ {xs : List PyData}, (∀ y ∈ xs, e y) → PyData.canLayAll0 xs = true ∧ PyData.depthAll xs ≤ k
  | [], _ => ⟨rfl, Nat.zero_le _⟩
  | x :: xs, h => by
    obtain ⟨g1, g2⟩ := sd_all q (xs := xs) fun y hy => h y (List.mem_cons_of_mem _ hy)
    obtain ⟨g3, g4⟩ := q x (h x List.mem_cons_self)
    refine ⟨?_, ?_⟩
    · rw [PyData.canLayAll0, g3, g1]
      rfl
    · rw [PyData.depthAll]
      exact Nat.max_le.mpr ⟨g4, g2⟩
theorem sd_seq {k : Nat} {xs : List PyData} (h : PyData.canLayAll0 xs = true ∧ PyData.depthAll xs ≤ k) : ((PyData.list xs).canLay0 = true ∧ (PyData.list xs).depth ≤ k + 1) ∧ ((PyData.tuple xs).canLay0 = true ∧ (PyData.tuple xs).depth ≤ k + 1) :=
  ⟨⟨by rw [PyData.canLay0]; exact h.1, by rw [PyData.depth]; exact Nat.succ_le_succ h.2⟩, by rw [PyData.canLay0]; exact h.1, by rw [PyData.depth]; exact Nat.succ_le_succ h.2⟩
theorem sd_ls {k : Nat} (q : Sd k e) : Sd (k + 1) (Ls e lo hi) := fun x ⟨xs, hx, hc⟩ => by
  subst hx
  exact (sd_seq (sd_all q hc.2.2)).1
theorem sd_tp {k : Nat} (q : Sd k e) : Sd (k + 1) (Tp e lo hi) := fun x ⟨xs, hx, hc⟩ => by
  subst hx
  exact (sd_seq (sd_all q hc.2.2)).2
theorem sd_up {k k' : Nat} (q : Sd k a) (l : k ≤ k') : Sd k' a := fun x h => ⟨(q x h).1, Nat.le_trans (q x h).2 l⟩
theorem sd_or {k : Nat} (q : Sd k a) (q2 : Sd k b) : Sd k (Or2 a b) := fun x h => h.elim (q x) (q2 x)
inductive SdA (k : Nat) : List Pd → Prop
  | nil : SdA k []
  | cons {a : Pd} {as : List Pd} : Sd k a → SdA k as → SdA k (a :: as)
theorem SdA.all {k : Nat} : ∀ {as : List Pd} {xs : List PyData}, SdA k as → All2 as xs → PyData.canLayAll0 xs = true ∧ PyData.depthAll xs ≤ k
  | _, _, .nil, .nil => ⟨rfl, Nat.zero_le _⟩
  | _, _, .cons q t, .cons h r => by
    obtain ⟨g1, g2⟩ := SdA.all t r
    obtain ⟨g3, g4⟩ := q _ h
    refine ⟨?_, ?_⟩
    · rw [PyData.canLayAll0, g3, g1]
      rfl
    · rw [PyData.depthAll]
      exact Nat.max_le.mpr ⟨g4, g2⟩
theorem sd_tpof {k : Nat} {as : List Pd} (q : SdA k as) : Sd (k + 1) (TpOf as) := fun x ⟨xs, hx, hc⟩ => by
  subst hx
  exact (sd_seq (q.all hc)).2
theorem sd_lsof {k : Nat} {as : List Pd} (q : SdA k as) : Sd (k + 1) (LsOf as) := fun x ⟨xs, hx, hc⟩ => by
  subst hx
  exact (sd_seq (q.all hc)).1
theorem sd_shaped {k : Nat} (q : Sd k a) (hk : k ≤ 64) {x : PyData} (h : a x) : SeqAt.shaped x = true := by
  unfold SeqAt.shaped
  rw [(q x h).1, decide_eq_true (Nat.le_trans (q x h).2 hk)]
  rfl
theorem tr_eq {k k' : Nat} (q1 : Sd k a) (q2 : Sd k' b) (h1 : k ≤ 64) (h2 : k' ≤ 64) : Tr2 fEq a b Bl := fun x y ha hb => by
  refine ⟨.bool (PyData.eqv x y), bl_any _, ?_⟩
  unfold fEq
  rw [sd_shaped q1 h1 ha, sd_shaped q2 h2 hb]
  rfl
theorem tr_ne {k k' : Nat} (q1 : Sd k a) (q2 : Sd k' b) (h1 : k ≤ 64) (h2 : k' ≤ 64) : Tr2 fNe a b Bl := fun x y ha hb => by
  refine ⟨.bool (!PyData.eqv x y), bl_any _, ?_⟩
  unfold fNe
  rw [sd_shaped q1 h1 ha, sd_shaped q2 h2 hb]
  rfl
theorem tr_isN : Tr2 fIs a (Is .none) Bl := fun x y _ hy => by
  cases hy
  exact ⟨_, bl_any _, fIs_n x⟩
theorem tr_notN : Tr2 fIsNot a (Is .none) Bl := fun x y _ hy => by
  cases hy
  exact ⟨_, bl_any _, fIsNot_n x⟩
theorem tr_inL {k k' : Nat} (q1 : Sd k a) (q2 : Sd k' (Ls e lo hi)) (h1 : k ≤ 64) (h2 : k' ≤ 64) : Tr2 fIn a (Ls e lo hi) Bl := fun x y ha hb => by
  have s1 := sd_shaped q1 h1 ha
  have s2 := sd_shaped q2 h2 hb
  obtain ⟨xs, rfl, _⟩ := hb
  refine ⟨.bool (hasD xs x), bl_any _, ?_⟩
  simp only [fIn, s1, s2, Bool.and_self, if_true]
theorem tr_notInL {k k' : Nat} (q1 : Sd k a) (q2 : Sd k' (Ls e lo hi)) (h1 : k ≤ 64) (h2 : k' ≤ 64) : Tr2 fNotIn a (Ls e lo hi) Bl := fun x y ha hb => by
  have s1 := sd_shaped q1 h1 ha
  have s2 := sd_shaped q2 h2 hb
  obtain ⟨xs, rfl, _⟩ := hb
  refine ⟨.bool (!hasD xs x), bl_any _, ?_⟩
  simp only [fNotIn, s1, s2, Bool.and_self, if_true]
theorem all_flatI {xs : List PyData} (h : ∀ y ∈ xs, Iz l h1 y) : xs.all flatD = true := List.all_eq_true.mpr fun y hy => by
  obtain ⟨i, rfl, _⟩ := h y hy
  rfl
theorem tr_inT : Tr2 fIn (Iz l1 h1) (Tp (Iz l2 h2) lo hi) Bl := fun x y ⟨i, hx, _⟩ ⟨ys, hy, hc⟩ => by
  subst hx hy
  refine ⟨.bool (hasD ys (.int i)), bl_any _, ?_⟩
  simp only [fIn, all_flatI hc.2.2, flatD, Bool.and_self, if_true]
theorem tr_notInT : Tr2 fNotIn (Iz l1 h1) (Tp (Iz l2 h2) lo hi) Bl := fun x y ⟨i, hx, _⟩ ⟨ys, hy, hc⟩ => by
  subst hx hy
  refine ⟨.bool (!hasD ys (.int i)), bl_any _, ?_⟩
  simp only [fNotIn, all_flatI hc.2.2, flatD, Bool.and_self, if_true]
/-! items -/
theorem at_in {xs : List PyData} {n : Int} (h1 : -(xs.length : Int) ≤ n) (h2 : n < xs.length) : ∃ y ∈ xs, atI xs n = some y := by
  unfold atI ixN
  by_cases n0 : 0 ≤ n
  · rw [if_pos n0, if_pos h2]
    have : n.toNat < xs.length := by omega
    exact ⟨xs[n.toNat], List.getElem_mem _, by rw [Option.bind_some, List.getElem?_eq_getElem this]⟩
  · rw [if_neg n0, if_pos h1]
    have : (n + xs.length).toNat < xs.length := by omega
    exact ⟨xs[(n + xs.length).toNat], List.getElem_mem _, by rw [Option.bind_some, List.getElem?_eq_getElem this]⟩
theorem tr_ixL {i j : Int} (b1 : -(lo : Int) ≤ i) (b2 : j < lo) : Tr2 fIx (Ls e lo hi) (Iz (some i) (some j)) e := fun x y ⟨xs, hx, hc⟩ ⟨n, hy, g1, g2⟩ => by
  subst hx hy
  simp only [LoB, HiB] at g1 g2
  have := hc.1
  obtain ⟨z, hz, q⟩ := at_in (xs := xs) (n := n) (by omega) (by omega)
  exact ⟨z, hc.2.2 z hz, q⟩
theorem tr_ixT {i j : Int} (b1 : -(lo : Int) ≤ i) (b2 : j < lo) : Tr2 fIx (Tp e lo hi) (Iz (some i) (some j)) e := fun x y ⟨xs, hx, hc⟩ ⟨n, hy, g1, g2⟩ => by
  subst hx hy
  simp only [LoB, HiB] at g1 g2
  have := hc.1
  obtain ⟨z, hz, q⟩ := at_in (xs := xs) (n := n) (by omega) (by omega)
  exact ⟨z, hc.2.2 z hz, q⟩
theorem All2.get : ∀ {as : List Pd} {xs : List PyData}, All2 as xs → ∀ {n : Nat} {a : Pd}, as[n]? = some a → ∃ x, xs[n]? = some x ∧ a x
  | _, _, .nil, n, a, e => by simp at e
  | _, _, .cons h t, 0, a, e => by
    simp only [List.getElem?_cons_zero, Option.some.injEq] at e
    subst e
    exact ⟨_, rfl, h⟩
  | _, _, .cons h t, n + 1, a, e => by
    rw [List.getElem?_cons_succ] at e ⊢
    exact t.get e
theorem at_nat {xs : List PyData} {n : Nat} {x : PyData} (h : xs[n]? = some x) : atI xs (n : Int) = some x := by
  have := lt_of_get h
  unfold atI ixN
  rw [if_pos (by omega), if_pos (by omega)]
  simpa using h
theorem tr_ixTp {as : List Pd} (n : Nat) (q : as[n]? = some r) : Tr2 fIx (TpOf as) (Iz (some (n : Int)) (some (n : Int))) r := fun x y ⟨xs, hx, hc⟩ ⟨m, hy, g1, g2⟩ => by
  subst hx hy
  simp only [LoB, HiB] at g1 g2
  have em : m = (n : Int) := by omega
  subst em
  obtain ⟨z, hz, rz⟩ := hc.get q
  exact ⟨z, rz, at_nat hz⟩
theorem tr_ixLs {as : List Pd} (n : Nat) (q : as[n]? = some r) : Tr2 fIx (LsOf as) (Iz (some (n : Int)) (some (n : Int))) r := fun x y ⟨xs, hx, hc⟩ ⟨m, hy, g1, g2⟩ => by
  subst hx hy
  simp only [LoB, HiB] at g1 g2
  have em : m = (n : Int) := by omega
  subst em
  obtain ⟨z, hz, rz⟩ := hc.get q
  exact ⟨z, rz, at_nat hz⟩
/-! calls -/
theorem one {f : List PyData → Option PyData} (h : ∀ x, a x → ∃ z, r z ∧ f [x] = some z) : TrN f [a] r := fun xs q => by
  cases q with
  | cons h1 t =>
    cases t
    exact h _ h1
theorem twoN {f : List PyData → Option PyData} (h : ∀ x y, a x → b y → ∃ z, r z ∧ f [x, y] = some z) : TrN f [a, b] r := fun xs q => by
  cases q with
  | cons h1 t =>
    cases t with
    | cons h2 t =>
      cases t
      exact h _ _ h1 h2
theorem tr_lenL : TrN fLen [Ls e lo hi] (Iz (some lo) (some hi)) := one fun x ⟨xs, hx, hc⟩ => by
  subst hx
  refine ⟨_, ⟨xs.length, rfl, ?_, ?_⟩, rfl⟩
  · have := hc.1
    simp only [LoB]
    omega
  · have := hc.2.1
    simp only [HiB]
    omega
theorem tr_lenT : TrN fLen [Tp e lo hi] (Iz (some lo) (some hi)) := one fun x ⟨xs, hx, hc⟩ => by
  subst hx
  refine ⟨_, ⟨xs.length, rfl, ?_, ?_⟩, rfl⟩
  · have := hc.1
    simp only [LoB]
    omega
  · have := hc.2.1
    simp only [HiB]
    omega
def ominL : Option Int → Option Int → Option Int
  | some a, some b => some (if b < a then b else a)
  | _, _ => none
def ominH : Option Int → Option Int → Option Int
  | some a, some b => some (if b < a then b else a)
  | some a, none => some a
  | none, x => x
def omaxL : Option Int → Option Int → Option Int
  | some a, some b => some (if b > a then b else a)
  | some a, none => some a
  | none, x => x
def omaxH : Option Int → Option Int → Option Int
  | some a, some b => some (if b > a then b else a)
  | _, _ => none
theorem tr_min (q1 : ominL l1 l2 = l) (q2 : ominH h1 h2 = h) : TrN fMin [Iz l1 h1, Iz l2 h2] (Iz l h) := twoN fun x y ⟨i, hx, a1, a2⟩ ⟨j, hy, b1, b2⟩ => by
  subst hx hy q1 q2
  refine ⟨_, ⟨_, rfl, ?_, ?_⟩, fMin_ii i j⟩
  · cases l1 <;> cases l2 <;> simp only [ominL, LoB] at * <;> (repeat' split) <;> omega
  · cases h1 <;> cases h2 <;> simp only [ominH, HiB] at * <;> (repeat' split) <;> omega
theorem tr_max (q1 : omaxL l1 l2 = l) (q2 : omaxH h1 h2 = h) : TrN fMax [Iz l1 h1, Iz l2 h2] (Iz l h) := twoN fun x y ⟨i, hx, a1, a2⟩ ⟨j, hy, b1, b2⟩ => by
  subst hx hy q1 q2
  refine ⟨_, ⟨_, rfl, ?_, ?_⟩, fMax_ii i j⟩
  · cases l1 <;> cases l2 <;> simp only [omaxL, LoB] at * <;> (repeat' split) <;> omega
  · cases h1 <;> cases h2 <;> simp only [omaxH, HiB] at * <;> (repeat' split) <;> omega
theorem minI_ex {ns : List Int} (h : 1 ≤ ns.length) : ∃ m, minI ns = some m ∧ m ∈ ns := by
  cases ns with
  | nil => simp at h
  | cons x xs => exact ⟨_, rfl, (foldmin_mem xs x).1⟩
theorem maxI_ex {ns : List Int} (h : 1 ≤ ns.length) : ∃ m, maxI ns = some m ∧ m ∈ ns := by
  cases ns with
  | nil => simp at h
  | cons x xs => exact ⟨_, rfl, (foldmax_mem xs x).1⟩
theorem minmax {xs : List PyData} (p : 1 ≤ lo) (hc : Cont (Iz l h) lo hi xs) : (∃ z, Iz l h z ∧ ((asInts xs).bind fun ns => (minI ns).map PyData.int) = some z) ∧ ∃ z, Iz l h z ∧ ((asInts xs).bind fun ns => (maxI ns).map PyData.int) = some z := by
  obtain ⟨ns, rfl, q⟩ := cont_ints (lo := lo) (hi := hi) hc.2.2
  have := hc.1
  rw [List.length_map] at this
  obtain ⟨m, e1, hm⟩ := minI_ex (ns := ns) (by omega)
  obtain ⟨m2, e2, hm2⟩ := maxI_ex (ns := ns) (by omega)
  rw [asInts_map]
  exact ⟨⟨.int m, ⟨m, rfl, q m hm⟩, by simp [e1]⟩, ⟨.int m2, ⟨m2, rfl, q m2 hm2⟩, by simp [e2]⟩⟩
theorem tr_minL (p : 1 ≤ lo) : TrN fMin [Ls (Iz l h) lo hi] (Iz l h) := one fun x ⟨xs, hx, hc⟩ => by
  subst hx
  exact (minmax p hc).1
theorem tr_minT (p : 1 ≤ lo) : TrN fMin [Tp (Iz l h) lo hi] (Iz l h) := one fun x ⟨xs, hx, hc⟩ => by
  subst hx
  exact (minmax p hc).1
theorem tr_maxL (p : 1 ≤ lo) : TrN fMax [Ls (Iz l h) lo hi] (Iz l h) := one fun x ⟨xs, hx, hc⟩ => by
  subst hx
  exact (minmax p hc).2
theorem tr_maxT (p : 1 ≤ lo) : TrN fMax [Tp (Iz l h) lo hi] (Iz l h) := one fun x ⟨xs, hx, hc⟩ => by
  subst hx
  exact (minmax p hc).2
theorem sum_lo : ∀ {ns : List Int}, (∀ n ∈ ns, 0 ≤ n) → 0 ≤ ns.sum
  | [], _ => by simp
  | n :: ns, q => by
    have := sum_lo (ns := ns) fun z hz => q z (List.mem_cons_of_mem _ hz)
    have := q n List.mem_cons_self
    simp only [List.sum_cons]
    omega
theorem tr_sumL {i : Int} (p : 0 ≤ i) : TrN fSum [Ls (Iz (some i) h) lo hi] (Iz (some 0) none) := one fun x ⟨xs, hx, hc⟩ => by
  subst hx
  obtain ⟨ns, rfl, q⟩ := cont_ints (lo := lo) (hi := hi) hc.2.2
  refine ⟨.int ns.sum, ⟨_, rfl, sum_lo fun n hn => ?_, trivial⟩, by rw [fSum_l, asInts_map]; rfl⟩
  have := (q n hn).1
  simp only [LoB] at this
  omega
theorem tr_sumT {i : Int} (p : 0 ≤ i) : TrN fSum [Tp (Iz (some i) h) lo hi] (Iz (some 0) none) := one fun x ⟨xs, hx, hc⟩ => by
  subst hx
  obtain ⟨ns, rfl, q⟩ := cont_ints (lo := lo) (hi := hi) hc.2.2
  refine ⟨.int ns.sum, ⟨_, rfl, sum_lo fun n hn => ?_, trivial⟩, by rw [fSum_t, asInts_map]; rfl⟩
  have := (q n hn).1
  simp only [LoB] at this
  omega
theorem tr_int : TrN fInt [Iz l h] (Iz l h) := one fun x ⟨i, hx, g⟩ => by
  subst hx
  exact ⟨_, ⟨i, rfl, g⟩, rfl⟩
theorem tr_intB : TrN fInt [Bl] (Iz (some 0) (some 1)) := one fun x ⟨t, hx, _⟩ => by
  subst hx
  refine ⟨_, ⟨_, rfl, ?_, ?_⟩, fInt_b t⟩ <;> cases t <;> simp [LoB, HiB]
theorem tr_abs : TrN fAbs [Iz l h] (Iz (some 0) none) := one fun x ⟨i, hx, _⟩ => by
  subst hx
  refine ⟨_, ⟨_, rfl, ?_, trivial⟩, fAbs_i i⟩
  simp only [LoB]
  split <;> omega
theorem tr_tupL : TrN fTuple [Ls e lo hi] (Tp e lo hi) := one fun x ⟨xs, hx, hc⟩ => by
  subst hx
  exact ⟨_, ⟨xs, rfl, hc⟩, rfl⟩
theorem tr_tupT : TrN fTuple [Tp e lo hi] (Tp e lo hi) := one fun x ⟨xs, hx, hc⟩ => by
  subst hx
  exact ⟨_, ⟨xs, rfl, hc⟩, rfl⟩
theorem tr_lstL : TrN fList [Ls e lo hi] (Ls e lo hi) := one fun x ⟨xs, hx, hc⟩ => by
  subst hx
  exact ⟨_, ⟨xs, rfl, hc⟩, rfl⟩
theorem tr_lstT : TrN fList [Tp e lo hi] (Ls e lo hi) := one fun x ⟨xs, hx, hc⟩ => by
  subst hx
  exact ⟨_, ⟨xs, rfl, hc⟩, rfl⟩
theorem cont_bools {q : Bool → Prop} : ∀ {xs : List PyData}, (∀ y ∈ xs, Bq q y) → ∃ bs : List Bool, xs = bs.map .bool ∧ ∀ b ∈ bs, q b
  | [], _ => ⟨[], rfl, by simp⟩
  | x :: xs, h => by
    obtain ⟨t, rfl, qt⟩ := h x List.mem_cons_self
    obtain ⟨bs, rfl, g⟩ := cont_bools (xs := xs) fun y hy => h y (List.mem_cons_of_mem _ hy)
    refine ⟨t :: bs, rfl, fun b hb => ?_⟩
    rcases List.mem_cons.mp hb with rfl | hb
    · exact qt
    · exact g b hb
theorem tr_all : TrN fAll [Ls Bl lo hi] Bl := one fun x ⟨xs, hx, hc⟩ => by
  subst hx
  obtain ⟨bs, rfl, _⟩ := cont_bools hc.2.2
  exact ⟨_, bl_any _, by rw [fAll_l, asBools_map]; rfl⟩
theorem tr_allT : TrN fAll [Ls Tt lo hi] Tt := one fun x ⟨xs, hx, hc⟩ => by
  subst hx
  obtain ⟨bs, rfl, g⟩ := cont_bools hc.2.2
  refine ⟨.bool (bs.all id), ⟨_, rfl, ?_⟩, by rw [fAll_l, asBools_map]; rfl⟩
  exact List.all_eq_true.mpr fun b hb => g b hb
theorem tr_any : TrN fAny [Ls Bl lo hi] Bl := one fun x ⟨xs, hx, hc⟩ => by
  subst hx
  obtain ⟨bs, rfl, _⟩ := cont_bools hc.2.2
  exact ⟨_, bl_any _, by rw [fAny_l, asBools_map]; rfl⟩
theorem tr_sortL : TrN fSorted [Ls (Iz l h) lo hi] (Ls (Iz l h) lo hi) := one fun x ⟨xs, hx, hc⟩ => by
  subst hx
  obtain ⟨ns, rfl, q⟩ := cont_ints (lo := lo) (hi := hi) hc.2.2
  have c1 := hc.1
  have c2 := hc.2.1
  rw [List.length_map] at c1 c2
  have ln := (sortI_perm ns).length_eq
  exact ⟨_, ⟨_, rfl, ints_cont (ns := sortI ns) (by omega) (by omega) fun n hn => q n ((sortI_perm ns).mem_iff.mp hn)⟩, by simp only [fSorted, asInts_map]⟩
theorem tr_sortT : TrN fSorted [Tp (Iz l h) lo hi] (Ls (Iz l h) lo hi) := one fun x ⟨xs, hx, hc⟩ => by
  subst hx
  obtain ⟨ns, rfl, q⟩ := cont_ints (lo := lo) (hi := hi) hc.2.2
  have c1 := hc.1
  have c2 := hc.2.1
  rw [List.length_map] at c1 c2
  have ln := (sortI_perm ns).length_eq
  exact ⟨_, ⟨_, rfl, ints_cont (ns := sortI ns) (by omega) (by omega) fun n hn => q n ((sortI_perm ns).mem_iff.mp hn)⟩, by simp only [fSorted, asInts_map, Option.map_some]⟩
theorem putU_len (x : Int) : ∀ ys : List Int, 1 ≤ (putU x ys).length ∧ (putU x ys).length ≤ ys.length + 1
  | [] => by simp [putU]
  | y :: ys => by
    have := putU_len x ys
    rw [putU]
    split
    · simp
    · split
      · simp
      · simp only [List.length_cons]
        omega
theorem setI_len : ∀ ns : List Int, (setI ns).length ≤ ns.length ∧ (1 ≤ ns.length → 1 ≤ (setI ns).length)
  | [] => by simp [setI]
  | x :: xs => by
    have := setI_len xs
    have := putU_len x (setI xs)
    rw [setI]
    simp only [List.length_cons]
    omega
theorem tr_setL (p : hi < 64) : Tr1 fSetSorted (Ls (Iz l h) lo hi) (Ls (Iz l h) (min lo 1) hi) := fun x ⟨xs, hx, hc⟩ => by
  subst hx
  obtain ⟨ns, rfl, q⟩ := cont_ints (lo := lo) (hi := hi) hc.2.2
  have c1 := hc.1
  have c2 := hc.2.1
  rw [List.length_map] at c1 c2
  have ln := setI_len ns
  have few : ns.length < 64 := by omega
  refine ⟨_, ⟨_, rfl, ints_cont (ns := setI ns) (by omega) (by omega) fun n hn => q n (mem_setI.mp hn)⟩, ?_⟩
  simp only [fSetSorted, asInts_map, Option.bind_some, if_pos few]
theorem tr_setT (p : hi < 64) : Tr1 fSetSorted (Tp (Iz l h) lo hi) (Ls (Iz l h) (min lo 1) hi) := fun x ⟨xs, hx, hc⟩ => by
  subst hx
  obtain ⟨ns, rfl, q⟩ := cont_ints (lo := lo) (hi := hi) hc.2.2
  have c1 := hc.1
  have c2 := hc.2.1
  rw [List.length_map] at c1 c2
  have ln := setI_len ns
  have few : ns.length < 64 := by omega
  refine ⟨_, ⟨_, rfl, ints_cont (ns := setI ns) (by omega) (by omega) fun n hn => q n (mem_setI.mp hn)⟩, ?_⟩
  simp only [fSetSorted, asInts_map, Option.bind_some, if_pos few]
theorem tr_sortRev : Tr1 fSortRev (Ls (Iz l h) lo hi) (Ls (Iz l h) lo hi) := fun x ⟨xs, hx, hc⟩ => by
  subst hx
  obtain ⟨ns, rfl, q⟩ := cont_ints (lo := lo) (hi := hi) hc.2.2
  have c1 := hc.1
  have c2 := hc.2.1
  rw [List.length_map] at c1 c2
  have ln := (sortI_perm ns).length_eq
  refine ⟨_, ⟨_, rfl, ints_cont (ns := (sortI ns).reverse) (by rw [List.length_reverse]; omega) (by rw [List.length_reverse]; omega) fun n hn => q n ((sortI_perm ns).mem_iff.mp (List.mem_reverse.mp hn))⟩, ?_⟩
  simp only [fSortRev, asInts_map, Option.map_some]
theorem cont_rev {xs : List PyData} (hc : Cont e lo hi xs) : Cont e lo hi xs.reverse := ⟨by simpa using hc.1, by simpa using hc.2.1, fun y hy => hc.2.2 y (List.mem_reverse.mp hy)⟩
theorem tr_revL : Tr1 fRevA (Ls e lo hi) (Ls e lo hi) := fun x ⟨xs, hx, hc⟩ => by
  subst hx
  exact ⟨_, ⟨_, rfl, cont_rev hc⟩, rfl⟩
theorem tr_revT : Tr1 fRevA (Tp e lo hi) (Tp e lo hi) := fun x ⟨xs, hx, hc⟩ => by
  subst hx
  exact ⟨_, ⟨_, rfl, cont_rev hc⟩, rfl⟩
theorem cont_app {xs ys : List PyData} (h1 : Cont e lo1 hi1 xs) (h2 : Cont e lo2 hi2 ys) : Cont e (lo1 + lo2) (hi1 + hi2) (xs ++ ys) := by
  refine ⟨?_, ?_, fun y hy => ?_⟩
  · rw [List.length_append]
    have := h1.1
    have := h2.1
    omega
  · rw [List.length_append]
    have := h1.2.1
    have := h2.2.1
    omega
  · rcases List.mem_append.mp hy with q | q
    · exact h1.2.2 y q
    · exact h2.2.2 y q
theorem tr_addL (p : hi1 + hi2 ≤ lim) : Tr2 fAdd (Ls e lo1 hi1) (Ls e lo2 hi2) (Ls e (lo1 + lo2) (hi1 + hi2)) := fun x y ⟨xs, hx, h1⟩ ⟨ys, hy, h2⟩ => by
  subst hx hy
  refine ⟨_, ⟨_, rfl, cont_app h1 h2⟩, ?_⟩
  have := h1.2.1
  have := h2.2.1
  rw [fAdd_l, if_pos (by omega)]
theorem tr_addT (p : hi1 + hi2 ≤ lim) : Tr2 fAdd (Tp e lo1 hi1) (Tp e lo2 hi2) (Tp e (lo1 + lo2) (hi1 + hi2)) := fun x y ⟨xs, hx, h1⟩ ⟨ys, hy, h2⟩ => by
  subst hx hy
  refine ⟨_, ⟨_, rfl, cont_app h1 h2⟩, ?_⟩
  have := h1.2.1
  have := h2.2.1
  rw [fAdd_t, if_pos (by omega)]
/-! truth -/
theorem trb {q : Bool → Prop} : ∀ x, Bq q x → ∃ t, truth x = some t ∧ q t := fun x ⟨t, hx, qt⟩ => by
  subst hx
  exact ⟨t, rfl, qt⟩
theorem trL : ∀ x, Ls e lo hi x → ∃ t, truth x = some t ∧ anyB t := fun x ⟨xs, hx, _⟩ => by
  subst hx
  exact ⟨_, rfl, trivial⟩
theorem trT : ∀ x, Tp e lo hi x → ∃ t, truth x = some t ∧ anyB t := fun x ⟨xs, hx, _⟩ => by
  subst hx
  exact ⟨_, rfl, trivial⟩
theorem trI : ∀ x, Iz l h x → ∃ t, truth x = some t ∧ anyB t := fun x ⟨xs, hx, _⟩ => by
  subst hx
  exact ⟨_, rfl, trivial⟩
/-! slices -/
def AOp (c : SO) (A : AS) (q : Option Int → Prop) (k : Nat) : Prop := ∀ ev cs B m, Sat A ev cs → BxOk m B → m + k ≤ Mx → ∃ o B' js, q o ∧ BxOk (m + k) B' ∧ ∀ θ : Th, c (θ.ev ev) (θ.sto B cs) = some (o, θ.sto B' (cs ++ js))
variable {A : AS} {c : SE} {k k1 k2 : Nat}
theorem op_none : AOp oNone A (· = none) 0 := fun ev cs B m hs hb hm => ⟨none, B, [], rfl, hb, fun θ => by rw [List.append_nil]; rfl⟩
theorem op_some (g : AE c A (.dat (Iz l h)) k) : AOp (oSome c) A (fun o => ∃ i, o = some i ∧ LoB l i ∧ HiB h i) k := fun ev cs B m hs hb hm => by
  obtain ⟨w, B', js, ⟨x, rfl, i, rfl, q⟩, h2, h3⟩ := g ev cs B m hs hb hm
  refine ⟨some i, B', js, ⟨i, rfl, q⟩, h2, fun θ => ?_⟩
  rw [oSome_ap, h3 θ]
  rfl
theorem ae_sl {cl ch : SO} {q1 q2 : Option Int → Prop} (g : AE c A (.val a) k) (g1 : AOp cl A q1 k1) (g2 : AOp ch A q2 k2) (t : ∀ x o p, a x → q1 o → q2 p → ∃ z, r z ∧ fSl x o p = some z) : AE (cSl c cl ch) A (.dat r) (k + (k1 + k2)) := fun ev cs B m hs hb hm => by
  obtain ⟨w, B1, j1, ⟨x, e1, hx⟩, b1, f1⟩ := g ev cs B m hs hb (by omega)
  obtain ⟨o, B2, j2, h2, b2, f2⟩ := g1 ev (cs ++ j1) B1 (m + k) (hs.mono j1) b1 (by omega)
  obtain ⟨p, B3, j3, h3, b3, f3⟩ := g2 ev (cs ++ j1 ++ j2) B2 (m + k + k1) ((hs.mono j1).mono j2) b2 (by omega)
  obtain ⟨z, rz, ez⟩ := t x o p hx h2 h3
  refine ⟨.d z, B3, j1 ++ (j2 ++ j3), ⟨z, rfl, rz⟩, bx_le b3 (by omega) hm, fun θ => ?_⟩
  have e3 : rdW (cs ++ j1 ++ j2 ++ j3) w = some x := by
    rw [List.append_assoc, List.append_assoc, ← List.append_assoc]
    exact rdW_mono _ _ e1
  rw [cSl_ap, f1 θ]
  simp only [Option.bind_some, sla_ap, f2 θ, sla2_ap, f3 θ, slb_ap, Th.rd θ B3 _ e3, slc_ap, ez, toD_s]
  rw [List.append_assoc, List.append_assoc, ← List.append_assoc cs]
  simp only [List.append_assoc]
  rfl
theorem cut_mem {xs : List PyData} {o p : Option Int} {y : PyData} (h : y ∈ cutD xs o p) : y ∈ xs := List.mem_of_mem_drop (List.mem_of_mem_take h)
theorem cut_len (xs : List PyData) (o p : Option Int) : (cutD xs o p).length ≤ xs.length := by
  unfold cutD
  rw [List.length_take, List.length_drop]
  omega
theorem cut_cont {xs : List PyData} {o p : Option Int} (hc : Cont e lo hi xs) : Cont e 0 hi (cutD xs o p) := ⟨Nat.zero_le _, Nat.le_trans (cut_len xs o p) hc.2.1, fun y hy => hc.2.2 y (cut_mem hy)⟩
theorem sl_L : ∀ x (o p : Option Int), Ls e lo hi x → anyB true → anyB true → ∃ z, Ls e 0 hi z ∧ fSl x o p = some z := fun x o p ⟨xs, hx, hc⟩ _ _ => by
  subst hx
  exact ⟨_, ⟨_, rfl, cut_cont hc⟩, rfl⟩
theorem slL {q1 q2 : Option Int → Prop} : ∀ x o p, Ls e lo hi x → q1 o → q2 p → ∃ z, Ls e 0 hi z ∧ fSl x o p = some z := fun x o p ⟨xs, hx, hc⟩ _ _ => by
  subst hx
  exact ⟨_, ⟨_, rfl, cut_cont hc⟩, rfl⟩
theorem slT {q1 q2 : Option Int → Prop} : ∀ x o p, Tp e lo hi x → q1 o → q2 p → ∃ z, Tp e 0 hi z ∧ fSl x o p = some z := fun x o p ⟨xs, hx, hc⟩ _ _ => by
  subst hx
  exact ⟨_, ⟨_, rfl, cut_cont hc⟩, rfl⟩
/-- x[:n], n between bounds -/
theorem to_cont {xs : List PyData} {i : Int} {n : Nat} (p : 0 ≤ i) (g : (n : Int) ≤ i) (hc : Cont e lo hi xs) : Cont e (min lo n) hi (cutD xs none (some i)) := by
  refine ⟨?_, Nat.le_trans (cut_len xs _ _) hc.2.1, fun y hy => hc.2.2 y (cut_mem hy)⟩
  obtain ⟨k, rfl⟩ : ∃ k : Nat, i = k := ⟨i.toNat, by omega⟩
  unfold cutD
  rw [HT.sIx_none, HT.sIx_nat, List.length_take, List.length_drop]
  have := hc.1
  omega
theorem slToL {n : Nat} : ∀ x o p, Ls e lo hi x → o = none → (∃ i, p = some i ∧ LoB (some (n : Int)) i ∧ HiB h i) → ∃ z, Ls e (min lo n) hi z ∧ fSl x o p = some z := fun x o p ⟨xs, hx, hc⟩ ho ⟨i, hp, g1, _⟩ => by
  subst hx ho hp
  simp only [LoB] at g1
  exact ⟨_, ⟨_, rfl, to_cont (by omega) g1 hc⟩, rfl⟩
theorem slToT {n : Nat} : ∀ x o p, Tp e lo hi x → o = none → (∃ i, p = some i ∧ LoB (some (n : Int)) i ∧ HiB h i) → ∃ z, Tp e (min lo n) hi z ∧ fSl x o p = some z := fun x o p ⟨xs, hx, hc⟩ ho ⟨i, hp, g1, _⟩ => by
  subst hx ho hp
  simp only [LoB] at g1
  exact ⟨_, ⟨_, rfl, to_cont (by omega) g1 hc⟩, rfl⟩
end
/-! ### insert at any place -/
def mIns : MF := fun xs ds => match ds with
  | [.int i, y] => if 0 ≤ i ∧ i ≤ 1000000 ∧ xs.length < lim then some (.none, xs.take i.toNat ++ y :: xs.drop i.toNat) else none
  | _ => none
theorem snd_ins : SndM rInsert mIns := fun F H l vs xs us ds z ys Q hs h d d2 e hl q => by
  unfold mIns at e
  split at e
  · rename_i i y
    split at e
    · rename_i hi
      cases e
      cases d2 with
      | cons a t =>
        cases t with
        | cons b t =>
          cases t
          cases a
          refine ⟨l, vs, i, _, rfl, rfl, h, ?_, hi.1, by omega, q _ _ .non ?_⟩
          · rw [d.length]
            exact Nat.lt_of_lt_of_le hi.2.2 (lim_le (Nat.le_refl _))
          · rw [List.append_assoc]
            exact (d.take _).append ((DqA.cons b .nil).append (d.drop _))
    · cases e
  · cases e
section
variable {A : AS} {X : Xt} {c c2 : SE} {a b r e e' : Pd} {k k1 k2 lo hi lo2 hi2 : Nat}
theorem as_ins {i : Nat} {l h : Int} (q : A[i]? = some (some (.own e lo hi))) (g : AE c A (.dat (Iz (some l) (some h))) k1) (g2 : AE c2 A (.dat a) k2) (p1 : 0 ≤ l) (p2 : h ≤ 1000000) (l1 : ∀ x, e x → e' x) (l2 : ∀ x, a x → e' x) (hl : hi + 1 ≤ lim) : ASt (cExpr (cM mIns (cVar i) (cCons c (cCons c2 cNil)))) A (k1 + (k2 + 0)) (some (A.set i (some (.own e' (lo + 1) (hi + 1))))) X :=
  as_meth (as := [Iz (some l) (some h), a]) q (aa_cons g (aa_cons g2 aa_nil)) (fun xs ds hc hd => by
    cases hd with
    | cons hy t =>
      cases t with
      | cons hz t =>
        rename_i z0 _
        cases t
        obtain ⟨n, rfl, g1, g3⟩ := hy
        simp only [LoB, HiB] at g1 g3
        have := hc.2.1
        refine ⟨.none, xs.take n.toNat ++ z0 :: xs.drop n.toNat, ?_, ?_⟩
        · unfold mIns
          simp only
          rw [if_pos ⟨by omega, by omega, by omega⟩]
        · refine ⟨?_, ?_, fun y hy2 => ?_⟩
          · rw [List.length_append, List.length_cons, List.length_take, List.length_drop]
            have := hc.1
            omega
          · rw [List.length_append, List.length_cons, List.length_take, List.length_drop]
            omega
          · rcases List.mem_append.mp hy2 with z | z
            · exact l1 y (hc.2.2 y (List.mem_of_mem_take z))
            · rcases List.mem_cons.mp z with z | z
              · subst z
                exact l2 _ hz
              · exact l1 y (hc.2.2 y (List.mem_of_mem_drop z))) hl
theorem as_ext {i : Nat} (q : A[i]? = some (some (.own e lo hi))) (g : AE c A (.dat (Ls a lo2 hi2)) k) (l1 : ∀ x, e x → e' x) (l2 : ∀ x, a x → e' x) (hl : hi + hi2 ≤ lim) : ASt (cExpr (cM mExtend (cVar i) (cCons c cNil))) A k (some (A.set i (some (.own e' (lo + lo2) (hi + hi2))))) X :=
  as_meth (as := [Ls a lo2 hi2]) q (aa_cons g aa_nil) (fun xs ds hc hd => by
    cases hd with
    | cons hy t =>
      cases t
      obtain ⟨ys, rfl, h2⟩ := hy
      have := hc.2.1
      have := h2.2.1
      refine ⟨.none, xs ++ ys, ?_, cont_app (cont_le hc l1 (Nat.le_refl _) (Nat.le_refl _)) (cont_le h2 l2 (Nat.le_refl _) (Nat.le_refl _))⟩
      unfold mExtend
      simp only
      rw [if_pos (by omega)]) hl
/-- a chain of two comparisons of ints -/
theorem ae_chain {f g : PyData → PyData → Option PyData} {c3 : SE} {d : Pd} {k3 : Nat} (h1 : AE c A (.dat a) k1) (h2 : AE c2 A (.dat b) k2) (h3 : AE c3 A (.dat d) k3) (t : Tr2 f a b Bl) (t2 : Tr2 g b d Bl) : AE (cChain f g c c2 c3) A (.dat Bl) (k1 + (k2 + k3)) := fun ev cs B m hs hb hm => by
  obtain ⟨w1, B1, j1, ⟨x, rfl, ax⟩, b1, f1⟩ := h1 ev cs B m hs hb (by omega)
  obtain ⟨w2, B2, j2, ⟨y, rfl, ay⟩, b2, f2⟩ := h2 ev (cs ++ j1) B1 (m + k1) (hs.mono j1) b1 (by omega)
  obtain ⟨z, ⟨tz, rfl, _⟩, ez⟩ := t x y ax ay
  cases tz with
  | false =>
    refine ⟨.d (.bool false), B2, j1 ++ j2, ⟨_, rfl, bl_any _⟩, bx_le b2 (by omega) hm, fun θ => ?_⟩
    unfold cChain
    rw [f1 θ]
    simp only [Option.bind_some, f2 θ, Th.u, rd_d, ez, List.append_assoc]
  | true =>
    obtain ⟨w3, B3, j3, ⟨u, rfl, au⟩, b3, f3⟩ := h3 ev (cs ++ j1 ++ j2) B2 (m + k1 + k2) ((hs.mono j1).mono j2) b2 (by omega)
    obtain ⟨z2, q2, e2⟩ := t2 y u ay au
    refine ⟨.d z2, B3, j1 ++ (j2 ++ j3), ⟨z2, rfl, q2⟩, bx_le b3 (by omega) hm, fun θ => ?_⟩
    unfold cChain
    rw [f1 θ]
    simp only [Option.bind_some, f2 θ, Th.u, rd_d, ez]
    rw [f3 θ]
    simp only [Option.bind_some, Th.u, rd_d, e2, Option.map_some, List.append_assoc]
theorem ae_isi {Ts : List String} (h : AE c A (.val a) k) (t : ∀ x, a x → ∃ s, tyD x = some s) (kn : Ts.all known = true) : AE (cIsi Ts c) A (.dat Bl) k := fun ev cs B m hs hb hm => by
  obtain ⟨w, B1, j1, ⟨x, e1, ax⟩, b1, f1⟩ := h ev cs B m hs hb hm
  obtain ⟨s, es⟩ := t x ax
  refine ⟨.d (.bool (Ts.any (isaT s))), B1, j1, ⟨_, rfl, bl_any _⟩, b1, fun θ => ?_⟩
  rw [cIsi_ap, f1 θ]
  simp only [Option.bind_some, isia_ap, Th.rd θ B1 _ e1, es, isib_ap, kn, if_true, toD_s]
  rfl
end
def Bot : Pd := fun _ => False
theorem bot_le {a : Pd} : ∀ x, Bot x → a x := fun x h => h.elim
theorem tt_bl : ∀ x, Tt x → Bl x := fun x ⟨t, h, _⟩ => ⟨t, h, trivial⟩
theorem awle_none {a : Option AW} : AwLe a none := by cases a with
  | none => trivial
  | some a => cases a <;> trivial
theorem awle_dat {a b : Pd} (l : ∀ x, a x → b x) : AwLe (some (.dat a)) (some (.dat b)) := l
theorem awle_ow {e e' : Pd} {lo hi lo' hi' : Nat} (l : ∀ x, e x → e' x) (h1 : lo' ≤ lo) (h2 : hi ≤ hi') : AwLe (some (.own e lo hi)) (some (.own e' lo' hi')) := ⟨l, h1, h2⟩
theorem awle_box : AwLe (some .box) (some .box) := trivial
theorem ag_post {g : GT} {A A1 A2 : AS} {e : Pd} (h : AG g A e A1) (l : AsLe A1 A2) : AG g A e A2 := fun x ev cs hx hs => by
  obtain ⟨ev', s, f⟩ := h x ev cs hx hs
  exact ⟨ev', s.le l, f⟩
theorem it_up {it : SI} {A : AS} {e : Pd} {lo hi k k1 : Nat} (h : AIt it A e lo hi k) (l : k ≤ k1) : AIt it A e lo hi k1 := fun ev cs B m hs hb hm => by
  obtain ⟨w, B', js, h1, h2, h3⟩ := h ev cs B m hs hb (by omega)
  exact ⟨w, B', js, h1, bx_le h2 (by omega) hm, h3⟩
theorem sd_bot : Sd 0 Bot := fun x h => h.elim
/-! ### a test tells more of a slot -/
theorem Sat.known {A : AS} {ev : Wv} {cs : Sto} {a : Pd} {x : PyData} {i : Nat} (h : Sat A ev cs) (e : ev[i]? = some (some (.d x))) (hx : a x) : Sat (A.set i (some (.dat a))) ev cs := by
  have own : ∀ k, isOwn (A.set i (some (.dat a))) k → isOwn A k := fun k ⟨e, lo, hi, q⟩ => by
    rcases get_set q with ⟨_, z, _⟩ | ⟨n, z⟩
    · cases z
    · exact ⟨e, lo, hi, z⟩
  refine ⟨by simp [h.len], fun k aw q => ?_, fun k k' j o1 o2 e1 e2 => h.sep k k' j (own k o1) (own k' o2) e1 e2⟩
  rcases get_set q with ⟨rfl, z, hl⟩ | ⟨n, z⟩
  · cases z
    exact ⟨.d x, e, x, rfl, hx⟩
  · exact h.get k aw z
def ABR (c : SB) (A A1 : AS) (k : Nat) : Prop := ∀ ev cs B m, Sat A ev cs → BxOk m B → m + k ≤ Mx → ∃ t B' js, (t = true → Sat A1 ev (cs ++ js)) ∧ BxOk (m + k) B' ∧ ∀ θ : Th, c (θ.ev ev) (θ.sto B cs) = some (t, θ.sto B' (cs ++ js))
theorem abr_var {A : AS} {c : SE} {a b a' : Pd} {k i : Nat} {f : PyData → PyData → Option PyData} (q : A[i]? = some (some (.dat a))) (h : AE c A (.dat b) k) (t : Tr2 f a b Bl) (ref : ∀ x y, a x → b y → f x y = some (.bool true) → a' x) : ABR (cB (cD2 f (cVar i) c)) A (A.set i (some (.dat a'))) k := fun ev cs B m hs hb hm => by
  obtain ⟨w, g1, x, rfl, hx⟩ := hs.get i _ q
  obtain ⟨w2, B', js, ⟨y, rfl, hy⟩, h2, h3⟩ := h ev cs B m hs hb hm
  obtain ⟨z, ⟨t, rfl, _⟩, ez⟩ := t x y hx hy
  refine ⟨t, B', js, fun et => ?_, h2, fun θ => ?_⟩
  · subst et
    exact (hs.mono js).known g1 (ref x y hx hy ez)
  · rw [cB_ap, cD2_ap, cVar_ap, Th.get, g1]
    simp only [Option.map_some, var1_s, Option.bind_some, Th.u, d2a_ap, h3 θ, d2b_ap, rd_d, d2c_s, ez, toD_s, ba_ap]
theorem as_ifR {A A1 : AS} {s s2 : SS} {N : Option AS} {X : Xt} {t : SB} {k k1 : Nat} (h : ABR t A A1 k) (h1 : ASt s A1 k1 N X) (h2 : ASt s2 A k1 N X) : ASt (cIfS t s s2) A (k + k1) N X := fun ev cs B m hs hb hm => by
  obtain ⟨w, B1, j1, q1, b1, e1⟩ := h ev cs B m hs hb (by omega)
  cases w with
  | true =>
    obtain ⟨o, B2, o2, b2, e2⟩ := h1 ev (cs ++ j1) B1 (m + k) (q1 rfl) b1 (by omega)
    refine ⟨o, B2, o2, by rw [← Nat.add_assoc]; exact b2, fun θ => ?_⟩
    rw [cIfS_ap, e1 θ]
    simp only [Option.bind_some, ifa_ap, if_true, e2 θ]
  | false =>
    obtain ⟨o, B2, o2, b2, e2⟩ := h2 ev (cs ++ j1) B1 (m + k) (hs.mono j1) b1 (by omega)
    refine ⟨o, B2, o2, by rw [← Nat.add_assoc]; exact b2, fun θ => ?_⟩
    rw [cIfS_ap, e1 θ]
    simp only [Option.bind_some, ifa_ap, e2 θ]
    rfl
section
variable {l1 h1 h2 l2 l h : Option Int} {a : Int}
theorem ref_gt (q : omaxL l1 (some (a + 1)) = l) : ∀ x y, Iz l1 h1 x → Iz (some a) h2 y → fGt x y = some (.bool true) → Iz l h1 x := fun x y ⟨i, hx, a1, a2⟩ ⟨j, hy, b1, b2⟩ e => by
  subst hx hy q
  simp only [fGt, Option.some.injEq, PyData.bool.injEq, decide_eq_true_eq] at e
  refine ⟨i, rfl, ?_, a2⟩
  cases l1 <;> simp only [omaxL, LoB] at * <;> (repeat' split) <;> omega
theorem ref_ge (q : omaxL l1 (some a) = l) : ∀ x y, Iz l1 h1 x → Iz (some a) h2 y → fGe x y = some (.bool true) → Iz l h1 x := fun x y ⟨i, hx, a1, a2⟩ ⟨j, hy, b1, b2⟩ e => by
  subst hx hy q
  simp only [fGe, Option.some.injEq, PyData.bool.injEq, decide_eq_true_eq] at e
  refine ⟨i, rfl, ?_, a2⟩
  cases l1 <;> simp only [omaxL, LoB] at * <;> (repeat' split) <;> omega
theorem ref_lt (q : ominH h1 (some (a - 1)) = h) : ∀ x y, Iz l1 h1 x → Iz l2 (some a) y → fLt x y = some (.bool true) → Iz l1 h x := fun x y ⟨i, hx, a1, a2⟩ ⟨j, hy, b1, b2⟩ e => by
  subst hx hy q
  simp only [fLt, Option.some.injEq, PyData.bool.injEq, decide_eq_true_eq] at e
  refine ⟨i, rfl, a1, ?_⟩
  cases h1 <;> simp only [ominH, HiB] at * <;> (repeat' split) <;> omega
theorem ref_le (q : ominH h1 (some a) = h) : ∀ x y, Iz l1 h1 x → Iz l2 (some a) y → fLe x y = some (.bool true) → Iz l1 h x := fun x y ⟨i, hx, a1, a2⟩ ⟨j, hy, b1, b2⟩ e => by
  subst hx hy q
  simp only [fLe, Option.some.injEq, PyData.bool.injEq, decide_eq_true_eq] at e
  refine ⟨i, rfl, a1, ?_⟩
  cases h1 <;> simp only [ominH, HiB] at * <;> (repeat' split) <;> omega
end
theorem iz_leG {l h l' h' : Option Int} (h1 : ∀ i, LoB l i → LoB l' i) (h2 : ∀ i, HiB h i → HiB h' i) : ∀ x, Iz l h x → Iz l' h' x := fun x ⟨i, hx, g1, g2⟩ => ⟨i, hx, h1 i g1, h2 i g2⟩
theorem log_lt {n k : Nat} (h : n < 2 ^ k) (hk : 0 < k) : n.log2 < k := by
  by_cases z : n = 0
  · subst z
    simpa using hk
  · exact (Nat.log2_lt z).mpr h
/-- a product of two that are not negative and not too great -/
theorem tr_mulB {a b c d : Int} {l h : Option Int} (p1 : 0 ≤ a) (p2 : 0 ≤ c) (s1 : b.toNat < 2 ^ 4000) (s2 : d.toNat < 2 ^ 4000) (q1 : some (a * c) = l) (q2 : some (b * d) = h) : Tr2 fMul (Iz (some a) (some b)) (Iz (some c) (some d)) (Iz l h) := fun x y ⟨i, hx, a1, a2⟩ ⟨j, hy, b1, b2⟩ => by
  subst hx hy q1 q2
  simp only [LoB, HiB] at a1 a2 b1 b2
  have ok : mulOk i j = true := by
    unfold mulOk
    refine decide_eq_true (.inr (.inr ?_))
    have e1 : i.natAbs < 2 ^ 4000 := Nat.lt_of_le_of_lt (by omega) s1
    have e2 : j.natAbs < 2 ^ 4000 := Nat.lt_of_le_of_lt (by omega) s2
    have := log_lt e1 (by decide)
    have := log_lt e2 (by decide)
    omega
  exact ⟨.int (i * j), ⟨i * j, rfl, mul_lo p1 p2 a1 b1, mul_lo (by omega) (by omega) a2 b2⟩, by rw [fMul_i, if_pos ok]⟩
end Cm

set_option Elab.async false
set_option linter.all false
set_option maxRecDepth 100000
set_option maxHeartbeats 4000000
namespace Cm
open PySem PySem.Spec PyProof.Rows L2
/-! ### tests that tell more: conjunctions, rows that are not empty -/
section
variable {A A1 A2 : AS} {k1 k2 : Nat} {t t2 : SB}
theorem abr_and1 (h : ABR t A A1 k1) (h2 : AB t2 A1 anyB k2) : ABR (bAnd t t2) A A1 (k1 + k2) := fun ev cs B m hs hb hm => by
  obtain ⟨w, B1, j1, q1, b1, e1⟩ := h ev cs B m hs hb (by omega)
  cases w with
  | false => exact ⟨false, B1, j1, (fun h => nomatch h), bx_le b1 (by omega) hm, fun θ => by rw [bAnd_ap, e1 θ]; rfl⟩
  | true =>
    have s1 := q1 rfl
    obtain ⟨w2, B2, j2, q2, b2, e2⟩ := h2 ev (cs ++ j1) B1 (m + k1) s1 b1 (by omega)
    refine ⟨w2, B2, j1 ++ j2, fun _ => by rw [← List.append_assoc]; exact s1.mono j2, by rw [← Nat.add_assoc]; exact b2, fun θ => ?_⟩
    rw [bAnd_ap, e1 θ]
    simp only [Option.bind_some, anda_ap, if_true, e2 θ, List.append_assoc]
theorem abr_and2 (h : AB t A anyB k1) (h2 : ABR t2 A A2 k2) : ABR (bAnd t t2) A A2 (k1 + k2) := fun ev cs B m hs hb hm => by
  obtain ⟨w, B1, j1, q1, b1, e1⟩ := h ev cs B m hs hb (by omega)
  cases w with
  | false => exact ⟨false, B1, j1, (fun h => nomatch h), bx_le b1 (by omega) hm, fun θ => by rw [bAnd_ap, e1 θ]; rfl⟩
  | true =>
    obtain ⟨w2, B2, j2, q2, b2, e2⟩ := h2 ev (cs ++ j1) B1 (m + k1) (hs.mono j1) b1 (by omega)
    refine ⟨w2, B2, j1 ++ j2, fun h => by rw [← List.append_assoc]; exact q2 h, by rw [← Nat.add_assoc]; exact b2, fun θ => ?_⟩
    rw [bAnd_ap, e1 θ]
    simp only [Option.bind_some, anda_ap, if_true, e2 θ, List.append_assoc]
theorem abr_and (h : ABR t A A1 k1) (h2 : ABR t2 A1 A2 k2) : ABR (bAnd t t2) A A2 (k1 + k2) := fun ev cs B m hs hb hm => by
  obtain ⟨w, B1, j1, q1, b1, e1⟩ := h ev cs B m hs hb (by omega)
  cases w with
  | false => exact ⟨false, B1, j1, (fun h => nomatch h), bx_le b1 (by omega) hm, fun θ => by rw [bAnd_ap, e1 θ]; rfl⟩
  | true =>
    have s1 := q1 rfl
    obtain ⟨w2, B2, j2, q2, b2, e2⟩ := h2 ev (cs ++ j1) B1 (m + k1) s1 b1 (by omega)
    refine ⟨w2, B2, j1 ++ j2, fun h => by rw [← List.append_assoc]; exact q2 h, by rw [← Nat.add_assoc]; exact b2, fun θ => ?_⟩
    rw [bAnd_ap, e1 θ]
    simp only [Option.bind_some, anda_ap, if_true, e2 θ, List.append_assoc]
end
theorem ref_neT {e : Pd} {lo hi lo' : Nat} (q : lo' ≤ max lo 1) : ∀ x y, Tp e lo hi x → TpOf [] y → fNe x y = some (.bool true) → Tp e lo' hi x := fun x y ⟨xs, hx, hc⟩ ⟨ys, hy, hz⟩ e => by
  subst hx hy
  cases hz
  refine ⟨xs, rfl, ?_, hc.2.1, hc.2.2⟩
  cases xs with
  | nil => cases e
  | cons a b =>
    have := hc.1
    simp only [List.length_cons] at this ⊢
    omega
theorem ref_neL {e : Pd} {lo hi lo' : Nat} (q : lo' ≤ max lo 1) : ∀ x y, Ls e lo hi x → LsOf [] y → fNe x y = some (.bool true) → Ls e lo' hi x := fun x y ⟨xs, hx, hc⟩ ⟨ys, hy, hz⟩ e => by
  subst hx hy
  cases hz
  refine ⟨xs, rfl, ?_, hc.2.1, hc.2.2⟩
  cases xs with
  | nil => cases e
  | cons a b =>
    have := hc.1
    simp only [List.length_cons] at this ⊢
    omega
end Cm

set_option Elab.async false
set_option linter.all false
set_option maxRecDepth 100000
set_option maxHeartbeats 4000000
namespace Cm
open PySem PySem.Spec PyProof.Rows L2
/-! ### a list of lists that are still growing: one slot, its lists laid by this def alone -/
inductive Cells (F H : Hp) : List Addr → List (List PyData) → Prop
  | nil : Cells F H [] []
  | cons {b : Addr} {vs : List V} {xs : List PyData} {bs : List Addr} {xss : List (List PyData)} : H b = some (.lst vs) → DqA F vs xs → F b = none → Cells F H bs xss → Cells F H (b :: bs) (xs :: xss)
theorem Cells.app {F H : Hp} {as bs : List Addr} {xss yss : List (List PyData)} (h : Cells F H as xss) (k : Cells F H bs yss) : Cells F H (as ++ bs) (xss ++ yss) := by
  induction h with
  | nil => exact k
  | cons a b c _ ih => exact .cons a b c ih
theorem Cells.len {F H : Hp} {as : List Addr} {xss : List (List PyData)} (h : Cells F H as xss) : as.length = xss.length := by
  induction h with
  | nil => rfl
  | cons _ _ _ _ ih => simp [ih]
theorem Cells.has {F H : Hp} {as : List Addr} {xss : List (List PyData)} (h : Cells F H as xss) : ∀ b ∈ as, F b = none ∧ ∃ vs, H b = some (.lst vs) := by
  induction h with
  | nil => intro b hb; cases hb
  | cons a _ c _ ih =>
    intro b hb
    rcases List.mem_cons.mp hb with q | q
    · exact q ▸ ⟨c, _, a⟩
    · exact ih b q
theorem Cells.to {F H H' : Hp} {as : List Addr} {xss : List (List PyData)} (h : Cells F H as xss) (k : ∀ b ∈ as, H' b = H b) : Cells F H' as xss := by
  induction h with
  | nil => exact .nil
  | cons a b c _ ih => exact .cons (by rw [k _ List.mem_cons_self]; exact a) b c (ih fun x hx => k x (List.mem_cons_of_mem _ hx))
theorem Cells.grow {F H F' H' : Hp} {as : List Addr} {xss : List (List PyData)} (h : Cells F H as xss) (g : Grow F H F' H') : Cells F' H' as xss := by
  induction h with
  | nil => exact .nil
  | cons a b c _ ih => exact .cons (g.hh _ _ a) (b.mono g.ff) (g.fr _ _ a c) ih
theorem Cells.dq {F H G : Hp} {as : List Addr} {xss : List (List PyData)} (h : Cells F H as xss) (s : Same F G) (k : ∀ b ∈ as, G b = H b) : DqA G (as.map V.ref) (xss.map PyData.list) := by
  induction h with
  | nil => exact .nil
  | cons a b c _ ih => exact .cons (.lst (by rw [k _ List.mem_cons_self]; exact a) (b.mono s)) (ih fun x hx => k x (List.mem_cons_of_mem _ hx))
theorem Cells.last {F H : Hp} {bs : List Addr} {yss : List (List PyData)} {ys : List PyData} (h : Cells F H bs (yss ++ [ys])) : ∃ as b vs, bs = as ++ [b] ∧ Cells F H as yss ∧ H b = some (.lst vs) ∧ DqA F vs ys ∧ F b = none := by
  induction yss generalizing bs with
  | nil =>
    cases h with
    | cons a b c t =>
      cases t
      exact ⟨[], _, _, rfl, .nil, a, b, c⟩
  | cons x xss ih =>
    cases h with
    | cons a b c t =>
      obtain ⟨as, b', vs, e, h1, h2, h3, h4⟩ := ih t
      exact ⟨_ :: as, b', vs, by rw [e]; rfl, .cons a b c h1, h2, h3, h4⟩
structure NR (K : PySem.W.Frag) (F : Hp) (a : Addr) (fi : Nat) (H : Hp) (σ : L2.St) (ev : Ev) (xss : List (List PyData)) : Prop where
  sub : Same F H
  own : F a = none
  bs : ∃ bs : List Addr, H a = some (.lst (bs.map V.ref)) ∧ (a :: bs).Nodup ∧ Cells F H bs xss
  sr : SR K [] F ev σ
  no : ev[fi]? = some none
  got : σ[fi]? = some (some (.ref a))
section
variable {K : PySem.W.Frag} {F F' H H' : Hp} {a : Addr} {fi : Nat} {σ : L2.St} {ev : Ev} {xss : List (List PyData)}
theorem NR.grow (n : NR K F a fi H σ ev xss) (g : Grow F H F' H') : NR K F' a fi H' σ ev xss := by
  obtain ⟨bs, h1, h2, h3⟩ := n.bs
  exact ⟨g.fh, g.fr _ _ h1 n.own, ⟨bs, g.hh _ _ h1, h2, h3.grow g⟩, n.sr.mono (.same_of g.ff), n.no, n.got⟩
theorem NR.same (n : NR K F a fi H σ ev xss) (s : Same H H') : NR K F a fi H' σ ev xss := n.grow ⟨Same.refl _, s, n.sub.trans s, fun _ _ _ e => e⟩
theorem NR.put (n : NR K F a fi H σ ev xss) {i : Nat} {v : V} {d : PyData} (hi : i ≠ fi) (r : Dq F v d) : NR K F a fi H (σ.set i (some v)) (ev.set i (some (.d d))) xss :=
  ⟨n.sub, n.own, n.bs, n.sr.set (w := .d d) r i, by rw [List.getElem?_set_ne hi]; exact n.no, by rw [List.getElem?_set_ne hi]; exact n.got⟩
/-- the slots, the growing list read as it stands -/
def rdN (fi : Nat) (ev : Ev) (xss : List (List PyData)) : Ev := ev.set fi (some (.d (.list (xss.map .list))))
theorem set_has {α : Type} {l : List α} {i : Nat} {x : α} (h : l[i]? = some x) : l.set i x = l := by
  obtain ⟨hb, e⟩ := List.getElem?_eq_some_iff.mp h
  rw [← e]
  simp
theorem NR.dq (n : NR K F a fi H σ ev xss) : Dq H (.ref a) (.list (xss.map .list)) := by
  obtain ⟨bs, h1, h2, h3⟩ := n.bs
  exact .lst h1 (h3.dq n.sub fun _ _ => rfl)
theorem NR.all (n : NR K F a fi H σ ev xss) : SR K [] H (rdN fi ev xss) σ := by
  have := (n.sr.mono (F' := H) (ρ' := []) (.same_of n.sub)).set (w := .d (.list (xss.map .list))) n.dq fi
  rwa [set_has n.got] at this
theorem hr_none (H : Hp) : HR [] H H [] := ⟨Same.refl _, fun n xs e => by simp at e, fun n m a ⟨_, e⟩ => by simp at e, rfl, .nil⟩
theorem NR.ask (n : NR K F a fi H σ ev xss) {c : SE} {z : PyData} {Q : VK} (e : c (rdN fi ev xss) [] = some (.d z, [])) (k : ∀ v H', Same H H' → (∃ F', Same F' H' ∧ Dq F' v z) → Q v H') : tI K c σ H Q :=
  ⟨[], H, rdN fi ev xss, [], .d z, [], hr_none H, n.all, e, fun v ρ' F' H' x hr wr => k v H' (x.same.trans hr.sub) ⟨F', hr.sub, wr⟩⟩
theorem NR.test (n : NR K F a fi H σ ev xss) {c : SB} {b : Bool} {Q : Bool → Hp → Prop} (e : c (rdN fi ev xss) [] = some (b, [])) (k : ∀ H', Same H H' → Q b H') : tT K c σ H Q :=
  ⟨[], H, rdN fi ev xss, [], b, [], hr_none H, n.all, e, fun ρ' F' H' x hr => k H' (x.same.trans hr.sub)⟩
end
abbrev NS := Ev → List (List PyData) → Option (Ev × List (List PyData))
def tNS (K : PySem.W.Frag) (fi : Nat) (c : NS) : TS := fun D σ H => ∃ F a ev xss ev' xss', NR K F a fi H σ ev xss ∧ c ev xss = some (ev', xss') ∧ ∀ σ' F' H', Same F F' → NR K F' a fi H' σ' ev' xss' → D.nx σ' H'
def nSkip : NS := fun ev xss => some (ev, xss)
def nSeq (a b : NS) : NS := fun ev xss => (a ev xss).bind fun p => b p.1 p.2
def nIf (fi : Nat) (c : SB) (a b : NS) : NS := fun ev xss => match c (rdN fi ev xss) [] with
  | some (true, []) => a ev xss
  | some (false, []) => b ev xss
  | _ => none
def nSet (fi i : Nat) (c : SE) : NS := fun ev xss => match c (rdN fi ev xss) [] with
  | some (.d z, []) => if flatD z = true ∧ i ≠ fi then some (ev.set i (some (.d z)), xss) else none
  | _ => none
def nNew0 : NS := fun ev xss => if xss.length < lim then some (ev, xss ++ [[]]) else none
def nNew1 (i : Nat) : NS := fun ev xss => match ev[i]? with
  | some (some (.d z)) => if xss.length < lim then some (ev, xss ++ [[z]]) else none
  | _ => none
def nAdd (i : Nat) : NS := fun ev xss => match xss.getLast?, ev[i]? with
  | some ys, some (some (.d z)) => if ys.length < lim then some (ev, xss.dropLast ++ [ys ++ [z]]) else none
  | _, _ => none
def nLoop (i : Nat) (b : NS) : List PyData → NS
  | [], ev, xss => some (ev, xss)
  | d :: ds, ev, xss => (b (ev.set i (some (.d d))) xss).bind fun p => nLoop i b ds p.1 p.2
def nFor (j i : Nat) (b : NS) : NS := fun ev xss => match ev[j]? with
  | some (some (.d x)) => (items x).bind fun ds => nLoop i b ds ev xss
  | _ => none
theorem flat_dq {F F' : Hp} {v : V} {z : PyData} (h : flatD z = true) (d : Dq F' v z) : Dq F v z := by
  cases d with
  | non => exact .non
  | bl b => exact .bl b
  | int i => exact .int i
  | str x => exact .str x
  | lst _ _ => cases h
  | tup _ _ => cases h
  | obj _ _ _ => cases h
  | hid _ => cases h
  | exn _ _ _ _ => cases h
  | dtt _ _ _ _ _ _ => cases h
theorem flat_dqa {F F' : Hp} : ∀ {vs : List V} {zs : List PyData}, zs.all flatD = true → DqA F' vs zs → DqA F vs zs
  | _, _, _, .nil => .nil
  | _, _, h, .cons d t => by
    simp only [List.all_cons, Bool.and_eq_true] at h
    exact .cons (flat_dq h.1 d) (flat_dqa h.2 t)
theorem atI_last {α : Type} (ys : List α) (z : α) : atI (ys ++ [z]) (-1) = some z := by
  have h : (-(((ys ++ [z]).length : Nat) : Int) ≤ -1) := by simp; omega
  have e : ((-1 : Int) + (((ys ++ [z]).length : Nat) : Int)).toNat = ys.length := by simp; omega
  simp only [atI, ixN, if_neg (by decide : ¬ (0 : Int) ≤ -1), if_pos h, e, Option.bind_some]
  simp
section
variable {X : Cx} {fi : Nat} {e c : Expr} {s : Stmt} {ss ts : List Stmt} {pos : Pos} {ce : SE} {cb : SB} {a b : NS}
theorem n_nil : PSs X [] (tNS X.K fi nSkip) := pss_nil.weak fun D σ H ⟨F, a, ev, xss, ev', xss', n, e, k⟩ => by
  cases e
  exact k σ F H (Same.refl _) n
theorem n_one (h : PS X s (tNS X.K fi a)) : PSs X [s] (tNS X.K fi a) := pss_one h
theorem n_cons (h1 : PS X s (tNS X.K fi a)) (h2 : PSs X ss (tNS X.K fi b)) : PSs X (s :: ss) (tNS X.K fi (nSeq a b)) := (pss_cons h1 h2).weak fun D σ H ⟨F, ad, ev, xss, ev', xss', n, e, k⟩ => by
  simp only [nSeq, Option.bind_eq_some_iff] at e
  obtain ⟨⟨ev1, xss1⟩, e1, e2⟩ := e
  exact ⟨F, ad, ev, xss, ev1, xss1, n, e1, fun σ1 F1 H1 s1 n1 => ⟨F1, ad, ev1, xss1, ev', xss', n1, e2, fun σ' F' H' s' n' => k σ' F' H' (s1.trans s') n'⟩⟩
theorem n_if (hc : PT X c (tT X.K cb)) (ha : PSs X ss (tNS X.K fi a)) (hb : PSs X ts (tNS X.K fi b)) : PS X (.If c ss ts pos) (tNS X.K fi (nIf fi cb a b)) := (ps_if hc ha hb).weak fun D σ H ⟨F, ad, ev, xss, ev', xss', n, e, k⟩ => by
  unfold nIf at e
  split at e
  · rename_i q
    exact n.test q fun H' s => ⟨F, ad, ev, xss, ev', xss', n.same s, e, k⟩
  · rename_i q
    exact n.test q fun H' s => ⟨F, ad, ev, xss, ev', xss', n.same s, e, k⟩
  · cases e
theorem n_set {i : Nat} {x : Str} {pos' : Pos} (hN : X.N.Nodup) (hi : X.N[i]? = some x) (hx : Loc X.env.scope x) (he : PE X e (tI X.K ce)) (hs : swapsWith e (some (.Name x pos')) pos.line X.env = pure false := by rfl) (hf : X.fn x = true ∨ X.env.scope.names.lookup x = some .local := by first | exact .inl rfl | exact .inr rfl | assumption) :
    PS X (.Assign [.Name x pos'] e pos) (tNS X.K fi (nSet fi i ce)) := (ps_set hN hi hx he hs hf).weak fun D σ H ⟨F, ad, ev, xss, ev', xss', n, e, k⟩ => by
  unfold nSet at e
  split at e
  · rename_i z q
    split at e
    · rename_i c
      cases e
      exact n.ask q fun v H' s ⟨F', s', d⟩ => k _ F H' (Same.refl _) ((n.same s).put c.2 (flat_dq c.1 d))
    · cases e
  · cases e
section
variable {x : Str} {p1 p2 p3 apos cpos : Pos} {id : String}
variable (hN : X.N[fi]? = some x) (hv : Vis X.env.scope x) (hd : (x == ("__debug__" : Str)) = false) (hcd : (x == ("__classdict__" : Str)) = false)
/-- the object behind o grows by a new list -/
theorem app_new {F H : Hp} {ad : Addr} {σ : L2.St} {ev : Ev} {xss : List (List PyData)} {vs : List V} {xs : List PyData} {p : Addr} {bs : List Addr} (n : NR X.K F ad fi H σ ev xss) (hp : H p = none) (d : DqA F vs xs) (h1 : H ad = some (.lst (bs.map V.ref))) (h2 : (ad :: bs).Nodup) (h3 : Cells F H bs xss) :
    NR X.K F ad fi (upd (upd H p (.lst vs)) ad (.lst (bs.map V.ref ++ [.ref p]))) σ ev (xss ++ [xs]) := by
  have pa : ad ≠ p := ne_of_none h1 hp
  have nf : F p = none := n.sub.free hp
  have h2' := List.nodup_cons.mp h2
  have pb : p ∉ bs := fun hm => by
    obtain ⟨_, vs, e⟩ := h3.has p hm
    rw [hp] at e
    cases e
  refine ⟨fun b o e => ?_, n.own, ⟨bs ++ [p], ?_, ?_, ?_⟩, n.sr, n.no, n.got⟩
  · have n1 : b ≠ ad := fun q => by rw [q, n.own] at e; cases e
    have n2 : b ≠ p := fun q => by rw [q, nf] at e; cases e
    rw [upd_ne n1, upd_ne n2]
    exact n.sub _ _ e
  · rw [upd_same]
    simp
  · refine List.nodup_cons.mpr ⟨fun hm => ?_, List.nodup_append.mpr ⟨h2'.2, by simp, fun y hy z hz => ?_⟩⟩
    · rcases List.mem_append.mp hm with q | q
      · exact h2'.1 q
      · exact pa (by simpa using q)
    · have : z = p := by simpa using hz
      exact fun e => pb (this ▸ e ▸ hy)
  · refine (h3.to fun b hb => ?_).app (.cons ?_ d nf .nil)
    · have n1 : b ≠ ad := fun q => h2'.1 (q ▸ hb)
      have n2 : b ≠ p := fun q => pb (q ▸ hb)
      rw [upd_ne n1, upd_ne n2]
    · rw [upd_ne (Ne.symm pa), upd_same]
include hN hv hd hcd
theorem n_new0 (pa : PlainAttrs "list") (slot : Slot "list" "append" id) (hty : typeOf (.builtin id) = pure (.type "method_descriptor")) (hm : MtR X id rAppend)
    (hbase : BareBase X (.Name x p1) "append" := by rfl) (hfew : Few X [.List [] p2] cpos := by rfl) (hline : (apos.endLine == cpos.line) = true := by rfl) (hst : Bare1 X (.List [] p2) [] := by rfl) (hplain : NoStar X [] cpos := by rfl)
    (hsw : swapsWith (.Call (.Attribute (.Name x p1) "append" apos) [.List [] p2] [] cpos) none pos.line X.env = pure false := by rfl) :
    PS X (.Expr (.Call (.Attribute (.Name x p1) "append" apos) [.List [] p2] [] cpos) pos) (tNS X.K fi nNew0) :=
  (ps_expr (pe_bm pa slot hty hm (pe_var hN hv hd hcd) (pa_cons (pe_lst pa_nil) pa_nil hst) hbase hfew hline hst hplain) hsw).weak fun D σ H ⟨F, ad, ev, xss, ev', xss', n, e, k⟩ => by
    unfold nNew0 at e
    split at e
    · rename_i hl
      cases e
      obtain ⟨bs, h1, h2, h3⟩ := n.bs
      refine ⟨.ref ad, n.got, .inl ⟨rfl, _, SqL.of h1⟩, Nat.zero_le _, fun p hp => ?_⟩
      have pa := ne_of_none h1 hp
      refine ⟨ad, bs.map V.ref, .ref p, rfl, rfl, by rw [upd_ne pa]; exact h1, ?_, ?_⟩
      · rw [List.length_map, h3.len]
        exact Nat.lt_of_lt_of_le hl (lim_le (Nat.le_refl _))
      · exact k σ F _ (Same.refl _) (app_new n hp .nil h1 h2 h3)
    · cases e
variable {i : Nat} {y : Str} (hN2 : X.N[i]? = some y) (hv2 : Vis X.env.scope y) (hd2 : (y == ("__debug__" : Str)) = false) (hcd2 : (y == ("__classdict__" : Str)) = false)
include hN2 hv2 hd2 hcd2
theorem n_new1 (pa : PlainAttrs "list") (slot : Slot "list" "append" id) (hty : typeOf (.builtin id) = pure (.type "method_descriptor")) (hm : MtR X id rAppend)
    (hbase : BareBase X (.Name x p1) "append" := by rfl) (hfew : Few X [.List [.Name y p3] p2] cpos := by rfl) (hline : (apos.endLine == cpos.line) = true := by rfl) (hst : Bare1 X (.List [.Name y p3] p2) [] := by rfl) (hst2 : Bare1 X (.Name y p3) [] := by rfl) (hplain : NoStar X [] cpos := by rfl)
    (hsw : swapsWith (.Call (.Attribute (.Name x p1) "append" apos) [.List [.Name y p3] p2] [] cpos) none pos.line X.env = pure false := by rfl) :
    PS X (.Expr (.Call (.Attribute (.Name x p1) "append" apos) [.List [.Name y p3] p2] [] cpos) pos) (tNS X.K fi (nNew1 i)) :=
  (ps_expr (pe_bm pa slot hty hm (pe_var hN hv hd hcd) (pa_cons (pe_lst (pa_cons (pe_var hN2 hv2 hd2 hcd2) pa_nil hst2)) pa_nil hst) hbase hfew hline hst hplain) hsw).weak fun D σ H ⟨F, ad, ev, xss, ev', xss', n, e, k⟩ => by
    unfold nNew1 at e
    split at e
    · rename_i z q
      split at e
      · rename_i hl
        cases e
        obtain ⟨bs, h1, h2, h3⟩ := n.bs
        obtain ⟨v, g1, g2⟩ := n.sr.get i _ q
        refine ⟨.ref ad, n.got, .inl ⟨rfl, _, SqL.of h1⟩, v, g1, by simp only [List.length_cons, List.length_nil]; exact lim_le (by decide), fun p hp => ?_⟩
        have pa := ne_of_none h1 hp
        refine ⟨ad, bs.map V.ref, .ref p, rfl, rfl, by rw [upd_ne pa]; exact h1, ?_, ?_⟩
        · rw [List.length_map, h3.len]
          exact Nat.lt_of_lt_of_le hl (lim_le (Nat.le_refl _))
        · exact k σ F _ (Same.refl _) (app_new n hp (.cons g2 .nil) h1 h2 h3)
      · cases e
    · cases e
theorem n_add {b : Expr} (hneg : PE X b (tI X.K (cD1 fNeg (cD (.int 1))))) (pa : PlainAttrs "list") (slot : Slot "list" "append" id) (hty : typeOf (.builtin id) = pure (.type "method_descriptor")) (hm : MtR X id rAppend)
    (hbase : BareBase X (.Subscript (.Name x p1) b p2) "append" := by rfl) (hfew : Few X [.Name y p3] cpos := by rfl) (hline : (apos.endLine == cpos.line) = true := by rfl) (hst : Bare1 X (.Name y p3) [] := by rfl) (hplain : NoStar X [] cpos := by rfl)
    (hsw : swapsWith (.Call (.Attribute (.Subscript (.Name x p1) b p2) "append" apos) [.Name y p3] [] cpos) none pos.line X.env = pure false := by rfl) (hpl : PlainIx b := by exact fun _ _ => rfl) :
    PS X (.Expr (.Call (.Attribute (.Subscript (.Name x p1) b p2) "append" apos) [.Name y p3] [] cpos) pos) (tNS X.K fi (nAdd i)) :=
  (ps_expr (pe_bm pa slot hty hm (pe_ix ix_seq (pe_var hN hv hd hcd) hneg hpl) (pa_cons (pe_var hN2 hv2 hd2 hcd2) pa_nil hst) hbase hfew hline hst hplain) hsw).weak fun D σ H ⟨F, ad, ev, xss, ev', xss', n, e, k⟩ => by
    unfold nAdd at e
    split at e
    · rename_i ys z q1 q2
      split at e
      · rename_i hl
        cases e
        obtain ⟨yss, rfl⟩ := List.getLast?_eq_some_iff.mp q1
        rw [List.dropLast_concat] at k
        refine ⟨.ref ad, n.got, n.ask (z := .int (-1)) rfl fun v H1 s1 ⟨F1, _, d1⟩ => ?_⟩
        cases d1
        have n1 := n.same s1
        obtain ⟨bs, h1, h2, h3⟩ := n1.bs
        obtain ⟨as, bb, vs, rfl, h4, h5, h6, h7⟩ := h3.last
        obtain ⟨w, g1, g2⟩ := n1.sr.get i _ q2
        have h2' := List.nodup_cons.mp h2
        have h2a := List.nodup_append.mp h2'.2
        refine .inl ⟨ad, (as ++ [bb]).map V.ref, -1, .ref bb, rfl, rfl, SqL.of h1, by rw [List.map_append]; exact atI_last _ _, .inl ⟨rfl, _, SqL.of h5⟩, w, g1, ?_⟩
        refine ⟨bb, vs, w, rfl, rfl, h5, ?_, ?_⟩
        · rw [h6.length]
          exact Nat.lt_of_lt_of_le hl (lim_le (Nat.le_refl _))
        · have nab : ad ≠ bb := fun q => h2'.1 (by rw [q]; simp)
          refine k σ F _ (Same.refl _) ⟨fun c o e => ?_, n1.own, ⟨as ++ [bb], ?_, h2, (h4.to fun c hc => ?_).app (.cons upd_same (h6.append (.cons g2 .nil)) h7 .nil)⟩, n1.sr, n1.no, n1.got⟩
          · have nc : c ≠ bb := fun q => by rw [q, h7] at e; cases e
            rw [upd_ne nc]
            exact n1.sub _ _ e
          · rw [upd_ne nab]
            exact h1
          · have nc : c ≠ bb := fun q => h2a.2.2 c hc bb (by simp) q
            rw [upd_ne nc]
      · cases e
    · cases e
end
theorem n_for {j i : Nat} {x y : Str} {p1 p2 : Pos} (hp : PassesOwn (model X.prog X.w) X.A X.env X.xe) (hc : X.calm = true) (hN : X.N[j]? = some y) (hv : Vis X.env.scope y) (hd : (y == ("__debug__" : Str)) = false) (hcd : (y == ("__classdict__" : Str)) = false)
    (hNN : X.N.Nodup) (hi : X.N[i]? = some x) (hx : Loc X.env.scope x) (hif : i ≠ fi) (hb : PSs X ss (tNS X.K fi b)) (hf : X.fn x = true ∨ X.env.scope.names.lookup x = some .local := by first | exact .inl rfl | exact .inr rfl | assumption)
    (hs : ∀ z, foldedSetIterable (.Name y p2) X.env z = pure z := by exact fun _ => rfl) : PS X (.For (.Name x p1) (.Name y p2) ss [] pos) (tNS X.K fi (nFor j i b)) :=
  (ps_for hp hc (PI.or (w := fun σ H R => iList X.K (tVar j) σ H R ∨ iTup X.K (tVar j) σ H R) (pi_list (pe_var hN hv hd hcd)) (pi_tup (pe_var hN hv hd hcd)) fun _ _ _ h => h) (pg_name hNN hi hx hf) hb hs).weak fun D σ H ⟨F, ad, ev, xss, ev', xss', n, e, k⟩ => by
    unfold nFor at e
    split at e
    · rename_i d q
      simp only [Option.bind_eq_some_iff] at e
      obtain ⟨ds, e1, e2⟩ := e
      obtain ⟨v, g1, g2⟩ := n.sr.get j _ q
      have main : ∀ J : It, Yld F J ds → ∃ W : Nat → Nat → L2.St → Hp → Prop, (∃ m, W 0 m σ H) ∧ ∀ i' m σ H, W i' m σ H →
          (J.stop i' H ∧ D.nx σ H) ∨ (J.go i' H ∧ ∃ N : L2.St → Hp → Prop, (∀ σ' H', N σ' H' → ∃ m', m' < m ∧ W (i' + 1) m' σ' H') ∧ ∀ x H', J.yld i' H x H' → gName i x σ H' fun σ2 H2 => tNS X.K fi b { D with nx := N, ct := N, bk := D.nx } σ2 H2) := by
        intro J yl
        refine ⟨fun t m σ H => m = ds.length - t ∧ t ≤ ds.length ∧ ∃ F1 ev1 xss1, Same F F1 ∧ NR X.K F1 ad fi H σ ev1 xss1 ∧ nLoop i b (ds.drop t) ev1 xss1 = some (ev', xss'), ⟨ds.length, rfl, Nat.zero_le _, F, ev, xss, Same.refl _, n, e2⟩, ?_⟩
        rintro t m σ1 H1 ⟨rfl, ht, F1, ev1, xss1, s1, n1, e3⟩
        obtain ⟨yg, ys⟩ := yl F1 H1 (sameD s1) n1.sub
        by_cases hlt : t < ds.length
        · rw [List.drop_eq_getElem_cons hlt] at e3
          simp only [nLoop, Option.bind_eq_some_iff] at e3
          obtain ⟨⟨ev2, xss2⟩, e4, e5⟩ := e3
          obtain ⟨go, yy⟩ := yg t ds[t] (List.getElem?_eq_getElem hlt)
          refine .inr ⟨go, fun σ H => ∃ F1 ev1 xss1, Same F F1 ∧ NR X.K F1 ad fi H σ ev1 xss1 ∧ nLoop i b (ds.drop (t + 1)) ev1 xss1 = some (ev', xss'), fun σ' H' w => ⟨ds.length - (t + 1), by omega, rfl, hlt, w⟩, fun v H2 yv => ?_⟩
          obtain ⟨F2, gr, dv⟩ := yy v H2 yv
          exact ⟨F2, ad, _, xss1, ev2, xss2, (n1.grow gr).put hif dv, e4, fun σ' F' H' s' n' => ⟨F', ev2, xss2, (s1.trans gr.ff).trans s', n', e5⟩⟩
        · have hx : t = ds.length := by omega
          subst hx
          rw [List.drop_length] at e3
          cases e3
          exact .inl ⟨ys, k σ1 F1 H1 s1 n1⟩
      cases d with
      | list zs =>
        cases e1
        cases g2 with
        | lst h d => exact .inl ⟨_, g1, _, rfl, ⟨_, SqL.of (n.sub _ _ h)⟩, main _ (yld_list (fun F1 H s1 s2 => SqL.of (s2 _ _ (s1 _ _ h (nfl (fun _ q => nomatch q) fun _ q => nomatch q)))) d)⟩
      | tuple zs =>
        cases e1
        cases g2 with
        | tup h d => exact .inr ⟨_, g1, _, rfl, ⟨_, SqT.of (n.sub _ _ h)⟩, main _ (yld_tup h d)⟩
      | _ => cases e1
    · cases e
end
/-! a def's whole body -/
def dataE : Ev → Bool := fun ev => ev.all fun w => match w with
  | some (.l _) => false
  | some (.s _) => false
  | some (.k _) => false
  | some (.o _ _) => false
  | some (.p _ _) => false
  | some (.q _ _) => false
  | _ => true
def nEnd (st : Sto) (o : Option (Ev × List (List PyData))) : Option Out := o.bind fun p => if (p.2.all fun xs => xs.all flatD) = true then some (.rt (.d (.list (p.2.map .list))) st) else none
def nB1 (fi : Nat) (b : NS) : SS := fun ev st => if dataE ev = true ∧ fi < ev.length then nEnd st (b (ev.set fi none) []) else none
def nB2 (fi si : Nat) (b : NS) : SS := fun ev st => if dataE ev = true ∧ fi < ev.length ∧ fi ≠ si then nEnd st (b ((ev.set fi none).set si (some (.d (.int 0)))) []) else none
theorem SR.dat {K : PySem.W.Frag} {ρ : Rho} {F H : Hp} {ev : Ev} {σ : L2.St} (h : SR K ρ F ev σ) (s : Same F H) (d : dataE ev = true) : SR K [] H ev σ := ⟨h.len, fun i w q => by
  obtain ⟨v, h1, h2⟩ := h.get i w q
  refine ⟨v, h1, ?_⟩
  have := List.all_eq_true.mp d (some w) (List.mem_of_getElem? q)
  cases w with
  | d x => exact Dq.mono s h2
  | l n => cases this
  | s n => cases this
  | k n => cases this
  | o C n => cases this
  | p C n => cases this
  | q C n => cases this⟩
theorem n_start {K : PySem.W.Frag} {ρ : Rho} {F H : Hp} {st : Sto} {ev : Ev} {σ : L2.St} {fi : Nat} {p : Addr} (hr : HR ρ F H st) (sr : SR K ρ F ev σ) (d : dataE ev = true) (hf : fi < ev.length) (hp : H p = none) : NR K H p fi (upd H p (.lst [])) (σ.set fi (some (.ref p))) (ev.set fi none) [] :=
  ⟨same_upd hp, hp, ⟨[], upd_same, by simp, .nil⟩, (sr.dat hr.sub d).none fi _, by simp [hf], by simp [← sr.len, hf]⟩
theorem n_stop {K : PySem.W.Frag} {ρ : Rho} {F H F1 H1 : Hp} {st : Sto} {ev1 : Ev} {σ1 : L2.St} {fi : Nat} {p : Addr} {xss : List (List PyData)} {Q : VK} (hr : HR ρ F H st) (s : Same H F1) (n : NR K F1 p fi H1 σ1 ev1 xss) (fl : (xss.all fun xs => xs.all flatD) = true)
    (post : Post K ρ F (.d (.list (xss.map .list))) st Q) : Q (.ref p) H1 := by
  classical
  obtain ⟨bs, h1, h2, h3⟩ := n.bs
  have hb := h3.has
  let G : Hp := fun c => if c = p ∨ c ∈ bs then H1 c else F c
  have out : ∀ c o, H c = some o → ¬ (c = p ∨ c ∈ bs) := fun c o e q => by
    have e1 := s _ _ e
    rcases q with q | q
    · rw [q, n.own] at e1
      cases e1
    · rw [(hb c q).1] at e1
      cases e1
  have FG : Same F G := fun c o e => by
    show (if c = p ∨ c ∈ bs then H1 c else F c) = some o
    rw [if_neg (out c o (hr.sub _ _ e))]
    exact e
  have GH : Same G H1 := fun c o e => by
    have e' : (if c = p ∨ c ∈ bs then H1 c else F c) = some o := e
    split at e'
    · exact e'
    · exact n.sub _ _ (s _ _ (hr.sub _ _ e'))
  have in1 : G p = H1 p := if_pos (.inl rfl)
  have in2 : ∀ b ∈ bs, G b = H1 b := fun b hb => if_pos (.inr hb)
  refine post (.ref p) ρ G H1 (.same_of FG) ⟨GH, fun k xs e => ?_, hr.inj, hr.len, hr.obj.to FG fun a C dx us e z => ⟨n.sub _ _ (s _ _ e), by
    show (if a = p ∨ a ∈ bs then H1 a else F a) = none
    rw [if_neg (out a _ e)]
    exact z⟩⟩ ?_
  · obtain ⟨a, vs, k1, k2, k3, k4⟩ := hr.cell k xs e
    refine ⟨a, vs, k1, n.sub _ _ (s _ _ k2), ?_, k4.mono FG⟩
    show (if a = p ∨ a ∈ bs then H1 a else F a) = none
    rw [if_neg (out a _ k2)]
    exact k3
  · refine .lst (in1.trans h1) ?_
    clear h1 h2 post n
    have go : ∀ {as : List Addr} {yss : List (List PyData)}, Cells F1 H1 as yss → (∀ b ∈ as, G b = H1 b) → (yss.all fun xs => xs.all flatD) = true → DqA G (as.map V.ref) (yss.map PyData.list) := by
      intro as yss h
      induction h with
      | nil => intro _ _; exact .nil
      | cons a b c _ ih =>
        intro hg hf
        simp only [List.all_cons, Bool.and_eq_true] at hf
        exact .cons (.lst ((hg _ List.mem_cons_self).trans a) (flat_dqa (List.all_eq_true.mpr fun x hx => List.all_eq_true.mp hf.1 x hx) b)) (ih (fun x hx => hg x (List.mem_cons_of_mem _ hx)) (by simpa using hf.2))
    exact go h3 in2 fl
section
variable {X : Cx} {fi si : Nat} {s : Stmt} {b : NS} {x y : Str} {p1 p2 p3 p4 p5 pos pos2 : Pos}
theorem n_body1 (hNN : X.N.Nodup) (hN : X.N[fi]? = some x) (hx : Loc X.env.scope x) (hv : Vis X.env.scope x) (hd : (x == ("__debug__" : Str)) = false) (hcd : (x == ("__classdict__" : Str)) = false) (hb : PS X s (tNS X.K fi b))
    (hs : swapsWith (.List [] p2) (some (.Name x p1)) pos.line X.env = pure false := by rfl) (hf : X.fn x = true ∨ X.env.scope.names.lookup x = some .local := by first | exact .inl rfl | exact .inr rfl | assumption) :
    PSs X [.Assign [.Name x p1] (.List [] p2) pos, s, .Return (some (.Name x p3)) pos2] (tSS X.K (nB1 fi b)) :=
  (pss_cons (ps_set hNN hN hx (pe_lst pa_nil) hs hf) (pss_cons hb (pss_one (ps_ret (pe_var hN hv hd hcd))))).weak fun D σ H ⟨ρ, F, ev, st, o, hr, sr, e, ok⟩ => by
    unfold nB1 at e
    split at e
    · rename_i c
      unfold nEnd at e
      simp only [Option.bind_eq_some_iff] at e
      obtain ⟨⟨ev1, xss1⟩, e1, e2⟩ := e
      split at e2
      · rename_i fl
        cases e2
        exact ⟨Nat.zero_le _, fun p hp => ⟨H, p, _, [], ev1, xss1, n_start hr sr c.1 c.2 hp, e1, fun σ' F' H' s' n' => ⟨.ref p, n'.got, n_stop hr s' n' fl ok⟩⟩⟩
      · cases e2
    · cases e
theorem n_body2 {kt k2 : Nat} {pt pt2 : Pos} {kk : Nat} (hc : X.calm = true) (hNN : X.N.Nodup) (hN : X.N[fi]? = some x) (hS : X.N[si]? = some y) (hij : fi ≠ si) (hx : X.env.scope.names.lookup x = some .local) (hy : X.env.scope.names.lookup y = some .local)
    (hv : Vis X.env.scope x) (hd : (x == ("__debug__" : Str)) = false) (hcd : (x == ("__classdict__" : Str)) = false) (hb : PS X s (tNS X.K fi b))
    (hw : Swaps X (.Tuple [.Name x p1, .Name y p2] kt pt) (.Tuple [.List [] p3, .Constant (.int 0) kk p4] k2 pt2) (some [x, y]))
    (hst : Bare1 X (.List [] p3) [.Constant (.int 0) kk p4] := by rfl) (hst2 : Bare1 X (.Constant (.int 0) kk p4) [] := by rfl)
    (hs : NoSole X (.Tuple [.Name x p1, .Name y p2] kt pt) (.Tuple [.List [] p3, .Constant (.int 0) kk p4] k2 pt2) pos := by rfl) :
    PSs X [.Assign [.Tuple [.Name x p1, .Name y p2] kt pt] (.Tuple [.List [] p3, .Constant (.int 0) kk p4] k2 pt2) pos, s, .Return (some (.Name x p5)) pos2] (tSS X.K (nB2 fi si b)) :=
  (pss_cons (ps_par hc hNN hN hS hij hx hy (pa_cons (pe_lst pa_nil) (pa_cons pe_int pa_nil hst2) hst) hw hs) (pss_cons hb (pss_one (ps_ret (pe_var hN hv hd hcd))))).weak fun D σ H ⟨ρ, F, ev, st, o, hr, sr, e, ok⟩ => by
    unfold nB2 at e
    split at e
    · rename_i c
      unfold nEnd at e
      simp only [Option.bind_eq_some_iff] at e
      obtain ⟨⟨ev1, xss1⟩, e1, e2⟩ := e
      split at e2
      · rename_i fl
        cases e2
        exact ⟨Nat.zero_le _, fun p hp => ⟨.ref p, .int 0, rfl, H, p, _, [], ev1, xss1, (n_start hr sr c.1 c.2.1 hp).put (Ne.symm hij) (.int 0), e1, fun σ' F' H' s' n' => ⟨.ref p, n'.got, n_stop hr s' n' fl ok⟩⟩⟩
      · cases e2
    · cases e
end
end Cm

set_option Elab.async false
set_option linter.all false
set_option maxRecDepth 100000
set_option maxHeartbeats 2000000
namespace Cm
open PySem PySem.Spec PyProof.Rows L2

/-! ### own exceptions whose __init__ calls the base's one with a text: what the text must be -/
abbrev zArgs0 (p1 : Pos) : Arguments := ⟨[], [⟨"self", none, p1⟩], none, [], [], none, []⟩
abbrev zArgs1 (f : Str) (p1 p2 : Pos) : Arguments := ⟨[], [⟨"self", none, p1⟩, ⟨f, none, p2⟩], none, [], [], none, []⟩
abbrev zCall (tx : Str) (k : Nat) (q1 q2 q3 q4 q5 q6 : Pos) : Stmt := .Expr (.Call (.Attribute (.Call (.Name "super" q1) [] [] q2) "__init__" q3) [.Constant (.str tx) k q4] [] q5) q6
abbrev zPut (f : Str) (r1 r2 r3 r4 : Pos) : Stmt := .Assign [.Attribute (.Name "self" r1) f r2] (.Name f r3) r4
abbrev zSc0 : Scope := { kind := .function, names := [("self", .local), ("__class__", .free), ("super", .globalImplicit)], isGenerator := false, isCoroutine := false, more := [] }
abbrev zSc1 (f : Str) : Scope := { kind := .function, names := [("self", .local), (f, .local), ("__class__", .free), ("super", .globalImplicit)], isGenerator := false, isCoroutine := false, more := [] }
def zOk0 : Arguments → List Stmt → Scope → Bool
  | ⟨[], [⟨a, none, _⟩], none, [], [], none, []⟩, [.Expr (.Call (.Attribute (.Call (.Name s _) [] [] _) m q3) [.Constant (.str _) _ _] [] q5) _], ⟨.function, [(n1, .local), (n2, .free), (n3, .globalImplicit)], false, false, []⟩ =>
    (q3.endLine == q5.line) && (decide (a = "self") && (decide (s = "super") && (decide (m = "__init__") && (decide (n1 = "self") && (decide (n2 = "__class__") && decide (n3 = "super"))))))
  | _, _, _ => false
theorem zOk0_eq {a : Arguments} {b : List Stmt} {c : Scope} (h : zOk0 a b c = true) : ∃ p1 tx k q1 q2 q3 q4 q5 q6, a = zArgs0 p1 ∧ b = [zCall tx k q1 q2 q3 q4 q5 q6] ∧ c = zSc0 ∧ (q3.endLine == q5.line) = true := by
  unfold zOk0 at h
  split at h
  · simp only [Bool.and_eq_true, decide_eq_true_eq] at h
    obtain ⟨hl, rfl, rfl, rfl, rfl, rfl, rfl⟩ := h
    exact ⟨_, _, _, _, _, _, _, _, _, rfl, rfl, rfl, hl⟩
  · cases h
def zOk1 (f : Str) : Arguments → List Stmt → Scope → Bool
  | ⟨[], [⟨a, none, _⟩, ⟨a2, none, _⟩], none, [], [], none, []⟩, [.Expr (.Call (.Attribute (.Call (.Name s _) [] [] _) m q3) [.Constant (.str _) _ _] [] q5) _, .Assign [.Attribute (.Name s2 _) f2 _] (.Name f3 _) _],
    ⟨.function, [(n1, .local), (n4, .local), (n2, .free), (n3, .globalImplicit)], false, false, []⟩ =>
    (q3.endLine == q5.line) && (decide (f ≠ "self" ∧ f ≠ "__class__" ∧ f ≠ "super" ∧ f ≠ "__debug__") && (decide (a = "self") && (decide (s = "super") && (decide (m = "__init__") && (decide (n1 = "self") && (decide (n2 = "__class__") && (decide (n3 = "super") && (decide (a2 = f) && (decide (s2 = "self") && (decide (f2 = f) && (decide (f3 = f) && decide (n4 = f))))))))))))
  | _, _, _ => false
theorem zOk1_eq {f : Str} {a : Arguments} {b : List Stmt} {c : Scope} (h : zOk1 f a b c = true) : ∃ p1 p2 tx k q1 q2 q3 q4 q5 q6 r1 r2 r3 r4, a = zArgs1 f p1 p2 ∧ b = [zCall tx k q1 q2 q3 q4 q5 q6, zPut f r1 r2 r3 r4] ∧ c = zSc1 f ∧ (q3.endLine == q5.line) = true ∧ (f ≠ "self" ∧ f ≠ "__class__" ∧ f ≠ "super" ∧ f ≠ "__debug__") := by
  unfold zOk1 at h
  split at h
  · simp only [Bool.and_eq_true, decide_eq_true_eq] at h
    obtain ⟨hl, hf, rfl, rfl, rfl, rfl, rfl, rfl, rfl, rfl, h1, h2, h3⟩ := h
    subst h1 h2 h3
    exact ⟨_, _, _, _, _, _, _, _, _, _, _, _, _, _, rfl, rfl, rfl, hl, hf⟩
  · cases h
/-! ### where it stands -/
/-- the class's __init__ -/
abbrev zf (K : PySem.W.Frag) (x : Str) : Addr := He.ma K (He.ga K x) "__init__"
/-- the code object and the cell of __class__ -/
def zcode (K : PySem.W.Frag) (f : Addr) : Addr := match K.lookup f with
  | some ⟨_, _, .func fd, _⟩ => (match fd.code with
    | .ref c => c
    | _ => 0)
  | _ => 0
def zcell (K : PySem.W.Frag) (f : Addr) : Addr := match K.lookup f with
  | some ⟨_, _, .func fd, _⟩ => (match fd.closure with
    | [(_, c)] => c
    | _ => 0)
  | _ => 0
/-- the text of the function at f -/
def zTxt (K : PySem.W.Frag) (f : Addr) (ok : Arguments → List Stmt → Scope → Bool) (q : Str) : Bool := match K.lookup f with
  | some ⟨_, _, .func ⟨nm, qn, ps, .stmts bd, sc, gl, [(cn, _)], .none, .none, _, _, _, .ref _, _, bl⟩, _⟩ =>
    decide (nm = "__init__") && (decide (qn = q) && (decide (gl = mainGlobals) && (decide (bl = builtinsNs) && (decide (cn = "__class__") && ok ps bd sc))))
  | _ => false
def zFile (K : PySem.W.Frag) (c : Addr) (q file : Str) : Bool := match K.lookup c with
  | some ⟨_, _, .fields vs, _⟩ => (match vs.toList with
    | _ :: .str n _ :: .str fl _ :: _ => decide (n = q) && decide (fl = file)
    | _ => false)
  | _ => false
def zCell (K : PySem.W.Frag) (c C : Addr) : Bool := match K.lookup c with
  | some ⟨_, _, .cell (some (.ref D)), _⟩ => decide (D = C)
  | _ => false
theorem zTxt_eq {K : PySem.W.Frag} {f : Addr} {ok : Arguments → List Stmt → Scope → Bool} {q : Str} (h : zTxt K f ok q = true) :
    ∃ oc od ps bd sc doc pm an ct osl, K.lookup f = some ⟨oc, od, .func (PySem.W.ksFn "__init__" q ps bd sc .none .none doc pm an (.ref (zcode K f)) ct (zcell K f)), osl⟩ ∧ ok ps bd sc = true := by
  unfold zTxt at h
  split at h
  · rename_i oc od nm qn ps bd sc gl cn c doc pm an cda ct bl osl e
    simp only [Bool.and_eq_true, decide_eq_true_eq] at h
    obtain ⟨rfl, rfl, rfl, rfl, rfl, h⟩ := h
    have e1 : zcode K f = cda := by unfold zcode; rw [e]
    have e2 : zcell K f = c := by unfold zcell; rw [e]
    rw [e1, e2]
    exact ⟨_, _, _, _, _, _, _, _, _, _, e, h⟩
  · cases h
theorem zFile_eq {K : PySem.W.Frag} {c : Addr} {q file : Str} (h : zFile K c q file = true) : ∃ oc od vs t osl, K.lookup c = some ⟨oc, od, .fields vs, osl⟩ ∧ vs[2]? = some (.str file t) ∧ PySem.W.codeIn K (.ref c) q = true := by
  unfold zFile at h
  split at h
  · rename_i oc od vs osl e
    split at h
    · rename_i a n t1 fl t2 r hv
      simp only [Bool.and_eq_true, decide_eq_true_eq] at h
      obtain ⟨rfl, rfl⟩ := h
      refine ⟨_, _, vs, t2, _, e, ?_, ?_⟩
      · rw [← Array.getElem?_toList, hv]
        rfl
      · unfold PySem.W.codeIn
        simp only [e, hv]
        exact beq_self_eq_true _
    · cases h
  · cases h
theorem zCell_eq {K : PySem.W.Frag} {c C : Addr} (h : zCell K c C = true) : ∃ oc od osl, K.lookup c = some ⟨oc, od, .cell (some (.ref C)), osl⟩ := by
  unfold zCell at h
  split at h
  · rename_i oc od D osl e
    have := of_decide_eq_true h
    subst this
    exact ⟨_, _, _, e⟩
  · cases h
/-- a base class of the language, by its four names -/
structure ZB where
  B : String
  i : String
  n : String
  bm : List Value
def zbV : ZB := ⟨"ValueError", "ValueError.__init__", "ValueError.__new__", [.type "ValueError", .type "Exception", .type "BaseException", .type "object"]⟩
def zbL : ZB := ⟨"LookupError", "LookupError.__init__", "LookupError.__new__", [.type "LookupError", .type "Exception", .type "BaseException", .type "object"]⟩
structure ZBOk (b : ZB) : Prop where
  mw : PySem.W.KxsFacts b.B b.i
  base : ExcBaseFacts b.B b.n b.i b.bm
  store : StoreFacts b.B b.bm "object.__setattr__" "object"
theorem zbV_ok : ZBOk zbV := ⟨PySem.W.kxs_ValueError, PySem.F.excBase_ValueError, PySem.F.store_ValueError⟩
theorem zbL_ok : ZBOk zbL := ⟨PySem.W.kxs_LookupError, PySem.F.excBase_LookupError, PySem.F.store_LookupError⟩
def zOk (fl : Option Str) : Arguments → List Stmt → Scope → Bool := match fl with
  | none => zOk0
  | some f => zOk1 f
/-- all that is asked of the class of the name x -/
def zB (K : PySem.W.Frag) (x q file : Str) (b : ZB) (fl : Option Str) : Bool :=
  He.eqO (PySem.W.nsIn K mainGlobals x) (some (some (.ref (He.ga K x)))) && (He.eqO (PySem.W.nsIn K mainGlobals "super") (some none) && (PySem.W.excInitIn K (He.ga K x) b.bm b.n &&
  (He.eqO (PySem.W.findIn K (.ref (He.ga K x)) "__init__") (some (some (.ref (zf K x)))) && (decide (PySem.W.typeIn K (.ref (zf K x)) = some (.type "function")) && (zTxt K (zf K x) (zOk fl) q && (zFile K (zcode K (zf K x)) q file && (zCell K (zcell K (zf K x)) (He.ga K x) &&
  (He.eqO (PySem.W.nsIn K cStatics "thirdparty.any") (some none) && (He.eqO (PySem.W.ks_superIn K (He.ga K x) (He.ga K x) "__init__") (some (some (.builtin b.i))) && (decide (PySem.W.subIn K (.ref (He.ga K x)) (.type b.B) = some true) && (decide (PySem.W.mroIn K (He.ga K x) (.ref (He.ga K x)) = some true) &&
  (PySem.W.keepIn K (.ref (He.ga K x)) && (decide (PySem.W.subIn K (.ref (He.ga K x)) (.type "BaseException") = some true) && (decide (PySem.W.typeIn K (.ref (He.ga K x)) = some (.type "type")) && (decide (PySem.W.subIn K (.ref (He.ga K x)) (.ref (He.ga K x)) = some true) &&
  (PySem.W.hasDictIn K (He.ga K x) && (He.eqO (PySem.W.findIn K (.ref (He.ga K x)) "__setattr__") (some (some (.builtin "object.__setattr__"))) && (He.eqO (PySem.W.findIn K (.ref (He.ga K x)) "__getattribute__") (some (some (.builtin "BaseException.__getattribute__"))) && (He.eqO (PySem.W.findIn K (.ref (He.ga K x)) "__getattr__") (some none) &&
  (He.eqO (PySem.W.findIn K (.ref (He.ga K x)) "__class__") (some (some (.builtin "object.__class__"))) && (He.eqO (PySem.W.specialIn K (.builtin "object.__class__") "__get__") (some (some (.builtin "getset_descriptor.__get__"))) && (decide (PySem.W.takesIn K (.builtin "object.__class__") = some true) && (decide (PySem.W.mroIn K (He.ga K x) (.type "object") = some true) &&
  (decide (PySem.W.kitOne K (.ref (He.ga K x)) (.type b.B) = some true) && (match fl with
    | none => true
    | some f => He.eqO (PySem.W.findIn K (.ref (He.ga K x)) f) (some none) && PySem.W.excOver K (He.ga K x) b.bm)))))))))))))))))))))))))
structure ZC (K : PySem.W.Frag) (x q file : Str) (b : ZB) (fl : Option Str) (C f : Addr) : Prop where
  gC : PySem.W.nsIn K mainGlobals x = some (some (.ref C))
  noS : PySem.W.nsIn K mainGlobals "super" = some none
  cls : PySem.W.excInitIn K C b.bm b.n = true
  iC : PySem.W.findIn K (.ref C) "__init__" = some (some (.ref f))
  tf : PySem.W.typeIn K (.ref f) = some (.type "function")
  tx : zTxt K f (zOk fl) q = true
  fil : zFile K (zcode K f) q file = true
  cel : zCell K (zcell K f) C = true
  noT : PySem.W.nsIn K cStatics "thirdparty.any" = some none
  sup : PySem.W.ks_superIn K C C "__init__" = some (some (.builtin b.i))
  subB : PySem.W.subIn K (.ref C) (.type b.B) = some true
  mro : PySem.W.mroIn K C (.ref C) = some true
  kp : PySem.W.keepIn K (.ref C) = true
  isB : PySem.W.subIn K (.ref C) (.type "BaseException") = some true
  isT : PySem.W.typeIn K (.ref C) = some (.type "type")
  self : PySem.W.subIn K (.ref C) (.ref C) = some true
  hd : PySem.W.hasDictIn K C = true
  sA : PySem.W.findIn K (.ref C) "__setattr__" = some (some (.builtin "object.__setattr__"))
  gA : PySem.W.findIn K (.ref C) "__getattribute__" = some (some (.builtin "BaseException.__getattribute__"))
  gG : PySem.W.findIn K (.ref C) "__getattr__" = some none
  cl : PySem.W.findIn K (.ref C) "__class__" = some (some (.builtin "object.__class__"))
  clg : PySem.W.specialIn K (.builtin "object.__class__") "__get__" = some (some (.builtin "getset_descriptor.__get__"))
  clt : PySem.W.takesIn K (.builtin "object.__class__") = some true
  ob : PySem.W.mroIn K C (.type "object") = some true
  kit : PySem.W.kitOne K (.ref C) (.type b.B) = some true
  fld : ∀ g, fl = some g → PySem.W.findIn K (.ref C) g = some none ∧ PySem.W.excOver K C b.bm = true
theorem zc_of {K : PySem.W.Frag} {x q file : Str} {b : ZB} {fl : Option Str} (h : zB K x q file b fl = true) : ZC K x q file b fl (He.ga K x) (zf K x) := by
  unfold zB at h
  simp only [Bool.and_eq_true, decide_eq_true_eq, He.eqO] at h
  obtain ⟨h1, h2, h3, h4, h5, h6, h7, h8, h9, h10, h11, h12, h13, h14, h15, h16, h17, h18, h19, h20, h21, h22, h23, h24, h26, h25⟩ := h
  refine ⟨h1, h2, h3, h4, h5, h6, h7, h8, h9, h10, h11, h12, h13, h14, h15, h16, h17, h18, h19, h20, h21, h22, h23, h24, h26, fun g e => ?_⟩
  subst e
  simp only [Bool.and_eq_true, decide_eq_true_eq, He.eqO] at h25
  exact h25
end Cm

set_option Elab.async false
set_option linter.all false
set_option maxRecDepth 100000
set_option maxHeartbeats 2000000
namespace Cm
open PySem PySem.Spec PyProof.Rows L2

/-- what is asked of the program itself -/
structure PgOk (P : Program) (file : Str) : Prop where
  file : P.main.file = file
  top : (P.main.scope.names.lookup ("super" : Str)).isSome = false
abbrev zEnv (q : Str) (sc : Scope) (L f cda cc : Addr) : Env := PySem.W.ksEnv q sc L f (.ref cda) cc
/-- what is asked of the scope -/
structure ZSc (sc : Scope) (ps : Arguments) : Prop where
  kind : sc.kind = .function
  sup : sc.names.lookup ("super" : Str) = some .globalImplicit
  cls : sc.names.lookup ("__class__" : Str) = some .free
  self : sc.names.lookup ("self" : Str) = some .local
  head : ∃ p, (ps.posonlyargs ++ ps.args).head? = some ⟨"self", none, p⟩
section
variable {P : Program} {w : World} {A : Around} {E : Value → Shared → Prop} {s : Shared} {K : PySem.W.Frag} {x q file : Str} {b : ZB} {fl : Option Str} {C f : Addr}
theorem z_eval {o : Expr} {name : Str} {apos pos : Pos} {e : Expr} {env : Env} (hl : (apos.endLine == pos.line) = true) (hf : methodCallForm 1 (backTo pos (starEach [e] env)) [] = true) : ∃ pl : Sem Bool, eval (.Call (.Attribute o name apos) [e] [] pos) env = (do
      let ov ← attributeBase o name env (eval o env)
      standAt apos.atName
      let (f, first) ← holding [ov] (getMethod ov name pl)
      callWith pos f first (backTo pos (starEach [e] env)) []) := by
  refine ⟨(do return (← importBound o env).getD true), ?_⟩
  have hm : methodCallPos true o env apos pos = pure pos := by
    unfold methodCallPos
    rw [hl]
    rfl
  show (do
    let ov ← attributeBase o name env (eval o env)
    standAt apos.atName
    methodCall o name apos pos env ov 1 (backTo pos (starEach [e] env)) []) = _
  unfold methodCall
  simp only [hf, hm]
  rfl
theorem z_super (T : ZC K x q file b fl C f) (hb : ZBOk b) (hP : PgOk P file) {h₀ : Heap} {L e t0 : Addr} {m mg mb : Str → Option Value} (F : Fr h₀ L s.heap m) (X₀ : K.In h₀) (G : h₀.Ns mainGlobals mg) (Bl : h₀.Ns builtinsNs mb) (hmb : mb "super" = some (.type "super"))
    (N : News h₀ L s.heap [(e, HandSPX.excO C t0)]) (hself : m "self" = some (.ref e)) {ps : Arguments} {bd : List Stmt} {sc : Scope} {oc doc pm ct : Value} {od an : Option Addr} {osl : Array (Option Value)} {cda cc : Addr}
    (hfn : K.lookup f = some ⟨oc, od, .func (PySem.W.ksFn "__init__" q ps bd sc .none .none doc pm an (.ref cda) ct cc), osl⟩) (hcd : zFile K cda q file = true) (hcc : zCell K cc C = true) (S : ZSc sc ps) {tx : Str} {k : Nat} {q1 q2 q3 q4 q5 q6 : Pos} {Q : Flow → Shared → Prop} (hl : (q3.endLine == q5.line) = true)
    (h : ∀ t' h' tk, Fr h₀ L h' m → News h₀ L h' [(e, HandSPX.excO C t')] → Q .next { s with heap := h', toks := tk }) :
    _root_.PySem.wpAt (model P w) A (.func bd (zEnv q sc L f cda cc)) (exec (zCall tx k q1 q2 q3 q4 q5 q6) (zEnv q sc L f cda cc)) Q E s := by
  have X : K.In s.heap := X₀.keeps F.keep
  obtain ⟨c1, c2, vs, c3, c4, hco, hvs, _⟩ := zFile_eq hcd
  obtain ⟨d1, d2, d3, hcell⟩ := zCell_eq hcc
  obtain ⟨pa, hp⟩ := S.head
  refine ks_wpAt_Expr_any ?_ (by unfold interactive; simp [S.kind]) (by rfl)
  obtain ⟨pl, he⟩ := z_eval (o := .Call (.Name "super" q1) [] [] q2) (name := "__init__") (apos := q3) (pos := q5) (e := .Constant (.str tx) k q4) (env := zEnv q sc L f cda cc) hl (by rfl)
  refine ks_wpAt_MethodCall (pl := pl) ?_ he
  refine ks_wpAt_super_base (env := zEnv q sc L f cda cc) S.sup S.cls (by decide) rfl (X _ _ hfn) rfl hp rfl (X _ _ hco) rfl hvs (by rw [hP.file]; exact beq_self_eq_true _) hP.top ?_
  have gS : mg "super" = none := PySem.W.mg_none_of X₀ G T.noS
  have inst : PySem.W.InstAt s.heap e (HandSPX.excO C t0) C none := ⟨(N _ List.mem_cons_self).1, rfl, rfl, trivial⟩
  obtain ⟨nm, nN, qn, bs, bm, hdct, sn, sub, ab, col, dd, k0, k1, k2, k3, k5, hC, hT⟩ := PySem.W.excInit_of X T.cls
  have global : ∀ {R : Value → Shared → Prop}, R (.type "super") s → wpAny (model P w) A (loadName (zEnv q sc L f cda cc) "super") R E s := fun {R} r =>
    PySem.W.ks_loadName_global S.kind S.sup (Calls.loadGlobal_builtin (env := zEnv q sc L f cda cc) (G.keeps F.keep) gS (Bl.keeps F.keep) hmb r)
  refine global ⟨rfl, ?_⟩
  refine wpAny_loadName_free (v := .ref C) (env := zEnv q sc L f cda cc) S.kind S.cls rfl ⟨_, X _ _ hcell, rfl⟩ ?_
  refine wpAny_loadName_local (v := .ref e) (env := zEnv q sc L f cda cc) S.kind S.self F.ns hself ?_
  obtain ⟨hp, g, d, tk0, os⟩ := s
  refine ks_wpAny_isType_cls hC rfl ⟨rfl, ?_⟩
  refine ks_wpAny_call_super hC rfl inst.at_ inst.cls (fun c z => by cases z) (PySem.W.looks_mroIn X T.mro) fun hp1 so keep1 => ?_
  obtain ⟨F1, N1, l1⟩ := PySem.W.ks_newsPush (s := ⟨hp, g, d, tk0, os⟩) F N rfl so keep1
  have I1 : PySem.W.InstAt hp1 e (HandSPX.excO C t0) C none := ⟨(N1 _ (.tail _ List.mem_cons_self)).1, rfl, rfl, trivial⟩
  refine PySem.W.kxs_method (s := ⟨hp1, g, d, tk0, os⟩) hb.mw F1 X₀ N1 List.mem_cons_self I1 T.noT T.sup T.subB (by decide) fun u hp2 F2 N2 l2 => ?_
  refine PySem.W.kxs_callWith1 (s := ⟨hp2, g, d, tk0 + 1, os⟩) N2 List.mem_cons_self ?_
  refine Calls.spliced_cons (Calls.Constant_str (k := k) (pos := q4) ?_)
  refine Calls.spliced_nil ⟨(N2 _ List.mem_cons_self).1, ?_⟩
  refine PySem.W.kxs_call (s := ⟨hp2, g, d, tk0 + 1 + 1, os⟩) (t := t0) (dv := none) (c2 := .none) F2 X₀ N2 hb.base T.cls List.mem_cons_self
    (.tail (fun z => ?_) (.tail (fun z => ?_) (.head fun p hp => nomatch hp))) (by rw [sizeLine_eq]; exact (by decide : 1 ≤ 16777216)) fun t' hp3 F3 N3 l3 => ?_
  · exact absurd z (Nat.ne_of_gt (l2 _ (.tail _ List.mem_cons_self)))
  · exact absurd z (Nat.ne_of_gt (l1 _ List.mem_cons_self))
  · exact h t' hp3 _ F3 fun p hp => by
      rcases List.mem_singleton.mp hp with rfl
      exact N3 _ (.tail _ (.tail _ (.tail _ List.mem_cons_self)))
theorem zsc0 {p1 : Pos} : ZSc zSc0 (zArgs0 p1) := ⟨rfl, by decide, by decide, by decide, ⟨p1, rfl⟩⟩
theorem zsc1 {g : Str} {p1 p2 : Pos} (h : g ≠ "self" ∧ g ≠ "__class__" ∧ g ≠ "super" ∧ g ≠ "__debug__") : ZSc (zSc1 g) (zArgs1 g p1 p2) := by
  obtain ⟨h1, h2, h3, _⟩ := h
  have a1 : (("__class__" : Str) == g) = false := by simpa using fun z => h2 z.symm
  have a2 : (("super" : Str) == g) = false := by simpa using fun z => h3 z.symm
  refine ⟨rfl, ?_, ?_, ?_, ⟨p1, rfl⟩⟩
  · show List.lookup ("super" : Str) ([("self", .local), (g, .local), ("__class__", .free), ("super", .globalImplicit)] : List (Str × NameKind)) = _
    simp only [List.lookup, a2]
    decide
  · show List.lookup ("__class__" : Str) ([("self", .local), (g, .local), ("__class__", .free), ("super", .globalImplicit)] : List (Str × NameKind)) = _
    simp only [List.lookup, a1]
    decide
  · show List.lookup ("self" : Str) ([("self", .local), (g, .local), ("__class__", .free), ("super", .globalImplicit)] : List (Str × NameKind)) = _
    have a3 : (("self" : Str) == "self") = true := by decide
    simp only [List.lookup, a3]
/-- what is asked of the heap -/
structure ZH (K : PySem.W.Frag) (mg : Str → Option Value) (h : Heap) : Prop where
  kin : K.In h
  glob : h.Ns mainGlobals mg
  blt : ∃ mb, h.Ns builtinsNs mb ∧ mb "super" = some (.type "super")
  nolimit : h.NoLimit
/-- the heap without the exception -/
theorem z_hide {mg : Str → Option Value} {h : Heap} {e t0 : Addr} (Z : ZH K mg h) (he : h.get? e = some (HandSPX.excO C t0)) (hne : K.lookup e = none) :
    K.In (PySem.W.hideAll h [e]) ∧ (PySem.W.hideAll h [e]).Ns mainGlobals mg ∧ (∃ mb, (PySem.W.hideAll h [e]).Ns builtinsNs mb ∧ mb "super" = some (.type "super")) := by
  have up : ∀ {a : Addr} {o : Obj}, a ≠ e → h.get? a = some o → (PySem.W.hideAll h [e]).get? a = some o := fun n z => PySem.W.hideAll_get _ z fun y => n (List.mem_singleton.mp y)
  have nsd : ∀ {a : Addr} {m : Str → Option Value}, h.Ns a m → a ≠ e := fun ⟨o, es, ep, z, d, _⟩ y => by
    subst y
    rw [he] at z
    cases z
    cases d
  refine ⟨fun a o z => up (fun y => ?_) (Z.kin a o z), Z.glob.at fun o z => up (nsd Z.glob) z, ?_⟩
  · subst y
    rw [hne] at z
    cases z
  · obtain ⟨mb, h1, h2⟩ := Z.blt
    exact ⟨mb, h1.at fun o z => up (nsd h1) z, h2⟩
/-- what __init__ without a field leaves of a new exception at e -/
theorem z_init0 (T : ZC K x q file b none C f) (hb : ZBOk b) (hP : PgOk P file) {mg : Str → Option Value} (Z : ZH K mg s.heap) {R : Result → Shared → Prop} {e t0 : Addr} (he : s.heap.get? e = some (HandSPX.excO C t0)) (hne : K.lookup e = none) (hroom : A.depth < recursionLimit)
    (hq : ∀ h' tk t1, (∀ b o, b ≠ e → s.heap.get? b = some o → h'.get? b = some o) → h'.get? e = some (HandSPX.excO C t1) → R (.ok (.ret .none)) { s with heap := h', toks := tk }) :
    codeAny (model P w) A (.call (.ref f) ⟨[.ref e], []⟩) R s := by
  obtain ⟨oc, od, ps, bd, sc, doc, pm, an, ct, osl, hfn, hok⟩ := zTxt_eq T.tx
  obtain ⟨p1, tx, k, q1, q2, q3, q4, q5, q6, rfl, rfl, rfl, hl⟩ := zOk0_eq hok
  obtain ⟨_, _, _, _, _, _, _, hci⟩ := zFile_eq T.fil
  obtain ⟨X₀, G, mb, hmb1, hmb2⟩ := z_hide Z he hne
  refine ks_codeAny_call_defAt (binds := [("self", .ref e)]) hroom (Z.kin _ _ hfn) rfl Z.nolimit (PySem.W.codeRec_of Z.kin hci) rfl (BindsTo.of_eq (by first | rfl | with_unfolding_all rfl)) (show ∀ y ∈ zSc0.names, y.2 ≠ .cell by decide)
    (fun y hy => by
      rcases List.mem_singleton.mp hy with rfl
      exact (zsc0 (p1 := p1)).self) (fun h₁ hns hk₁ => ?_)
  refine ks_wpAt_execs_cons ?_
  have lt := Heap.lt_size he
  refine z_super (h₀ := PySem.W.hideAll s.heap [e]) (L := s.heap.objs.size) (e := e) (t0 := t0) T hb hP ⟨hns, fun b o z => hk₁ b o (PySem.W.of_hideAll _ z), Nat.le_of_eq (PySem.W.hideAll_size _ _)⟩ X₀ G hmb1 hmb2 (fun p hp => ?_) (by rfl) hfn T.fil T.cel zsc0 hl fun t' h' tk F' N' => ?_
  · rcases List.mem_singleton.mp hp with rfl
    exact ⟨hk₁ _ _ he, Nat.ne_of_lt lt, PySem.W.hideAll_none _ List.mem_cons_self⟩
  · show _root_.PySem.wpAt _ _ _ (execs [] _) _ _ _
    refine wpAt_of_wpAny (wpAny_execs_nil ?_)
    exact hq h' tk t' (fun b o n z => F'.keep b o (PySem.W.hideAll_get _ z fun y => n (List.mem_singleton.mp y))) (N' _ List.mem_cons_self).1
/-- the first field of a new exception: its dict is made -/
theorem z_field {K : PySem.W.Frag} {b : ZB} (hb : ZBOk b) {hp : Heap} {gs : Array GenState} {dr : Drawn} {t : Nat} {os : OsState} {R : Result → Shared → Prop} {y : Str} {tk : Tok} {v : Value} {x C : Addr} {fv : Array Value} (X : K.In hp) (hx : hp.get? x = some { cls := .ref C, data := .fields fv })
    (ho : PySem.W.excOver K C b.bm = true) (hd : PySem.W.hasDictIn K C = true) (ha : PySem.W.findIn K (.ref C) y = some none)
    (post : ∀ h' tk' dx, (∀ c o, c ≠ x → hp.get? c = some o → h'.get? c = some o) → hp.objs.size ≤ dx → dx ≠ x → h'.get? x = some { cls := .ref C, dict := some dx, data := .fields fv } → h'.Ns1 dx (fun z => if z = y then some v else none) → R (.ok (.ret .none)) ⟨h', gs, dr, tk', os⟩) :
    codeAny (model P w) A (.call (.builtin "object.__setattr__") ⟨[.ref x, .str y tk, v], []⟩) R ⟨hp, gs, dr, t, os⟩ := by
  have tn : PySem.W.takerIn K C y = some none := by
    unfold PySem.W.takerIn
    rw [ha]
    rfl
  refine PySem.W.osa_openX (s := ⟨hp, gs, dr, t, os⟩) (od := none) hb.store X ⟨hx, rfl, rfl, trivial⟩ ho tn fun bb => ?_
  have ne : x ≠ hp.objs.size := Nat.ne_of_lt (Heap.lt_size hx)
  have hx1 : (hp.push ⟨.type "dict", none, .dict #[], #[]⟩).get? x = some { cls := .ref C, data := .fields fv } := Heap.get?_push_of_some _ hx
  obtain ⟨cd, hcd, hcdd⟩ : ∃ cd, PySem.W.clsIn K C = some cd ∧ cd.hasDict = true := by
    have q := hd
    unfold PySem.W.hasDictIn at q
    exact (Option.any_eq_true _ _).mp q
  have look : PySem.W.Looks (model P w) hp (classData C) cd := PySem.W.looks_clsIn X hcd
  obtain ⟨c1, c2, c3, c4, c5, c6, c7, c8, c9, c10, c11⟩ := cd
  dsimp only at hcdd
  subst hcdd
  dsimp only
  unfold Builtin.ObjectAttr.storeInOwnDict Builtin.ObjectAttr.ownDictForStores
  repeat
    first
    | (with_reducible refine HandSPX.store_in_new ?_ ?_)
    | (with_reducible refine wpAny_loadPart_at hx ?_)
    | (with_reducible refine look.at ?_)
    | wp_step
  · have g0 := (Heap.get?_update_ne (hp.push ⟨.type "dict", none, .dict #[], #[]⟩) hp.objs.size x (fun o => { o with dict := some hp.objs.size }) ne.symm).trans (Heap.get?_push_at rfl rfl)
    exact ⟨_, #[], _, g0, rfl, fun e he => absurd he (by simp), fun _ => rfl⟩
  · intro h2 tk2 hn2 sb
    refine post h2 tk2 _ (fun c o hc z => ?_) (Nat.le_refl _) ne.symm ?_ hn2
    · have lt := Nat.ne_of_lt (Heap.lt_size z)
      rw [sb.2 c lt, Heap.get?_update_ne _ _ _ _ hc]
      exact Heap.get?_push_of_some _ z
    · rw [sb.2 x ne]
      exact Heap.get?_update_self _ hx1 rfl
/-- the two parameters are bound -/
def ZName (g : Str) : Prop := ∀ (q : Str) (bd : List Stmt) (doc pm cd ct : Value) (an : Option Addr) (cc e : Addr) (v : Value) (p1 p2 : Pos),
  bindArgs (PySem.W.ksFn "__init__" q (zArgs1 g p1 p2) bd (zSc1 g) .none .none doc pm an cd ct cc) ⟨[.ref e, v], []⟩ = pure ([("self", .ref e), (g, v)] : List (Str × Value))
theorem zn_item : ZName "item" := fun _ _ _ _ _ _ _ _ _ _ _ _ => rfl
theorem zn_hop : ZName "hop" := fun _ _ _ _ _ _ _ _ _ _ _ _ => rfl
theorem zn_place : ZName "place" := fun _ _ _ _ _ _ _ _ _ _ _ _ => rfl
theorem zn_number : ZName "number" := fun _ _ _ _ _ _ _ _ _ _ _ _ => rfl
/-- .. however the call says it -/
def ZBind (g : Str) (e : Addr) (v : Value) (as : Args) : Prop := ∀ (q : Str) (bd : List Stmt) (doc pm cd ct : Value) (an : Option Addr) (cc : Addr) (p1 p2 : Pos),
  bindArgs (PySem.W.ksFn "__init__" q (zArgs1 g p1 p2) bd (zSc1 g) .none .none doc pm an cd ct cc) as = pure ([("self", .ref e), (g, v)] : List (Str × Value))
/-- .. and with one field, from ValueError down -/
theorem z_init1A {g : Str} {as : Args} {e t0 : Addr} {v : Value} (hn : ZBind g e v as) (T : ZC K x q file b (some g) C f) (hb : ZBOk b) (hP : PgOk P file) {mg : Str → Option Value} (Z : ZH K mg s.heap) {R : Result → Shared → Prop} (he : s.heap.get? e = some (HandSPX.excO C t0)) (hne : K.lookup e = none) (hroom : A.depth < recursionLimit)
    (hq : ∀ h' tk t1 dx, (∀ b o, b ≠ e → s.heap.get? b = some o → h'.get? b = some o) → s.heap.objs.size ≤ dx → dx ≠ e → h'.get? e = some { cls := .ref C, dict := some dx, data := .fields #[.ref t1, .none, .none, .none, .bool false, .none] } → h'.Ns1 dx (fun y => if y = g then some v else none) →
      R (.ok (.ret .none)) { s with heap := h', toks := tk }) :
    codeAny (model P w) A (.call (.ref f) as) R s := by
  obtain ⟨oc, od, ps, bd, sc, doc, pm, an, ct, osl, hfn, hok⟩ := zTxt_eq T.tx
  obtain ⟨p1, p2, tx, k, q1, q2, q3, q4, q5, q6, r1, r2, r3, r4, rfl, rfl, rfl, hl, hg⟩ := zOk1_eq hok
  obtain ⟨_, _, _, _, _, _, _, hci⟩ := zFile_eq T.fil
  obtain ⟨X₀, G, mb, hmb1, hmb2⟩ := z_hide Z he hne
  have sg := (zsc1 (p1 := p1) (p2 := p2) hg)
  have g1 : (g == ("self" : Str)) = false := by simpa using hg.1
  have g2 : (("self" : Str) == g) = false := by simpa using fun z => hg.1 z.symm
  have lg : (zSc1 g).names.lookup g = some .local := by
    show List.lookup g ([("self", .local), (g, .local), ("__class__", .free), ("super", .globalImplicit)] : List (Str × NameKind)) = _
    simp only [List.lookup, g1, beq_self_eq_true]
  refine ks_codeAny_call_defAt (binds := [("self", .ref e), (g, v)]) hroom (Z.kin _ _ hfn) rfl Z.nolimit (PySem.W.codeRec_of Z.kin hci) rfl (BindsTo.of_eq (hn _ _ _ _ _ _ _ _ _ _))
    (show ∀ y ∈ (zSc1 g).names, y.2 ≠ .cell by intro y hy; simp at hy; rcases hy with rfl | rfl | rfl | rfl <;> simp)
    (fun y hy => by
      rcases List.mem_cons.mp hy with rfl | hy
      · exact sg.self
      · rcases List.mem_singleton.mp hy with rfl
        exact lg) (fun h₁ hns hk₁ => ?_)
  have ms : (fun y => ([("self", .ref e), (g, v)] : List (Str × Value)).reverse.lookup y) "self" = some (.ref e) := by
    show List.lookup ("self" : Str) ([(g, v), ("self", .ref e)] : List (Str × Value)) = _
    have a3 : (("self" : Str) == "self") = true := by decide
    simp only [List.lookup, g2, a3]
  have mgv : (fun y => ([("self", .ref e), (g, v)] : List (Str × Value)).reverse.lookup y) g = some v := by
    show List.lookup g ([(g, v), ("self", .ref e)] : List (Str × Value)) = _
    simp only [List.lookup, beq_self_eq_true]
  refine ks_wpAt_execs_cons ?_
  have lt := Heap.lt_size he
  refine z_super (h₀ := PySem.W.hideAll s.heap [e]) (L := s.heap.objs.size) (e := e) (t0 := t0) T hb hP ⟨hns, fun b o z => hk₁ b o (PySem.W.of_hideAll _ z), Nat.le_of_eq (PySem.W.hideAll_size _ _)⟩ X₀ G hmb1 hmb2 (fun p hp => ?_) ms hfn T.fil T.cel sg hl fun t' h' tk F' N' => ?_
  · rcases List.mem_singleton.mp hp with rfl
    exact ⟨hk₁ _ _ he, Nat.ne_of_lt lt, PySem.W.hideAll_none _ List.mem_cons_self⟩
  · show _root_.PySem.wpAt _ _ _ (execs [zPut g r1 r2 r3 r4] _) _ _ _
    obtain ⟨hno, hov⟩ := T.fld g rfl
    have hx := (N' _ List.mem_cons_self).1
    have X' : K.In h' := X₀.keeps F'.keep
    have dbg : (g == ("__debug__" : Str)) = false := by simpa using hg.2.2.2
    refine wpAt_of_wpAny (wpAny_execs_cons (plainObj_wpAny_Assign_Attribute ?_))
    refine wpAny_Name (wpAny_loadName_local (env := zEnv q (zSc1 g) s.heap.objs.size f (zcode K f) (zcell K f)) rfl lg F'.ns mgv ?_) dbg
    refine wpAny_Name (wpAny_loadName_local (env := zEnv q (zSc1 g) s.heap.objs.size f (zcode K f) (zcell K f)) rfl sg.self F'.ns ms ?_) (by decide)
    refine PySem.W.set_plain X' (ox := HandSPX.excO C t') (od := none) ⟨hx, rfl, rfl, trivial⟩ T.sA ?_
    refine z_field hb X' hx hov T.hd hno fun h3 tk3 dx k3 dn dne hx3 hn3 => ?_
    refine wpAny_execs_nil (hq h3 tk3 t' dx (fun b o n z => k3 b o n (F'.keep b o (PySem.W.hideAll_get _ z fun y => n (List.mem_singleton.mp y)))) ?_ dne hx3 hn3)
    exact Nat.le_of_lt (Nat.lt_of_lt_of_le F'.ns.lt dn)
theorem z_init1 {g : Str} (hn : ZName g) (T : ZC K x q file b (some g) C f) (hb : ZBOk b) (hP : PgOk P file) {mg : Str → Option Value} (Z : ZH K mg s.heap) {R : Result → Shared → Prop} {e t0 : Addr} {v : Value} (he : s.heap.get? e = some (HandSPX.excO C t0)) (hne : K.lookup e = none) (hroom : A.depth < recursionLimit)
    (hq : ∀ h' tk t1 dx, (∀ b o, b ≠ e → s.heap.get? b = some o → h'.get? b = some o) → s.heap.objs.size ≤ dx → dx ≠ e → h'.get? e = some { cls := .ref C, dict := some dx, data := .fields #[.ref t1, .none, .none, .none, .bool false, .none] } → h'.Ns1 dx (fun y => if y = g then some v else none) →
      R (.ok (.ret .none)) { s with heap := h', toks := tk }) :
    codeAny (model P w) A (.call (.ref f) ⟨[.ref e, v], []⟩) R s := z_init1A (fun q bd doc pm cd ct an cc p1 p2 => hn q bd doc pm cd ct an cc e v p1 p2) T hb hP Z he hne hroom hq
end
end Cm

set_option Elab.async false
set_option linter.all false
set_option maxRecDepth 100000
set_option maxHeartbeats 2000000
namespace Cm
open PySem PySem.Spec PyProof.Rows L2

/-! ### making such an exception -/
section
variable {P : Program} {w : World} {A : Around} {s : Shared} {K : PySem.W.Frag} {x q file : Str} {b : ZB} {C f : Addr} {R : Result → Shared → Prop}
theorem z_new {h : Heap} {us : List Value} {mg : Str → Option Value} (Z : ZH K mg h) : ZH K mg ((h.push (PySem.W.kdv_tup us)).push (HandSPX.excO C h.objs.size)) ∧ K.lookup (h.objs.size + 1) = none ∧
    ((h.push (PySem.W.kdv_tup us)).push (HandSPX.excO C h.objs.size)).get? (h.objs.size + 1) = some (HandSPX.excO C h.objs.size) ∧ ∀ c o, h.get? c = some o → ((h.push (PySem.W.kdv_tup us)).push (HandSPX.excO C h.objs.size)).get? c = some o := by
  have k : ∀ c o, h.get? c = some o → ((h.push (PySem.W.kdv_tup us)).push (HandSPX.excO C h.objs.size)).get? c = some o := fun c o e => Heap.get?_push_of_some _ (Heap.get?_push_of_some _ e)
  refine ⟨⟨Z.kin.keeps k, Z.glob.keeps k, ?_, Z.nolimit.keeps k⟩, ?_, by heap_get, k⟩
  · obtain ⟨mb, h1, h2⟩ := Z.blt
    exact ⟨mb, h1.keeps k, h2⟩
  · cases z : K.lookup (h.objs.size + 1) with
    | none => rfl
    | some o => exact absurd (Nat.lt_of_succ_lt (Heap.lt_size (Z.kin _ _ z))) (Nat.lt_irrefl _)
/-- C() -/
theorem z_made0 (T : ZC K x q file b none C f) (hb : ZBOk b) (hP : PgOk P file) {mg : Str → Option Value} (Z : ZH K mg s.heap) (hroom : A.depth + 1 < recursionLimit)
    (hq : ∀ h' tk e t, (∀ c o, s.heap.get? c = some o → h'.get? c = some o) → s.heap.objs.size ≤ e → h'.get? e = some (HandSPX.excO C t) → R (.ok (.ret (.ref e))) { s with heap := h', toks := tk }) :
    codeAny (model P w) A (.call (.ref C) ⟨[], []⟩) R s := by
  obtain ⟨nm, nN, qn, bs, bm, hdct, sn, sub, ab, col, dd, k0, k1, k2, k3, k5, hC, hT⟩ := PySem.W.excInit_of Z.kin T.cls
  obtain ⟨Z2, hne, he, k⟩ := z_new (C := C) (us := []) Z
  obtain ⟨hp, g, d, tk, os⟩ := s
  refine HandSPX.call_own hb.base hT hC (PySem.W.looks_findIn Z.kin T.iC) (fun self => PySem.W.bind_fn Z.kin self T.tf) (Nat.zero_le _) ?_
  refine z_init0 (s := ⟨(hp.push (PySem.W.kdv_tup [])).push (HandSPX.excO C hp.objs.size), g, d, tk, os⟩) T hb hP Z2 he hne ?_ fun h' tk' t1 k' hx => ?_
  · show A.depth + 1 < recursionLimit
    exact hroom
  · have old : ∀ c o, hp.get? c = some o → h'.get? c = some o := fun c o z => k' c o (Nat.ne_of_lt (Nat.lt_succ_of_lt (Heap.lt_size z))) (k c o z)
    exact ⟨rfl, hq h' tk' (hp.objs.size + 1) t1 old (Nat.le_succ _) hx⟩
/-- C(v) -/
theorem z_made1 {fl : Str} (hn : ZName fl) (T : ZC K x q file b (some fl) C f) (hb : ZBOk b) (hP : PgOk P file) {mg : Str → Option Value} (Z : ZH K mg s.heap) {v : Value} (hroom : A.depth + 1 < recursionLimit)
    (hq : ∀ h' tk e t dx, (∀ c o, s.heap.get? c = some o → h'.get? c = some o) → s.heap.objs.size ≤ e → s.heap.objs.size ≤ dx → dx ≠ e → h'.get? e = some { cls := .ref C, dict := some dx, data := .fields #[.ref t, .none, .none, .none, .bool false, .none] } → h'.Ns1 dx (fun y => if y = fl then some v else none) →
      R (.ok (.ret (.ref e))) { s with heap := h', toks := tk }) :
    codeAny (model P w) A (.call (.ref C) ⟨[v], []⟩) R s := by
  obtain ⟨nm, nN, qn, bs, bm, hdct, sn, sub, ab, col, dd, k0, k1, k2, k3, k5, hC, hT⟩ := PySem.W.excInit_of Z.kin T.cls
  obtain ⟨Z2, hne, he, k⟩ := z_new (C := C) (us := [v]) Z
  obtain ⟨hp, g, d, tk, os⟩ := s
  refine HandSPX.call_own hb.base hT hC (PySem.W.looks_findIn Z.kin T.iC) (fun self => PySem.W.bind_fn Z.kin self T.tf) (by rw [sizeLine_eq]; exact (by decide : 1 ≤ 16777216)) ?_
  refine z_init1 (s := ⟨(hp.push (PySem.W.kdv_tup [v])).push (HandSPX.excO C hp.objs.size), g, d, tk, os⟩) hn T hb hP Z2 he hne ?_ fun h' tk' t1 dx k' dn dne hx hns => ?_
  · show A.depth + 1 < recursionLimit
    exact hroom
  · have old : ∀ c o, hp.get? c = some o → h'.get? c = some o := fun c o z => k' c o (Nat.ne_of_lt (Nat.lt_succ_of_lt (Heap.lt_size z))) (k c o z)
    have dn2 : hp.objs.size ≤ dx := by
      have z := dn
      rw [Heap.size_push, Heap.size_push] at z
      omega
    exact ⟨rfl, hq h' tk' (hp.objs.size + 1) t1 dx old (Nat.le_succ _) dn2 dne hx hns⟩
end
section
variable {X : Cx} {x q file : Str} {b : ZB} {C f : Addr}
theorem Inv.zh {pins : List (Addr × Obj)} {σ : L2.St} {H : Hp} {s : Shared} (I : Inv X pins σ H s) : ZH X.K X.mg s.heap := by
  refine ⟨I.kIn, I.mod.glob.keeps I.bk, ?_, I.nolimit⟩
  obtain ⟨mb, h1, h2⟩ := I.mod.blt
  exact ⟨mb, h1.keeps I.bk, h2 _ (by decide)⟩
theorem pmk_z0 {p pos : Pos} {k : Nat} (T : ZC X.K x q file b none C f) (hb : ZBOk b) (hP : PgOk X.prog file) (hr : Room (k + 1) X.A) (hg : Gl X x) (hm : X.mg x = some (.ref C)) (hdb : NotDbg x := by decide) :
    PMk X (.Call (.Name x p) [] [] pos) (fun _ H Q => Q (.ref C) none H) := by
  intro pins s σ H Q I h
  refine wpAny_Call_Name_kw (ld_glob I hg hm ?_ hdb)
  refine PySem.W.callWith_K0 I.kIn T.kp ?_
  show wpAny _ _ (call (.ref C) []) _ _ _
  have Z := Inv.zh I
  have hbare := I.bare
  obtain ⟨hp, g, dr, tk, os⟩ := s
  refine wpAny_call (z_made0 T hb hP Z (by have := hr.dp; omega) fun h' tk' e t k' hle hoe => ?_)
  show MkP X pins σ Q (.ref e) ⟨h', g, dr, tk', os⟩
  obtain ⟨G', g1, g2⟩ := restrict h' fun c => decide (c ≠ e)
  have gk : ∀ c, c ≠ e → G'.get? c = h'.get? c := fun c hc => g1 c (decide_eq_true hc)
  have ge : G'.get? e = none := g2 e (by simp)
  have old : ∀ c o, hp.get? c = some o → G'.get? c = some o := fun c o z => (gk c (Nat.ne_of_lt (Nat.lt_of_lt_of_le (Heap.lt_size z) hle))).trans (k' c o z)
  have J : Inv X pins σ H ⟨G', g, dr, tk', os⟩ := I.kept (t' := tk') old
  refine ⟨e, _, _, ⟨G', g, dr, tk', os⟩, H, .ref C, none, rfl, J, fun c o z => ?_, ge, hoe, ⟨rfl, rfl⟩, rfl, rfl, I.hok.fresh hle, rfl, hbare, raises_own T.isB T.isT, h⟩
  by_cases hc : c = e
  · have z' : G'.get? c = some o := z
    rw [hc, ge] at z'
    cases z'
  · exact (gk c hc).symm.trans z
theorem relO_one {v : V} {u : Value} (r : RelV v u) (fl y : Str) : RelO (List.lookup y [(fl, v)]) (if y = fl then some u else none) := by
  by_cases h : y = fl
  · subst h
    rw [if_pos rfl]
    simp only [List.lookup, beq_self_eq_true]
    exact r
  · rw [if_neg h]
    have e : (y == fl) = false := by simpa using h
    simp only [List.lookup, e]
    trivial
theorem pmk_z1 {fl : Str} {a : Expr} {ta : TA} {p pos : Pos} {k : Nat} (hn : ZName fl) (T : ZC X.K x q file b (some fl) C f) (hb : ZBOk b) (hP : PgOk X.prog file) (hr : Room (k + 1) X.A) (ha : PA X [a] ta) (hg : Gl X x) (hm : X.mg x = some (.ref C)) (hdb : NotDbg x := by decide)
    (he : Bare1 X a [] := by rfl) (hpl : NoStar X [] pos := by rfl) :
    PMk X (.Call (.Name x p) [a] [] pos) (fun σ H Q => ta σ H fun vs H1 => ∃ v, vs = [v] ∧ ∀ d, H1 d = none → Q (.ref C) (some d) (upd H1 d (.xd [(fl, v)]))) := by
  intro pins s σ H Q I h
  refine wpAny_Call_Name_kw (ld_glob I hg hm ?_ hdb)
  refine PySem.W.callWith_K (h₀ := X.base) I.ok.mod.kin T.kp (thn (ha.run pos pins s σ H _ I h) fun us s1 hh => ?_) he hpl
  obtain ⟨vs, H1, I1, r1, v, ev, q1⟩ := hh
  subst ev
  refine ⟨I1.kIn, ?_⟩
  cases r1 with
  | cons rv rn =>
    rename_i v' us'
    cases rn
    show wpAny _ _ (call (.ref C) [v']) _ _ _
    have Z := Inv.zh I1
    have hbare := I1.bare
    obtain ⟨hp, g, dr, tk, os⟩ := s1
    refine wpAny_call (z_made1 hn T hb hP Z (by have := hr.dp; omega) fun h' tk' e t d k' hle hld hne hoe hns => ?_)
    show MkP X pins σ Q (.ref e) ⟨h', g, dr, tk', os⟩
    obtain ⟨G', g1, g2⟩ := restrict h' fun c => decide (c ≠ e)
    have gk : ∀ c, c ≠ e → G'.get? c = h'.get? c := fun c hc => g1 c (decide_eq_true hc)
    have ge : G'.get? e = none := g2 e (by simp)
    have old : ∀ c o, hp.get? c = some o → G'.get? c = some o := fun c o z => (gk c (Nat.ne_of_lt (Nat.lt_of_lt_of_le (Heap.lt_size z) hle))).trans (k' c o z)
    have ob : ObjOk X.prog X.w (upd H1 d (.xd [(fl, v)])) G' d (.xd [(fl, v)]) := ⟨_, hns.at (fun o z => (gk d hne).trans z), fun y => relO_one rv fl y⟩
    have J : Inv X pins σ (upd H1 d (.xd [(fl, v)])) ⟨G', g, dr, tk', os⟩ := I1.laid (t' := tk') old hld ob
    refine ⟨e, _, _, ⟨G', g, dr, tk', os⟩, _, .ref C, some d, rfl, J, fun c o z => ?_, ge, hoe, ⟨rfl, rfl⟩, rfl, rfl, ?_, rfl, hbare, raises_own T.isB T.isT, q1 d (I1.hok.fresh hld)⟩
    · by_cases hc : c = e
      · have z' : G'.get? c = some o := z
        rw [hc, ge] at z'
        cases z'
      · exact (gk c hc).symm.trans z
    · rw [upd_ne (Ne.symm hne)]
      exact I1.hok.fresh hle
end
end Cm

set_option Elab.async false
set_option linter.all false
set_option maxRecDepth 100000
set_option maxHeartbeats 2000000
namespace Cm
open PySem PySem.Spec PyProof.Rows L2

/-! ### try: the exception is kept behind its suite -/
section
variable {X : Cx} {pins : List (Addr × Obj)} {σ : L2.St} {H : Hp} {s : Shared}
/-- out of the suite, the exception is held by a pin of the block -/
theorem Inv.held {a : Addr} {p : Addr × Obj} (S : Inv (X.suite a (p :: (X.pn ++ pins))) [] σ H s) (ok : X.Ok) : Inv X (p :: pins) σ H s :=
  { ok := ok, os := S.os, bare := S.bare, base := S.base, loc := S.loc, cell := S.cell, free := S.free, freeC := S.freeC, hok := S.hok, len := S.len,
    pin := fun u hu => S.pin u (List.mem_append_left _ (by
      rcases List.mem_append.mp hu with z | z
      · exact .tail _ (List.mem_append_left _ z)
      · rcases List.mem_cons.mp z with z | z
        · rw [z]
          exact List.mem_cons_self
        · exact .tail _ (List.mem_append_right _ z))) }
theorem Inv.unheld {p : Addr × Obj} {q : List (Addr × Obj)} {xe : Value → Shared → Prop} (J : Inv (X.tr (X.pn ++ (p :: pins)) xe) q σ H s) (ok : X.Ok) : Inv X pins σ H s :=
  { ok := ok, os := J.os, bare := J.bare, base := J.base, loc := J.loc, cell := J.cell, free := J.free, freeC := J.freeC, hok := J.hok, len := J.len,
    pin := fun u hu => J.pin u (List.mem_append_left _ (by
      rcases List.mem_append.mp hu with z | z
      · exact List.mem_append_left _ z
      · exact List.mem_append_right _ (.tail _ z))) }
end
/-- what a try wishes of an exception of its body: the suite, then the rest of the block, the exception still there -/
def wKeep (K : PySem.W.Frag) (c : Value) (i : Nat) (ts v : Addr → Value → Option Addr → TS) (D : L2.Ends) : WX := fun cls d σ H =>
  PySem.W.exmOne K cls c = some true ∧ ∀ a, H a = none → ts a cls d { nx := fun σ' H' => v a cls d D (σ'.set i none) H', rt := fun _ _ => False } (σ.set i (some (.ref a))) H
section
variable {X : Cx} {x n : Str} {c : Value} {i : Nat} {body suite rest : List Stmt} {b₀ : Stmt} {np pos pos' : Pos} {tb : WX → TS} {ts v : Addr → Value → Option Addr → TS} {u : TS}
theorem pss_keep (hst : X.stack = X.env :: X.outer) (hfr : X.env.frame = some X.env.locals) (hN : X.N.Nodup) (hi : X.N[i]? = some n) (hl : X.env.kindOf n = some .local) (hc : Names X x c)
    (hb : ∀ (W : WX) (pn : List (Addr × Obj)) (xe : Value → Shared → Prop), Takes (X.tr pn xe) W → PSs (X.tr pn xe) body (tb W))
    (hsu : ∀ (a : Addr) (oe : Obj) (cls : Value) (d : Option Addr) (pn : List (Addr × Obj)), Zc cls d oe → (∃ vs, oe.data = .fields vs) → PSs (X.suite a ((a, oe) :: pn)) (b₀ :: suite) (ts a cls d))
    (hr : PSs X rest u)
    (hx : ∀ (a : Addr) (oe : Obj) (cls : Value) (d : Option Addr) (pn : List (Addr × Obj)), Zc cls d oe → (∃ vs, oe.data = .fields vs) → (a, oe) ∈ pn → PSs (X.tr pn X.xe) rest (v a cls d)) :
    PSs X (.Try body [.ExceptHandler (some (.Name x np)) (some n) (b₀ :: suite) pos'] [] [] pos :: rest) (fun D σ H => tb (wKeep X.K c i ts v D) { D with nx := u D } σ H) := by
  refine ⟨fun pins s σ H D I h => ?_⟩
  have okX := I.ok
  have frames : X.A.frames = some (X.env :: X.outer) := okX.frames.trans (congrArg some hst)
  have done : ∀ {f : Flow} {t : Shared} {pn : List (Addr × Obj)} {xe : Value → Shared → Prop} {E : L2.Ends}, (∀ {σ' : L2.St} {H' : Hp} {t' : Shared}, Inv (X.tr pn xe) [] σ' H' t' → Inv X pins σ' H' t') → SP (X.tr pn xe) [] E f t → SP X pins E f t := fun {f t pn xe E} to q => by
    match f, q with
    | .next, ⟨_, _, J, w⟩ => exact ⟨_, _, to J, w⟩
    | .brk, ⟨_, _, J, w⟩ => exact ⟨_, _, to J, w⟩
    | .cont, ⟨_, _, J, w⟩ => exact ⟨_, _, to J, w⟩
    | .ret _, ⟨_, _, _, J, r, w⟩ => exact ⟨_, _, _, to J, r, w⟩
  refine wpAny_execs_cons (wpAny_Try_except ?_)
  refine wpAny_mono ((hb (wKeep X.K c i ts v D) (X.pn ++ pins) _ ?_).run [] s σ H _ (I.toTry _) h) (fun f s1 q => ?_) (fun e s1 q => q)
  · rintro e s' ⟨a, B, sI, pins', σ', H', cls, d, rfl, Jt, near, grown, sky, fresh, osE, bareE, hit, go⟩
    have J : Inv X pins σ' H' sI := Jt.ofTry okX
    have air : Sky B (X.env :: X.outer) a (Zc cls d) X.env.locals s'.heap := by
      rw [← hst]
      exact sky
    refine Sky.land Zc.steady frames hfr air fun h3 fly3 more3 => ?_
    obtain ⟨o3, v3, get3, zc3, dat3⟩ := fly3.there
    have apart : ∀ b ∈ frs (X.env :: X.outer), b ≠ a := fun b hm z => by
      subst z
      obtain ⟨_, o', e', no⟩ := fly3.2.2.1.mem hm
      rw [get3] at e'
      cases e'
      exact no _ dat3
    have aL : a ≠ X.env.locals := fun z => apart X.env.locals (List.mem_filterMap.mpr ⟨X.env, List.mem_cons_self, hfr⟩) z.symm
    have aF : a ∉ X.fs := fun hm => by
      obtain ⟨e, he, z⟩ := List.mem_filterMap.mp hm
      exact apart a (List.mem_filterMap.mpr ⟨e, .tail _ he, z⟩) rfl
    have at3 : Inv X pins σ' H' { s' with heap := h3 } := J.landed near fly3.1 (grown.trans more3) osE bareE
    have on3 := at3.suite get3 dat3 fresh aL aF
    refine wpAny_handleBy_cons (codeAny_handlers_test ?_) (by intro z; cases z)
    have ty : PySem.W.Looks (model X.prog X.w) h3 (typeOf (.ref a)) cls := fun A Q E t k w => wpAny_typeOf_ref (k _ _ get3) (by rw [zc3.1]; exact w)
    have named : ∀ {Q E : Value → Shared → Prop}, Q c { s' with heap := h3 } → wpAny (model X.prog X.w) (X.A.mark (some (.ref a))) (eval (.Name x np) X.env) Q E { s' with heap := h3 } := fun {Q E} w => by
      obtain ⟨g1, g2, g3⟩ := hc
      rcases g3 with m | ⟨m, m2, m3⟩
      · exact ld_glob (X := X.suite a ((a, o3) :: (X.pn ++ pins))) on3 g1 m w g2
      · exact ld_blt (X := X.suite a ((a, o3) :: (X.pn ++ pins))) on3 g1 m m2 w m3 g2
    refine named ((PySem.W.exm_one (M := model X.prog X.w) on3.kIn ty hit).here ?_)
    refine codeAny_handlers_suite_as (HandSPX.lands_againZ fly3 fun h4 fly4 more4 => ?_)
    obtain ⟨o4, v4, get4, zc4, dat4⟩ := fly4.there
    have at4 : Inv X pins σ' H' { s' with heap := h4 } := J.landed near fly4.1 ((grown.trans more3).trans more4) osE bareE
    have on4 := at4.suite get4 dat4 fresh aL aF
    refine store_ok (X := X.suite a ((a, o4) :: (X.pn ++ pins))) (v := .ref a) on4 hN hi (.inl hl) rfl (fun s5 on5 => ?_) (.inr hl)
    refine wpAny_mono ((hsu a o4 cls d (X.pn ++ pins) zc4 ⟨_, dat4⟩).run [] s5 _ H' _ on5 (go a fresh)) (fun f s6 q => ?_) (fun _ _ z => False.elim z)
    match f, q with
    | .next, ⟨σ6, H6, on6, q6⟩ =>
      refine gone_ok (Inv.held on6 okX) hN hi hl fun s7 J7 => ?_
      have r := (hx a o4 cls d (X.pn ++ ((a, o4) :: pins)) zc4 ⟨_, dat4⟩ (List.mem_append_right _ List.mem_cons_self)).run [] s7 _ H6 D (J7.toTry X.xe) q6
      exact wpAny_mono r (fun f s8 q8 => done (fun K => Inv.unheld K okX) q8) fun _ _ z => z
    | .brk, ⟨_, _, _, z⟩ => exact z.elim
    | .cont, ⟨_, _, _, z⟩ => exact z.elim
    | .ret _, ⟨_, _, _, _, _, z⟩ => exact z.elim
  · match f, q with
    | .next, ⟨σ', H', J', w⟩ => exact wpAny_execs_nil (hr.run pins s1 σ' H' D (J'.ofTry okX) w)
    | .brk, ⟨_, _, J', w⟩ => exact ⟨_, _, J'.ofTry okX, w⟩
    | .cont, ⟨_, _, J', w⟩ => exact ⟨_, _, J'.ofTry okX, w⟩
    | .ret _, ⟨_, _, _, J', r, w⟩ => exact ⟨_, _, _, J'.ofTry okX, r, w⟩
end
end Cm

set_option Elab.async false
set_option linter.all false
set_option maxRecDepth 100000
set_option maxHeartbeats 2000000
namespace Cm
open PySem PySem.Spec PyProof.Rows L2

/-! ### a def that may raise: an exception is told as a value that no reading has -/
/-- the mark: an exception that keeps p (none: it keeps nothing) -/
def exM (p : PyData) : PyData := .dict [(.none, p)]
def exP : U → Option PyData
  | .d (.dict [(.none, p)]) => some p
  | _ => none
theorem exP_m (p : PyData) : exP (.d (exM p)) = some p := rfl
theorem exP_eq {w : U} {p : PyData} (h : exP w = some p) : w = .d (exM p) := by
  unfold exP at h
  split at h
  · cases h
    rfl
  · cases h
/-- what an exception of the class at C (its field f, if it has one) that keeps p wishes -/
def exQ (C : Addr) (f : Option Str) (p : PyData) (Q : XK) (H : Hp) : Prop := match f, p with
  | none, .none => Q (.ref C) none H
  | some g, .int i => ∀ d, H d = none → Q (.ref C) (some d) (upd H d (.xd [(g, .int i)]))
  | _, _ => False
/-- the class: where it stands, its field -/
structure XCls where
  C : Addr
  f : Option Str
/-- the outcome's own ends, and, where it is a mark, the wish -/
def XOk (K : PySem.W.Frag) (c : XCls) (W : WX) (ρ : Rho) (F : Hp) (D : L2.Ends) (o : Out) : Prop :=
  OutOk K ρ F D o ∧ ∀ w st p, o = .rt w st → exP w = some p → ∀ σ' ρ' F' H', Ext ρ F ρ' F' → HR ρ' F' H' st → exQ c.C c.f p (fun cls d H => W cls d σ' H) H'
def tXS (K : PySem.W.Frag) (k : XCls) (W : WX) (c : SS) : TS := fun D σ H => ∃ ρ F ev st o, HR ρ F H st ∧ SR K ρ F ev σ ∧ c ev st = some o ∧ XOk K k W ρ F D o
theorem XOk.mono {K : PySem.W.Frag} {c : XCls} {W : WX} {ρ ρ1 : Rho} {F F1 : Hp} {D : L2.Ends} {o : Out} (h : XOk K c W ρ F D o) (x : Ext ρ F ρ1 F1) : XOk K c W ρ1 F1 D o :=
  ⟨h.1.mono x, fun w st p e1 e2 σ' ρ2 F2 H2 x2 hr => h.2 w st p e1 e2 σ' ρ2 F2 H2 (x.trans x2) hr⟩
/-- no reading has the mark -/
theorem no_mark {K : PySem.W.Frag} {ρ : Rho} {F : Hp} {v : V} {w : U} {p : PyData} (h : WR K ρ F v w) (e : exP w = some p) : False := by
  have := exP_eq e
  subst this
  cases (show Dq F v (exM p) from h)
/-- raise C() -/
def cRaise : SS := fun _ st => some (.rt (.d (exM .none)) st)
def rse : U × Sto → Option Out
  | (.d (.int i), st) => some (.rt (.d (exM (.int i))) st)
  | _ => none
/-- raise C(e), e an int -/
def cRaise1 (e : SE) : SS := fun ev st => (e ev st).bind rse
section
variable {X : Cx} {e c tg iter : Expr} {s : Stmt} {ss ts : List Stmt} {pos : Pos} {k : XCls} {W : WX} {a b : SS} {cb : SB}
theorem xs_of (h : PS X.nox s (tSS X.K a)) : PS X s (tXS X.K k W a) :=
  ⟨fun pins z σ H D I ⟨ρ, F, ev, st, o, hr, sr, e, ok⟩ => wpAny_mono (h.run pins z σ H D (I.wish _) ⟨ρ, F, ev, st, o, hr, sr, e, ok.1⟩) (fun _ _ q => q.unwish) fun _ _ y => y.elim⟩
theorem xss_of (h : PSs X.nox ss (tSS X.K a)) : PSs X ss (tXS X.K k W a) := (PSs.nox h).weak fun D σ H ⟨ρ, F, ev, st, o, hr, sr, e, ok⟩ => ⟨ρ, F, ev, st, o, hr, sr, e, ok.1⟩
theorem x_nil : PSs X [] (tXS X.K k W cSkip) := xss_of ss_nil
theorem x_one (h : PS X s (tXS X.K k W a)) : PSs X [s] (tXS X.K k W a) := pss_one h
theorem x_cons (h1 : PS X s (tXS X.K k W a)) (h2 : PSs X ss (tXS X.K k W b)) : PSs X (s :: ss) (tXS X.K k W (cSeq a b)) := (pss_cons h1 h2).weak fun D σ H ⟨ρ, F, ev, st, o, hr, sr, e, ok⟩ => by
  simp only [cSeq, Option.bind_eq_some_iff] at e
  obtain ⟨o1, e1, e2⟩ := e
  refine ⟨ρ, F, ev, st, o1, hr, sr, e1, ?_, fun w st' p z1 z2 => ?_⟩
  · cases o1 with
    | nx ev' st' => exact fun σ' ρ' F' H' x hr' sr' => ⟨ρ', F', ev', st', o, hr', sr', e2, ok.mono x⟩
    | rt w st' => cases e2; exact ok.1
    | bk ev' st' => cases e2; exact ok.1
    | ct ev' st' => cases e2; exact ok.1
  · subst z1
    cases e2
    exact ok.2 w st' p rfl z2
theorem x_if (hc : PT X.nox c (tT X.K cb)) (ha : PSs X ss (tXS X.K k W a)) (hb : PSs X ts (tXS X.K k W b)) : PS X (.If c ss ts pos) (tXS X.K k W (cIfS cb a b)) := (ps_if (PT.nox hc) ha hb).weak fun D σ H ⟨ρ, F, ev, st, o, hr, sr, e, ok⟩ => by
  simp only [cIfS, Option.bind_eq_some_iff] at e
  obtain ⟨⟨t, st1⟩, e1, e2⟩ := e
  refine ⟨ρ, F, ev, st, t, st1, hr, sr, e1, fun ρ' F' H' x h => ?_⟩
  cases t with
  | true => exact ⟨ρ', F', ev, st1, o, h, sr.mono x, e2, ok.mono x⟩
  | false => exact ⟨ρ', F', ev, st1, o, h, sr.mono x, e2, ok.mono x⟩
theorem x_raise {x q file : Str} {bb : ZB} {C f : Addr} {p p2 : Pos} {n : Nat} (hc : X.calm = true) (tk : Takes X W) (T : ZC X.K x q file bb none C f) (hb : ZBOk bb) (hP : PgOk X.prog file) (hr : Room (n + 1) X.A) (hg : Gl X x) (hm : X.mg x = some (.ref C)) (hdb : NotDbg x := by decide) :
    PS X (.Raise (some (.Call (.Name x p) [] [] pos)) none p2) (tXS X.K ⟨C, none⟩ W cRaise) := (ps_raise hc tk (pmk_z0 T hb hP hr hg hm hdb)).weak fun D σ H ⟨ρ, F, ev, st, o, hr, sr, e, ok⟩ => by
  cases e
  exact ok.2 _ _ .none rfl rfl σ ρ F H (.refl _ _) hr
theorem x_raise1 {x q file g : Str} {bb : ZB} {C f : Addr} {ce : SE} {p p2 : Pos} {n : Nat} (hc : X.calm = true) (tk : Takes X W) (hn : ZName g) (T : ZC X.K x q file bb (some g) C f) (hb : ZBOk bb) (hP : PgOk X.prog file) (hr : Room (n + 1) X.A) (he : PE X.nox e (tI X.K ce)) (hg : Gl X x) (hm : X.mg x = some (.ref C)) (hdb : NotDbg x := by decide)
    (hs : Bare1 X e [] := by rfl) (hpl : NoStar X [] pos := by rfl) :
    PS X (.Raise (some (.Call (.Name x p) [e] [] pos)) none p2) (tXS X.K ⟨C, some g⟩ W (cRaise1 ce)) := (ps_raise hc tk (pmk_z1 hn T hb hP hr (pa_cons (PE.nox he) pa_nil hs) hg hm hdb hs hpl)).weak fun D σ H ⟨ρ, F, ev, st, o, hr, sr, e, ok⟩ => by
  obtain ⟨⟨w, st1⟩, e1, e2⟩ := Option.bind_eq_some_iff.mp (show (ce ev st).bind rse = some o from e)
  cases w with
  | d y =>
    cases y with
    | int i =>
      cases e2
      refine ⟨ρ, F, ev, st, _, st1, hr, sr, e1, fun v ρ1 F1 H1 x1 hr1 wr1 => ?_⟩
      cases (show Dq F1 v (.int i) from wr1)
      exact ⟨_, rfl, fun d hd => ok.2 _ _ (.int i) rfl rfl σ ρ1 F1 H1 x1 hr1 d hd⟩
    | _ => cases e2
  | _ => cases e2
theorem XOk.loop {K : PySem.W.Frag} {ρ : Rho} {F : Hp} {D : L2.Ends} {N : L2.St → Hp → Prop} {o o' : Out}
    (hn : ∀ ev st, (o = .nx ev st ∨ o = .ct ev st) → ∀ σ' ρ' F' H', Ext ρ F ρ' F' → HR ρ' F' H' st → SR K ρ' F' ev σ' → N σ' H')
    (hb : ∀ ev st, o = .bk ev st → o' = .nx ev st) (hr : ∀ w st, o = .rt w st → o' = .rt w st) (ok : XOk K k W ρ F D o') : XOk K k W ρ F { D with nx := N, ct := N, bk := D.nx } o :=
  ⟨OutOk.loop hn hb hr ok.1, fun w st p z1 z2 => ok.2 w st p (hr w st z1) z2⟩
def fof (g : GT) (b : SS) (ev : Ev) : Src × Sto → Option Out
  | (.fix xs, st) => forL g b xs ev st
  | _ => none
/-- for over what stands still -/
def cForF (it : SI) (g : GT) (b : SS) : SS := fun ev st => (it ev st).bind (fof g b ev)
theorem x_for {g : GT} {ci : SI} {zs : List Nat} (hp : PassesOwn (model X.prog X.w) X.A X.env X.xe) (hc : X.calm = true) (hi : PI X tg iter (tIt X.K ci)) (hg : PG X tg (tG X.K zs g)) (hb : PSs X ss (tXS X.K k W b))
    (hs : ∀ x, foldedSetIterable iter X.env x = pure x := by exact fun _ => rfl) : PS X (.For tg iter ss [] pos) (tXS X.K k W (cForF ci g b)) := (ps_for hp hc hi hg hb hs).weak fun D σ H ⟨ρ, F, ev, st, o, hr, sr, e, ok⟩ => by
  obtain ⟨⟨src, st'⟩, e1, e2⟩ := Option.bind_eq_some_iff.mp (show (ci ev st).bind (fof g b ev) = some o from e)
  refine ⟨ρ, F, ev, st, src, st', hr, sr, e1, fun J ρ' F' H' x hr' y => ?_⟩
  cases src with
  | cell n => cases e2
  | fix xs =>
    refine ⟨fun i m σ H => m = xs.length - i ∧ i ≤ xs.length ∧ ∃ ρ1 F1 ev1 st1, Ext ρ' F' ρ1 F1 ∧ HR ρ1 F1 H st1 ∧ SR X.K ρ1 F1 ev1 σ ∧ forL g b (xs.drop i) ev1 st1 = some o, ⟨xs.length, rfl, Nat.zero_le _, ρ', F', ev, st', .refl _ _, hr', sr.mono x, e2⟩, ?_⟩
    rintro i m σ1 H1 ⟨rfl, hi, ρ1, F1, ev1, st1, x1, hr1, sr1, e3⟩
    obtain ⟨yg, ys⟩ := y F1 H1 (sameD x1.same) hr1.sub
    by_cases hlt : i < xs.length
    · rw [List.drop_eq_getElem_cons hlt] at e3
      simp only [forL, Option.bind_eq_some_iff] at e3
      obtain ⟨ev2, e4, o1, e5, e6⟩ := e3
      obtain ⟨go, yl⟩ := yg i xs[i] (List.getElem?_eq_getElem hlt)
      refine .inr ⟨go, fun σ H => ∃ ρ1 F1 ev1 st1, Ext ρ' F' ρ1 F1 ∧ HR ρ1 F1 H st1 ∧ SR X.K ρ1 F1 ev1 σ ∧ forL g b (xs.drop (i + 1)) ev1 st1 = some o, fun σ' H' w => ⟨xs.length - (i + 1), by omega, rfl, hlt, w⟩, fun v H2 yv => ?_⟩
      obtain ⟨F2, gr, d⟩ := yl v H2 yv
      have x2 : Ext ρ1 F1 ρ1 F2 := .of gr
      refine ⟨ρ1, F2, ev1, xs[i], ev2, gr.fh, sr1.mono x2, d, e4, fun σ3 sr3 _ => ⟨ρ1, F2, ev2, st1, o1, hr1.grow gr, sr3, e5, ?_⟩⟩
      refine XOk.loop (o' := o) (fun ev' st'' q σ' ρ'' F'' H'' x' hr'' sr'' => ⟨ρ'', F'', ev', st'', (x1.trans x2).trans x', hr'', sr'', ?_⟩) (fun ev' st'' q => ?_) (fun w st'' q => ?_) (ok.mono ((x.trans x1).trans x2))
      · rcases q with q | q <;> (subst q; exact e6)
      · subst q; cases e6; rfl
      · subst q; cases e6; rfl
    · have hx : i = xs.length := by omega
      subst hx
      rw [List.drop_length] at e3
      cases e3
      exact .inl ⟨ys, ok.1 _ ρ1 F1 H1 (x.trans x1) hr1 sr1⟩
end

/-! ### such a def -/
/-- behind it: its value, or the exception -/
def PostX (K : PySem.W.Frag) (k : XCls) (ρ : Rho) (F : Hp) (w : U) (st : Sto) (Q : VK) (E : XK) : Prop :=
  Post K ρ F w st Q ∧ ∀ p, exP w = some p → ∀ ρ' F' H', Ext ρ F ρ' F' → HR ρ' F' H' st → exQ k.C k.f p E H'
def spX (K : PySem.W.Frag) (k : XCls) (f : FS) (n : Nat) : Sp := fun vs H Q E => ∃ ρ F ws st w st', HR ρ F H st ∧ WRs K ρ F vs ws ∧ ws.length = n ∧ f ws st = some (w, st') ∧ PostX K k ρ F w st' Q E
theorem leave_m {n : Nat} {w w2 : U} {st st2 : Sto} {p : PyData} (e : leave n w st = some (w2, st2)) (m : exP w = some p) : w2 = w ∧ st2 = st.take n := by
  have := exP_eq m
  subst this
  cases e
  exact ⟨rfl, rfl⟩
theorem exQ_mono {C : Addr} {f : Option Str} {p : PyData} {Q Q' : XK} {H : Hp} (h : exQ C f p Q H) (g : ∀ c d H, Q c d H → Q' c d H) : exQ C f p Q' H := by
  unfold exQ at h ⊢
  split at h
  · exact g _ _ _ h
  · exact fun d hd => g _ _ _ (h d hd)
  · exact h.elim
section
variable {P : Program} {w : World} {K : PySem.W.Frag} {mg : Str → Option Value} {base : Heap}
theorem def_okX {x : Str} {st : Stmt} {f : Addr} {fd : FuncData} {N ps : List Str} {n : Nat} {b : SS} {k : XCls} (F : FnP K x st f fd) (S : FnScope N ps (defScope st))
    (h : ∀ (cdv : Value) (A : Around) (outer : List Env) (s : Shared) (H : Hp) (E : XK), Room n (A.deeper (envOfC x (defScope st) s.heap.objs.size f cdv)) → PSs (cxOf (L2.CX P w) P w K mg base N x (defScope st) f cdv A outer s H E) (defBody st) (tXS K k (fun cls d _ H => E cls d H) b)) :
    FnOk P w K mg base (L2.CX P w) (n + 1) f fd ps (spX K k (defS N.length b) ps.length) := by
  refine F.ok S (fun vs H Q E ⟨ρ, F, ws, st, w, st', hr, wr, hl, e, post⟩ => by rw [wr.length, hl]) fun cdv A outer s H vs Q E hrm hsp => ⟨tXS K k (fun cls d _ H => E cls d H) b, h cdv A outer s H E hrm, ?_⟩
  obtain ⟨ρ, F, ws, st, w, st', hr, wr, hl, e, post, pe⟩ := hsp
  simp only [defS, Option.bind_eq_some_iff] at e
  obtain ⟨o, e1, e2⟩ := e
  refine ⟨ρ, F, _, st, o, hr, SR.start wr, e1, ?_, fun w1 st1 p z1 z2 => ?_⟩
  · cases o with
    | rt w1 st1 => exact fun v ρ' F' H' x hr' r => leave_ok hr x hr' r e2 post
    | nx ev1 st1 =>
      cases e2
      exact fun σ' ρ' F' H' x hr' _ => post .non (ρ'.take st.length) F' H' (by rw [← hr.len]; exact x.take _ (Nat.le_refl _)) (hr'.take _ (x.tri hr.obj hr.len.symm)) .non
    | bk ev1 st1 => cases e2
    | ct ev1 st1 => cases e2
  · subst z1
    obtain ⟨y1, y2⟩ := leave_m e2 z2
    subst y1 y2
    exact fun σ' ρ' F' H' x hr' => pe p z2 (ρ'.take st.length) F' H' (by rw [← hr.len]; exact x.take _ (Nat.le_refl _)) (hr'.take _ (x.tri hr.obj hr.len.symm))
end
/-- where such a def stands, and what it does -/
structure CalX (P : Program) (w : World) (K : PySem.W.Frag) (mg : Str → Option Value) (base : Heap) (n : Nat) (x : Str) (st : Stmt) (ps : List Str) (k : XCls) (g : FS) : Prop where
  ex : ∃ (a : Addr) (fd : FuncData), FnOk P w K mg base (L2.CX P w) n a fd ps (spX K k g ps.length) ∧ mg x = some (.ref a) ∧ FnP K x st a fd ∧ Binds K fd ps []
theorem CalX.of {P : Program} {w : World} {K : PySem.W.Frag} {mg : Str → Option Value} {base : Heap} {n : Nat} {x : Str} {st : Stmt} {ps : List Str} {k : XCls} {g : FS} (h : At K mg x st) (ok : ∀ a fd, FnP K x st a fd → mg x = some (.ref a) → FnOk P w K mg base (L2.CX P w) n a fd ps (spX K k g ps.length))
    (hb : ∀ (kV doc pm : Value) (an : Option Addr) (cdv ct : Value) (us : List Value), us.length = ps.length → bindArgs (PySem.W.fnOf x x (defArgs st) (defBody st) (defScope st) .none kV doc pm an cdv ct) ⟨us, []⟩ = pure (ps.zip us)) : CalX P w K mg base n x st ps k g :=
  let ⟨a, fd, F, hm⟩ := h
  ⟨a, fd, ok a fd F hm, hm, F, FunD.bindsN F hb⟩
end Cm

set_option Elab.async false
set_option linter.all false
set_option maxRecDepth 100000
set_option maxHeartbeats 2000000
namespace Cm
open PySem PySem.Spec PyProof.Rows L2

/-! ### x = f(..), f's exception kept under a name -/
/-- what the exception that is held keeps -/
def keptP (f : Option Str) (d : Option Addr) (F : Hp) (p : PyData) : Prop := match f, p with
  | none, .none => d = none
  | some g, .int i => ∃ dd, d = some dd ∧ F dd = some (.xd [(g, .int i)])
  | _, _ => False
/-- the rest of the block, the exception (at a, its dict d) under the name of slot j -/
def tXB (K : PySem.W.Frag) (k : XCls) (a : Addr) (d : Option Addr) (j : Nat) (c : PyData → SS) : TS := fun D σ H => ∃ ρ F ev st o p, HR ρ F H st ∧ SR K ρ F ev σ ∧ σ[j]? = some (some (.ref a)) ∧ keptP k.f d F p ∧ c p ev st = some o ∧ OutOk K ρ F D o
def shP : Bool → PyData → Bool
  | false, .none => true
  | true, .int _ => true
  | _, _ => false
def ctr2 (i j n : Nat) (fl : Bool) (c0 : SS) (cx : PyData → SS) (ev : Ev) (w : U) (st : Sto) : Option PyData → Option Out
  | some p => if shP fl p = true ∧ j < ev.length ∧ n < ev.length then cx p ((ev.set n none).set j none) st else none
  | none => c0 (ev.set i (some w)) st
def ctr (i j n : Nat) (fl : Bool) (c0 : SS) (cx : PyData → SS) (ev : Ev) (q : U × Sto) : Option Out := ctr2 i j n fl c0 cx ev q.1 q.2 (exP q.1)
/-- try: x = e; except C as n: y = n; then the rest: c0, or cx where it was raised -/
def cTry (i j n : Nat) (fl : Bool) (ce : SE) (c0 : SS) (cx : PyData → SS) : SS := fun ev st => (ce ev st).bind (ctr i j n fl c0 cx ev)
theorem exQ_sh {C : Addr} {f : Option Str} {p : PyData} {Q : XK} {H : Hp} (s : shP f.isSome p = true) (h0 : f = none → p = .none → Q (.ref C) none H) (h1 : ∀ g i, f = some g → p = .int i → ∀ d, H d = none → Q (.ref C) (some d) (upd H d (.xd [(g, .int i)]))) : exQ C f p Q H := by
  cases f with
  | none =>
    cases p with
    | none => exact h0 rfl rfl
    | _ => cases s
  | some g =>
    cases p with
    | int i => exact h1 g i rfl rfl
    | _ => cases s
theorem SR.drop {K : PySem.W.Frag} {ρ : Rho} {F : Hp} {ev : Ev} {σ : L2.St} (h : SR K ρ F ev σ) (i : Nat) (v : Option V) : SR K ρ F (ev.set i Option.none) (σ.set i v) := by
  refine ⟨by simp [h.len], fun j u q => ?_⟩
  rw [List.getElem?_set] at q
  split at q
  · split at q
    · cases q
    · cases q
  · rename_i hj
    rw [List.getElem?_set_ne hj]
    exact h.get j u q
theorem defx_ok {X : Cx} {k : XCls} {n : Nat} {fs : FS} {sa : SA} {E : L2.St → XK} {σ : L2.St} {H : Hp} {Q : VK}
    (h : ∃ ρ F ev st w st', HR ρ F H st ∧ SR X.K ρ F ev σ ∧ cDef n fs sa ev st = some (w, st') ∧ PostX X.K k ρ F w st' Q (E σ)) : tCallS (spX X.K k fs n) E (tA X.K sa) σ H Q := by
  obtain ⟨ρ, F, ev, st, w, st', hr, sr, e, post, px⟩ := h
  simp only [cDef, Option.bind_eq_some_iff] at e
  obtain ⟨⟨ws, st1⟩, e1, e2⟩ := e
  split at e2
  · rename_i hl
    exact ⟨ρ, F, ev, st, ws, st1, hr, sr, e1, fun vs ρ' F' H' x hr' wr => ⟨ρ', F', ws, st1, w, st', hr', wr, hl, e2, fun v ρ2 F2 H2 x2 h2 r2 => post v ρ2 F2 H2 (x.trans x2) h2 r2, fun p z ρ2 F2 H2 x2 h2 => px p z ρ2 F2 H2 (x.trans x2) h2⟩⟩
  · cases e2
section
variable {X : Cx} {k : XCls} {fn E x cn nm : Str} {st : Stmt} {ps : List Str} {fs : FS} {e : Expr} {es : List Expr} {rest : List Stmt} {sa : SA} {c0 : SS} {cx : PyData → SS} {i j n m : Nat} {pf pc px pA pE p1 p2 pB pH pT : Pos}
theorem xs_try (hst : X.stack = X.env :: X.outer) (hfr : X.env.frame = some X.env.locals) (c : CalX X.prog X.w X.K X.mg X.base m fn st ps k fs) (hr : Room m X.A) (hg : Gl X fn) (hc : Names X E (.ref k.C)) (hm : PySem.W.exmOne X.K (.ref k.C) (.ref k.C) = some true)
    (hN : X.N.Nodup) (hi : X.N[i]? = some x) (hx : Loc X.env.scope x) (hj : X.N[j]? = some cn) (hcn : Loc X.env.scope cn) (hn : X.N[n]? = some nm) (hnm : X.env.kindOf nm = some .local) (hjn : j ≠ n) {fl : Bool} (hfl : k.f.isSome = fl)
    (ha : ∀ (pn : List (Addr × Obj)) (xe : Value → Shared → Prop), PA (X.tr pn xe) (e :: es) (tA X.K sa)) (h0 : PSs X rest (tSS X.K c0))
    (hX : ∀ (a : Addr) (oe : Obj) (d : Option Addr) (pn : List (Addr × Obj)), Zc (.ref k.C) d oe → (∃ vs, oe.data = .fields vs) → (a, oe) ∈ pn → PSs (X.tr pn X.xe) rest (tXB X.K k a d j cx))
    (hfi : X.fn x = true ∨ X.env.scope.names.lookup x = some .local := by first | exact .inl rfl | exact .inr rfl | assumption) (hfj : X.fn cn = true ∨ X.env.scope.names.lookup cn = some .local := by first | exact .inl rfl | exact .inr rfl | assumption)
    (hd1 : NotDbg fn := by decide) (hd2 : NotDbg nm := by decide) (hd3 : (nm == ("__classdict__" : Str)) = false := by decide) (he : Bare1 X e es := by rfl) (hpl : NoStar X es pc := by rfl)
    (hs1 : swapsWith (.Call (.Name fn pf) (e :: es) [] pc) (some (.Name x px)) pA.line X.env = pure false := by rfl) (hs2 : swapsWith (.Name nm p2) (some (.Name cn p1)) pB.line X.env = pure false := by rfl) :
    PSs X (.Try [.Assign [.Name x px] (.Call (.Name fn pf) (e :: es) [] pc) pA] [.ExceptHandler (some (.Name E pE)) (some nm) [.Assign [.Name cn p1] (.Name nm p2) pB] pH] [] [] pT :: rest) (tSS X.K (cTry i j n fl (cDef ps.length fs sa) c0 cx)) := by
  obtain ⟨f, fd, F, hmf, G, hb⟩ := c.ex
  have block := pss_keep (tb := fun W => tAsg (tCallS (spX X.K k fs ps.length) (WE W) (tA X.K sa)) (gName i)) (ts := fun a cls d => tAsg (tVar n) (gName j)) (v := fun a cls d D σ H => cls = .ref k.C ∧ tXB X.K k a d j cx D σ H) (u := tSS X.K c0) (pos := pT) (pos' := pH) (np := pE) hst hfr hN hn hnm hc
    (fun W pn xe tk => pss_one (ps_set (X := X.tr pn xe) hN hi hx (pe_callS F hr hg hmf G.kp hb (fun σ => passAt tk σ) (ha pn xe) hd1 he hpl) hs1 hfi))
    (fun a oe cls d pn hz hf => pss_one (ps_set (X := X.suite a ((a, oe) :: pn)) hN hj hcn (pe_var hn (.inl hnm) hd2 hd3) hs2 hfj)) h0
    (fun a oe cls d pn hz hf hp => by
      by_cases q : cls = .ref k.C
      · subst q
        exact (hX a oe d pn hz hf hp).weak fun D σ H z => z.2
      · exact pss_never.weak fun D σ H z => q z.1)
  refine block.weak fun D σ H ⟨ρ, F0, ev, st0, o, hr0, sr, e0, ok⟩ => ?_
  obtain ⟨⟨w, st'⟩, e1, e2⟩ := Option.bind_eq_some_iff.mp (show (cDef ps.length fs sa ev st0).bind (ctr i j n fl c0 cx ev) = some o from e0)
  refine defx_ok (X := X) ⟨ρ, F0, ev, st0, w, st', hr0, sr, e1, fun v ρ' F' H' x' hr' wr => ?_, fun p z ρ' F' H' x' hr' => ?_⟩
  · have nz : exP w = none := by
      cases z : exP w with
      | none => rfl
      | some p => exact (no_mark wr z).elim
    have e3 : c0 (ev.set i (some w)) st' = some o := by
      have y : ctr2 i j n fl c0 cx ev w st' (exP w) = some o := e2
      rw [nz] at y
      exact y
    exact ⟨ρ', F', _, _, o, hr', (sr.mono x').set wr i, e3, ok.mono x'⟩
  · have y : ctr2 i j n fl c0 cx ev w st' (exP w) = some o := e2
    rw [z] at y
    simp only [ctr2] at y
    split at y
    · rename_i hjl
      have fin : ∀ (d : Option Addr) (F2 H2 : Hp), Ext ρ' F' ρ' F2 → HR ρ' F2 H2 st' → keptP k.f d F2 p → wKeep X.K (.ref k.C) n (fun a cls d => tAsg (tVar n) (gName j)) (fun a cls d D σ H => cls = .ref k.C ∧ tXB X.K k a d j cx D σ H) D (.ref k.C) d σ H2 := fun d F2 H2 x2 hr2 kp => by
        refine ⟨hm, fun a ha => ?_⟩
        have hn2 : n < σ.length := by
          rw [← sr.len]
          exact hjl.2.2
        · refine ⟨.ref a, by rw [List.getElem?_set_self hn2], rfl, ρ', F2, _, st', o, p, hr2, ?_, ?_, kp, y, ok.mono (x'.trans x2)⟩
          · have s1 := ((((sr.mono (x'.trans x2)).drop n (some (.ref a))).drop j (some (.ref a))).drop n none)
            have ee : (((ev.set n none).set j none).set n none) = (ev.set n none).set j none := by
              apply List.ext_getElem?
              intro l
              rw [List.getElem?_set]
              split
              · rename_i hl
                subst hl
                rw [List.getElem?_set_ne hjn, List.getElem?_set]
                simp
              · rfl
            rw [ee] at s1
            exact s1
          · rw [List.getElem?_set_ne (Ne.symm hjn), List.getElem?_set_self (by rw [List.length_set, ← sr.len]; exact hjl.2.1)]
      refine exQ_sh (by rw [hfl]; exact hjl.1) (fun z1 z2 => fin none F' H' (.refl _ _) hr' ?_) fun g q z1 z2 d hd => ?_
      · rw [z1, z2]
        rfl
      · have nf : F' d = none := hr'.sub.free hd
        refine fin (some d) (upd F' d (.xd [(g, .int q)])) _ (.upd nf) (hr'.grow ⟨same_upd nf, same_upd hd, fun b u z => ?_, fun b u z1 z2 => ?_⟩) ?_
        · by_cases hb : b = d
          · subst hb
            rw [upd_same] at z ⊢
            exact z
          · rw [upd_ne hb] at z ⊢
            exact hr'.sub _ _ z
        · rw [upd_ne (ne_of_none z1 hd)]
          exact z2
        · rw [z1, z2]
          exact ⟨d, rfl, upd_same⟩
    · cases y
end
end Cm

set_option Elab.async false
set_option linter.all false
set_option maxRecDepth 100000
set_option maxHeartbeats 2000000
namespace Cm
open PySem PySem.Spec PyProof.Rows L2

/-! ### the rest of the block, where the exception is held -/
section
variable {X : Cx} {k : XCls} {a : Addr} {d : Option Addr} {j : Nat} {oe : Obj} {q file cn : Str} {b : ZB} {xn : Str} {f : Addr} {c : PyData → SS} {rest A ss : List Stmt} {e e1 e2 : Expr} {pos p1 p2 p3 p4 : Pos} {kk : Nat}
theorem held_at {pins : List (Addr × Obj)} {σ : L2.St} {H : Hp} {s : Shared} (I : Inv X pins σ H s) (hz : Zc (.ref k.C) d oe) (hf : ∃ vs, oe.data = .fields vs) (hm : (a, oe) ∈ X.pn) (hd : ∀ dd, d = some dd → ∃ fs, H dd = some (.xd fs)) :
    ∃ od, PySem.W.InstAt s.heap a oe k.C od := by
  obtain ⟨get, _⟩ := I.pin (a, oe) (List.mem_append_left _ hm)
  obtain ⟨vs, hv⟩ := hf
  obtain ⟨h1, h2⟩ := hz
  have no : PySem.W.notCls oe = true := by
    unfold PySem.W.notCls
    rw [hv] <;> rfl
  cases d with
  | none => exact ⟨none, get, h1, no, by rw [h2]; trivial⟩
  | some dd =>
    obtain ⟨fs, hx⟩ := hd dd rfl
    obtain ⟨mA, hns, _⟩ : ObjOk X.prog X.w H s.heap dd (.xd fs) := I.hok dd _ hx
    obtain ⟨o, _, _, ho, _⟩ := hns
    exact ⟨some o, get, h1, no, by rw [h2]; exact ho⟩
/-- isinstance of it -/
theorem held_isi {fl : Option Str} (T : ZC X.K xn q file b fl k.C f) (hz : Zc (.ref k.C) d oe) (hf : ∃ vs, oe.data = .fields vs) (hm : (a, oe) ∈ X.pn) :
    CallR X (.builtin "isinstance") (fun xs H Q => xs = [.ref a, .ty b.B] ∧ (∀ dd, d = some dd → ∃ fs, H dd = some (.xd fs)) ∧ Q (.bl true) H) := by
  intro pins s σ H xs us Q I r h
  obtain ⟨rfl, hd, w⟩ := h
  cases r with
  | cons r1 r =>
    cases r with
    | cons r2 r =>
      cases r
      cases r1
      cases r2
      obtain ⟨od, J⟩ := held_at I hz hf hm hd
      have hcl : (PySem.W.clsIn X.K k.C).isSome = true := by
        obtain ⟨cd, hc, _⟩ := PySem.W.any_some T.hd
        rw [hc]
        rfl
      exact PySem.W.kia_one (PySem.W.kitx_exc hcl T.gA T.gG T.isB T.cl T.clg T.clt T.ob) I.kIn J T.kit (fun z => nomatch z) fun tk => ⟨.bl true, H, I.kept (t' := tk) fun _ _ z => z, rfl, w⟩
theorem kept_d {g : Option Str} {F H : Hp} {p : PyData} (h : keptP g d F p) (s : Same F H) : ∀ dd, d = some dd → ∃ fs, H dd = some (.xd fs) := fun dd z => by
  unfold keptP at h
  split at h
  · subst h
    cases z
  · obtain ⟨d2, z2, z3⟩ := h
    rw [z] at z2
    cases z2
    exact ⟨_, s _ _ z3⟩
  · exact h.elim
theorem pe_isi {fl : Option Str} (T : ZC X.K xn q file b fl k.C f) (hz : Zc (.ref k.C) d oe) (hf : ∃ vs, oe.data = .fields vs) (hm : (a, oe) ∈ X.pn) {B : Str} (hN : X.N[j]? = some cn) (hv : Vis X.env.scope cn) (hg : Gl X "isinstance") (hi : X.mg "isinstance" = none) (hgB : Gl X B) (hB : X.mg B = none) (hbB : bootBuiltins B = some (.type b.B))
    (n1 : NotDbg cn := by decide) (n2 : (cn == ("__classdict__" : Str)) = false := by decide) (n3 : B ≠ "__name__" := by decide) (n4 : NotDbg B := by decide)
    (hst : Bare1 X (.Name cn p2) [.Name B p3] := by rfl) (hpl : NoStar X [.Name B p3] pos := by rfl) (hst2 : Bare1 X (.Name B p3) [] := by rfl) :
    PE X (.Call (.Name "isinstance" p1) [.Name cn p2, .Name B p3] [] pos) (fun σ H Q => σ[j]? = some (some (.ref a)) ∧ (∀ dd, d = some dd → ∃ fs, H dd = some (.xd fs)) ∧ Q (.bl true) H) :=
  (pe_callB (held_isi T hz hf hm) hg hi PyProof.Rows.boot_isinstance (pa_cons (pe_var hN hv n1 n2) (pa_cons (pe_bltn (v := .ty b.B) hgB hB hbB rfl n3 n4) pa_nil hst2) hst) (by decide) (by decide) hst hpl).weak fun σ H Q ⟨h1, h2, h3⟩ => ⟨_, h1, rfl, h2, h3⟩
/-- if y is None: .. is passed -/
theorem y_skip (hN : X.N[j]? = some cn) (hv : Vis X.env.scope cn) (hr : PSs X rest (tXB X.K k a d j c)) (n1 : NotDbg cn := by decide) (n2 : (cn == ("__classdict__" : Str)) = false := by decide) :
    PSs X (.If (.Compare (.Name cn p1) [.Is] [.Constant .none kk p2] p3) A [] pos :: rest) (tXB X.K k a d j c) :=
  (pss_cons (ps_if (pt_cmpR op_isN (pe_var hN hv n1 n2) pe_non rfl) pss_never pss_nil) hr).weak fun D σ H h => by
    have h' := h
    obtain ⟨ρ, F, ev, st, o, p, hr, sr, hs, kp, e, ok⟩ := h
    exact ⟨.ref a, hs, rfl, false, rfl, iteF h'⟩
/-- return e1 if isinstance(y, B) else .. -/
theorem y_retis {fl : Option Str} {ce : SE} (T : ZC X.K xn q file b fl k.C f) (hz : Zc (.ref k.C) d oe) (hf : ∃ vs, oe.data = .fields vs) (hm : (a, oe) ∈ X.pn) {B : Str} (hN : X.N[j]? = some cn) (hv : Vis X.env.scope cn) (hg : Gl X "isinstance") (hi : X.mg "isinstance" = none) (hgB : Gl X B) (hB : X.mg B = none) (hbB : bootBuiltins B = some (.type b.B))
    (he : PE X e1 (tI X.K ce)) {p5 p6 : Pos} (n1 : NotDbg cn := by decide) (n2 : (cn == ("__classdict__" : Str)) = false := by decide) (n3 : B ≠ "__name__" := by decide) (n4 : NotDbg B := by decide)
    (hst : Bare1 X (.Name cn p2) [.Name B p3] := by rfl) (hpl : NoStar X [.Name B p3] p4 := by rfl) (hst2 : Bare1 X (.Name B p3) [] := by rfl) (h2 : PE X e2 (fun _ _ _ => False) := by exact ⟨fun _ _ _ _ _ _ z => z.elim⟩)
    (ht : ∀ whole, isTrue (.Call (.Name "isinstance" p1) [.Name cn p2, .Name B p3] [] p4) X.env whole = (do let v ← whole; standAt (Expr.Call (.Name "isinstance" p1) [.Name cn p2, .Name B p3] [] p4).pos; holding [v] (truthy v)) := by intro _; rfl) :
    PS X (.Return (some (.IfExp (.Call (.Name "isinstance" p1) [.Name cn p2, .Name B p3] [] p4) e1 e2 p5)) p6) (tXB X.K k a d j fun _ => cRet ce) :=
  (ps_ret (pe_ifExp (pt_val (pe_isi T hz hf hm hN hv hg hi hgB hB hbB n1 n2 n3 n4 hst hpl hst2) ht) he h2)).weak fun D σ H ⟨ρ, F, ev, st, o, p, hr, sr, hs, kp, e, ok⟩ => by
    simp only [cRet, Option.map_eq_some_iff] at e
    obtain ⟨⟨w, st'⟩, e3, e4⟩ := e
    subst e4
    exact ⟨hs, kept_d kp hr.sub, true, rfl, iteT ⟨ρ, F, ev, st, w, st', hr, sr, e3, ok⟩⟩
/-- return isinstance(y, B) -/
theorem y_is {fl : Option Str} (T : ZC X.K xn q file b fl k.C f) (hz : Zc (.ref k.C) d oe) (hf : ∃ vs, oe.data = .fields vs) (hm : (a, oe) ∈ X.pn) {B : Str} (hN : X.N[j]? = some cn) (hv : Vis X.env.scope cn) (hg : Gl X "isinstance") (hi : X.mg "isinstance" = none) (hgB : Gl X B) (hB : X.mg B = none) (hbB : bootBuiltins B = some (.type b.B)) {p6 : Pos}
    (n1 : NotDbg cn := by decide) (n2 : (cn == ("__classdict__" : Str)) = false := by decide) (n3 : B ≠ "__name__" := by decide) (n4 : NotDbg B := by decide)
    (hst : Bare1 X (.Name cn p2) [.Name B p3] := by rfl) (hpl : NoStar X [.Name B p3] p4 := by rfl) (hst2 : Bare1 X (.Name B p3) [] := by rfl) :
    PS X (.Return (some (.Call (.Name "isinstance" p1) [.Name cn p2, .Name B p3] [] p4)) p6) (tXB X.K k a d j fun _ => fun _ st => some (.rt (.d (.bool true)) st)) :=
  (ps_ret (pe_isi T hz hf hm hN hv hg hi hgB hB hbB n1 n2 n3 n4 hst hpl hst2)).weak fun D σ H ⟨ρ, F, ev, st, o, p, hr, sr, hs, kp, e, ok⟩ => by
    cases e
    exact ⟨hs, kept_d kp hr.sub, ok (.bl true) ρ F H (.refl _ _) hr (.bl true)⟩
/-- y.g -/
theorem pe_fld {g : Str} (T : ZC X.K xn q file b (some g) k.C f) (hz : Zc (.ref k.C) d oe) (hf : ∃ vs, oe.data = .fields vs) (hm : (a, oe) ∈ X.pn) (hN : X.N[j]? = some cn) (hv : Vis X.env.scope cn) (n1 : NotDbg cn := by decide) (n2 : (cn == ("__classdict__" : Str)) = false := by decide)
    (hbb : BareBase X (.Name cn p1) g := by rfl) : PE X (.Attribute (.Name cn p1) g p2) (fun σ H Q => σ[j]? = some (some (.ref a)) ∧ ∃ dd v, d = some dd ∧ H dd = some (.xd [(g, v)]) ∧ Q v H) := by
  refine ⟨fun pins s σ H Q I ⟨h1, dd, v, h2, h3, w⟩ => ?_⟩
  refine attr_of hbb (thn ((pe_var (pos := p1) hN hv n1 n2).run pins s σ H (fun x H1 => x = .ref a ∧ H1 = H) I ⟨_, h1, rfl, rfl⟩) fun u s1 ⟨x, H1, I1, r1, e1, e2⟩ => ?_)
  subst e1 e2
  obtain rfl : u = Value.ref a := r1
  obtain ⟨vs, hv2⟩ := hf
  obtain ⟨get, _⟩ := I1.pin (a, oe) (List.mem_append_left _ hm)
  obtain ⟨mA, hns, hrel⟩ : ObjOk X.prog X.w H1 s1.heap dd (.xd [(g, v)]) := I1.hok dd _ h3
  obtain ⟨od, ho, hl⟩ := lookIn_ns hns
  have lk : List.lookup g [(g, v)] = some v := by simp [List.lookup]
  obtain ⟨y, hy, ry⟩ := RelO.some_of (v := v) (o := mA g) (by rw [← lk]; exact hrel g)
  have J : PySem.W.InstAt s1.heap a oe k.C (some od) := ⟨get, hz.1, by unfold PySem.W.notCls; rw [hv2] <;> rfl, by rw [hz.2, h2]; exact ho⟩
  exact HandSPX.exc_get I1.kIn J T.gA T.gG T.isB (PySem.W.findObj_own T.hd (T.fld g rfl).1 rfl (by rw [hl, hy])) (handed_of ry) ⟨v, H1, I1.tok _, ry, w⟩
/-- if isinstance(y, B): return (s, y.g) -/
theorem y_ifret {g s : Str} {C : List Stmt} (T : ZC X.K xn q file b (some g) k.C f) (hk : k.f = some g) (hz : Zc (.ref k.C) d oe) (hf : ∃ vs, oe.data = .fields vs) (hm : (a, oe) ∈ X.pn) {B : Str} (hN : X.N[j]? = some cn) (hv : Vis X.env.scope cn) (hg : Gl X "isinstance") (hi : X.mg "isinstance" = none) (hgB : Gl X B) (hB : X.mg B = none) (hbB : bootBuiltins B = some (.type b.B))
    {p5 p6 p7 p8 p9 p10 : Pos} {kt : Nat} (n1 : NotDbg cn := by decide) (n2 : (cn == ("__classdict__" : Str)) = false := by decide) (n3 : B ≠ "__name__" := by decide) (n4 : NotDbg B := by decide)
    (hst : Bare1 X (.Name cn p2) [.Name B p3] := by rfl) (hpl : NoStar X [.Name B p3] p4 := by rfl) (hst2 : Bare1 X (.Name B p3) [] := by rfl) (hbb : BareBase X (.Name cn p5) g := by rfl)
    (hs1 : Bare1 X (.Constant (.str s) kk p7) [.Attribute (.Name cn p5) g p6] := by rfl) (hs2 : Bare1 X (.Attribute (.Name cn p5) g p6) [] := by rfl)
    (ht : ∀ whole, isTrue (.Call (.Name "isinstance" p1) [.Name cn p2, .Name B p3] [] p4) X.env whole = (do let v ← whole; standAt (Expr.Call (.Name "isinstance" p1) [.Name cn p2, .Name B p3] [] p4).pos; holding [v] (truthy v)) := by intro _; rfl) :
    PSs X (.If (.Call (.Name "isinstance" p1) [.Name cn p2, .Name B p3] [] p4) [.Return (some (.Tuple [.Constant (.str s) kk p7, .Attribute (.Name cn p5) g p6] kt p8)) p9] [] p10 :: C) (tXB X.K k a d j fun p _ st => some (.rt (.d (.tuple [.str s, p])) st)) :=
  (pss_cons (ps_if (pt_val (pe_isi T hz hf hm hN hv hg hi hgB hB hbB n1 n2 n3 n4 hst hpl hst2) ht) (pss_one (ps_ret (pe_tup (pa_cons pe_str (pa_cons (pe_fld T hz hf hm hN hv n1 n2 hbb) pa_nil hs2) hs1)))) pss_never) pss_never).weak fun D σ H ⟨ρ, F, ev, st, o, p, hr, sr, hs, kp, e, ok⟩ => by
    cases e
    have kp2 := kp
    unfold keptP at kp2
    rw [hk] at kp2
    match p, kp2, kp, ok with
    | .int i, kp2, kp, ok =>
      obtain ⟨dd, z1, z2⟩ := kp2
      refine ⟨hs, kept_d kp hr.sub, true, rfl, iteT ⟨hs, dd, .int i, z1, hr.sub _ _ z2, ?_⟩⟩
      refine ⟨lim_le (by decide : 2 ≤ lim), fun t nt => ?_⟩
      have nf : F t = none := hr.sub.free nt
      refine ok (.ref t) ρ (upd F t (.tup [.str s, .int i])) _ (.upd nf) (hr.grow ⟨same_upd nf, same_upd nt, fun b u z => ?_, fun b u z1 z2 => ?_⟩) (.tup upd_same (.cons (.str s) (.cons (.int i) .nil)))
      · by_cases hb : b = t
        · subst hb
          rw [upd_same] at z ⊢
          exact z
        · rw [upd_ne hb] at z ⊢
          exact hr.sub _ _ z
      · rw [upd_ne (ne_of_none z1 nt)]
        exact z2
    | .none, kp2, _, _ => exact kp2.elim
    | .bool _, kp2, _, _ => exact kp2.elim
    | .str _, kp2, _, _ => exact kp2.elim
    | .list _, kp2, _, _ => exact kp2.elim
    | .tuple _, kp2, _, _ => exact kp2.elim
    | .dict _, kp2, _, _ => exact kp2.elim
end
end Cm

set_option Elab.async false
set_option linter.all false
set_option maxRecDepth 100000
set_option maxHeartbeats 2000000
namespace Cm
open PySem PySem.Spec PyProof.Rows L2

/-! ### the head with facts about classes -/
/-- the part of the heap that is read -/
def frE (g : Addr → Option Obj) (n : Nat) : PySem.W.Frag := He.frG g (cStatics :: He.asD g n)
def obsE (n : Nat) (fa : List He.Fa) (fn : List He.DefD) (ex : PySem.W.Frag → Bool) (g : Addr → Option Obj) : He.AlD × Bool := (He.obsD fa fn (frE g n), ex (frE g n))
abbrev SaysE (fa : List He.Fa) (fn : List He.DefD) (ex : PySem.W.Frag → Bool) (K : PySem.W.Frag) : Prop := He.SaysD fa fn K ∧ ex K = true
def hookE (n : Nat) (fa : List He.Fa) (fn : List He.DefD) (ex : PySem.W.Frag → Bool) : PySem.W.Hook where
  α := He.AlD × Bool
  obs := fun s => obsE n fa fn ex s.heap.get?
  val := fun _ => (He.valD fn, true)
  says := fun _ h => ∃ K : PySem.W.Frag, K.In h ∧ SaysE fa fn ex K
  of := fun _ s e => ⟨frE s.heap.get? n, He.frG_in, congrArg (fun z : He.AlD × Bool => z.1) e, congrArg (fun z : He.AlD × Bool => z.2) e⟩
  keeps := fun _ _ _ ⟨K, hK, c⟩ k => ⟨K, hK.keeps k, c⟩
theorem obsE_eq {n : Nat} {fa : List He.Fa} {fn : List He.DefD} {ex : PySem.W.Frag → Bool} {g : Addr → Option Obj} {s : Shared} (h : ∀ a, g a = s.heap.get? a) : obsE n fa fn ex g = (hookE n fa fn ex).obs s := by
  have e : g = s.heap.get? := funext h
  rw [e]
  rfl
theorem ZC.exm {K : PySem.W.Frag} {x q file : Str} {b : ZB} {fl : Option Str} {C f : Addr} (T : ZC K x q file b fl C f) : PySem.W.exmOne K (.ref C) (.ref C) = some true := PySem.W.exm_ref T.isB T.hd T.isT T.self
/-- return .. if y is None else e -/
theorem y_retn {X : Cx} {k : XCls} {a : Addr} {d : Option Addr} {j : Nat} {cn : Str} {e1 e2 : Expr} {ce : SE} {p1 p2 p3 p4 p5 : Pos} {kk : Nat} (hN : X.N[j]? = some cn) (hv : Vis X.env.scope cn) (he : PE X e2 (tI X.K ce)) (n1 : NotDbg cn := by decide) (n2 : (cn == ("__classdict__" : Str)) = false := by decide)
    (h1 : PE X e1 (fun _ _ _ => False) := by exact ⟨fun _ _ _ _ _ _ z => z.elim⟩) :
    PS X (.Return (some (.IfExp (.Compare (.Name cn p1) [.Is] [.Constant .none kk p2] p3) e1 e2 p4)) p5) (tXB X.K k a d j fun _ => cRet ce) :=
  (ps_ret (pe_ifExp (pt_cmpR op_isN (pe_var hN hv n1 n2) pe_non rfl) h1 he)).weak fun D σ H ⟨ρ, F, ev, st, o, p, hr, sr, hs, kp, e, ok⟩ => by
    simp only [cRet, Option.map_eq_some_iff] at e
    obtain ⟨⟨w, st'⟩, e3, e4⟩ := e
    subst e4
    exact ⟨.ref a, hs, rfl, false, rfl, iteF ⟨ρ, F, ev, st, w, st', hr, sr, e3, ok⟩⟩

/-! ### lazy stepping -/
@[simp] theorem exP_d (p : PyData) : exP (.d (exM p)) = some p := rfl
@[simp] theorem exP_l (n : Nat) : exP (.l n) = none := rfl
@[simp] theorem exP_n : exP (.d .none) = none := rfl
@[simp] theorem exP_b (x : Bool) : exP (.d (.bool x)) = none := rfl
@[simp] theorem exP_i (x : Int) : exP (.d (.int x)) = none := rfl
@[simp] theorem exP_s (x : Str) : exP (.d (.str x)) = none := rfl
@[simp] theorem exP_ls (x : List PyData) : exP (.d (.list x)) = none := rfl
@[simp] theorem exP_tp (x : List PyData) : exP (.d (.tuple x)) = none := rfl
@[simp] theorem cRaise_ap (ev : Ev) (st : Sto) : cRaise ev st = some (.rt (.d (exM .none)) st) := rfl
@[simp] theorem cRaise1_ap (e : SE) (ev : Ev) (st : Sto) : cRaise1 e ev st = (e ev st).bind rse := rfl
@[simp] theorem rse_i (i : Int) (st : Sto) : rse (.d (.int i), st) = some (.rt (.d (exM (.int i))) st) := rfl
@[simp] theorem cForF_ap (it : SI) (g : GT) (b : SS) (ev : Ev) (st : Sto) : cForF it g b ev st = (it ev st).bind (fof g b ev) := rfl
@[simp] theorem fof_f (g : GT) (b : SS) (ev : Ev) (xs : List PyData) (st : Sto) : fof g b ev (.fix xs, st) = forL g b xs ev st := rfl
@[simp] theorem shP_0 : shP false .none = true := rfl
@[simp] theorem shP_1 (i : Int) : shP true (.int i) = true := rfl
@[simp] theorem cTry_ap (i j n : Nat) (fl : Bool) (ce : SE) (c0 : SS) (cx : PyData → SS) (ev : Ev) (st : Sto) : cTry i j n fl ce c0 cx ev st = (ce ev st).bind (ctr i j n fl c0 cx ev) := rfl
@[simp] theorem ctr_ap (i j n : Nat) (fl : Bool) (c0 : SS) (cx : PyData → SS) (ev : Ev) (w : U) (st : Sto) : ctr i j n fl c0 cx ev (w, st) = ctr2 i j n fl c0 cx ev w st (exP w) := rfl
@[simp] theorem ctr2_n (i j n : Nat) (fl : Bool) (c0 : SS) (cx : PyData → SS) (ev : Ev) (w : U) (st : Sto) : ctr2 i j n fl c0 cx ev w st none = c0 (ev.set i (some w)) st := rfl
@[simp] theorem ctr2_s (i j n : Nat) (fl : Bool) (c0 : SS) (cx : PyData → SS) (ev : Ev) (w : U) (st : Sto) (p : PyData) : ctr2 i j n fl c0 cx ev w st (some p) = if shP fl p = true ∧ j < ev.length ∧ n < ev.length then cx p ((ev.set n none).set j none) st else none := rfl
end Cm

set_option Elab.async false
set_option linter.all false
set_option maxRecDepth 100000
set_option maxHeartbeats 2000000
namespace Cm
open PySem PySem.Spec PyProof.Rows L2

/-! ### zip of two sequences of unlike kinds -/
/-- the iterator at it, over the sequence at l, hands the items out one by one -/
structure Draws (P : Program) (w : World) (it l : Addr) (At : Nat → Heap → Prop) (Has : Heap → Prop) (vs : Array Value) : Prop where
  next : ∀ {A : Around} {E : Value → Shared → Prop} {s : Shared} {n : Nat} {v : Value} {R : Value → Shared → Prop}, At n s.heap → Has s.heap → vs[n]? = some v → (∀ g, At (n + 1) g → Heap.SameBut it s.heap g → R v { s with heap := g }) →
    wpAny (model P w) A (Builtin.SmallTypes.nextOf (.ref it)) R E s
  over : ∀ {A : Around} {E : Value → Shared → Prop} {s : Shared} {n : Nat} {R : Value → Shared → Prop}, A.handled = none → At n s.heap → Has s.heap → vs[n]? = none →
    (∀ g e, Heap.ExtBut it s.heap g → (∃ o, g.get? e = some o ∧ o.cls = .type "StopIteration") → E (.ref e) { s with heap := g }) → wpAny (model P w) A (Builtin.SmallTypes.nextOf (.ref it)) R E s
  move : ∀ {n : Nat} {h g : Heap}, At n h → (∀ o, h.get? it = some o → g.get? it = some o) → At n g
  hold : ∀ {h g : Heap}, Has h → (∀ o, h.get? l = some o → g.get? l = some o) → Has g
  there : ∀ {n : Nat} {h : Heap}, At n h → ∃ o, h.get? it = some o ∧ ∀ v, o.data ≠ .cell v
theorem draws_list {P : Program} {w : World} {it l : Addr} {vs : Array Value} : Draws P w it l (fun n h => h.IsListIter it l n) (fun h => h.IsList l vs) vs where
  next := fun a b c k => wpAny_nextOf_list_item a b c k
  over := fun a b c d k => wpAny_nextOf_list_end a b c d k
  move := fun a k => a.at fun o z => k o z
  hold := fun a k => a.at fun o z => k o z
  there := fun ⟨o, e, _, d⟩ => ⟨o, e, fun v z => by rw [d] at z; cases z⟩
theorem draws_tup {P : Program} {w : World} {it l : Addr} {vs : Array Value} : Draws P w it l (fun n h => h.IsTupleIter it l n) (fun h => h.IsTuple l vs) vs where
  next := fun a b c k => RZ.nextOf_tuple_item a b c k
  over := fun a b c d k => RZ.nextOf_tuple_end a b c d k
  move := fun a k => a.at fun o z => k o z
  hold := fun ⟨o, e, r⟩ k => ⟨o, k o e, r⟩
  there := fun ⟨o, e, _, d⟩ => ⟨o, e, fun v z => by rw [d] at z; cases z⟩
section
variable {P : Program} {w : World} {s : Shared} {A : Around} {E : Value → Shared → Prop}
variable {z pI pO a1 a2 q1 q2 : Addr} {M1 M2 : Nat → Heap → Prop} {H1 H2 : Heap → Prop} {us vs : Array Value} {n1 n2 : Nat} {u v b1 b2 : Value}
/-- a turn that gives a pair -/
theorem zipG_item {R : Value → Shared → Prop} (ap : ZipApart z pI pO a1 a2 q1 q2) (W1 : Draws P w a1 q1 M1 H1 us) (W2 : Draws P w a2 q2 M2 H2 vs) (zz : IsZip s.heap z pI pO .none) (zI : IsPair s.heap pI (.ref a1) (.ref a2)) (zO : IsPair s.heap pO b1 b2)
    (m1 : M1 n1 s.heap) (m2 : M2 n2 s.heap) (k1 : H1 s.heap) (k2 : H2 s.heap) (e1 : us[n1]? = some u) (e2 : vs[n2]? = some v)
    (go : ∀ g, IsZip g z pI pO (rawInt s.heap.objs.size) → IsPair g pO u v → M1 (n1 + 1) g → M2 (n2 + 1) g → IsPair g s.heap.objs.size u v → g.objs.size = s.heap.objs.size + 1 →
      (∀ c o, c ≠ z → c ≠ pO → c ≠ a1 → c ≠ a2 → s.heap.get? c = some o → g.get? c = some o) → R (.ref s.heap.objs.size) { s with heap := g }) :
    wpAny (model P w) A (Builtin.«zip.__next__» ⟨[.ref z], []⟩) (fun f t => ∃ y, f = .done (.ret y) ∧ R y t) E s := by
  show wpAny (model P w) A (field (.ref z) 2 >>= _) _ E s
  refine wpAny_bind (wpAny_field zz rfl (x := .bool false) rfl ?_)
  show wpAny (model P w) A (field (.ref z) 3 >>= _) _ E s
  refine wpAny_bind (wpAny_field zz rfl (x := .ref pI) rfl (wpAny_bind (wpAny_seqItems zI rfl ?_)))
  refine wpAny_bind (show wpAny (model P w) A (Builtin.SmallTypes.ownedTupleIsFree (.ref z)) _ E s from ?_); unfold Builtin.SmallTypes.ownedTupleIsFree
  refine wpAny_bind (wpAny_field zz rfl (x := .none) rfl (wpAny_pure ?_))
  simp only [if_true]
  refine wpAny_bind (wpAny_rule (wpAny_bind (wpAny_field zz rfl (x := .ref pO) rfl (wpAny_bind (wpAny_setField_rec zz (by simp) fun g1 zz1 s1 => ?_)))))
  have Z1 : IsZip g1 z pI pO .ellipsis := zz1
  refine wpAny_bind ?_
  simp only [List.forIn_cons, List.zipIdx_cons, List.forIn_nil, List.zipIdx_nil]
  refine wpAny_bind <| wpAny_bind <| wpAny_onRaise ?_
  show wpAny _ _ (Builtin.SmallTypes.nextOf (.ref a1) >>= _) _ _ _
  have x1 : ∀ {c : Addr}, c ≠ z → ∀ o, s.heap.get? c = some o → g1.get? c = some o := fun n o y => s1.extBut _ _ n y
  refine wpAny_bind (W1.next (W1.move m1 (x1 ap.i1z)) (W1.hold k1 (x1 ap.l1z)) e1 fun g2 y1 s2 => wpAny_pure ?_)
  have x2 : ∀ {c : Addr}, c ≠ a1 → ∀ o, g1.get? c = some o → g2.get? c = some o := fun n o y => s2.extBut _ _ n y
  have O2 : IsPair g2 pO b1 b2 := x2 ap.TOi1 _ (x1 ap.TOz _ zO)
  refine wpAny_bind (wpAny_seqItems O2 rfl (wpAny_bind (wpAny_updateSeq_pair O2 fun g3 zO3 s3 => ?_)))
  have O3 : IsPair g3 pO u b2 := zO3
  refine wpAny_bind (wpAny_letGo (wpAny_pure (wpAny_bind (wpAny_bind (wpAny_onRaise ?_)))))
  show wpAny _ _ (Builtin.SmallTypes.nextOf (.ref a2) >>= _) _ _ _
  have x3 : ∀ {c : Addr}, c ≠ pO → ∀ o, g2.get? c = some o → g3.get? c = some o := fun n o y => s3.extBut _ _ n y
  have t3 : ∀ {c : Addr}, c ≠ z → c ≠ a1 → c ≠ pO → ∀ o, s.heap.get? c = some o → g3.get? c = some o := fun p1 p2 p3 o y => x3 p3 o (x2 p2 o (x1 p1 o y))
  refine wpAny_bind (W2.next (W2.move m2 (t3 ap.i2z ap.i12.symm ap.TOi2.symm)) (W2.hold k2 (t3 ap.l2z ap.l2i1 ap.l2TO)) e2 fun g4 y2 s4 => wpAny_pure ?_)
  have x4 : ∀ {c : Addr}, c ≠ a2 → ∀ o, g3.get? c = some o → g4.get? c = some o := fun n o y => s4.extBut _ _ n y
  have O4 : IsPair g4 pO u b2 := x4 ap.TOi2 _ O3
  refine wpAny_bind (wpAny_seqItems O4 rfl (wpAny_bind (wpAny_updateSeq_pair O4 fun g5 zO5 s5 => ?_)))
  have O5 : IsPair g5 pO u v := zO5
  have x5 : ∀ {c : Addr}, c ≠ pO → ∀ o, g4.get? c = some o → g5.get? c = some o := fun n o y => s5.extBut _ _ n y
  refine wpAny_bind (wpAny_letGo (wpAny_pure (wpAny_pure (wpAny_bind (wpAny_seqItems O5 rfl (wpAny_bind (wpAny_newTuple ?_)))))))
  have sz : g5.objs.size = s.heap.objs.size := by rw [s5.1, s4.1, s3.1, s2.1, s1.1]
  have Z5 : IsZip g5 z pI pO .ellipsis := x5 ap.TOz.symm _ (x4 ap.i2z.symm _ (x3 ap.TOz.symm _ (x2 ap.i1z.symm _ Z1)))
  have all5 : ∀ c o, c ≠ z → c ≠ pO → c ≠ a1 → c ≠ a2 → s.heap.get? c = some o → g5.get? c = some o := fun c o p1 p2 p3 p4 y => x5 p2 o (x4 p4 o (t3 p1 p3 p2 o y))
  have y15 : M1 (n1 + 1) g5 := W1.move y1 fun o y => x5 ap.TOi1.symm o (x4 ap.i12 o (x3 ap.TOi1.symm o y))
  have y25 : M2 (n2 + 1) g5 := W2.move y2 fun o y => x5 ap.TOi2.symm o y
  show wpAny _ _ (Builtin.SmallTypes.ownedTupleHandOut (.ref z) (.ref g5.objs.size) >>= _) _ _ _
  refine wpAny_bind ?_; unfold Builtin.SmallTypes.ownedTupleHandOut
  have Z6 : IsZip (g5.push { cls := .type "tuple", data := .seq #[u, v] }) z pI pO .ellipsis := Heap.get?_push_of_some _ Z5
  refine wpAny_bind (wpAny_setField_rec Z6 (by simp) fun g7 zz7 s7 => ?_)
  have Z7 : IsZip g7 z pI pO (rawInt g5.objs.size) := zz7
  refine wpAny_setField_rec Z7 (by simp) fun g8 zz8 s8 => ?_
  have Z8 : IsZip g8 z pI pO (rawInt g5.objs.size) := zz8
  have x8 : ∀ {c : Addr}, c ≠ z → ∀ o, g5.get? c = some o → g8.get? c = some o := fun n o y => s8.extBut _ _ n (s7.extBut _ _ n (Heap.get?_push_of_some _ y))
  have nz : g5.objs.size ≠ z := Nat.ne_of_gt (Heap.lt_size Z5)
  have T8 : IsPair g8 g5.objs.size u v := s8.extBut _ _ nz (s7.extBut _ _ nz (Heap.get?_push_size _ rfl))
  have sz8 : g8.objs.size = g5.objs.size + 1 := by rw [s8.1, s7.1, Heap.size_push]
  rw [sz] at Z8 T8 sz8
  refine wpAny_pure (Exists.intro _ (And.intro rfl ?_))
  show R (.ref g5.objs.size) _
  rw [sz]
  exact go g8 Z8 (x8 ap.TOz _ O5) (W1.move y15 (x8 ap.i1z)) (W2.move y25 (x8 ap.i2z)) T8 sz8 fun c o p1 p2 p3 p4 y => x8 p1 o (all5 c o p1 p2 p3 p4 y)
/-- the last turn -/
theorem zipG_end {R : Fin → Shared → Prop} (hh : A.handled = none) (ap : ZipApart z pI pO a1 a2 q1 q2) (W1 : Draws P w a1 q1 M1 H1 us) (W2 : Draws P w a2 q2 M2 H2 vs) (zz : IsZip s.heap z pI pO .none) (zI : IsPair s.heap pI (.ref a1) (.ref a2)) (zO : IsPair s.heap pO b1 b2)
    (m1 : M1 n1 s.heap) (m2 : M2 n2 s.heap) (k1 : H1 s.heap) (k2 : H2 s.heap) (ee : us[n1]? = none ∨ vs[n2]? = none)
    (go : ∀ g e, (∀ c o, c ≠ z → c ≠ pO → c ≠ a1 → c ≠ a2 → s.heap.get? c = some o → g.get? c = some o) → (∃ o, g.get? e = some o ∧ o.cls = .type "StopIteration") → E (.ref e) { s with heap := g }) :
    wpAny (model P w) A (Builtin.«zip.__next__» ⟨[.ref z], []⟩) R E s := by
  show wpAny (model P w) A (field (.ref z) 2 >>= _) _ E s
  refine wpAny_bind (wpAny_field zz rfl (x := .bool false) rfl ?_)
  show wpAny (model P w) A (field (.ref z) 3 >>= _) _ E s
  refine wpAny_bind (wpAny_field zz rfl (x := .ref pI) rfl (wpAny_bind (wpAny_seqItems zI rfl ?_)))
  refine wpAny_bind (show wpAny (model P w) A (Builtin.SmallTypes.ownedTupleIsFree (.ref z)) _ E s from ?_); unfold Builtin.SmallTypes.ownedTupleIsFree
  refine wpAny_bind (wpAny_field zz rfl (x := .none) rfl (wpAny_pure ?_))
  simp only [if_true]
  refine wpAny_bind (wpAny_rule (wpAny_bind (wpAny_field zz rfl (x := .ref pO) rfl (wpAny_bind (wpAny_setField_rec zz (by simp) fun g1 zz1 s1 => ?_)))))
  have Z1 : IsZip g1 z pI pO .ellipsis := zz1
  refine wpAny_bind ?_
  simp only [List.forIn_cons, List.zipIdx_cons, List.forIn_nil, List.zipIdx_nil]
  refine wpAny_bind <| wpAny_bind <| wpAny_onRaise ?_
  show wpAny _ _ (Builtin.SmallTypes.nextOf (.ref a1) >>= _) _ _ _
  have x1 : ∀ {c : Addr}, c ≠ z → ∀ o, s.heap.get? c = some o → g1.get? c = some o := fun n o y => s1.extBut _ _ n y
  have stop : ∀ {g : Heap} {e : Addr}, IsZip g z pI pO .ellipsis → (∃ o, g.get? e = some o ∧ o.cls = .type "StopIteration") → e ≠ z := fun {g e} y ⟨o, y1, y2⟩ n => by
    subst n
    rw [y] at y1
    cases y1
    simp at y2
  cases hu : us[n1]? with
  | none =>
    refine wpAny_bind (W1.over hh (W1.move m1 (x1 ap.i1z)) (W1.hold k1 (x1 ap.l1z)) hu fun g2 e s2 he => ?_)
    have Z2 : IsZip g2 z pI pO .ellipsis := s2 _ _ ap.i1z.symm Z1
    have ne := stop Z2 he
    obtain ⟨o, y1, y2⟩ := he
    exact wpAny_setField_rec Z2 (by simp) fun g3 _ s3 => go g3 e (fun c p o1 _ o3 _ y => s3.extBut _ _ o1 (s2 _ _ o3 (x1 o1 p y))) ⟨o, s3.extBut _ _ ne y1, y2⟩
  | some u =>
    have hv : vs[n2]? = none := ee.resolve_left (by rw [hu]; exact fun y => nomatch y)
    refine wpAny_bind (W1.next (W1.move m1 (x1 ap.i1z)) (W1.hold k1 (x1 ap.l1z)) hu fun g2 y1 s2 => wpAny_pure ?_)
    have x2 : ∀ {c : Addr}, c ≠ a1 → ∀ o, g1.get? c = some o → g2.get? c = some o := fun n o y => s2.extBut _ _ n y
    have O2 : IsPair g2 pO b1 b2 := x2 ap.TOi1 _ (x1 ap.TOz _ zO)
    refine wpAny_bind (wpAny_seqItems O2 rfl (wpAny_bind (wpAny_updateSeq_pair O2 fun g3 zO3 s3 => ?_)))
    refine wpAny_bind (wpAny_letGo (wpAny_pure (wpAny_bind (wpAny_bind (wpAny_onRaise ?_)))))
    show wpAny _ _ (Builtin.SmallTypes.nextOf (.ref a2) >>= _) _ _ _
    have x3 : ∀ {c : Addr}, c ≠ pO → ∀ o, g2.get? c = some o → g3.get? c = some o := fun n o y => s3.extBut _ _ n y
    have t3 : ∀ {c : Addr}, c ≠ z → c ≠ a1 → c ≠ pO → ∀ o, s.heap.get? c = some o → g3.get? c = some o := fun p1 p2 p3 o y => x3 p3 o (x2 p2 o (x1 p1 o y))
    refine wpAny_bind (W2.over hh (W2.move m2 (t3 ap.i2z ap.i12.symm ap.TOi2.symm)) (W2.hold k2 (t3 ap.l2z ap.l2i1 ap.l2TO)) hv fun g4 e s4 he => ?_)
    have Z4 : IsZip g4 z pI pO .ellipsis := s4 _ _ ap.i2z.symm (x3 ap.TOz.symm _ (x2 ap.i1z.symm _ Z1))
    have ne := stop Z4 he
    obtain ⟨o, w1, w2⟩ := he
    exact wpAny_setField_rec Z4 (by simp) fun g5 _ s5 => go g5 e (fun c p o1 o2 o3 o4 y => s5.extBut _ _ o1 (s4 _ _ o4 (t3 o1 o3 o2 p y))) ⟨o, s5.extBut _ _ ne w1, w2⟩
theorem nextG_item {R : Option Value → Shared → Prop} (ap : ZipApart z pI pO a1 a2 q1 q2) (W1 : Draws P w a1 q1 M1 H1 us) (W2 : Draws P w a2 q2 M2 H2 vs) (zz : IsZip s.heap z pI pO .none) (zI : IsPair s.heap pI (.ref a1) (.ref a2)) (zO : IsPair s.heap pO b1 b2)
    (m1 : M1 n1 s.heap) (m2 : M2 n2 s.heap) (k1 : H1 s.heap) (k2 : H2 s.heap) (e1 : us[n1]? = some u) (e2 : vs[n2]? = some v)
    (go : ∀ g, IsZip g z pI pO (rawInt s.heap.objs.size) → IsPair g pO u v → M1 (n1 + 1) g → M2 (n2 + 1) g → IsPair g s.heap.objs.size u v → g.objs.size = s.heap.objs.size + 1 →
      (∀ c o, c ≠ z → c ≠ pO → c ≠ a1 → c ≠ a2 → s.heap.get? c = some o → g.get? c = some o) → R (some (.ref s.heap.objs.size)) { s with heap := g }) : wpAny (model P w) A (pyNext (.ref z)) R E s := by
  have ty : s.TypeIs (.ref z) "zip" := ⟨_, zz, rfl⟩
  unfold pyNext
  exact wpAny_bind (wpAny_attempt (wpAny_callSpecial?_slot (name := Str.ofString "__next__") ty F.slot_zip_next (wpAny_call_entry F.slot_zip_next ty F.entry_zip_next
    (zipG_item ap W1 W2 zz zI zO m1 m2 k1 k2 e1 e2 fun g p1 p2 p3 p4 p5 p6 p7 => wpAny_pure (go g p1 p2 p3 p4 p5 p6 p7)) (F.args_zip_next_1 _))))
theorem nextG_end {R : Option Value → Shared → Prop} (hh : A.handled = none) (ap : ZipApart z pI pO a1 a2 q1 q2) (W1 : Draws P w a1 q1 M1 H1 us) (W2 : Draws P w a2 q2 M2 H2 vs) (zz : IsZip s.heap z pI pO .none) (zI : IsPair s.heap pI (.ref a1) (.ref a2)) (zO : IsPair s.heap pO b1 b2)
    (m1 : M1 n1 s.heap) (m2 : M2 n2 s.heap) (k1 : H1 s.heap) (k2 : H2 s.heap) (ee : us[n1]? = none ∨ vs[n2]? = none)
    (go : ∀ g, (∀ c o, c ≠ z → c ≠ pO → c ≠ a1 → c ≠ a2 → s.heap.get? c = some o → g.get? c = some o) → R none { s with heap := g }) : wpAny (model P w) A (pyNext (.ref z)) R E s := by
  have ty : s.TypeIs (.ref z) "zip" := ⟨_, zz, rfl⟩
  unfold pyNext
  refine wpAny_bind (wpAny_attempt (wpAny_callSpecial?_slot (name := Str.ofString "__next__") ty F.slot_zip_next (wpAny_call_entry F.slot_zip_next ty F.entry_zip_next
    (zipG_end hh ap W1 W2 zz zI zO m1 m2 k1 k2 ee fun g e keep st => ?_) (F.args_zip_next_1 _))))
  obtain ⟨o, y1, y2⟩ := st
  exact wpAny_bind (wpAny_isInstance (T := "StopIteration") (b := true) ⟨o, y1, y2⟩ isSubtype_stop (wpAny_pure (go _ keep)))
end
/-! a list and a tuple -/
/-- the list at a, the tuple at b as they stand at each turn, the items in new pairs -/
def ItM (K : PySem.W.Frag) (a b : Addr) : It :=
  ⟨fun i H => ∃ (xs ys : List V) (x y : V), SqL K H a xs ∧ SqT K H b ys ∧ xs[i]? = some x ∧ ys[i]? = some y,
    fun i H v G => ∃ T x y, v = .ref T ∧ H T = none ∧ G = upd H T (.tup [x, y]) ∧ (∀ xs, SqL K H a xs → xs[i]? = some x) ∧ ∀ ys, SqT K H b ys → ys[i]? = some y,
    fun i H => ∃ xs ys : List V, SqL K H a xs ∧ SqT K H b ys ∧ (xs.length ≤ i ∨ ys.length ≤ i)⟩
/-- the five objects of a zip -/
theorem five {c p1 p2 p3 p4 p5 : Addr} (h : c ∈ [p1, p2, p3, p4, p5]) {Q : Addr → Prop} (g1 : Q p1) (g2 : Q p2) (g3 : Q p3) (g4 : Q p4) (g5 : Q p5) : Q c := by
  simp only [List.mem_cons, List.not_mem_nil, or_false] at h
  rcases h with rfl | rfl | rfl | rfl | rfl <;> assumption
theorem turn_M {P : Program} {w : World} {K : PySem.W.Frag} {elts : List Expr} {kk : Nat} {tpos : Pos} {a b z pI pO a1 a2 : Addr} (ap : ZipApart z pI pO a1 a2 a b) :
    Turn P w K (.Tuple elts kk tpos) (ItM K a b) [z, pI, pO, a1, a2] z (fun n h => IsZip h z pI pO .none ∧ IsPair h pI (.ref a1) (.ref a2) ∧ (∃ x y, IsPair h pO x y) ∧ h.IsListIter a1 a n ∧ h.IsTupleIter a2 b n) where
  mem := List.mem_cons_self
  obj := fun n h ⟨zz, zI, ⟨x, y, zO⟩, m1, m2⟩ c hc => five hc (Q := fun c => ∃ o, h.get? c = some o ∧ ∀ v, o.data ≠ .cell v) ⟨_, zz, fun v q => nomatch q⟩ ⟨_, zI, fun v q => nomatch q⟩ ⟨_, zO, fun v q => nomatch q⟩
    ((draws_list (P := P) (w := w) (vs := #[])).there m1) ((draws_tup (P := P) (w := w) (vs := #[])).there m2)
  keep := fun n h g ⟨zz, zI, ⟨x, y, zO⟩, m1, m2⟩ k =>
    ⟨k z (by simp) _ zz, k pI (by simp) _ zI, ⟨x, y, k pO (by simp) _ zO⟩, m1.at fun o q => k a1 (by simp) o q, m2.at fun o q => k a2 (by simp) o q⟩
  item := by
    intro X eP ew eK calm n pins s σ H E I fr st yes
    subst eP ew eK
    obtain ⟨zz, zI, ⟨x0, y0, zO⟩, m1, m2⟩ := st
    obtain ⟨xs, ys, x, y, qx, qy, gx, gy⟩ := yes
    obtain ⟨us, ru, pu, _⟩ := I.list qx
    obtain ⟨ws, rw', pw, _⟩ := I.tuple qy
    obtain ⟨u, hu, ux⟩ := ru.get gx
    obtain ⟨v, hv, vy⟩ := rw'.get gy
    have low : z < s.heap.objs.size := Heap.lt_size zz
    refine nextG_item ap draws_list draws_tup zz zI zO m1 m2 (us := us.toArray) (vs := ws.toArray) pu.isList pw (u := u) (v := v) (by simpa using hu) (by simpa using hv) fun g zg Og n1 n2 Tg szg keep => ?_
    refine ⟨_, rfl, wpAny_letOwnedTupleGo_zip (s := { s with heap := g }) zg fun g2 zg2 sb => ?_⟩
    have T2 : g2.get? s.heap.objs.size = some { cls := .type "tuple", data := .seq #[u, v] } := (sb.2 _ (Nat.ne_of_gt low)).trans Tg
    have made : ObjOk X.prog X.w (upd H s.heap.objs.size (.tup [x, y])) g2 s.heap.objs.size (.tup [x, y]) := ⟨lim_le (by decide : 2 ≤ lim), [u, v], .cons ux (.cons vy .nil), ⟨_, T2, rfl, _, rfl⟩⟩
    have J : Inv X pins σ (upd H s.heap.objs.size (.tup [x, y])) { s with heap := g2 } := I.turnedNew (t' := s.toks) (ch := [z, pI, pO, a1, a2]) (fun c o nc q => by
      have d : ∀ e ∈ [z, pI, pO, a1, a2], c ≠ e := fun e he ce => nc (ce ▸ he)
      exact (sb.2 c (d z (by simp))).trans (keep c o (d z (by simp)) (d pO (by simp)) (d a1 (by simp)) (d a2 (by simp)) q)) fr (Nat.le_refl _) made
    refine ⟨.ref s.heap.objs.size, _, J, rfl, ⟨_, x, y, rfl, I.hok.fresh (Nat.le_refl _), rfl, fun l hl => by rw [I.list_inj hl qx]; exact gx, fun l hl => by rw [I.tuple_inj hl qy]; exact gy⟩,
      ⟨zg2, (sb.2 _ ap.TIz).trans (keep _ _ ap.TIz ap.TITO ap.TIi1 ap.TIi2 zI), ⟨u, v, (sb.2 _ ap.TOz).trans Og⟩, n1.at fun o q => (sb.2 _ ap.i1z).trans q, n2.at fun o q => (sb.2 _ ap.i2z).trans q⟩, fun c hc => ?_⟩
    have below : c < s.heap.objs.size := by
      obtain ⟨o1, f1, _⟩ := m1
      obtain ⟨o2, f2, _⟩ := m2
      exact five hc (Q := fun c => c < s.heap.objs.size) low (Heap.lt_size zI) (Heap.lt_size zO) (Heap.lt_size f1) (Heap.lt_size f2)
    rw [upd_ne (Nat.ne_of_lt below)]
    exact (fr c hc).1
  done := by
    intro X eP ew eK calm n pins s σ H E I fr st yes
    subst eP ew eK
    obtain ⟨zz, zI, ⟨x0, y0, zO⟩, m1, m2⟩ := st
    obtain ⟨xs, ys, qx, qy, fin⟩ := yes
    obtain ⟨us, ru, pu, _⟩ := I.list qx
    obtain ⟨ws, rw', pw, _⟩ := I.tuple qy
    have c1 := ru.length
    have c2 := rw'.length
    have ee : us.toArray[n]? = none ∨ ws.toArray[n]? = none := fin.imp (fun q => by simp; omega) fun q => by simp; omega
    refine nextG_end (I.ok.hd calm) ap draws_list draws_tup zz zI zO m1 m2 pu.isList pw ee fun g keep => ⟨rfl, I.turnedL (t' := s.toks) (ch := [z, pI, pO, a1, a2]) (fun c o nc q => ?_) fr⟩
    have d : ∀ e ∈ [z, pI, pO, a1, a2], c ≠ e := fun e he ce => nc (ce ▸ he)
    exact keep c o (d z (by simp)) (d pO (by simp)) (d a1 (by simp)) (d a2 (by simp)) q
  self := fun A n s Q E ⟨zz, _⟩ h => wpAny_pyIter_zip zz h
section
abbrev mz1 (h : Heap) (a : Addr) : Heap := h.push { cls := .type "list_iterator", data := .fields #[.ref a, .int 0 0] }
abbrev mz2 (h : Heap) (a b : Addr) : Heap := (mz1 h a).push { cls := .type "tuple_iterator", data := .fields #[.ref b, .int 0 0] }
abbrev mz3 (h : Heap) (a b : Addr) : Heap := (mz2 h a b).push { cls := .type "tuple", data := .seq #[.ref h.objs.size, .ref (mz1 h a).objs.size] }
abbrev mz4 (h : Heap) (a b : Addr) : Heap := (mz3 h a b).push { cls := .type "tuple", data := .seq #[.none, .none] }
abbrev mz5 (h : Heap) (a b : Addr) : Heap := (mz4 h a b).push { cls := .type "zip", data := .fields #[.none, .bool false, .bool false, .ref (mz2 h a b).objs.size, .ref (mz3 h a b).objs.size] }
theorem mz_new (a b : Addr) (us vs : Array Value) : Meets (Builtin.«zip.__new__» ⟨[.type "zip", .ref a, .ref b], []⟩) (fun _ R s => s.heap.IsList a us ∧ s.heap.IsTuple b vs ∧ R (.ok (.ret (.ref (mz4 s.heap a b).objs.size))) { s with heap := mz5 s.heap a b }) :=
  .of_wp fun P w A R s ⟨la, tb, h⟩ => by
    obtain ⟨hp, gl, dp, tk, os⟩ := s
    have hsub := sub_zip
    have L1 : Heap.IsList (Shared.heap ⟨hp, gl, dp, tk, os⟩) a us := la
    have L2 : Heap.IsTuple (Shared.heap ⟨hp.push { cls := .type "list_iterator", data := .fields #[.ref a, .int 0 0] }, gl, dp, tk, os⟩) b vs := Heap.IsTuple.push tb _
    wp_walk using wpAny_pyIter_list L1, wpAny_pyIter_tuple L2
    exact ⟨_, rfl, h⟩
theorem mz_call {P : Program} {w : World} {A : Around} {E : Value → Shared → Prop} {s : Shared} {a b : Addr} {us vs : Array Value} {Q : Value → Shared → Prop} (la : s.heap.IsList a us) (tb : s.heap.IsTuple b vs)
    (h : ∀ g, IsZip g (s.heap.objs.size + 4) (s.heap.objs.size + 2) (s.heap.objs.size + 3) .none → IsPair g (s.heap.objs.size + 2) (.ref s.heap.objs.size) (.ref (s.heap.objs.size + 1)) →
      IsPair g (s.heap.objs.size + 3) .none .none → g.IsListIter s.heap.objs.size a 0 → g.IsTupleIter (s.heap.objs.size + 1) b 0 → (∀ c o, s.heap.get? c = some o → g.get? c = some o) → Q (.ref (s.heap.objs.size + 4)) { s with heap := g }) :
    wpAny (model P w) A (call (.type "zip") [.ref a, .ref b]) Q E s := by
  refine callType_new F.called_zip (by decide) (F.typeCall_zip_2 _ _) (F.newCall_zip_2 _ _) (fun o => F.args_object_init_3 o _ _) F.entry_zip_new (mz_new a b us vs) ⟨la, tb, ?_⟩
  have c1 : (mz1 s.heap a).objs.size = s.heap.objs.size + 1 := Heap.size_push ..
  have c2 : (mz2 s.heap a b).objs.size = s.heap.objs.size + 2 := by rw [Heap.size_push, c1]
  have c3 : (mz3 s.heap a b).objs.size = s.heap.objs.size + 3 := by rw [Heap.size_push, c2]
  have c4 : (mz4 s.heap a b).objs.size = s.heap.objs.size + 4 := by rw [Heap.size_push, c3]
  have up : ∀ {h : Heap} {c : Addr} {o o2 : Obj}, h.get? c = some o → (h.push o2).get? c = some o := fun y => Heap.get?_push_of_some _ y
  have d5 : (mz5 s.heap a b).get? (mz4 s.heap a b).objs.size = some _ := Heap.get?_push_size _ rfl
  have d4 : (mz5 s.heap a b).get? (mz3 s.heap a b).objs.size = some _ := up (Heap.get?_push_size _ rfl)
  have d3 : (mz5 s.heap a b).get? (mz2 s.heap a b).objs.size = some _ := up (up (Heap.get?_push_size _ rfl))
  have d2 : (mz5 s.heap a b).get? (mz1 s.heap a).objs.size = some _ := up (up (up (Heap.get?_push_size _ rfl)))
  have d1 : (mz5 s.heap a b).get? s.heap.objs.size = some _ := up (up (up (up (Heap.get?_push_size _ rfl))))
  show _ ∧ _
  rw [c2, c3, c4] at d5
  rw [c1, c2] at d3
  rw [c3] at d4
  rw [c1] at d2
  rw [c4]
  exact ⟨⟨_, d5, rfl⟩, h _ d5 d3 d4 ⟨_, d1, rfl, rfl⟩ ⟨_, d2, rfl, rfl⟩ fun c o y => up (up (up (up (up y))))⟩
end
/-- zip(list, tuple) -/
def iZM0 (K : PySem.W.Frag) (ta : TA) : TI := fun σ H R => ta σ H fun vs H1 => ∃ a b xs ys, vs = [.ref a, .ref b] ∧ SqL K H1 a xs ∧ SqT K H1 b ys ∧ R (ItM K a b) H1
theorem pi_zipM {X : Cx} {e e2 : Expr} {ta : TA} {p pos tpos : Pos} {elts : List Expr} {kk : Nat} (hg : Gl X "zip") (hm : X.mg "zip" = none) (ha : PA X [e, e2] ta) (hs : Bare1 X e [e2] := by rfl) (hpl : NoStar X [e2] pos := by rfl) :
    PI X (.Tuple elts kk tpos) (.Call (.Name "zip" p) [e, e2] [] pos) (iZM0 X.K ta) := by
  refine .mk fun pins s σ H R I h => ?_
  refine Call_ (ld_blt I hg hm PyProof.Rows.boot_zip (PyProof.Rows.callWith_type1 (thn (ha.run pos pins s σ H _ I h) fun us s1 ⟨vs, H1, I1, r1, a, b, xs, ys, ev, qx, qy, go⟩ => ?_) hs hpl))
  subst ev
  cases r1 with
  | cons r rr =>
    cases rr with
    | cons r2 rr =>
      cases rr
      cases r
      cases r2
      obtain ⟨ls, _, pl, _⟩ := I1.list qx
      obtain ⟨ts, _, pt, _⟩ := I1.tuple qy
      obtain ⟨o2, ho2, _⟩ := id pt
      have new5 : ∀ c, c ∈ [s1.heap.objs.size + 4, s1.heap.objs.size + 2, s1.heap.objs.size + 3, s1.heap.objs.size, s1.heap.objs.size + 1] → FpOk X pins H1 c := fun c hc => by
        have le : s1.heap.objs.size ≤ c := five hc (Q := fun c => s1.heap.objs.size ≤ c) (Nat.le_add_right _ _) (Nat.le_add_right _ _) (Nat.le_add_right _ _) (Nat.le_refl _) (Nat.le_add_right _ _)
        exact I1.fpOk le (I1.hok.fresh le)
      refine mz_call pl.isList (show s1.heap.IsTuple b ts.toArray from pt) fun g zz zI zO m1 m2 keep => wpAny_pyIter_zip zz ?_
      exact ⟨s1.heap.objs.size + 4, [s1.heap.objs.size + 4, s1.heap.objs.size + 2, s1.heap.objs.size + 3, s1.heap.objs.size, s1.heap.objs.size + 1], _, _, H1, rfl, I1.kept (t' := s1.toks) keep,
        turn_M (PySem.W.ktu_apart s1.heap.objs.size a b pl.lt (Heap.lt_size ho2)), ⟨zz, zI, ⟨_, _, zO⟩, m1, m2⟩, new5, go⟩
theorem walk_M {K : PySem.W.Frag} {a b : Addr} {xs ys : List V} {n : Nat} (hn : n = min xs.length ys.length) : Walk (ItM K a b) n (fun H => SqL K H a xs ∧ SqT K H b ys) (YPair (fun i => xs[i]?) (fun i => ys[i]?)) := by
  subst hn
  refine ⟨fun i H hi q => ?_, fun H q => ⟨xs, ys, q.1, q.2, by omega⟩, fun i H v H' _ q ⟨T, x, z, t1, t2, t3, px, pz⟩ => ⟨T, x, z, t1, t2, t3, px xs q.1, pz ys q.2⟩⟩
  obtain ⟨lx, ly⟩ := Nat.lt_min.mp hi
  exact ⟨xs, ys, _, _, q.1, q.2, List.getElem?_eq_getElem lx, List.getElem?_eq_getElem ly⟩
def zipm1 : List U × Sto → Option (Src × Sto)
  | ([.d (.list xs), .d (.tuple ys)], st) => some (.fix (zipD xs ys), st)
  | _ => none
/-- zip of a list and a tuple -/
def iZipM (a : SA) : SI := fun ev st => (a ev st).bind zipm1
section
variable {X : Cx} {e1 e2 : Expr} {sa : SA} {p pos tpos : Pos} {elts : List Expr} {kk : Nat}
theorem i_zipM (hg : Gl X "zip") (hm : X.mg "zip" = none) (ha : PA X [e1, e2] (tA X.K sa)) (hs : Bare1 X e1 [e2] := by rfl) (hpl : NoStar X [e2] pos := by rfl) :
    PI X (.Tuple elts kk tpos) (.Call (.Name "zip" p) [e1, e2] [] pos) (tIt X.K (iZipM sa)) :=
  L2.PI.weak (pi_zipM hg hm ha hs hpl) fun σ H R ⟨ρ, F, ev, st, src, st', hr, sr, e, post⟩ => by
    obtain ⟨⟨ws, st1⟩, e1, e2⟩ := Option.bind_eq_some_iff.mp (show (sa ev st).bind zipm1 = some (src, st') from e)
    refine ⟨ρ, F, ev, st, ws, st1, hr, sr, e1, fun vs ρ' F' H' x hr' wr => ?_⟩
    unfold zipm1 at e2
    split at e2
    · rename_i xs ys st2 q
      cases q
      cases e2
      cases wr with
      | cons w1 t =>
        cases t with
        | cons w2 t =>
          cases t
          cases w1 with
          | lst h1 c1 =>
            cases w2 with
            | tup h2 c2 =>
              refine ⟨_, _, _, _, rfl, SqL.of (hr'.sub _ _ h1), SqT.of (hr'.sub _ _ h2), post _ ρ' F' H' x hr' ?_⟩
              refine yld_pair (walk_M rfl) (by simp [zipD, c1.length, c2.length]) (fun F1 H s1 s2 => ⟨SqL.of (s2 _ _ (s1 _ _ h1 (nfl (fun _ q => nomatch q) fun _ q => nomatch q))), SqT.of (s2 _ _ (s1 _ _ h2 (nfl (fun _ q => nomatch q) fun _ q => nomatch q)))⟩) fun i d u v e y1 y2 => ?_
              obtain ⟨a, b, k1, k2, k3⟩ := zipWith_get e
              obtain ⟨u', k4, k5⟩ := c1.get' k1
              obtain ⟨v', k6, k7⟩ := c2.get' k2
              cases y1.symm.trans k4
              cases y2.symm.trans k6
              exact ⟨a, b, k3, k5, k7⟩
    · cases e2
/-- zip of two sequences, a list or a tuple each, but (tuple, list) -/
def iZipA (a : SA) : SI := fun ev st => (iZip2 a ev st).or (iZipM a ev st)
theorem i_zipA (hg : Gl X "zip") (hm : X.mg "zip" = none) (ha : PA X [e1, e2] (tA X.K sa)) (hs : Bare1 X e1 [e2] := by rfl) (hpl : NoStar X [e2] pos := by rfl) :
    PI X (.Tuple elts kk tpos) (.Call (.Name "zip" p) [e1, e2] [] pos) (tIt X.K (iZipA sa)) :=
  PI.or (i_zip hg hm ha hs hpl) (i_zipM hg hm ha hs hpl) fun σ H R ⟨ρ, F, ev, st, src, st', hr, sr, e, post⟩ => by
    rcases Option.or_eq_some_iff.mp (show (iZip2 sa ev st).or (iZipM sa ev st) = some (src, st') from e) with e | ⟨_, e⟩
    · exact .inl ⟨ρ, F, ev, st, src, st', hr, sr, e, post⟩
    · exact .inr ⟨ρ, F, ev, st, src, st', hr, sr, e, post⟩
end
def zipb : List U × Sto → Option (Src × Sto)
  | ([.d (.list xs), .d (.list ys)], st) => some (.fix (zipD xs ys), st)
  | ([.d (.tuple xs), .d (.tuple ys)], st) => some (.fix (zipD xs ys), st)
  | ([.d (.list xs), .d (.tuple ys)], st) => some (.fix (zipD xs ys), st)
  | _ => none
@[simp] theorem zipb_ll (xs ys : List PyData) (s : Sto) : zipb ([.d (.list xs), .d (.list ys)], s) = some (.fix (zipD xs ys), s) := rfl
@[simp] theorem zipb_tt (xs ys : List PyData) (s : Sto) : zipb ([.d (.tuple xs), .d (.tuple ys)], s) = some (.fix (zipD xs ys), s) := rfl
@[simp] theorem zipb_lt (xs ys : List PyData) (s : Sto) : zipb ([.d (.list xs), .d (.tuple ys)], s) = some (.fix (zipD xs ys), s) := rfl
@[simp] theorem iZipA_ap (a : SA) (ev : Ev) (st : Sto) : iZipA a ev st = (a ev st).bind zipb := by
  unfold iZipA
  rw [iZip2_ap]
  show ((a ev st).bind zipa).or ((a ev st).bind zipm1) = _
  cases a ev st with
  | none => rfl
  | some q =>
    obtain ⟨ws, s⟩ := q
    show (zipa (ws, s)).or (zipm1 (ws, s)) = zipb (ws, s)
    unfold zipa zipm1 zipb
    split <;> split <;> split <;> simp_all
end Cm

set_option Elab.async false
set_option linter.all false
set_option maxRecDepth 100000
set_option maxHeartbeats 4000000
namespace Cm
open PySem PySem.Spec PyProof.Rows L2

/-! ### an exception that passes on through a def's own rows -/
/-- what is sure to raise: its wish alone -/
def tXp (K : PySem.W.Frag) (k : XCls) (W : WX) (ce : SE) (σ : L2.St) (H : Hp) : Prop := ∃ ρ F ev st w st' p, HR ρ F H st ∧ SR K ρ F ev σ ∧ ce ev st = some (w, st') ∧ exP w = some p ∧ ∀ ρ' F' H', Ext ρ F ρ' F' → HR ρ' F' H' st' → exQ k.C k.f p (fun cls d G => W cls d σ G) H'
def xfOf (a : SS) (ev : Ev) (st : Sto) (q : U × Sto) : Option Out := match exP q.1 with
  | some _ => some (.rt q.1 q.2)
  | none => a ev st
/-- a row whose first call may raise: the call with its exceptions, the row without them -/
def cXf (ce : SE) (a : SS) : SS := fun ev st => (ce ev st).bind (xfOf a ev st)
@[simp] theorem cXf_ap (ce : SE) (a : SS) (ev : Ev) (st : Sto) : cXf ce a ev st = (ce ev st).bind (xfOf a ev st) := rfl
theorem xfOf_no {a : SS} {ev : Ev} {st : Sto} {q : U × Sto} (h : exP q.1 = none) : xfOf a ev st q = a ev st := by
  unfold xfOf
  rw [h]
theorem xfOf_x {a : SS} {ev : Ev} {st st' : Sto} {p : PyData} : xfOf a ev st (.d (exM p), st') = some (.rt (.d (exM p)) st') := rfl
section
variable {X : Cx} {k : XCls} {W : WX} {fn : Str} {st : Stmt} {ps : List Str} {fs : FS} {a b e : Expr} {es : List Expr} {s : Stmt} {sa : SA} {ce : SE} {cs : SS} {m : Nat} {pf pc pos : Pos}
theorem xp_call (c : CalX X.prog X.w X.K X.mg X.base m fn st ps k fs) (tk : Takes X W) (hr : Room m X.A) (hg : Gl X fn) (ha : PA X (e :: es) (tA X.K sa)) (hd1 : NotDbg fn := by decide) (he : Bare1 X e es := by rfl) (hpl : NoStar X es pc := by rfl) :
    PE X (.Call (.Name fn pf) (e :: es) [] pc) (fun σ H _ => tXp X.K k W (cDef ps.length fs sa) σ H) := by
  obtain ⟨f, fd, F, hmf, G, hb⟩ := c.ex
  refine (pe_callS F hr hg hmf G.kp hb (fun σ => passAt tk σ) ha hd1 he hpl).weak fun σ H Q ⟨ρ, F0, ev, st0, w, st', p, hr0, sr, e0, z, go⟩ => ?_
  refine defx_ok (X := X) ⟨ρ, F0, ev, st0, w, st', hr0, sr, e0, fun v ρ' F' H' x' hr' wr => (no_mark wr z).elim, fun p2 z2 ρ' F' H' x' hr' => ?_⟩
  rw [z] at z2
  cases z2
  exact go ρ' F' H' x' hr'
theorem xp_ix {t : L2.St → Hp → Prop} (ha : PE X a (fun σ H _ => t σ H)) (hs : PlainIx b) (hb : PE X b (fun _ _ _ => False) := by exact ⟨fun _ _ _ _ _ _ z => z.elim⟩) : PE X (.Subscript a b pos) (fun σ H _ => t σ H) :=
  (pe_ix ix_list ha hb hs).weak fun _ _ _ h => h
theorem xp_expr {t : L2.St → Hp → Prop} (he : PE X e (fun σ H _ => t σ H)) (hs : swapsWith e none pos.line X.env = pure false := by rfl) : PS X (.Expr e pos) (fun _ σ H => t σ H) :=
  (ps_expr he hs).weak fun _ _ _ h => h
theorem xp_par3 {t : L2.St → Hp → Prop} {i j l : Nat} {x y z : Str} {a2 a3 : Expr} {px py pz pt : Pos} {kt k2 pt2} (hc : X.calm = true) (hN : X.N.Nodup) (hi : X.N[i]? = some x) (hj : X.N[j]? = some y) (hl : X.N[l]? = some z) (hij : i ≠ j) (hil : i ≠ l) (hjl : j ≠ l)
    (hx : X.env.scope.names.lookup x = some .local) (hy : X.env.scope.names.lookup y = some .local) (hz : X.env.scope.names.lookup z = some .local) (ha : PE X a (fun σ H _ => t σ H))
    (hw : Swaps X (.Tuple [.Name x px, .Name y py, .Name z pz] kt pt) (.Tuple [a, a2, a3] k2 pt2) (some [x, y, z]))
    (h1 : Bare1 X a [a2, a3] := by rfl) (h2 : Bare1 X a2 [a3] := by rfl) (h3 : Bare1 X a3 [] := by rfl)
    (hs : NoSole X (.Tuple [.Name x px, .Name y py, .Name z pz] kt pt) (.Tuple [a, a2, a3] k2 pt2) pos := by rfl) (g2 : PE X a2 (fun _ _ _ => False) := by exact ⟨fun _ _ _ _ _ _ z => z.elim⟩) (g3 : PE X a3 (fun _ _ _ => False) := by exact ⟨fun _ _ _ _ _ _ z => z.elim⟩) :
    PS X (.Assign [.Tuple [.Name x px, .Name y py, .Name z pz] kt pt] (.Tuple [a, a2, a3] k2 pt2) pos) (fun _ σ H => t σ H) :=
  (ps_par3 hc hN hi hj hl hij hil hjl hx hy hz (pa_cons ha (pa_cons g2 (pa_cons g3 pa_nil h3) h2) h1) hw hs).weak fun _ _ _ h => h
theorem x_or (h1 : PS X s (fun _ σ H => tXp X.K k W ce σ H)) (h2 : PS X.nox s (tSS X.K cs)) : PS X s (tXS X.K k W (cXf ce cs)) := by
  refine ⟨fun pins sh σ H D I ⟨ρ, F, ev, st, o, hr, sr, e, ok⟩ => ?_⟩
  obtain ⟨q, e1, e2⟩ := Option.bind_eq_some_iff.mp (show (ce ev st).bind (xfOf cs ev st) = some o from e)
  cases z : exP q.1 with
  | none =>
    rw [xfOf_no z] at e2
    exact (xs_of h2).run pins sh σ H D I ⟨ρ, F, ev, st, o, hr, sr, e2, ok⟩
  | some p =>
    have y : xfOf cs ev st q = some (.rt q.1 q.2) := by
      unfold xfOf
      rw [z]
    rw [y] at e2
    cases e2
    exact h1.run pins sh σ H D I ⟨ρ, F, ev, st, q.1, q.2, p, hr, sr, e1, z, fun ρ' F' H' x hr' => ok.2 q.1 q.2 p rfl z σ ρ' F' H' x hr'⟩
end

/-! ### try: if c: f(..) else: g(..), the exception kept under a name -/
def ctrE (j n : Nat) (fl : Bool) (c0 : SS) (cx : PyData → SS) (ev : Ev) (q : U × Sto) : Option Out := match exP q.1 with
  | some p => if shP fl p = true ∧ j < ev.length ∧ n < ev.length then cx p ((ev.set n none).set j none) q.2 else none
  | none => c0 ev q.2
def cTwo (c1 c2 : SE) (ev : Ev) (q : Bool × Sto) : Option (U × Sto) := match q.1 with
  | true => c1 ev q.2
  | false => c2 ev q.2
def cTryE (j n : Nat) (fl : Bool) (cb : SB) (c1 c2 : SE) (c0 : SS) (cx : PyData → SS) : SS := fun ev st => ((cb ev st).bind (cTwo c1 c2 ev)).bind (ctrE j n fl c0 cx ev)
@[simp] theorem cTryE_ap (j n : Nat) (fl : Bool) (cb : SB) (c1 c2 : SE) (c0 : SS) (cx : PyData → SS) (ev : Ev) (st : Sto) : cTryE j n fl cb c1 c2 c0 cx ev st = ((cb ev st).bind (cTwo c1 c2 ev)).bind (ctrE j n fl c0 cx ev) := rfl
@[simp] theorem cTwo_t (c1 c2 : SE) (ev : Ev) (st : Sto) : cTwo c1 c2 ev (true, st) = c1 ev st := rfl
@[simp] theorem cTwo_f (c1 c2 : SE) (ev : Ev) (st : Sto) : cTwo c1 c2 ev (false, st) = c2 ev st := rfl
@[simp] theorem ctrE_x (j n : Nat) (fl : Bool) (c0 : SS) (cx : PyData → SS) (ev : Ev) (p : PyData) (st : Sto) : ctrE j n fl c0 cx ev (.d (exM p), st) = if shP fl p = true ∧ j < ev.length ∧ n < ev.length then cx p ((ev.set n none).set j none) st else none := rfl
theorem ctrE_no {j n : Nat} {fl : Bool} {c0 : SS} {cx : PyData → SS} {ev : Ev} {w : U} {st : Sto} (h : exP w = none) : ctrE j n fl c0 cx ev (w, st) = c0 ev st := by
  unfold ctrE
  rw [h]
section
variable {X : Cx} {k : XCls} {fn1 fn2 E cn nm : Str} {st1 st2 : Stmt} {ps1 ps2 : List Str} {fs1 fs2 : FS} {c e1 e2 : Expr} {es1 es2 : List Expr} {rest : List Stmt} {cb : SB} {sa1 sa2 : SA} {c0 : SS} {cx : PyData → SS} {j n m1 m2 : Nat} {pf pc pf2 pc2 pA pA2 pI pE p1 p2 pB pH pT : Pos}
theorem xs_tryE (hst : X.stack = X.env :: X.outer) (hfr : X.env.frame = some X.env.locals) (q1 : CalX X.prog X.w X.K X.mg X.base m1 fn1 st1 ps1 k fs1) (hr1 : Room m1 X.A) (hg1 : Gl X fn1) (q2 : CalX X.prog X.w X.K X.mg X.base m2 fn2 st2 ps2 k fs2) (hr2 : Room m2 X.A) (hg2 : Gl X fn2)
    (hc : Names X E (.ref k.C)) (hm : PySem.W.exmOne X.K (.ref k.C) (.ref k.C) = some true)
    (hN : X.N.Nodup) (hj : X.N[j]? = some cn) (hcn : Loc X.env.scope cn) (hn : X.N[n]? = some nm) (hnm : X.env.kindOf nm = some .local) (hjn : j ≠ n) {fl : Bool} (hfl : k.f.isSome = fl)
    (ht : ∀ (pn : List (Addr × Obj)) (xe : Value → Shared → Prop), PT (X.tr pn xe) c (tT X.K cb))
    (ha1 : ∀ (pn : List (Addr × Obj)) (xe : Value → Shared → Prop), PA (X.tr pn xe) (e1 :: es1) (tA X.K sa1)) (ha2 : ∀ (pn : List (Addr × Obj)) (xe : Value → Shared → Prop), PA (X.tr pn xe) (e2 :: es2) (tA X.K sa2)) (h0 : PSs X rest (tSS X.K c0))
    (hX : ∀ (a : Addr) (oe : Obj) (d : Option Addr) (pn : List (Addr × Obj)), Zc (.ref k.C) d oe → (∃ vs, oe.data = .fields vs) → (a, oe) ∈ pn → PSs (X.tr pn X.xe) rest (tXB X.K k a d j cx))
    (hfj : X.fn cn = true ∨ X.env.scope.names.lookup cn = some .local := by first | exact .inl rfl | exact .inr rfl | assumption)
    (hd1 : NotDbg fn1 := by decide) (hd12 : NotDbg fn2 := by decide) (hd2 : NotDbg nm := by decide) (hd3 : (nm == ("__classdict__" : Str)) = false := by decide) (he1 : Bare1 X e1 es1 := by rfl) (hpl1 : NoStar X es1 pc := by rfl) (he2 : Bare1 X e2 es2 := by rfl) (hpl2 : NoStar X es2 pc2 := by rfl)
    (hs1 : swapsWith (.Call (.Name fn1 pf) (e1 :: es1) [] pc) none pA.line X.env = pure false := by rfl) (hs3 : swapsWith (.Call (.Name fn2 pf2) (e2 :: es2) [] pc2) none pA2.line X.env = pure false := by rfl) (hs2 : swapsWith (.Name nm p2) (some (.Name cn p1)) pB.line X.env = pure false := by rfl) :
    PSs X (.Try [.If c [.Expr (.Call (.Name fn1 pf) (e1 :: es1) [] pc) pA] [.Expr (.Call (.Name fn2 pf2) (e2 :: es2) [] pc2) pA2] pI] [.ExceptHandler (some (.Name E pE)) (some nm) [.Assign [.Name cn p1] (.Name nm p2) pB] pH] [] [] pT :: rest)
      (tSS X.K (cTryE j n fl cb (cDef ps1.length fs1 sa1) (cDef ps2.length fs2 sa2) c0 cx)) := by
  obtain ⟨f1, fd1, F1, hmf1, G1, hb1⟩ := q1.ex
  obtain ⟨f2, fd2, F2, hmf2, G2, hb2⟩ := q2.ex
  have block := pss_keep (tb := fun W => tIfS (tT X.K cb) (tDrop (tCallS (spX X.K k fs1 ps1.length) (WE W) (tA X.K sa1))) (tDrop (tCallS (spX X.K k fs2 ps2.length) (WE W) (tA X.K sa2)))) (ts := fun a cls d => tAsg (tVar n) (gName j)) (v := fun a cls d D σ H => cls = .ref k.C ∧ tXB X.K k a d j cx D σ H) (u := tSS X.K c0) (pos := pT) (pos' := pH) (np := pE) hst hfr hN hn hnm hc
    (fun W pn xe tk => pss_one (ps_if (pos := pI) (ht pn xe) (pss_one (ps_expr (X := X.tr pn xe) (pe_callS F1 hr1 hg1 hmf1 G1.kp hb1 (fun σ => passAt tk σ) (ha1 pn xe) hd1 he1 hpl1) hs1)) (pss_one (ps_expr (X := X.tr pn xe) (pe_callS F2 hr2 hg2 hmf2 G2.kp hb2 (fun σ => passAt tk σ) (ha2 pn xe) hd12 he2 hpl2) hs3))))
    (fun a oe cls d pn hz hf => pss_one (ps_set (X := X.suite a ((a, oe) :: pn)) hN hj hcn (pe_var hn (.inl hnm) hd2 hd3) hs2 hfj)) h0
    (fun a oe cls d pn hz hf hp => by
      by_cases q : cls = .ref k.C
      · subst q
        exact (hX a oe d pn hz hf hp).weak fun D σ H z => z.2
      · exact pss_never.weak fun D σ H z => q z.1)
  refine block.weak fun D σ H ⟨ρ, F0, ev, st0, o, hr0, sr, e0, ok⟩ => ?_
  obtain ⟨⟨w, st'⟩, e01, e2⟩ := Option.bind_eq_some_iff.mp (show ((cb ev st0).bind (cTwo (cDef ps1.length fs1 sa1) (cDef ps2.length fs2 sa2) ev)).bind (ctrE j n fl c0 cx ev) = some o from e0)
  obtain ⟨⟨t, sb⟩, e00, e1⟩ := Option.bind_eq_some_iff.mp e01
  refine ⟨ρ, F0, ev, st0, t, sb, hr0, sr, e00, fun ρa Fa Ha xa hra => ?_⟩
  have sra := sr.mono xa
  have good : ∀ (v : V) (ρ' : Rho) (F' H' : Hp), Ext ρa Fa ρ' F' → HR ρ' F' H' st' → WR X.K ρ' F' v w → tSS X.K c0 D σ H' := fun v ρ' F' H' x' hr' wr => by
    have nz : exP w = none := by
      cases z : exP w with
      | none => rfl
      | some p => exact (no_mark wr z).elim
    rw [ctrE_no nz] at e2
    exact ⟨ρ', F', _, _, o, hr', sra.mono x', e2, ok.mono (xa.trans x')⟩
  have bad : ∀ (p : PyData), exP w = some p → ∀ (ρ' : Rho) (F' H' : Hp), Ext ρa Fa ρ' F' → HR ρ' F' H' st' → exQ k.C k.f p (fun cls d G => wKeep X.K (.ref k.C) n (fun a cls d => tAsg (tVar n) (gName j)) (fun a cls d D σ H => cls = .ref k.C ∧ tXB X.K k a d j cx D σ H) D cls d σ G) H' := fun p z ρ' F' H' x' hr' => by
    have xx := xa.trans x'
    have y : ctrE j n fl c0 cx ev (w, st') = some o := e2
    simp only [ctrE] at y
    rw [z] at y
    simp only [] at y
    split at y
    · rename_i hjl
      have fin : ∀ (d : Option Addr) (Fz Hz : Hp), Ext ρ' F' ρ' Fz → HR ρ' Fz Hz st' → keptP k.f d Fz p → wKeep X.K (.ref k.C) n (fun a cls d => tAsg (tVar n) (gName j)) (fun a cls d D σ H => cls = .ref k.C ∧ tXB X.K k a d j cx D σ H) D (.ref k.C) d σ Hz := fun d Fz Hz xz hrz kp => by
        refine ⟨hm, fun a ha => ?_⟩
        have hn2 : n < σ.length := by
          rw [← sr.len]
          exact hjl.2.2
        · refine ⟨.ref a, by rw [List.getElem?_set_self hn2], rfl, ρ', Fz, _, st', o, p, hrz, ?_, ?_, kp, y, ok.mono (xx.trans xz)⟩
          · have s1 := ((((sr.mono (xx.trans xz)).drop n (some (.ref a))).drop j (some (.ref a))).drop n none)
            have ee : (((ev.set n none).set j none).set n none) = (ev.set n none).set j none := by
              apply List.ext_getElem?
              intro l
              rw [List.getElem?_set]
              split
              · rename_i hl
                subst hl
                rw [List.getElem?_set_ne hjn, List.getElem?_set]
                simp
              · rfl
            rw [ee] at s1
            exact s1
          · rw [List.getElem?_set_ne (Ne.symm hjn), List.getElem?_set_self (by rw [List.length_set, ← sr.len]; exact hjl.2.1)]
      refine exQ_sh (by rw [hfl]; exact hjl.1) (fun z1 z2 => fin none F' H' (.refl _ _) hr' ?_) fun g q z1 z2 d hd => ?_
      · rw [z1, z2]
        rfl
      · have nf : F' d = none := hr'.sub.free hd
        refine fin (some d) (upd F' d (.xd [(g, .int q)])) _ (.upd nf) (hr'.grow ⟨same_upd nf, same_upd hd, fun b u z => ?_, fun b u z1 z2 => ?_⟩) ?_
        · by_cases hb : b = d
          · subst hb
            rw [upd_same] at z ⊢
            exact z
          · rw [upd_ne hb] at z ⊢
            exact hr'.sub _ _ z
        · rw [upd_ne (ne_of_none z1 hd)]
          exact z2
        · rw [z1, z2]
          exact ⟨d, rfl, upd_same⟩
    · cases y
  cases t with
  | true => exact iteT (defx_ok (X := X) ⟨ρa, Fa, ev, sb, w, st', hra, sra, e1, good, bad⟩)
  | false => exact iteF (defx_ok (X := X) ⟨ρa, Fa, ev, sb, w, st', hra, sra, e1, good, bad⟩)
end
end Cm

set_option Elab.async false
set_option linter.all false
set_option maxRecDepth 100000
set_option maxHeartbeats 4000000
namespace Cm
open PySem PySem.Spec PyProof.Rows L2
/-! ### objects with __slots__ that no one changes, as data: their class and what their slots hold -/
def objD (C : Nat) (ds : List PyData) : PyData := .dict [(.int (C : Int), .list ds)]
def fldO (C i : Nat) : PyData → Option PyData
  | .dict [(.int c, .list ds)] => if c = (C : Int) then ds[i]? else none
  | _ => none
def isO (C : Nat) : PyData → Bool
  | .dict [(.int c, .list _)] => c == (C : Int)
  | _ => false
/-- e.f -/
def cFld (C i : Nat) (o : SE) : SE := fun ev st => (o ev st).bind fun p => match p.1 with
  | .d x => (fldO C i x).map fun z => (.d z, p.2)
  | _ => none
/-- an object of this class -/
def cObj (C : Nat) (o : SE) : SE := fun ev st => (o ev st).bind fun p => match p.1 with
  | .d x => if isO C x = true then some (.d x, p.2) else none
  | _ => none
/-- C(e, ..): g tells what the slots hold -/
def cMake (C n : Nat) (g : List U → Sto → Option (List PyData × Sto)) (a : SA) : SE := fun ev st => (a ev st).bind fun p => if p.1.length = n then (g p.1 p.2).map fun q => (.d (objD C q.1), q.2) else none
/-- one slot: self.f = e, as the only row -/
def ini1 (N : Nat) (ce : SE) : List U → Sto → Option (List PyData × Sto) := fun ws st => (ce (none :: (ws.map some ++ List.replicate (N - 1 - ws.length) none)) st).bind fun p => match p.1 with
  | .d x => some ([x], p.2.take st.length)
  | _ => none
theorem dq_obj {F : Hp} {v : V} {x : PyData} {C : Nat} (h : isO C x = true) (d : Dq F v x) : ∃ a dx xs ds, v = .ref a ∧ x = objD C ds ∧ F a = some (SlX.SlO a C dx (xs.map some)) ∧ F dx = some (.xd []) ∧ DqA F xs ds := by
  cases d with
  | obj h1 h2 h3 =>
    have e : ((_ : Nat) : Int) = (C : Int) := eq_of_beq h
    have e2 := Int.ofNat_inj.mp e
    subst e2
    exact ⟨_, _, _, _, rfl, rfl, h1, h2, h3⟩
  | _ => cases h
section
variable {X : Cx} {o e : Expr} {es : List Expr} {f m x : Str} {p pos apos : Pos} {co ce : SE} {sa : SA} {C pp g : Addr} {i k : Nat}
theorem se_fld (c : SlX.SCls X.K C) (t : SlX.Slot1 X.K C f pp i) (he : PE X e (tI X.K ce)) (hb : attributeBase e f X.env (eval e X.env) = eval e X.env := by rfl) : PE X (.Attribute e f pos) (tI X.K (cFld C i ce)) :=
  (SlX.pe_sl he hb).weak fun σ H Q ⟨ρ, F, ev, st, w, st', hr, sr, q, post⟩ => by
    simp only [cFld, Option.bind_eq_some_iff] at q
    obtain ⟨⟨w1, st1⟩, e1, e2⟩ := q
    split at e2
    · rename_i y hy
      simp only at hy
      subst hy
      simp only [Option.map_eq_some_iff] at e2
      obtain ⟨z, e3, e4⟩ := e2
      cases e4
      have ho : isO C y = true := by
        unfold fldO at e3
        split at e3
        · split at e3
          · rename_i hc
            subst hc
            exact beq_self_eq_true _
          · cases e3
        · cases e3
      refine ⟨ρ, F, ev, st, _, _, hr, sr, e1, fun v ρ' F' H' xx hr' r => ?_⟩
      obtain ⟨a, dx, xs, ds, rfl, rfl, h1, h2, h3⟩ := dq_obj ho (show Dq F' v y from r)
      have e5 : ds[i]? = some z := by
        have : fldO C i (objD C ds) = ds[i]? := if_pos rfl
        rw [← this]
        exact e3
      obtain ⟨u, e6, d6⟩ := h3.get' e5
      exact ⟨a, C, dx, pp, xs.map some, i, u, rfl, .inr ⟨hr'.sub _ _ h1, hr'.sub _ _ h2⟩, c, t, by rw [List.getElem?_map, e6]; rfl, post u ρ' F' H' xx hr' d6⟩
    · cases e2
/-- what of a method one must know to ask it -/
structure CalM (P : Program) (w : World) (K : PySem.W.Frag) (mg : Str → Option Value) (base : Heap) (k : Nat) (C : Addr) (m : Str) (ps : List Str) (fs : FS) : Prop where
  ex : ∃ (g : Addr) (fd : FuncData), FnOk P w K mg base CX0 k g fd ps (spF K fs ps.length) ∧ Meth K C m g ∧ Binds K fd ps []
theorem om_ok {K : PySem.W.Frag} {n : Nat} {fs : FS} {σ : L2.St} {H : Hp} {Q : VK} {E : XK} (h : tI K (cDef n fs (cCons (cObj C co) sa)) σ H Q) :
    SlX.tMethSl C (fun vs H Q E => spF K fs n (vs ++ []) H Q E) E (tI K co) (tA K sa) σ H Q := by
  obtain ⟨ρ, F, ev, st, w, st', hr, sr, q, post⟩ := h
  simp only [cDef, cCons, cObj, Option.bind_eq_some_iff, Option.map_eq_some_iff] at q
  obtain ⟨⟨ws, st1⟩, ⟨⟨w1, st2⟩, ⟨⟨w0, st3⟩, e0, e1⟩, ⟨ws2, st4⟩, e2, e3⟩, e4⟩ := q
  cases e3
  split at e1
  · rename_i y hy
    simp only at hy
    subst hy
    split at e1
    · rename_i ho
      cases e1
      refine ⟨ρ, F, ev, st, _, _, hr, sr, e0, fun v ρ' F' H' xx hr' r => ?_⟩
      have r' : Dq F' v y := r
      obtain ⟨a, dx, xs, ds, rfl, rfl, h1, h2, h3⟩ := dq_obj ho r'
      refine ⟨a, dx, xs.map some, rfl, .inr ⟨hr'.sub _ _ h1, hr'.sub _ _ h2⟩, ρ', F', ev, _, ws2, _, hr', sr.mono xx, e2, fun vs ρ2 F2 H2 x2 hr2 wr => ?_⟩
      split at e4
      · rename_i hl
        refine ⟨ρ2, F2, _, _, w, st', hr2, ?_, hl, e4, fun v3 ρ3 F3 H3 x3 hr3 r3 => post v3 ρ3 F3 H3 (xx.trans (x2.trans x3)) hr3 r3⟩
        rw [List.append_nil]
        exact .cons (r'.mono x2.same) wr
      · cases e4
    · cases e1
  · cases e1
theorem so_meth {ps : List Str} {fs : FS} {pl : Sem Bool} (c : SlX.SCls X.K C) (M : CalM X.prog X.w X.K X.mg X.base k C m ps fs) (hr : Room k X.A) (ho : PE X o (tI X.K co)) (ha : PA X (e :: es) (tA X.K sa))
    (hst : starEach (e :: es) X.env = (false, eval e X.env) :: starEach es X.env := by rfl) (hpl : (backTo pos (starEach es X.env)).any (·.1) = false := by rfl)
    (ht : eval (.Call (.Attribute o m apos) (e :: es) [] pos) X.env = (do
      let ov ← eval o X.env
      standAt apos.atName
      let (f, first) ← holding [ov] (getMethod ov m pl)
      callWith pos f first (backTo pos (starEach (e :: es) X.env)) (backToKw pos (keywordEach [] X.env))) := by rfl) :
    PE X (.Call (.Attribute o m apos) (e :: es) [] pos) (tI X.K (cDef ps.length fs (cCons (cObj C co) sa))) := by
  obtain ⟨g, fd, F, hm, hb⟩ := M.ex
  exact (SlX.pe_methSl ho c hm (F.raw hb .nil) hr pass0 ha hst hpl ht).weak fun _ _ _ h => om_ok h
theorem so_meth0 {ps : List Str} {fs : FS} {pl : Sem Bool} (c : SlX.SCls X.K C) (M : CalM X.prog X.w X.K X.mg X.base k C m ps fs) (hr : Room k X.A) (ho : PE X o (tI X.K co))
    (ht : eval (.Call (.Attribute o m apos) [] [] pos) X.env = (do
      let ov ← eval o X.env
      standAt apos.atName
      let (f, first) ← holding [ov] (getMethod ov m pl)
      callWith pos f first (backTo pos (starEach [] X.env)) (backToKw pos (keywordEach [] X.env))) := by rfl) :
    PE X (.Call (.Attribute o m apos) [] [] pos) (tI X.K (cDef ps.length fs (cCons (cObj C co) cNil))) := by
  obtain ⟨g, fd, F, hm, hb⟩ := M.ex
  refine (SlX.pe_methSl0 ho c hm (F.raw hb .nil) hr pass0 ht).weak fun σ H Q h => ?_
  obtain ⟨ρ, F0, ev, st, w, st', h1, h2, h3, k⟩ := om_ok (E := E0) h
  refine ⟨ρ, F0, ev, st, w, st', h1, h2, h3, fun v ρ' F' H' xx hr' r => ?_⟩
  obtain ⟨a, dx, vs, e1, e2, ρ2, F2, ev2, st2, ws, st3, q1, q2, q3, q4⟩ := k v ρ' F' H' xx hr' r
  cases q3
  exact ⟨a, dx, vs, e1, e2, q4 [] ρ2 F2 H' (.refl _ _) q1 .nil⟩
/-- the promise of an __init__: the new object stands at a, its dict at dx -/
def spIni (K : PySem.W.Frag) (C : Addr) (n : Nat) (gi : List U → Sto → Option (List PyData × Sto)) : Sp := fun vs H Q _ => ∃ ρ F a dx us ws st ds st', vs = V.ref a :: us ∧ dx ≠ a ∧ HR ρ F H st ∧ F a = none ∧ F dx = none ∧ H a = some (.ins C dx []) ∧ H dx = some (.own a) ∧ WRs K ρ F us ws ∧ ws.length = n ∧
  gi ws st = some (ds, st') ∧ ∀ ρ' F' H' xs, Ext ρ F ρ' F' → HR ρ' F' H' st' → F' a = some (SlX.SlO a C dx (xs.map some)) → F' dx = some (.xd []) → DqA F' xs ds → Q .non H'
structure CalI (P : Program) (w : World) (K : PySem.W.Frag) (mg : Str → Option Value) (base : Heap) (k : Nat) (C : Addr) (n : Nat) (gi : List U → Sto → Option (List PyData × Sto)) : Prop where
  ex : ∃ (f : Addr) (fd : FuncData) (ps : List Str), FnOk P w K mg base CX0 k f fd ps (spIni K C n gi) ∧ Mk K C f ∧ Binds K fd ps []
theorem se_make {n : Nat} {gi : List U → Sto → Option (List PyData × Sto)} (M : CalI X.prog X.w X.K X.mg X.base k C n gi) (hr : Room (k + 1) X.A) (hg : Gl X x) (hm : X.mg x = some (.ref C)) (ha : PA X (e :: es) (tA X.K sa))
    (hdb : NotDbg x := by decide) (he : Bare1 X e es := by rfl) (hpl : NoStar X es pos := by rfl) : PE X (.Call (.Name x p) (e :: es) [] pos) (tI X.K (cMake C n gi sa)) := by
  obtain ⟨f, fd, ps, F, mk, hb⟩ := M.ex
  refine (pe_make mk F hr hg hm hb .nil pass0 ha hdb he hpl).weak fun σ H Q ⟨ρ, F1, ev, st, w, st', hr1, sr, q, post⟩ => ?_
  simp only [cMake, Option.bind_eq_some_iff] at q
  obtain ⟨⟨ws, st1⟩, e1, e2⟩ := q
  split at e2
  · rename_i hl
    simp only [Option.map_eq_some_iff] at e2
    obtain ⟨⟨ds, st2⟩, e3, e4⟩ := e2
    cases e4
    refine ⟨ρ, F1, ev, st, ws, st1, hr1, sr, e1, fun vs ρ2 F2 H2 x2 hr2 wr a dx na nd ne => ?_⟩
    have fa : F2 a = none := hr2.sub.free na
    have fd : F2 dx = none := hr2.sub.free nd
    have sm : Same H2 (upd (upd H2 dx (.own a)) a (.ins C dx [])) := (same_upd nd).trans (same_upd (by rw [upd_ne (Ne.symm ne)]; exact na))
    refine ⟨ρ2, F2, a, dx, vs, ws, st1, ds, _, by rw [List.append_nil], ne, ⟨hr2.sub.trans sm, fun m xs q => ?_, hr2.inj, hr2.len, hr2.obj.to (Same.refl _) fun b D dy us e n => ⟨sm _ _ e, n⟩⟩, fa, fd, upd_same, by rw [upd_ne ne, upd_same], wr, hl, e3, fun ρ3 F3 H3 xs x3 hr3 h1 h2 h3 => ?_⟩
    · obtain ⟨b, us, k1, k2, k3, k4⟩ := hr2.cell m xs q
      exact ⟨b, us, k1, sm _ _ k2, k3, k4⟩
    · exact ⟨rfl, post _ ρ3 F3 H3 (x2.trans x3) hr3 (.obj h1 h2 h3)⟩
  · cases e2
end
/-! ### an __init__ of one row -/
mutual
theorem Dq.ini {F F1 : Hp} (e : ∀ b o, F b = some o → (∀ C d fs, o ≠ .ins C d fs) → (∀ y, o ≠ .own y) → F1 b = some o) : ∀ {v : V} {d : PyData}, Dq F v d → Dq F1 v d
  | _, _, .non => .non
  | _, _, .bl b => .bl b
  | _, _, .int i => .int i
  | _, _, .str x => .str x
  | _, _, .lst h a => .lst (e _ _ h (fun _ _ _ z => nomatch z) (fun _ z => nomatch z)) (DqA.ini e a)
  | _, _, .tup h a => .tup (e _ _ h (fun _ _ _ z => nomatch z) (fun _ z => nomatch z)) (DqA.ini e a)
  | _, _, .obj h g a => .obj (e _ _ h (fun _ _ _ z => by unfold SlX.SlO at z; cases z) (fun _ z => by unfold SlX.SlO at z; cases z)) (e _ _ g (fun _ _ _ z => nomatch z) (fun _ z => nomatch z)) (DqA.ini e a)
  | _, _, .hid v => .hid v
  | _, _, .exn h c d k => .exn (e _ _ h (fun _ _ _ z => nomatch z) (fun _ z => nomatch z)) c d fun dx z => let ⟨fs, q⟩ := k dx z; ⟨fs, e _ _ q (fun _ _ _ z => nomatch z) (fun _ z => nomatch z)⟩
  | _, _, .dtt h n x d t k => .dtt (e _ _ h (fun _ _ _ z => nomatch z) fun _ z => nomatch z) n x d t fun y hy => e _ _ (k y hy) (fun _ _ _ z => nomatch z) fun _ z => nomatch z
theorem DqA.ini {F F1 : Hp} (e : ∀ b o, F b = some o → (∀ C d fs, o ≠ .ins C d fs) → (∀ y, o ≠ .own y) → F1 b = some o) : ∀ {vs : List V} {ds : List PyData}, DqA F vs ds → DqA F1 vs ds
  | _, _, .nil => .nil
  | _, _, .cons h t => .cons (Dq.ini e h) (DqA.ini e t)
end
theorem SR.self {K : PySem.W.Frag} {ρ : Rho} {F : Hp} {a : Addr} {us : List V} {ws : List U} {N : List Str} (h : WRs K ρ F us ws) (hN : 1 ≤ N.length) : SR K ρ F (Option.none :: (ws.map some ++ List.replicate (N.length - 1 - ws.length) Option.none)) (L2.start N (V.ref a :: us)) := by
  cases N with
  | nil => simp at hN
  | cons n N =>
    have s := SR.start (N := N) h
    have e : L2.start (n :: N) (V.ref a :: us) = some (V.ref a) :: L2.start N us := by
      simp [L2.start]
    have e2 : (n :: N).length - 1 - ws.length = N.length - ws.length := by simp
    rw [e, e2]
    refine ⟨by rw [List.length_cons, List.length_cons, s.len], fun i w q => ?_⟩
    cases i with
    | zero => simp at q
    | succ i =>
      rw [List.getElem?_cons_succ] at q ⊢
      exact s.get i w q
section
variable {P : Program} {w : World} {K : PySem.W.Frag} {mg : Str → Option Value} {base : Heap}
theorem ini_ok1 {x q : Str} {st : Stmt} {f C pp : Addr} {fd : FuncData} {N ps : List Str} {k n : Nat} {ce : SE} {self fld : Str} {e : Expr} {p1 p2 p3 : Pos} (F : FunD K x q (defArgs st) (defBody st) (defScope st) [] [] f fd) (S : FnScope N ps (defScope st))
    (c : SlX.SCls K C) (t : SlX.Slot1 K C fld pp 0) (hbd : defBody st = [.Assign [.Attribute (.Name self p1) fld p2] e p3]) (hps : ps.length = n + 1) (hN : N[0]? = some self) (hv : Vis (defScope st) self) (hd : (self == ("__debug__" : Str)) = false) (hcd : (self == ("__classdict__" : Str)) = false)
    (h : ∀ (cdv : Value) (A : Around) (outer : List Env) (s : Shared) (H : Hp) (E : XK), Room k (A.deeper (envOfC q (defScope st) s.heap.objs.size f cdv)) → PE (cxOf CX0 P w K mg base N q (defScope st) f cdv A outer s H E).nox e (tI K ce))
    (hsw : ∀ env l, swapsWith e (some (.Attribute (.Name self p1) fld p2)) l env = pure false) :
    FnOk P w K mg base CX0 (k + 1) f fd ps (spIni K C n (ini1 N.length ce)) := by
  refine F.ok S (fun vs H Q E ⟨ρ, F, a, dx, us, ws, st, ds, st', e1, _, _, _, _, _, _, wr, hl, _⟩ => by rw [e1, List.length_cons, wr.length, hl, hps]) fun cdv A outer s H vs Q E hrm hsp => ?_
  have hp := h cdv A outer s H E hrm
  refine ⟨SlX.sSl K (tVar 0) (tI K ce) fld, PSs.nox ?_, ?_⟩
  · rw [hbd]
    exact pss_one (SlX.ps_sl (pe_var hN hv hd hcd) hp (hsw _ _))
  obtain ⟨ρ, F1, a, dx, us, ws, st1, ds, st', e1, ne, hr, fa, fdx, ha, hdx, wr, hl, eg, post⟩ := hsp
  subst e1
  have hN1 : 1 ≤ N.length := by
    cases N with
    | nil => simp at hN
    | cons => simp
  simp only [ini1, Option.bind_eq_some_iff] at eg
  obtain ⟨⟨w1, st2⟩, e2, e3⟩ := eg
  split at e3
  · rename_i y hy
    simp only at hy
    subst hy
    cases e3
    have sF : Same F1 (upd (upd F1 dx (.own a)) a (.ins C dx [])) := (same_upd fdx).trans (same_upd (by rw [upd_ne (Ne.symm ne)]; exact fa))
    have sH : Same (upd (upd F1 dx (.own a)) a (.ins C dx [])) H := fun b o q => by
      by_cases hb : b = a
      · subst hb
        rw [upd_same] at q
        cases q
        exact ha
      · rw [upd_ne hb] at q
        by_cases hb2 : b = dx
        · subst hb2
          rw [upd_same] at q
          cases q
          exact hdx
        · rw [upd_ne hb2] at q
          exact hr.sub _ _ q
    have hr1 : HR ρ (upd (upd F1 dx (.own a)) a (.ins C dx [])) H st1 := ⟨sH, fun m xs q => by
      obtain ⟨b, us2, k1, k2, k3, k4⟩ := hr.cell m xs q
      refine ⟨b, us2, k1, k2, ?_, k4.mono sF⟩
      have n1 : b ≠ a := fun z => by
        subst z
        rw [ha] at k2
        cases k2
      have n2 : b ≠ dx := fun z => by
        subst z
        rw [hdx] at k2
        cases k2
      rw [upd_ne n1, upd_ne n2]
      exact k3, hr.inj, hr.len, hr.obj.to sF fun b D dy us e n => ⟨e, by rw [upd_ne (ins_slo ha e), upd_ne (own_slo hdx e)]; exact n⟩⟩
    refine ⟨ρ, _, _, st1, _, st2, hr1, (SR.self wr hN1).mono (.same_of sF), e2, fun v ρ2 F2 H2 x2 hr2 r => ?_⟩
    have Fa : F2 a = some (.ins C dx []) := x2.same _ _ upd_same
    have Fd : F2 dx = some (.own a) := x2.same _ _ (by rw [upd_ne ne, upd_same])
    refine ⟨V.ref a, by simp [L2.start], a, C, dx, pp, [], 0, rfl, .inl ⟨hr2.sub _ _ Fa, rfl⟩, c, t, ?_⟩
    have mv : ∀ b o, F2 b = some o → (∀ C d fs, o ≠ .ins C d fs) → (∀ y, o ≠ .own y) → SlX.slH F2 a C dx (SlX.putS 0 v []) b = some o := fun b o q n1 n2 => by
      rw [SlX.slH_ne]
      · exact q
      · intro z
        subst z
        rw [Fa] at q
        cases q
        exact n1 _ _ _ rfl
      · intro z
        subst z
        rw [Fd] at q
        cases q
        exact n2 _ rfl
    have hr3 : HR ρ2 (SlX.slH F2 a C dx (SlX.putS 0 v [])) (SlX.slH H2 a C dx (SlX.putS 0 v [])) st2 := by
      refine ⟨upd_mono (upd_mono hr2.sub), fun m xs q => ?_, hr2.inj, hr2.len, hr2.obj.to2 (fun dy z => mv _ _ z (fun _ _ _ y => nomatch y) fun _ y => nomatch y) fun b D dy us e n => ?_⟩
      rotate_left
      · have n1 : b ≠ a := ins_slo (hr2.sub _ _ Fa) e
        have n2 : b ≠ dx := own_slo (hr2.sub _ _ Fd) e
        exact ⟨by rw [SlX.slH_ne n1 n2]; exact e, by rw [SlX.slH_ne n1 n2]; exact n⟩
      obtain ⟨b, us2, k1, k2, k3, k4⟩ := hr2.cell m xs q
      have n1 : b ≠ a := fun z => by
        subst z
        rw [Fa] at k3
        cases k3
      have n2 : b ≠ dx := fun z => by
        subst z
        rw [Fd] at k3
        cases k3
      exact ⟨b, us2, k1, by rw [SlX.slH_ne n1 n2]; exact k2, by rw [SlX.slH_ne n1 n2]; exact k3, k4.ini mv⟩
    have hlen : ρ.length = st1.length := hr.len
    have xt := x2.take st1.length (Nat.le_of_eq hlen)
    refine post (ρ2.take st1.length) (SlX.slH F2 a C dx (SlX.putS 0 v [])) _ [v] ⟨xt.pre, fun b o z => ?_, xt.kin⟩ (hr3.take _ (x2.tri hr.obj hlen.symm)) upd_same (by unfold SlX.slH; rw [upd_ne ne, upd_same]) (.cons (Dq.ini mv r) .nil)
    · have n1 : b ≠ a := fun z2 => by
        subst z2
        rw [fa] at z
        cases z
      have n2 : b ≠ dx := fun z2 => by
        subst z2
        rw [fdx] at z
        cases z
      rw [SlX.slH_ne n1 n2]
      exact x2.same _ _ (sF _ _ z)
  · cases e3
end
/-! ### methods; facts about the class -/
section
variable {P : Program} {w : World} {K : PySem.W.Frag} {mg : Str → Option Value} {base : Heap}
theorem def_okQ {x q : Str} {st : Stmt} {f : Addr} {fd : FuncData} {N ps : List Str} {k : Nat} {b : SS} (F : FunD K x q (defArgs st) (defBody st) (defScope st) [] [] f fd) (S : FnScope N ps (defScope st))
    (h : ∀ (cdv : Value) (A : Around) (outer : List Env) (s : Shared) (H : Hp) (E : XK), Room k (A.deeper (envOfC q (defScope st) s.heap.objs.size f cdv)) → PSs (cxOf CX0 P w K mg base N q (defScope st) f cdv A outer s H E).nox (defBody st) (tSS K b)) :
    FnOk P w K mg base CX0 (k + 1) f fd ps (spF K (defS N.length b) ps.length) := by
  refine F.ok S (fun vs H Q E ⟨_, _, ws, _, _, _, _, wr, hl, _, _⟩ => by rw [wr.length, hl]) fun cdv A outer s H vs Q E hrm ⟨ρ, F, ws, st0, w0, st', hr, wr, hl, e, post⟩ => ⟨tSS K b, PSs.nox (h cdv A outer s H E hrm), ?_⟩
  simp only [defS, Option.bind_eq_some_iff] at e
  obtain ⟨o, e1, e2⟩ := e
  refine ⟨ρ, F, _, st0, o, hr, SR.start wr, e1, ?_⟩
  cases o with
  | rt w1 st1 => exact fun v ρ' F' H' x hr' r => leave_ok hr x hr' r e2 post
  | nx ev1 st1 =>
    cases e2
    exact fun σ' ρ' F' H' x hr' _ => post .non (ρ'.take st0.length) F' H' (by rw [← hr.len]; exact x.take _ (Nat.le_refl _)) (hr'.take _ (x.tri hr.obj hr.len.symm)) .non
  | bk ev1 st1 => cases e2
  | ct ev1 st1 => cases e2
theorem CalM.of {x q : Str} {st : Stmt} {C g : Addr} {fd : FuncData} {ps : List Str} {fs : FS} {k : Nat} (F : FunD K x q (defArgs st) (defBody st) (defScope st) [] [] g fd) (hm : Meth K C x g) (ok : FnOk P w K mg base CX0 k g fd ps (spF K fs ps.length))
    (hb : ∀ (kV doc pm : Value) (an : Option Addr) (cdv ct : Value) (us : List Value), us.length = ps.length → bindArgs (PySem.W.fnOf x q (defArgs st) (defBody st) (defScope st) .none kV doc pm an cdv ct) ⟨us, []⟩ = pure (ps.zip us)) : CalM P w K mg base k C x ps fs :=
  ⟨g, fd, ok, hm, FunD.bindsN F hb⟩
theorem CalI.of {x q : Str} {st : Stmt} {C f : Addr} {fd : FuncData} {ps : List Str} {n k : Nat} {gi : List U → Sto → Option (List PyData × Sto)} (F : FunD K x q (defArgs st) (defBody st) (defScope st) [] [] f fd) (hm : Mk K C f) (ok : FnOk P w K mg base CX0 k f fd ps (spIni K C n gi))
    (hb : ∀ (kV doc pm : Value) (an : Option Addr) (cdv ct : Value) (us : List Value), us.length = ps.length → bindArgs (PySem.W.fnOf x q (defArgs st) (defBody st) (defScope st) .none kV doc pm an cdv ct) ⟨us, []⟩ = pure (ps.zip us)) : CalI P w K mg base k C n gi :=
  ⟨f, fd, ps, ok, hm, FunD.bindsN F hb⟩
end
/-- the class of the name x stands at C, and is a plain one with slots -/
def clB (K : PySem.W.Frag) (x : Str) (C : Nat) : Bool := decide (He.ga K x = C) && (PySem.W.plainGet K C Str.empty && (PySem.W.isClsIn K C && (PySem.W.plainOver K C && He.eqO (PySem.W.findIn K (.ref C) "__setattr__") (some (some (.builtin "object.__setattr__"))))))
theorem clB_ok {K : PySem.W.Frag} {x : Str} {C : Nat} (h : clB K x C = true) : He.ga K x = C ∧ SlX.SCls K C := by
  unfold clB at h
  simp only [Bool.and_eq_true, decide_eq_true_eq, He.eqO] at h
  obtain ⟨h1, h2, h3, h4, h5⟩ := h
  exact ⟨h1, h2, h3, h4, h5⟩
/-- its i-th slot is f -/
def slB (K : PySem.W.Frag) (C : Nat) (f : Str) (i : Nat) : Bool := match PySem.W.findIn K (.ref C) f with
  | some (some (.ref p)) => He.eqO (PySem.W.specialIn K (.ref p) "__get__") (some (some (.builtin "member_descriptor.__get__"))) && (decide (PySem.W.takesIn K (.ref p) = some true) && (decide (PySem.W.typeIn K (.ref p) = some (.type "member_descriptor")) && (decide (PySem.W.slotIn K p C = some i) && decide (i < 1000))))
  | _ => false
theorem slB_ok {K : PySem.W.Frag} {C : Nat} {f : Str} {i : Nat} (h : slB K C f i = true) : ∃ p, SlX.Slot1 K C f p i := by
  unfold slB at h
  split at h
  · rename_i p q
    simp only [Bool.and_eq_true, decide_eq_true_eq, He.eqO] at h
    obtain ⟨h1, h2, h3, h4, h5⟩ := h
    exact ⟨p, q, h1, h2, h3, h4, h5⟩
  · cases h
/-- where a method, where an __init__ stands -/
def AtM (K : PySem.W.Frag) (C : Addr) (x q : Str) (st : Stmt) : Prop := ∃ (g : Addr) (fd : FuncData), FunD K x q (defArgs st) (defBody st) (defScope st) [] [] g fd ∧ Meth K C x g
def AtI (K : PySem.W.Frag) (C : Addr) (q : Str) (st : Stmt) : Prop := ∃ (f : Addr) (fd : FuncData), FunD K "__init__" q (defArgs st) (defBody st) (defScope st) [] [] f fd ∧ Mk K C f
section
variable {X : Cx} {e : Expr} {f : Str} {pos : Pos} {ce : SE} {C : Addr} {i : Nat}
theorem se_fldE (c : SlX.SCls X.K C) (t : ∃ pp, SlX.Slot1 X.K C f pp i) (he : PE X e (tI X.K ce)) (hb : attributeBase e f X.env (eval e X.env) = eval e X.env := by rfl) : PE X (.Attribute e f pos) (tI X.K (cFld C i ce)) :=
  let ⟨_, t⟩ := t
  se_fld c t he hb
end
end Cm

set_option Elab.async false
set_option linter.all false
set_option maxRecDepth 100000
set_option maxHeartbeats 2000000
namespace Cm
open PySem PySem.Spec PyProof.Rows L2

/-! ### own exceptions as values -/
/-- a new exception object, which nobody changes -/
def exO (o : Obj) (a : Addr) : HO := .frz o (.ext fun h => h.get? a = some o)
theorem exO_okk {P : Program} {w : World} {H : Hp} {h : Heap} {a : Addr} {o : Obj} (e : h.get? a = some o) : ObjOk P w H h a (exO o a) := ⟨e, e, ⟨o, e⟩, fun _ _ p k => k _ p⟩
section
variable {X : Cx} {x q file : Str} {b : ZB} {C f : Addr} {a : Expr} {ta : TA} {p pos : Pos} {k : Nat}
theorem pe_z0 (T : ZC X.K x q file b none C f) (hb : ZBOk b) (hP : PgOk X.prog file) (hr : Room (k + 1) X.A) (hg : Gl X x) (hm : X.mg x = some (.ref C)) (hdb : NotDbg x := by decide) :
    PE X (.Call (.Name x p) [] [] pos) (fun _ H Q => ∀ a o vs, H a = none → o.cls = .ref C → o.dict = none → o.data = .fields vs → Q (.ref a) (upd H a (exO o a))) := by
  refine ⟨fun pins s σ H Q I h => wpAny_Call_Name_kw (ld_glob I hg hm (PySem.W.callWith_K0 I.kIn T.kp ?_) hdb)⟩
  have Z := Inv.zh I
  obtain ⟨hp, g, dr, tk, os⟩ := s
  refine wpAny_call (z_made0 T hb hP Z (by have := hr.dp; omega) fun h' tk' e t k' hle hoe => ?_)
  exact ⟨.ref e, upd H e (exO _ e), I.laid (t' := tk') k' hle (exO_okk hoe), rfl, h e _ _ (I.hok.fresh hle) rfl rfl rfl⟩
/-- the object and its dict, both new -/
theorem z_laid {fl : Str} {pins : List (Addr × Obj)} {σ : L2.St} {H1 : Hp} {hp h' : Heap} {g : Array GenState} {dr : Drawn} {tk tk' : Nat} {os : OsState} {e t d : Addr} {v : V} {u : Value} (I : Inv X pins σ H1 ⟨hp, g, dr, tk, os⟩) (rv : RelV v u)
    (k' : ∀ c o, hp.get? c = some o → h'.get? c = some o) (hle : hp.objs.size ≤ e) (hld : hp.objs.size ≤ d) (hne : d ≠ e) (hoe : h'.get? e = some { cls := .ref C, dict := some d, data := .fields #[.ref t, .none, .none, .none, .bool false, .none] }) (hns : h'.Ns1 d (fun y => if y = fl then some u else none)) :
    Inv X pins σ (upd (upd H1 d (.xd [(fl, v)])) e (exO { cls := .ref C, dict := some d, data := .fields #[.ref t, .none, .none, .none, .bool false, .none] } e)) ⟨h', g, dr, tk', os⟩ ∧ H1 e = none ∧ H1 d = none := by
  obtain ⟨G', g1, g2⟩ := restrict h' fun c => decide (c ≠ e)
  have gk : ∀ c, c ≠ e → G'.get? c = h'.get? c := fun c hc => g1 c (decide_eq_true hc)
  have ge : G'.get? e = none := g2 e (by simp)
  have ob : ObjOk X.prog X.w (upd H1 d (.xd [(fl, v)])) G' d (.xd [(fl, v)]) := ⟨_, hns.at (fun o z => (gk d hne).trans z), fun y => relO_one rv fl y⟩
  have J : Inv X pins σ (upd H1 d (.xd [(fl, v)])) ⟨G', g, dr, tk', os⟩ := I.laid (t' := tk') (fun c o z => (gk c (Nat.ne_of_lt (Nat.lt_of_lt_of_le (Heap.lt_size z) hle))).trans (k' c o z)) hld ob
  have ne : H1 e = none := I.hok.fresh hle
  refine ⟨J.laidN (t' := tk') (fun c o z => ?_) ge (by rw [upd_ne (Ne.symm hne)]; exact ne) (exO_okk hoe), ne, I.hok.fresh hld⟩
  by_cases hc : c = e
  · subst hc
    rw [show G'.get? c = none from ge] at z
    cases z
  · exact (gk c hc).symm.trans z
/-- what a made one is asked -/
abbrev tMk1 (C : Addr) (fl : Str) (v : V) (H1 : Hp) (Q : VK) : Prop := ∀ a d o vs, H1 a = none → H1 d = none → d ≠ a → o.cls = .ref C → o.dict = some d → o.data = .fields vs → Q (.ref a) (upd (upd H1 d (.xd [(fl, v)])) a (exO o a))
theorem pe_z1 {fl : Str} (hn : ZName fl) (T : ZC X.K x q file b (some fl) C f) (hb : ZBOk b) (hP : PgOk X.prog file) (hr : Room (k + 1) X.A) (hg : Gl X x) (hm : X.mg x = some (.ref C)) (ha : PA X [a] ta) (hdb : NotDbg x := by decide)
    (he : Bare1 X a [] := by rfl) (hpl : NoStar X [] pos := by rfl) :
    PE X (.Call (.Name x p) [a] [] pos) (fun σ H Q => ta σ H fun ws H1 => ∃ v, ws = [v] ∧ tMk1 C fl v H1 Q) := by
  refine ⟨fun pins s σ H Q I h => wpAny_Call_Name_kw (ld_glob I hg hm (PySem.W.callWith_K (h₀ := X.base) I.ok.mod.kin T.kp (thn (ha.run pos pins s σ H _ I h) fun us s1 hh => ?_) he hpl) hdb)⟩
  obtain ⟨vs, H1, I1, r1, v, ev, q1⟩ := hh
  subst ev
  obtain ⟨v', rfl, rv⟩ : ∃ v', us = [v'] ∧ RelV v v' := by
    cases r1 with
    | cons rv rn => cases rn; exact ⟨_, rfl, rv⟩
  refine ⟨I1.kIn, ?_⟩
  have Z := Inv.zh I1
  obtain ⟨hp, g, dr, tk, os⟩ := s1
  refine wpAny_call (z_made1 hn T hb hP Z (by have := hr.dp; omega) fun h' tk' e t d k' hle hld hne hoe hns => ?_)
  obtain ⟨J, n1, n2⟩ := z_laid (tk' := tk') I1 rv k' hle hld hne hoe hns
  exact ⟨.ref e, _, J, rfl, q1 e d _ _ n1 n2 hne rfl rfl rfl⟩
/-- e.g of an exception object -/
theorem pe_xfld {g : Str} {e : Expr} {te : TE} (T : ZC X.K x q file b (some g) C f) (he : PE X e te) (hbb : BareBase X e g := by rfl) :
    PE X (.Attribute e g p) (fun σ H Q => te σ H fun y H1 => ∃ a d o vs v, y = .ref a ∧ H1 a = some (exO o a) ∧ o.cls = .ref C ∧ o.dict = some d ∧ o.data = .fields vs ∧ H1 d = some (.xd [(g, v)]) ∧ Q v H1) := by
  refine ⟨fun pins s σ H Q I h => attr_of hbb (thn (he.run pins s σ H _ I h) fun u s1 ⟨y, H1, I1, r1, a, d, o, vs, v, e1, h1, h2, h3, h4, h5, w⟩ => ?_)⟩
  subst e1
  obtain rfl : u = Value.ref a := r1
  obtain ⟨get, _⟩ : ObjOk X.prog X.w H1 s1.heap a (exO o a) := I1.hok a _ h1
  obtain ⟨mA, hns, hrel⟩ : ObjOk X.prog X.w H1 s1.heap d (.xd [(g, v)]) := I1.hok d _ h5
  obtain ⟨od, ho, hl⟩ := lookIn_ns hns
  have lk : List.lookup g [(g, v)] = some v := by simp [List.lookup]
  obtain ⟨y, hy, ry⟩ := RelO.some_of (v := v) (o := mA g) (by rw [← lk]; exact hrel g)
  have J : PySem.W.InstAt s1.heap a o C (some od) := ⟨get, h2, by unfold PySem.W.notCls; rw [h4] <;> rfl, by rw [h3]; exact ho⟩
  exact HandSPX.exc_get I1.kIn J T.gA T.gG T.isB (PySem.W.findObj_own T.hd (T.fld g rfl).1 rfl (by rw [hl, hy])) (handed_of ry) ⟨v, H1, I1.tok _, ry, w⟩
end
/-- what isinstance asks of such a class -/
structure XIs (K : PySem.W.Frag) (C : Addr) : Prop where
  ex : ∃ x q file b fl f, ZC K x q file b fl C f
section
variable {X : Cx}
theorem x_inst {C : Addr} (T : XIs X.K C) {pins : List (Addr × Obj)} {σ : L2.St} {H : Hp} {s : Shared} (I : Inv X pins σ H s) {a : Addr} {o : Obj} {Pr : Heap → Prop} {vs : Array Value} (h1 : H a = some (.frz o (.ext Pr))) (h2 : o.cls = .ref C) (h3 : o.data = .fields vs) (h4 : ∀ dx, o.dict = some dx → ∃ fs, H dx = some (.xd fs)) :
    ∃ P : Heap → Prop, PySem.W.KitX X.K (.ref a) (.ref C) P ∧ P s.heap := by
  obtain ⟨x, q, file, b, fl, f, T⟩ := T.ex
  obtain ⟨get, _⟩ : ObjOk X.prog X.w H s.heap a (.frz o (.ext Pr)) := I.hok a _ h1
  have no : PySem.W.notCls o = true := by
    unfold PySem.W.notCls
    rw [h3] <;> rfl
  have hcl : (PySem.W.clsIn X.K C).isSome = true := by
    obtain ⟨cd, hc, _⟩ := PySem.W.any_some T.hd
    rw [hc]
    rfl
  have kit := @PySem.W.kitx_exc X.K
  obtain ⟨od, J⟩ : ∃ od, PySem.W.InstAt s.heap a o C od := by
    cases hd : o.dict with
    | none => exact ⟨none, get, h2, no, by rw [hd]; trivial⟩
    | some dd =>
      obtain ⟨fs, hx⟩ := h4 dd hd
      obtain ⟨mA, hns, _⟩ : ObjOk X.prog X.w H s.heap dd (.xd fs) := I.hok dd _ hx
      obtain ⟨u, _, _, ho, _⟩ := hns
      exact ⟨some u, get, h2, no, by rw [hd]; exact ho⟩
  exact ⟨_, PySem.W.kitx_exc hcl T.gA T.gG T.isB T.cl T.clg T.clt T.ob, J⟩
/-- an exception object, as the heap holds it -/
def XAt (H : Hp) (a C : Addr) : Prop := ∃ (o : Obj) (Pr : Heap → Prop) (vs : Array Value), H a = some (.frz o (.ext Pr)) ∧ o.cls = .ref C ∧ o.data = .fields vs ∧ ∀ dx, o.dict = some dx → ∃ fs, H dx = some (.xd fs)
theorem XAt.mono {F H : Hp} {a C : Addr} (s : Same F H) : XAt F a C → XAt H a C := fun ⟨o, Pr, vs, h1, h2, h3, h4⟩ => ⟨o, Pr, vs, s _ _ h1, h2, h3, fun dx z => let ⟨fs, q⟩ := h4 dx z; ⟨fs, s _ _ q⟩⟩
theorem Dq.exAt {F : Hp} {v : V} {C : Int} (h : Dq F v (.dict [(.bool false, .int C)])) : ∃ (a D : Addr), v = .ref a ∧ C = (D : Nat) ∧ XAt F a D := by
  cases h with
  | exn h1 h2 h3 h4 => exact ⟨_, _, rfl, rfl, _, _, _, h1, h2, h3, h4⟩
theorem call_isX : CallR X (.builtin "isinstance") (fun xs H Q => ∃ (a C : Addr) (c : V) (cv : Value) (bb : Bool), xs = [.ref a, c] ∧ ClsV c cv ∧ XAt H a C ∧ XIs X.K C ∧ PySem.W.kitOne X.K (.ref C) cv = some bb ∧ Q (.bl bb) H) := by
  intro pins s σ H xs us Q I r h
  obtain ⟨a, C, c, cv, bb, rfl, k, ⟨o, Pr, vs, h1, h2, h3, h4⟩, T, e, w⟩ := h
  obtain ⟨u1, u2, rfl, r1, r2⟩ := vals2 r
  have e2 := k.eq r2
  subst e2
  obtain rfl : u1 = Value.ref a := r1
  obtain ⟨P, Z, pp⟩ := x_inst T I h1 h2 h3 h4
  exact PySem.W.kia_one Z I.kIn pp e (fun z => nomatch z) fun tk => ⟨.bl bb, H, I.tok tk, rfl, w⟩
theorem call_isXT : CallR X (.builtin "isinstance") (fun xs H Q => ∃ (a C tp : Addr) (cs : List V) (cvs : List Value) (bb : Bool), xs = [.ref a, .ref tp] ∧ H tp = some (.tup cs) ∧ Paired ClsV cs cvs ∧ XAt H a C ∧ XIs X.K C ∧ PySem.W.kitAny X.K (.ref C) cvs = some bb ∧ Q (.bl bb) H) := by
  intro pins s σ H xs us Q I r h
  obtain ⟨a, C, tp, cs, cvs, bb, rfl, hT, k, ⟨o, Pr, vs, h1, h2, h3, h4⟩, T, e, w⟩ := h
  obtain ⟨u1, u2, rfl, r1, r2⟩ := vals2 r
  obtain rfl : u1 = Value.ref a := r1
  obtain rfl : u2 = Value.ref tp := r2
  obtain ⟨P, Z, pp⟩ := x_inst T I h1 h2 h3 h4
  obtain ⟨_, its, rv, o, g1, g2, n, g3⟩ := (show ObjOk X.prog X.w H s.heap tp (.tup cs) from I.hok tp _ hT)
  have e3 := ClsV.all k rv
  subst e3
  obtain ⟨oc, od, dt, sl⟩ := o
  simp only at g2 g3
  subst g2 g3
  exact PySem.W.kia_tup Z I.kIn pp g1 e (fun z => nomatch z) fun tk => ⟨.bl bb, H, I.tok tk, rfl, w⟩
end

/-! ### the meanings -/
/-- C(), C(e) -/
def cMk0 (C : Addr) : SE := fun _ st => some (.d (exnD C), st)
def cMkX (C : Addr) (sa : SA) : SE := fun ev st => (sa ev st).bind fun r => match r.1 with
  | [.d _] => some (.d (exnD C), r.2)
  | _ => none
/-- C(e).g -/
def cXfv (sa : SA) : SE := fun ev st => (sa ev st).bind fun r => match r.1 with
  | [.d x] => some (.d x, r.2)
  | _ => none
/-- isinstance(e, T) by the table of what the classes are -/
def cIsX (tb : List (Addr × Bool)) (c : SE) : SE := fun ev st => (c ev st).bind fun r => match r.1 with
  | .d (.dict [(.bool false, .int C)]) => (tb.lookup C.toNat).map fun b => (.d (.bool b), r.2)
  | _ => none
/-- the table is right -/
structure XTb (K : PySem.W.Frag) (cv : Value) (tb : List (Addr × Bool)) : Prop where
  all : ∀ p ∈ tb, XIs K p.1 ∧ PySem.W.kitOne K (.ref p.1) cv = some p.2
theorem XTb.nil {K : PySem.W.Frag} {cv : Value} : XTb K cv [] := ⟨fun _ h => nomatch h⟩
theorem XTb.cons {K : PySem.W.Frag} {cv : Value} {tb : List (Addr × Bool)} {C : Addr} {b : Bool} (x : XIs K C) (h : PySem.W.kitOne K (.ref C) cv = some b) (t : XTb K cv tb) : XTb K cv ((C, b) :: tb) := ⟨fun p hp => by
  rcases List.mem_cons.mp hp with rfl | hp
  · exact ⟨x, h⟩
  · exact t.all p hp⟩
theorem lookup_mem {C : Addr} {b : Bool} : ∀ {tb : List (Addr × Bool)}, tb.lookup C = some b → (C, b) ∈ tb
  | [], h => by simp [List.lookup] at h
  | (D, c) :: tb, h => by
    rw [List.lookup] at h
    split at h
    · rename_i e
      cases h
      have := eq_of_beq e
      subst this
      exact List.mem_cons_self
    · exact List.mem_cons_of_mem _ (lookup_mem h)
section
variable {X : Cx} {x q file : Str} {b : ZB} {C f : Addr} {a : Expr} {sa : SA} {c : SE} {p p1 p2 pos : Pos} {k : Nat}
theorem se_mk0 (T : ZC X.K x q file b none C f) (hb : ZBOk b) (hP : PgOk X.prog file) (hr : Room (k + 1) X.A) (hg : Gl X x) (hm : X.mg x = some (.ref C)) (hdb : NotDbg x := by decide) :
    PE X (.Call (.Name x p) [] [] pos) (tI X.K (cMk0 C)) :=
  (pe_z0 T hb hP hr hg hm hdb).weak fun σ H Q ⟨ρ, F, ev, st, w, st', hr, sr, e, post⟩ => by
    cases e
    intro a o vs na h1 h2 h3
    have g := Grow.new (o := exO o a) hr.sub na
    exact post _ ρ _ _ (.of g) (hr.grow g) (.exn upd_same h1 h3 fun dx z => by rw [h2] at z; cases z)
/-- what the new object leaves behind -/
theorem mk1_ok {K : PySem.W.Frag} {ρ : Rho} {F H : Hp} {st : Sto} {a d C : Addr} {o : Obj} {vs : Array Value} {fl : Str} {v : V} (hr : HR ρ F H st) (na : H a = none) (nd : H d = none) (ne : d ≠ a) (h1 : o.cls = .ref C) (h2 : o.dict = some d) (h3 : o.data = .fields vs) :
    ∃ F', Ext ρ F ρ F' ∧ HR ρ F' (upd (upd H d (.xd [(fl, v)])) a (exO o a)) st ∧ Dq F' (.ref a) (exnD C) := by
  have g1 := Grow.new (o := .xd [(fl, v)]) hr.sub nd
  have g2 := Grow.new (o := exO o a) g1.fh (by rw [upd_ne (Ne.symm ne)]; exact na)
  refine ⟨_, .of (g1.trans g2), hr.grow (g1.trans g2), .exn upd_same h1 h3 fun dx z => ?_⟩
  rw [h2] at z
  cases z
  exact ⟨_, by rw [upd_ne ne, upd_same]⟩
theorem one_d {K : PySem.W.Frag} {ρ : Rho} {F : Hp} {vs : List V} {y : PyData} (h : WRs K ρ F vs [.d y]) : ∃ v, vs = [v] ∧ Dq F v y := by
  cases h with
  | cons h t => cases t; exact ⟨_, rfl, h⟩
theorem se_mk1 {fl : Str} (hn : ZName fl) (T : ZC X.K x q file b (some fl) C f) (hb : ZBOk b) (hP : PgOk X.prog file) (hr : Room (k + 1) X.A) (hg : Gl X x) (hm : X.mg x = some (.ref C)) (ha : PA X [a] (tA X.K sa)) (hdb : NotDbg x := by decide)
    (he : Bare1 X a [] := by rfl) (hpl : NoStar X [] pos := by rfl) : PE X (.Call (.Name x p) [a] [] pos) (tI X.K (cMkX C sa)) :=
  (pe_z1 hn T hb hP hr hg hm ha hdb he hpl).weak fun σ H Q ⟨ρ, F, ev, st, w, st', hr, sr, e, post⟩ => by
    simp only [cMkX, Option.bind_eq_some_iff] at e
    obtain ⟨⟨ws, st1⟩, e1, e2⟩ := e
    refine ⟨ρ, F, ev, st, ws, st1, hr, sr, e1, fun vs ρ' F' H' x1 hr' wr => ?_⟩
    split at e2
    · rename_i y hy
      cases e2
      simp only at hy
      subst hy
      obtain ⟨v, rfl, dv⟩ := one_d wr
      refine ⟨v, rfl, fun a d o vs na nd ne h1 h2 h3 => ?_⟩
      obtain ⟨F2, z1, z2, z3⟩ := mk1_ok (K := X.K) (fl := fl) (v := v) hr' na nd ne h1 h2 h3
      exact post _ ρ' F2 _ (x1.trans z1) z2 z3
    · cases e2
theorem se_xf {fl : Str} {p3 : Pos} (hn : ZName fl) (T : ZC X.K x q file b (some fl) C f) (hb : ZBOk b) (hP : PgOk X.prog file) (hr : Room (k + 1) X.A) (hg : Gl X x) (hm : X.mg x = some (.ref C)) (ha : PA X [a] (tA X.K sa)) (hdb : NotDbg x := by decide)
    (he : Bare1 X a [] := by rfl) (hpl : NoStar X [] pos := by rfl) (hbb : BareBase X (.Call (.Name x p) [a] [] pos) fl := by rfl) : PE X (.Attribute (.Call (.Name x p) [a] [] pos) fl p3) (tI X.K (cXfv sa)) :=
  (pe_xfld T (pe_z1 hn T hb hP hr hg hm ha hdb he hpl) hbb).weak fun σ H Q ⟨ρ, F, ev, st, w, st', hr, sr, e, post⟩ => by
    simp only [cXfv, Option.bind_eq_some_iff] at e
    obtain ⟨⟨ws, st1⟩, e1, e2⟩ := e
    refine ⟨ρ, F, ev, st, ws, st1, hr, sr, e1, fun vs ρ' F' H' x1 hr' wr => ?_⟩
    split at e2
    · rename_i y hy
      cases e2
      simp only at hy
      subst hy
      obtain ⟨v, rfl, dv⟩ := one_d wr
      refine ⟨v, rfl, fun a d o vs na nd ne h1 h2 h3 => ?_⟩
      obtain ⟨F2, z1, z2, z3⟩ := mk1_ok (K := X.K) (fl := fl) (v := v) hr' na nd ne h1 h2 h3
      exact ⟨a, d, o, vs, v, rfl, upd_same, h1, h2, h3, by rw [upd_ne ne, upd_same], post _ ρ' F2 _ (x1.trans z1) z2 (dv.mono z1.same)⟩
    · cases e2
/-- isinstance(e, T), T a class of the language or one's own -/
theorem se_isX {T : Str} {c1 : V} {cv : Value} {tb : List (Addr × Bool)} (tr : XTb X.K cv tb) (k : ClsV c1 cv) (hg : Gl X "isinstance") (hm : X.mg "isinstance" = none) (ht : PE X (.Name T p2) (tC c1)) (ha : PE X a (tI X.K c))
    (hst : Bare1 X a [.Name T p2] := by rfl) (hpl : NoStar X [.Name T p2] pos := by rfl) (hs2 : Bare1 X (.Name T p2) [] := by rfl) :
    PE X (.Call (.Name "isinstance" p) [a, .Name T p2] [] pos) (tI X.K (cIsX tb c)) :=
  (pe_callB call_isX hg hm PyProof.Rows.boot_isinstance (pa_cons ha (pa_cons ht pa_nil hs2) hst) (by decide) (by decide) hst hpl).weak fun σ H Q ⟨ρ, F, ev, st, w, st', hr, sr, e, post⟩ => by
    simp only [cIsX, Option.bind_eq_some_iff] at e
    obtain ⟨⟨w1, st1⟩, e1, e2⟩ := e
    refine ⟨ρ, F, ev, st, w1, st1, hr, sr, e1, fun v ρ' F' H' x1 h r => ?_⟩
    split at e2
    · rename_i D hy
      simp only at hy
      subst hy
      simp only [Option.map_eq_some_iff] at e2
      obtain ⟨bb, e3, e4⟩ := e2
      cases e4
      obtain ⟨a1, D1, rfl, rfl, xa⟩ := Dq.exAt (show Dq F' v _ from r)
      obtain ⟨t1, t2⟩ := tr.all _ (lookup_mem e3)
      exact ⟨a1, D1, c1, cv, bb, rfl, k, xa.mono h.sub, t1, t2, post (.bl bb) ρ' F' H' x1 h (.bl bb)⟩
    · cases e2
/-- isinstance(e, (T1, T2)), none of both -/
theorem se_isX2 {T1 T2 : Str} {c1 c2 : V} {cv1 cv2 : Value} {tb : List (Addr × Bool)} {kt : Nat} {q1 q2 : Pos} (tr1 : XTb X.K cv1 tb) (tr2 : XTb X.K cv2 tb) (hf : ∀ p ∈ tb, p.2 = false) (k1 : ClsV c1 cv1) (k2 : ClsV c2 cv2) (hg : Gl X "isinstance") (hm : X.mg "isinstance" = none) (ht1 : PE X (.Name T1 q1) (tC c1)) (ht2 : PE X (.Name T2 q2) (tC c2)) (ha : PE X a (tI X.K c))
    (hst : Bare1 X a [.Tuple [.Name T1 q1, .Name T2 q2] kt p2] := by rfl) (hpl : NoStar X [.Tuple [.Name T1 q1, .Name T2 q2] kt p2] pos := by rfl) (hs2 : Bare1 X (.Tuple [.Name T1 q1, .Name T2 q2] kt p2) [] := by rfl) (hs3 : Bare1 X (.Name T1 q1) [.Name T2 q2] := by rfl) (hs4 : Bare1 X (.Name T2 q2) [] := by rfl) :
    PE X (.Call (.Name "isinstance" p) [a, .Tuple [.Name T1 q1, .Name T2 q2] kt p2] [] pos) (tI X.K (cIsX tb c)) :=
  (pe_callB call_isXT hg hm PyProof.Rows.boot_isinstance (pa_cons ha (pa_cons (pe_tup (pa_cons ht1 (pa_cons ht2 pa_nil hs4) hs3)) pa_nil hs2) hst) (by decide) (by decide) hst hpl).weak fun σ H Q ⟨ρ, F, ev, st, w, st', hr, sr, e, post⟩ => by
    simp only [cIsX, Option.bind_eq_some_iff] at e
    obtain ⟨⟨w1, st1⟩, e1, e2⟩ := e
    refine ⟨ρ, F, ev, st, w1, st1, hr, sr, e1, fun v ρ' F' H' x1 h r => ⟨lim_le (by decide : 2 ≤ lim), fun tp np => ?_⟩⟩
    split at e2
    · rename_i D hy
      simp only at hy
      subst hy
      simp only [Option.map_eq_some_iff] at e2
      obtain ⟨bb, e3, e4⟩ := e2
      cases e4
      obtain ⟨a1, D1, rfl, rfl, xa⟩ := Dq.exAt (show Dq F' v _ from r)
      have mem := lookup_mem e3
      obtain ⟨t1, t2⟩ := tr1.all _ mem
      obtain ⟨_, t3⟩ := tr2.all _ mem
      have fb : bb = false := hf _ mem
      subst fb
      have g := Grow.new (o := .tup [c1, c2]) h.sub np
      refine ⟨a1, D1, tp, [c1, c2], [cv1, cv2], false, rfl, upd_same, .cons k1 (.cons k2 .nil), (xa.mono h.sub).mono g.hh, t1, ?_, post (.bl false) ρ' _ _ (x1.trans (.of g)) (h.grow g) (.bl false)⟩
      exact kitAny_cons t2 (fun _ => kitAny_cons t3 (fun _ => kitAny_nil) fun z => nomatch z) fun z => nomatch z
    · cases e2
end
/-- asked at the run's end -/
def isTb (K : PySem.W.Frag) (cv : Value) (tb : List (Addr × Bool)) : Bool := tb.all fun p => decide (PySem.W.kitOne K (.ref p.1) cv = some p.2)
theorem isTb_ok {K : PySem.W.Frag} {cv : Value} {tb : List (Addr × Bool)} (h : isTb K cv tb = true) (x : ∀ p ∈ tb, XIs K p.1) : XTb K cv tb := ⟨fun p hp => ⟨x p hp, of_decide_eq_true (List.all_eq_true.mp h p hp)⟩⟩
end Cm

set_option Elab.async false
set_option linter.all false
set_option maxRecDepth 100000
set_option maxHeartbeats 2000000
namespace Cm
open PySem PySem.Spec PyProof.Rows L2

/-! ### an own exception made with a keyword: C(g=e) -/
/-- the keyword binds as the place does -/
def ZKw (g : Str) : Prop := ∀ e v, ZBind g e v ⟨[.ref e], [(g, v)]⟩
theorem zk_item : ZKw "item" := fun _ _ _ _ _ _ _ _ _ _ _ _ => rfl
theorem zk_hop : ZKw "hop" := fun _ _ _ _ _ _ _ _ _ _ _ _ => rfl
theorem zk_place : ZKw "place" := fun _ _ _ _ _ _ _ _ _ _ _ _ => rfl
theorem zk_number : ZKw "number" := fun _ _ _ _ _ _ _ _ _ _ _ _ => rfl
section
variable {prog : Program} {w : World} {A : Around} {E : Value → Shared → Prop} {R : Result → Shared → Prop} {h : Heap} {g : Array GenState} {d : Drawn} {t : Nat} {os : OsState}
variable {nm q : Str} {C N : Addr} {bs bm bmB : List Value} {hdct : Bool} {sn : List Str} {sub : List Value} {ab : Bool} {col : Option Bool} {dd : Option Addr} {k0 k1 k2 k3 k5 : Option Value} {B newId initId : String} {y : Str} {v : Value}
theorem kw_check (F : ExcBaseFacts B newId initId bmB) (hT : ∀ Y : String, bm.contains (.type Y) = bmB.contains (.type Y)) {Q : Unit → Shared → Prop}
    (hC : h.get? C = some (excClassObj nm q C N bs bm hdct sn sub ab col dd k0 k1 k2 k3 k5 newId)) (hq : Q () ⟨h, g, d, t, os⟩) : wpAny (model prog w) A (checkBuiltinCall newId ⟨[.ref C], [(y, v)]⟩) Q E ⟨h, g, d, t, os⟩ := by
  have isB : (Value.ref C :: bm).contains (.type B) = true := by
    rw [List.contains_cons, hT, F.hasB]
    exact Bool.or_true _
  have z := F.noStar
  simp only [checkBuiltinCall, F.newKind, F.newSplit, F.newRow]
  repeat (first | (refine wpAny_loadPart_at hC ?_) | (refine wpAny_isSubtype_exc hC ?_; rw [isB]) | (refine wpAny_staticBase_exc hC ?_) | (refine wpAny_madeBy_exc hC ?_) | (simp only [bne_self_eq_false, Bool.false_eq_true, if_false]) | wp_step)
  exact hq
theorem kw_new (F : ExcBaseFacts B newId initId bmB) (hT : ∀ Y : String, bm.contains (.type Y) = bmB.contains (.type Y)) (hC : h.get? C = some (excClassObj nm q C N bs bm hdct sn sub ab col dd k0 k1 k2 k3 k5 newId))
    (hq : R (.ok (.ret (.ref (h.objs.size + 1)))) ⟨(h.push (PySem.W.kdv_tup [])).push (HandSPX.excO C h.objs.size), g, d, t, os⟩) :
    codeAny (model prog w) A (.builtin newId ⟨[.ref C], [(y, v)]⟩) R ⟨h, g, d, t, os⟩ := by
  have ends := F.ends
  have isB : (Value.ref C :: bm).contains (.type B) = true := by
    rw [List.contains_cons, hT, F.hasB]
    exact Bool.or_true _
  have noA : (Value.ref C :: bm).contains (.type "AttributeError") = false := by
    rw [List.contains_cons, hT, F.noAttr]
    rfl
  have noN : (Value.ref C :: bm).contains (.type "NameError") = false := by
    rw [List.contains_cons, hT, F.noName]
    rfl
  refine codeAny_builtinAt F.entry ?_
  unfold Builtin.«BaseException.__new__»
  refine _root_.PySem.wpAt_bind ?_
  show _root_.PySem.wpAt _ _ _ (stack >>= _) _ _ _
  refine _root_.PySem.wpAt_bind (_root_.PySem.wpAt_stack fun p below => _root_.PySem.wpAt_of_wpAny ?_)
  wp_walk
  refine _root_.PySem.wpAt_of_wpAny ?_
  rw [F.owner]
  repeat (first | (with_reducible refine wpAny_madeHere_exc F.canon hC ?_) | (with_reducible refine wpAny_loadPart_at hC ?_) | (with_reducible refine wpAny_isSubtype_exc hC ?_; first | rw [isB] | rw [noA] | rw [noN]) | wp_step)
  show R _ _
  rw [Heap.size_push]
  exact hq
theorem kw_type (F : ExcBaseFacts B newId initId bmB) (hT : ∀ Y : String, bm.contains (.type Y) = bmB.contains (.type Y)) {fI : Addr} {Q : Fin → Shared → Prop}
    (hC : h.get? C = some (excClassObj nm q C N bs bm hdct sn sub ab col dd k0 k1 k2 k3 k5 newId))
    (hi : PySem.W.Looks (model prog w) h (typeLookup (.ref C) "__init__") (some (.ref fI))) (hb : ∀ self, PySem.W.Looks (model prog w) h (bindSpecial (.ref fI) self) (.ref fI, [self]))
    (hq : codeAny (model prog w) A (.call (.ref fI) ⟨[.ref (h.objs.size + 1)], [(y, v)]⟩)
      (fun r s' => match r with | .ok (.ret u) => u = .none ∧ Q (.done (.ret (.ref (h.objs.size + 1)))) s' | .ok _ => False | .error e => E e s')
      ⟨(h.push (PySem.W.kdv_tup [])).push (HandSPX.excO C h.objs.size), g, d, t, os⟩) :
    wpAny (model prog w) A (Builtin.«type.__call__» ⟨[.ref C], [(y, v)]⟩) Q E ⟨h, g, d, t, os⟩ := by
  repeat (first | with_reducible refine wpAny_loadPart_at hC ?_ | with_reducible refine wpAny_madeBy_exc hC ?_ | wp_step)
  refine codeAny_call_builtin_code (Code.quiet_builtin _ F.quiet) (kw_check F hT hC (kw_new F hT hC ?_))
  show wpAny _ _ _ _ _ _
  have keep : ∀ c o, h.get? c = some o → ((h.push (PySem.W.kdv_tup [])).push (HandSPX.excO C h.objs.size)).get? c = some o := fun c o z => Heap.get?_push_of_some _ (Heap.get?_push_of_some _ z)
  have cls := keep _ _ hC
  have it : ((h.push (PySem.W.kdv_tup [])).push (HandSPX.excO C h.objs.size)).get? (h.objs.size + 1) = some (HandSPX.excO C h.objs.size) := by heap_get
  have own : (Value.ref C :: bm).contains (.ref C) = true := by simp
  unfold isInstance
  repeat (first | with_reducible refine wpAny_loadPart_at it ?_ | (with_reducible refine wpAny_isSubtype_exc cls ?_; rw [own]) | wp_step)
  show wpAny _ _ (typeLookup (.ref C) _) _ _ _
  refine (hi.keeps keep).at (wpAny_holding (wpAny_bind (((hb (.ref (h.objs.size + 1))).keeps keep).at (wpAny_bind (wpAny_call (codeAny_mono hq fun r s' z => ?_))))))
  rcases r with e | (u | _ | _ | _) <;> first | exact z | exact z.elim | skip
  obtain ⟨rfl, z⟩ := z
  first
    | exact wpAny_pure (wpAny_pure z)
    | (wp_walk; exact z)
theorem kw_call (F : ExcBaseFacts B newId initId bmB) (hT : ∀ Y : String, bm.contains (.type Y) = bmB.contains (.type Y)) {fI : Addr}
    (hC : h.get? C = some (excClassObj nm q C N bs bm hdct sn sub ab col dd k0 k1 k2 k3 k5 newId))
    (hi : PySem.W.Looks (model prog w) h (typeLookup (.ref C) "__init__") (some (.ref fI))) (hb : ∀ self, PySem.W.Looks (model prog w) h (bindSpecial (.ref fI) self) (.ref fI, [self]))
    (hq : codeAny (model prog w) (A.under (.builtin "type.__call__" ⟨[.ref C], [(y, v)]⟩)) (.call (.ref fI) ⟨[.ref (h.objs.size + 1)], [(y, v)]⟩) (PySem.W.InitBack (h.objs.size + 1) R)
      ⟨(h.push (PySem.W.kdv_tup [])).push (HandSPX.excO C h.objs.size), g, d, t, os⟩) :
    codeAny (model prog w) A (.call (.ref C) ⟨[], [(y, v)]⟩) R ⟨h, g, d, t, os⟩ := by
  have z1 := tc_lookup
  have z2 := tc_bind (.ref C)
  have hTy : (⟨h, g, d, t, os⟩ : Shared).TypeIs (.ref C) "type" := ⟨_, hC, rfl⟩
  refine codeAny_of_tree ?_
  show wpAny _ _ (callAny (.ref C) _) _ _ _
  repeat (any_goals (first | assumption | with_reducible refine wpAny_loadPart_at hC ?_ | wp_step))
  refine ⟨rfl, ?_⟩
  refine codeAny_call_builtin_at (Code.quiet_builtin _ (by decide +kernel)) entry_typeCall (wpAny_check_type_call_sub hC (kw_type F hT hC hi hb (codeAny_mono hq fun r s' z => ?_)))
  rcases r with e | (u | _ | _ | _) <;> exact z
end
section
variable {P : Program} {w : World} {A : Around} {s : Shared} {K : PySem.W.Frag} {x q file : Str} {b : ZB} {C f : Addr} {R : Result → Shared → Prop}
/-- C(fl=v) -/
theorem z_madeK {fl : Str} (hn : ZKw fl) (T : ZC K x q file b (some fl) C f) (hb : ZBOk b) (hP : PgOk P file) {mg : Str → Option Value} (Z : ZH K mg s.heap) {v : Value} (hroom : A.depth + 1 < recursionLimit)
    (hq : ∀ h' tk e t dx, (∀ c o, s.heap.get? c = some o → h'.get? c = some o) → s.heap.objs.size ≤ e → s.heap.objs.size ≤ dx → dx ≠ e → h'.get? e = some { cls := .ref C, dict := some dx, data := .fields #[.ref t, .none, .none, .none, .bool false, .none] } → h'.Ns1 dx (fun y => if y = fl then some v else none) →
      R (.ok (.ret (.ref e))) { s with heap := h', toks := tk }) :
    codeAny (model P w) A (.call (.ref C) ⟨[], [(fl, v)]⟩) R s := by
  obtain ⟨nm, nN, qn, bs, bm, hdct, sn, sub, ab, col, dd, k0, k1, k2, k3, k5, hC, hT⟩ := PySem.W.excInit_of Z.kin T.cls
  obtain ⟨Z2, hne, he, k⟩ := z_new (C := C) (us := []) Z
  obtain ⟨hp, g, d, tk, os⟩ := s
  refine kw_call hb.base hT hC (PySem.W.looks_findIn Z.kin T.iC) (fun self => PySem.W.bind_fn Z.kin self T.tf) ?_
  refine z_init1A (s := ⟨(hp.push (PySem.W.kdv_tup [])).push (HandSPX.excO C hp.objs.size), g, d, tk, os⟩) (hn _ _) T hb hP Z2 he hne ?_ fun h' tk' t1 dx k' dn dne hx hns => ?_
  · show A.depth + 1 < recursionLimit
    exact hroom
  · have dn2 : hp.objs.size ≤ dx := by
      have z := dn
      rw [Heap.size_push, Heap.size_push] at z
      omega
    exact ⟨rfl, hq h' tk' (hp.objs.size + 1) t1 dx (fun c o z => k' c o (Nat.ne_of_lt (Nat.lt_succ_of_lt (Heap.lt_size z))) (k c o z)) (Nat.le_succ _) dn2 dne hx hns⟩
end
section
variable {X : Cx} {x q file : Str} {b : ZB} {C f : Addr} {a : Expr} {ca : SE} {te : TE} {p p3 kp pos : Pos} {k : Nat}
theorem pe_zk {fl : Str} (hn : ZKw fl) (T : ZC X.K x q file b (some fl) C f) (hb : ZBOk b) (hP : PgOk X.prog file) (hr : Room (k + 1) X.A) (hg : Gl X x) (hm : X.mg x = some (.ref C)) (ha : PE X a te) (hdb : NotDbg x := by decide)
    (hall : (backToKw pos (keywordEach [⟨some fl, a, kp⟩] X.env)).all (·.1.isSome) = true := by rfl) (hks : (backToKw pos (keywordEach [⟨some fl, a, kp⟩] X.env)).filterMap (·.1) = [fl] := by rfl)
    (hpl : ((backTo pos (starEach [] X.env)).any (·.1) || (backToKw pos (keywordEach [⟨some fl, a, kp⟩] X.env)).any (·.1.isNone)) = false := by rfl) :
    PE X (.Call (.Name x p) [] [⟨some fl, a, kp⟩] pos) (fun σ H Q => tCons te tNil σ H fun ws H1 => ∃ v, ws = [v] ∧ tMk1 C fl v H1 Q) := by
  refine ⟨fun pins s σ H Q I h => wpAny_Call_Name_kw (ld_glob I hg hm (PySem.W.callWith_KW0 (h₀ := X.base) I.ok.mod.kin T.kp hall (thn ((pk_cons ha pk_nil).run pos pins s σ H _ I h) fun us s1 hh => ?_) hpl) hdb)⟩
  obtain ⟨vs, H1, I1, r1, v, ev, q1⟩ := hh
  subst ev
  obtain ⟨v', rfl, rv⟩ : ∃ v', us = [v'] ∧ RelV v v' := by
    cases r1 with
    | cons rv rn => cases rn; exact ⟨_, rfl, rv⟩
  refine ⟨I1.kIn, ?_⟩
  rw [hks]
  have Z := Inv.zh I1
  obtain ⟨hp, g, dr, tk, os⟩ := s1
  refine wpAny_call (z_madeK hn T hb hP Z (by have := hr.dp; omega) fun h' tk' e t d k' hle hld hne hoe hns => ?_)
  obtain ⟨J, n1, n2⟩ := z_laid (tk' := tk') I1 rv k' hle hld hne hoe hns
  exact ⟨.ref e, _, J, rfl, q1 e d _ _ n1 n2 hne rfl rfl rfl⟩
/-- C(g=e).g -/
theorem se_xfk {fl : Str} (hn : ZKw fl) (T : ZC X.K x q file b (some fl) C f) (hb : ZBOk b) (hP : PgOk X.prog file) (hr : Room (k + 1) X.A) (hg : Gl X x) (hm : X.mg x = some (.ref C)) (ha : PE X a (tI X.K ca)) (hdb : NotDbg x := by decide)
    (hall : (backToKw pos (keywordEach [⟨some fl, a, kp⟩] X.env)).all (·.1.isSome) = true := by rfl) (hks : (backToKw pos (keywordEach [⟨some fl, a, kp⟩] X.env)).filterMap (·.1) = [fl] := by rfl)
    (hpl : ((backTo pos (starEach [] X.env)).any (·.1) || (backToKw pos (keywordEach [⟨some fl, a, kp⟩] X.env)).any (·.1.isNone)) = false := by rfl)
    (hbb : BareBase X (.Call (.Name x p) [] [⟨some fl, a, kp⟩] pos) fl := by rfl) : PE X (.Attribute (.Call (.Name x p) [] [⟨some fl, a, kp⟩] pos) fl p3) (tI X.K (cXfv (cCons ca cNil))) :=
  (pe_xfld T (pe_zk hn T hb hP hr hg hm ha hdb hall hks hpl) hbb).weak fun σ H Q ⟨ρ, F, ev, st, w, st', hr, sr, e, post⟩ => by
    simp only [cXfv, Option.bind_eq_some_iff] at e
    obtain ⟨⟨ws, st1⟩, e1, e2⟩ := e
    split at e2
    · rename_i y hy
      cases e2
      simp only at hy
      subst hy
      simp only [cCons, cNil, Option.bind_eq_some_iff] at e1
      obtain ⟨⟨w1, st2⟩, e3, e4⟩ := e1
      have e5 : w1 = .d y ∧ st2 = st1 := by
        simp at e4
        exact e4
      obtain ⟨rfl, rfl⟩ := e5
      refine ⟨ρ, F, ev, st, _, _, hr, sr, e3, fun v ρ' F' H' x1 hr' wr => ⟨v, rfl, fun a d o vs na nd ne h1 h2 h3 => ?_⟩⟩
      obtain ⟨F2, z1, z2, z3⟩ := mk1_ok (K := X.K) (fl := fl) (v := v) hr' na nd ne h1 h2 h3
      exact ⟨a, d, o, vs, v, rfl, upd_same, h1, h2, h3, by rw [upd_ne ne, upd_same], post _ ρ' F2 _ (x1.trans z1) z2 (Dq.mono z1.same wr)⟩
    · cases e2
end
theorem xb_LookupError : bootBuiltins "LookupError" = some (.type "LookupError") := by decide +kernel
theorem xb_ValueError : bootBuiltins "ValueError" = some (.type "ValueError") := by decide +kernel
theorem xb_KeyError : bootBuiltins "KeyError" = some (.type "KeyError") := by decide +kernel
theorem xb_IndexError : bootBuiltins "IndexError" = some (.type "IndexError") := by decide +kernel
end Cm

set_option Elab.async false
set_option linter.all false
set_option maxRecDepth 100000
set_option maxHeartbeats 2000000
namespace Cm
open PySem PySem.Spec PyProof.Rows L2

/-! ### objects that change: their two lists may be read as lists of the store while they are pinned -/
/-- every object's own lists are pinned -/
def pinK (k : Nat) : Nat := if k = 1 then 0 else k
def pinR (ρ : Rho) : Rho := ρ.map fun x => (x.1, pinK x.2)
theorem pinK_ge {k : Nat} : 2 ≤ pinK k ↔ 2 ≤ k := by
  unfold pinK
  split <;> omega
theorem pinK_lt {k : Nat} (h : k < 2) : pinK k = 0 := by
  unfold pinK
  split <;> omega
theorem pin_get {ρ : Rho} {n : Nat} {a : Addr} {k : Nat} (h : ρ[n]? = some (a, k)) : (pinR ρ)[n]? = some (a, pinK k) := by
  unfold pinR
  rw [List.getElem?_map, h]
  rfl
theorem pin_of {ρ : Rho} {n : Nat} {a : Addr} {k : Nat} (h : (pinR ρ)[n]? = some (a, k)) : ∃ j, ρ[n]? = some (a, j) ∧ k = pinK j := by
  unfold pinR at h
  rw [List.getElem?_map] at h
  obtain ⟨⟨b, j⟩, e1, e2⟩ := Option.map_eq_some_iff.mp h
  cases e2
  exact ⟨j, e1, rfl⟩
theorem pin_obj {ρ : Rho} {n : Nat} {a C : Addr} (h : (pinR ρ)[n]? = some (a, C + 2)) : ρ[n]? = some (a, C + 2) := by
  obtain ⟨j, e1, e2⟩ := pin_of h
  have : 2 ≤ j := pinK_ge.mp (by omega)
  have e3 : pinK j = j := by unfold pinK; rw [if_neg (by omega)]
  rw [e1]
  congr 2
  omega
theorem HR.pin {ρ : Rho} {F H : Hp} {st : Sto} (h : HR ρ F H st) : HR (pinR ρ) F H st := by
  have ad : ∀ {n : Nat} {a : Addr}, Ad (pinR ρ) n a → Ad ρ n a := fun ⟨k, e⟩ => let ⟨j, e1, _⟩ := pin_of e; ⟨j, e1⟩
  refine ⟨h.sub, fun n xs e => ?_, fun n m a e1 e2 l1 l2 => h.inj n m a (ad e1) (ad e2) l1 l2, by unfold pinR; simp [h.len], fun n a C e => ?_, fun n m a C D e1 e2 => h.obj.inj n m a C D (pin_obj e1) (pin_obj e2)⟩
  · obtain ⟨a, vs, ⟨k, h1⟩, h2⟩ := h.cell n xs e
    exact ⟨a, vs, ⟨_, pin_get h1⟩, h2⟩
  · obtain ⟨dx, l, f, k1, k2, h1, h2, h3, h4, r⟩ := h.obj.at_ n a C (pin_obj e)
    exact ⟨dx, l, f, _, _, pin_get h1, pin_get h2, by rw [pinK_lt h3]; omega, by rw [pinK_lt h4]; omega, r⟩
/-- .. and let go: the kinds are as they were -/
def backR (ρ ρ' : Rho) : Rho := ρ'.mapIdx fun i x => match ρ[i]? with
  | some y => (x.1, y.2)
  | none => x
theorem back_get {ρ ρ' : Rho} {n : Nat} {a : Addr} {k : Nat} (h : ρ'[n]? = some (a, k)) : (backR ρ ρ')[n]? = some (a, match ρ[n]? with
  | some y => y.2
  | none => k) := by
  unfold backR
  rw [List.getElem?_mapIdx, h]
  simp only [Option.map_some]
  split <;> rfl
theorem back_of {ρ ρ' : Rho} {n : Nat} {a : Addr} {k : Nat} (h : (backR ρ ρ')[n]? = some (a, k)) : ∃ j, ρ'[n]? = some (a, j) ∧ k = (match ρ[n]? with
  | some y => y.2
  | none => j) := by
  unfold backR at h
  rw [List.getElem?_mapIdx] at h
  obtain ⟨⟨b, j⟩, e1, e2⟩ := Option.map_eq_some_iff.mp h
  refine ⟨j, ?_, ?_⟩
  · rw [e1]
    split at e2 <;> cases e2 <;> rfl
  · split at e2 <;> cases e2 <;> simp_all
/-- a list that was laid in between and those of the pinned objects: of which kind an entry was -/
theorem back_kind {ρ ρ' : Rho} {F F' : Hp} (x : Ext (pinR ρ) F ρ' F') {n : Nat} {a : Addr} {j : Nat} (h : ρ'[n]? = some (a, j)) : (2 ≤ j ↔ 2 ≤ (match ρ[n]? with
  | some y => y.2
  | none => j)) ∧ (2 ≤ j → j = (match ρ[n]? with
  | some y => y.2
  | none => j)) := by
  cases hq : ρ[n]? with
  | none => exact ⟨Iff.rfl, fun _ => rfl⟩
  | some y =>
    obtain ⟨b, e1, _⟩ := x.kin n y.1 (pinK y.2) (pin_get hq)
    rw [h] at e1
    have e2 : j = pinK y.2 := by
      injection e1 with e1
      injection e1
    subst e2
    refine ⟨pinK_ge, fun z => ?_⟩
    have : 2 ≤ y.2 := pinK_ge.mp z
    show pinK y.2 = y.2
    unfold pinK
    rw [if_neg (by omega)]
theorem HR.back {ρ ρ' : Rho} {F F' H' : Hp} {st' : Sto} (x : Ext (pinR ρ) F ρ' F') (h : HR ρ' F' H' st') : HR (backR ρ ρ') F' H' st' := by
  have ad : ∀ {n : Nat} {a : Addr}, Ad (backR ρ ρ') n a → Ad ρ' n a := fun ⟨k, e⟩ => let ⟨j, e1, _⟩ := back_of e; ⟨j, e1⟩
  have ob : ∀ {n : Nat} {a C : Addr}, (backR ρ ρ')[n]? = some (a, C + 2) → ρ'[n]? = some (a, C + 2) := fun {n a C} e => by
    obtain ⟨j, e1, e2⟩ := back_of e
    obtain ⟨b1, b2⟩ := back_kind x e1
    have hj : 2 ≤ j := b1.mpr (by omega)
    have := b2 hj
    rw [e1, this, ← e2]
  refine ⟨h.sub, fun n xs e => ?_, fun n m a e1 e2 l1 l2 => h.inj n m a (ad e1) (ad e2) l1 l2, by unfold backR; simp [h.len], fun n a C e => ?_, fun n m a C D e1 e2 => h.obj.inj n m a C D (ob e1) (ob e2)⟩
  · obtain ⟨a, vs, ⟨k, h1⟩, h2⟩ := h.cell n xs e
    exact ⟨a, vs, ⟨_, back_get h1⟩, h2⟩
  · obtain ⟨dx, l, f, k1, k2, h1, h2, h3, h4, r⟩ := h.obj.at_ n a C (ob e)
    exact ⟨dx, l, f, _, _, back_get h1, back_get h2, by have := (back_kind x h1).1; omega, by have := (back_kind x h2).1; omega, r⟩
theorem Ext.back {ρ ρ' : Rho} {F F' : Hp} (x : Ext (pinR ρ) F ρ' F') : Ext ρ F (backR ρ ρ') F' := by
  refine ⟨fun n a h => ?_, x.same, fun n a k h => ?_⟩
  · have := back_get (ρ := ρ) (x.pre n a (pin_get h))
    rw [h] at this
    exact this
  · obtain ⟨b, e1, e2⟩ := x.kin n a _ (pin_get h)
    have := back_get (ρ := ρ) e1
    rw [h] at this
    exact ⟨b, this, fun z => e2 (pinK_ge.mpr z)⟩
/-- the arguments, their objects pinned -/
def pinU : U → U
  | .o C n => .p C n
  | .q _ _ => .d (.dict [])
  | u => u
theorem WR.pin {K : PySem.W.Frag} {ρ : Rho} {F H : Hp} {st : Sto} (hr : HR ρ F H st) {v : V} : ∀ {w : U}, WR K ρ F v w → WR K (pinR ρ) F v (pinU w)
  | .d _, h => h
  | .l _, ⟨a, h1, h2⟩ => ⟨a, pin_get h1, h2⟩
  | .s _, h => h
  | .k _, h => h
  | .q _ _, ⟨a, _, h1, _, _⟩ => by subst h1; exact Dq.hid a
  | .o C n, ⟨a, _, h1, _, h2⟩ => by
    obtain ⟨dx, l, f, k1, k2, g1, g2, g3, g4, _⟩ := hr.obj.at_ n a C h1
    refine ⟨a, l, f, ?_, ?_, ?_, h2⟩
    · have := pin_get h1
      have e : pinK (C + 2) = C + 2 := by unfold pinK; rw [if_neg (by omega)]
      rw [e] at this
      exact this
    · have := pin_get g1
      rw [pinK_lt g3] at this
      exact this
    · have := pin_get g2
      rw [pinK_lt g4] at this
      exact this
  | .p C n, ⟨a, l, f, h1, h2, h3, h4⟩ => by
    refine ⟨a, l, f, ?_, pin_get h2, pin_get h3, h4⟩
    have := pin_get h1
    have e : pinK (C + 2) = C + 2 := by unfold pinK; rw [if_neg (by omega)]
    rw [e] at this
    exact this
theorem WRs.pin {K : PySem.W.Frag} {ρ : Rho} {F H : Hp} {st : Sto} (hr : HR ρ F H st) : ∀ {vs : List V} {ws : List U}, WRs K ρ F vs ws → WRs K (pinR ρ) F vs (ws.map pinU)
  | _, _, .nil => .nil
  | _, _, .cons h t => .cons (h.pin hr) (WRs.pin hr t)
/-- what comes back is data, or an object -/
def outU : U → Option U
  | .d x => some (.d x)
  | .o C n => some (.o C n)
  | _ => none
/-- a method, its objects pinned while it runs -/
def fPin (fs : FS) : FS := fun ws st => (fs (ws.map pinU) st).bind fun r => (outU r.1).map fun w => (w, r.2)
theorem outU_ok {K : PySem.W.Frag} {ρ ρ' : Rho} {F F' : Hp} (x : Ext (pinR ρ) F ρ' F') {v : V} {w w2 : U} (e : outU w = some w2) (r : WR K ρ' F' v w) : WR K (backR ρ ρ') F' v w2 := by
  have ob : ∀ {n : Nat} {a C : Addr}, ρ'[n]? = some (a, C + 2) → (backR ρ ρ')[n]? = some (a, C + 2) := fun {n a C} h => by
    have := back_get (ρ := ρ) h
    rw [← (back_kind x h).2 (by omega)] at this
    exact this
  cases w with
  | d y => cases e; exact r
  | o C n =>
    cases e
    obtain ⟨a, l, h1, hl1, h2⟩ := r
    refine ⟨a, l, ob h1, ?_, h2⟩
    have q := back_get (ρ := ρ) hl1
    cases hq : ρ[n + 1]? with
    | none => rw [hq] at q; exact q
    | some y =>
      obtain ⟨b, e1, _⟩ := x.kin (n + 1) y.1 (pinK y.2) (pin_get hq)
      rw [hl1] at e1
      have e2 : (1 : Nat) = pinK y.2 := by
        injection e1 with e1
        injection e1
      unfold pinK at e2
      split at e2 <;> omega
  | p C n => cases e
  | q C n => cases e
  | l n => cases e
  | s n => cases e
  | k n => cases e
theorem spF_pin {K : PySem.W.Frag} {fs : FS} {n : Nat} {vs : List V} {H : Hp} {Q : VK} {E : XK} (h : spF K (fPin fs) n vs H Q E) : spF K fs n vs H Q E := by
  obtain ⟨ρ, F, ws, st, w, st', hr, wr, hl, e, post⟩ := h
  simp only [fPin, Option.bind_eq_some_iff, Option.map_eq_some_iff] at e
  obtain ⟨⟨w1, st1⟩, e1, w2, e2, e3⟩ := e
  cases e3
  exact ⟨pinR ρ, F, ws.map pinU, st, w1, _, hr.pin, wr.pin hr, by rw [List.length_map, hl], e1, fun v ρ' F' H' x hr' r => post v _ F' H' x.back (HR.back x hr') (outU_ok x e2 r)⟩
/-- its promise -/
theorem fn_pin {P : Program} {w : World} {K : PySem.W.Frag} {mg : Str → Option Value} {base : Heap} {CX : CXT} {k : Nat} {f : Addr} {fd : FuncData} {ps : List Str} {fs : FS} {n : Nat} (F : FnOk P w K mg base CX k f fd ps (spF K fs n)) : FnOk P w K mg base CX k f fd ps (spF K (fPin fs) n) where
  len := fun vs H Q E h => F.len vs H Q E (spF_pin h)
  run := fun A outer s H args us vs Q E r e b v h => F.run A outer s H args us vs Q E r e b v (spF_pin h)
theorem CalM.pin {P : Program} {w : World} {K : PySem.W.Frag} {mg : Str → Option Value} {base : Heap} {k : Nat} {C : Addr} {m : Str} {ps : List Str} {fs : FS} (M : CalM P w K mg base k C m ps fs) : CalM P w K mg base k C m ps (fPin fs) := by
  obtain ⟨g, fd, F, h⟩ := M.ex
  exact ⟨g, fd, fn_pin F, h⟩

/-! ### a pinned object's own lists: slot 0 is the second of both cells, slot 1 the first -/
def cOwn (C i : Nat) (co : SE) : SE := fun ev st => (co ev st).bind fun r => match r.1 with
  | .p D n => if D = C then some (.l (n + 2 - i), r.2) else none
  | _ => none
section
variable {X : Cx} {o e : Expr} {es : List Expr} {f m : Str} {pos apos : Pos} {co : SE} {sa : SA} {C pp : Addr} {i k : Nat}
theorem slt_of {ρ : Rho} {F H : Hp} {st : Sto} (hr : HR ρ F H st) {n : Nat} {a C : Addr} (h : ρ[n]? = some (a, C + 2)) : ∃ dx l f k1 k2, ρ[n + 1]? = some (l, k1) ∧ ρ[n + 2]? = some (f, k2) ∧ SlX.Slt H a C dx [some (.ref f), some (.ref l)] := by
  obtain ⟨dx, l, f, k1, k2, h1, h2, _, _, h5, h6, _⟩ := hr.obj.at_ n a C h
  exact ⟨dx, l, f, k1, k2, h1, h2, .inr ⟨h5, hr.sub _ _ h6⟩⟩
theorem se_own (c : SlX.SCls X.K C) (t : SlX.Slot1 X.K C f pp i) (hi : i < 2) (ho : PE X o (tI X.K co)) (hb : attributeBase o f X.env (eval o X.env) = eval o X.env := by rfl) : PE X (.Attribute o f pos) (tI X.K (cOwn C i co)) :=
  (SlX.pe_sl ho hb).weak fun σ H Q ⟨ρ, F, ev, st, w, st', hr, sr, e, post⟩ => by
    simp only [cOwn, Option.bind_eq_some_iff] at e
    obtain ⟨⟨w1, st1⟩, e1, e2⟩ := e
    refine ⟨ρ, F, ev, st, w1, st1, hr, sr, e1, fun v ρ' F' H' x hr' r => ?_⟩
    split at e2
    · rename_i D n hy
      simp only at hy
      subst hy
      split at e2
      · rename_i hD
        subst hD
        cases e2
        obtain ⟨a, l, g, h1, h2, h3, rfl⟩ := r
        obtain ⟨dx, l', g', k1, k2, q1, q2, sl⟩ := slt_of hr' h1
        rw [h2] at q1
        cases q1
        rw [h3] at q2
        cases q2
        have hi2 : i = 0 ∨ i = 1 := by omega
        rcases hi2 with rfl | rfl
        · exact ⟨a, D, dx, pp, _, 0, .ref g, rfl, sl, c, t, rfl, post _ ρ' F' H' x hr' ⟨g, h3, rfl⟩⟩
        · exact ⟨a, D, dx, pp, _, 1, .ref l, rfl, sl, c, t, rfl, post _ ρ' F' H' x hr' ⟨l, h2, rfl⟩⟩
      · cases e2
    · cases e2
/-- o.m(e, ..), o an object of the store -/
def isOb (C : Nat) (co : SE) : SE := fun ev st => (co ev st).bind fun r => match r.1 with
  | .o D n => if D = C then some r else none
  | .p D n => if D = C then some r else none
  | _ => none
theorem mo_ok {K : PySem.W.Frag} {n : Nat} {fs : FS} {σ : L2.St} {H : Hp} {Q : VK} {E : XK} (h : tI K (cDef n fs (cCons (isOb C co) sa)) σ H Q) :
    SlX.tMethSl C (fun vs H Q E => spF K fs n (vs ++ []) H Q E) E (tI K co) (tA K sa) σ H Q := by
  obtain ⟨ρ, F, ev, st, w, st', hr, sr, q, post⟩ := h
  simp only [cDef, cCons, isOb, Option.bind_eq_some_iff, Option.map_eq_some_iff] at q
  obtain ⟨⟨ws, st1⟩, ⟨⟨w1, st2⟩, ⟨⟨w0, st3⟩, e0, e1⟩, ⟨ws2, st4⟩, e2, e3⟩, e4⟩ := q
  cases e3
  have key : ∃ m : Nat, (w0 = .o C m ∨ w0 = .p C m) ∧ w1 = w0 ∧ st2 = st3 := by
    split at e1
    · rename_i D m hy
      simp only at hy
      subst hy
      split at e1
      · rename_i hD
        subst hD
        cases e1
        exact ⟨m, .inl rfl, rfl, rfl⟩
      · cases e1
    · rename_i D m hy
      simp only at hy
      subst hy
      split at e1
      · rename_i hD
        subst hD
        cases e1
        exact ⟨m, .inr rfl, rfl, rfl⟩
      · cases e1
    · cases e1
  obtain ⟨m, hw, rfl, rfl⟩ := key
  refine ⟨ρ, F, ev, st, _, _, hr, sr, e0, fun v ρ' F' H' xx hr' r => ?_⟩
  obtain ⟨a, ha, rfl⟩ : ∃ a, ρ'[m]? = some (a, C + 2) ∧ v = .ref a := by
    rcases hw with rfl | rfl
    · obtain ⟨a, _, h1, _, h2⟩ := r
      exact ⟨a, h1, h2⟩
    · obtain ⟨a, _, _, h1, _, _, h2⟩ := r
      exact ⟨a, h1, h2⟩
  obtain ⟨dx, l, f, k1, k2, _, _, sl⟩ := slt_of hr' ha
  refine ⟨a, dx, _, rfl, sl, ρ', F', ev, _, ws2, _, hr', sr.mono xx, e2, fun vs ρ2 F2 H2 x2 hr2 wr => ?_⟩
  split at e4
  · rename_i hl
    refine ⟨ρ2, F2, _, _, w, st', hr2, ?_, hl, e4, fun v3 ρ3 F3 H3 x3 hr3 r3 => post v3 ρ3 F3 H3 (xx.trans (x2.trans x3)) hr3 r3⟩
    rw [List.append_nil]
    exact .cons (r.mono x2) wr
  · cases e4
theorem so_methO {ps : List Str} {fs : FS} {pl : Sem Bool} (c : SlX.SCls X.K C) (M : CalM X.prog X.w X.K X.mg X.base k C m ps fs) (hr : Room k X.A) (ho : PE X o (tI X.K co)) (ha : PA X (e :: es) (tA X.K sa))
    (hst : starEach (e :: es) X.env = (false, eval e X.env) :: starEach es X.env := by rfl) (hpl : (backTo pos (starEach es X.env)).any (·.1) = false := by rfl)
    (ht : eval (.Call (.Attribute o m apos) (e :: es) [] pos) X.env = (do
      let ov ← eval o X.env
      standAt apos.atName
      let (f, first) ← holding [ov] (getMethod ov m pl)
      callWith pos f first (backTo pos (starEach (e :: es) X.env)) (backToKw pos (keywordEach [] X.env))) := by rfl) :
    PE X (.Call (.Attribute o m apos) (e :: es) [] pos) (tI X.K (cDef ps.length fs (cCons (isOb C co) sa))) := by
  obtain ⟨g, fd, F, hm, hb⟩ := M.ex
  exact (SlX.pe_methSl ho c hm (F.raw hb .nil) hr pass0 ha hst hpl ht).weak fun _ _ _ h => mo_ok h
theorem so_methO0 {ps : List Str} {fs : FS} {pl : Sem Bool} (c : SlX.SCls X.K C) (M : CalM X.prog X.w X.K X.mg X.base k C m ps fs) (hr : Room k X.A) (ho : PE X o (tI X.K co))
    (ht : eval (.Call (.Attribute o m apos) [] [] pos) X.env = (do
      let ov ← eval o X.env
      standAt apos.atName
      let (f, first) ← holding [ov] (getMethod ov m pl)
      callWith pos f first (backTo pos (starEach [] X.env)) (backToKw pos (keywordEach [] X.env))) := by rfl) :
    PE X (.Call (.Attribute o m apos) [] [] pos) (tI X.K (cDef ps.length fs (cCons (isOb C co) cNil))) := by
  obtain ⟨g, fd, F, hm, hb⟩ := M.ex
  refine (SlX.pe_methSl0 ho c hm (F.raw hb .nil) hr pass0 ht).weak fun σ H Q h => ?_
  obtain ⟨ρ, F0, ev, st, w, st', h1, h2, h3, k⟩ := mo_ok (E := E0) h
  refine ⟨ρ, F0, ev, st, w, st', h1, h2, h3, fun v ρ' F' H' xx hr' r => ?_⟩
  obtain ⟨a, dx, vs, e1, e2, ρ2, F2, ev2, st2, ws, st3, q1, q2, q3, q4⟩ := k v ρ' F' H' xx hr' r
  cases q3
  exact ⟨a, dx, vs, e1, e2, q4 [] ρ2 F2 H' (.refl _ _) q1 .nil⟩
end
end Cm

set_option Elab.async false
set_option linter.all false
set_option maxRecDepth 100000
set_option maxHeartbeats 4000000
namespace Cm
open PySem PySem.Spec PyProof.Rows L2

/-! ### an object is made: self.f = a new list, self.g = [] -/
theorem get2 {α : Type} {l : List α} {x y w : α} {m : Nat} (h : (l ++ [x, y])[m]? = some w) : (m < l.length ∧ l[m]? = some w) ∨ (m = l.length ∧ w = x) ∨ (m = l.length + 1 ∧ w = y) := by
  rw [List.getElem?_append] at h
  split at h
  · rename_i hm
    exact .inl ⟨hm, h⟩
  · rename_i hm
    match hj : m - l.length, h with
    | 0, h => exact .inr (.inl ⟨by omega, (Option.some.inj h).symm⟩)
    | 1, h => exact .inr (.inr ⟨by omega, (Option.some.inj h).symm⟩)
    | j + 2, h => simp at h
theorem get3 {α : Type} {l : List α} {x y z w : α} {m : Nat} (h : (l ++ [x, y, z])[m]? = some w) : (m < l.length ∧ l[m]? = some w) ∨ (m = l.length ∧ w = x) ∨ (m = l.length + 1 ∧ w = y) ∨ (m = l.length + 2 ∧ w = z) := by
  rw [List.getElem?_append] at h
  split at h
  · rename_i hm
    exact .inl ⟨hm, h⟩
  · rename_i hm
    match hj : m - l.length, h with
    | 0, h => exact .inr (.inl ⟨by omega, (Option.some.inj h).symm⟩)
    | 1, h => exact .inr (.inr (.inl ⟨by omega, (Option.some.inj h).symm⟩))
    | 2, h => exact .inr (.inr (.inr ⟨by omega, (Option.some.inj h).symm⟩))
    | j + 3, h => simp at h
theorem at3 {α : Type} (l : List α) (x y z : α) : (l ++ [x, y, z])[l.length]? = some x ∧ (l ++ [x, y, z])[l.length + 1]? = some y ∧ (l ++ [x, y, z])[l.length + 2]? = some z := by
  refine ⟨?_, ?_, ?_⟩ <;> rw [List.getElem?_append_right (by omega)] <;> simp
theorem at2 {α : Type} (l : List α) (x y : α) : (l ++ [x, y])[l.length]? = some x ∧ (l ++ [x, y])[l.length + 1]? = some y := by
  refine ⟨?_, ?_⟩ <;> rw [List.getElem?_append_right (by omega)] <;> simp
theorem get_more' {α : Type} {l r : List α} {m : Nat} {x : α} (e : l[m]? = some x) : (l ++ r)[m]? = some x := by
  rw [List.getElem?_append_left (List.getElem?_eq_some_iff.mp e).1]
  exact e
/-- two lists become an object's own -/
theorem HR.wrap {ρ0 : Rho} {F H : Hp} {st0 : Sto} {a C dx b p : Addr} {i j : Nat} {ls es : List PyData} (h : HR (ρ0 ++ [(b, i), (p, j)]) F H (st0 ++ [some ls, some es])) (hl : ρ0.length = st0.length) (hi : i < 2) (hj : j < 2)
    (ha : H a = some (SlX.SlO a C dx [some (.ref p), some (.ref b)])) (fx : F dx = some (.xd [])) (fa : F a = none) (new : ∀ (n : Nat) (D : Addr), ρ0[n]? ≠ some (a, D + 2)) (tr : Tri ρ0 ρ0.length) :
    HR (ρ0 ++ [(a, C + 2), (b, 1), (p, 1)]) F H (st0 ++ [none, some ls, some es]) := by
  obtain ⟨q1, q2⟩ := at2 ρ0 (b, i) (p, j)
  obtain ⟨s1, s2⟩ := at2 st0 (some ls) (some es)
  obtain ⟨t1, t2, t3⟩ := at3 ρ0 (a, C + 2) (b, 1) (p, 1)
  have old : ∀ {m : Nat} {c : Addr}, m < ρ0.length → (Ad (ρ0 ++ [(a, C + 2), (b, 1), (p, 1)]) m c ↔ Ad (ρ0 ++ [(b, i), (p, j)]) m c) := fun {m c} hm => ⟨fun z => (z.old hm).more, fun z => (z.old hm).more⟩
  have adl : ∀ {m : Nat} {c : Addr} {y : List PyData}, Ad (ρ0 ++ [(a, C + 2), (b, 1), (p, 1)]) m c → (st0 ++ [none, some ls, some es])[m]? = some (some y) → ∃ m', Ad (ρ0 ++ [(b, i), (p, j)]) m' c ∧ (st0 ++ [some ls, some es])[m']? = some (some y) ∧ ((m < ρ0.length ∧ m' = m) ∨ (m = ρ0.length + 1 ∧ m' = ρ0.length) ∨ (m = ρ0.length + 2 ∧ m' = ρ0.length + 1)) := fun {m c y} z1 z2 => by
    rcases get3 z2 with ⟨hm, z⟩ | ⟨hm, z⟩ | ⟨hm, z⟩ | ⟨hm, z⟩
    · exact ⟨m, (old (by omega)).mp z1, get_more' z, .inl ⟨by omega, rfl⟩⟩
    · cases z
    · cases z
      obtain rfl := z1.eq (k := 1) (b := b) (by rw [hm, ← hl]; exact t2)
      exact ⟨ρ0.length, .of q1, by rw [hl]; exact s1, .inr (.inl ⟨by omega, rfl⟩)⟩
    · cases z
      obtain rfl := z1.eq (k := 1) (b := p) (by rw [hm, ← hl]; exact t3)
      exact ⟨ρ0.length + 1, .of q2, by rw [hl]; exact s2, .inr (.inr ⟨by omega, rfl⟩)⟩
  refine ⟨h.sub, fun m xs e => ?_, fun m m' c e1 e2 ⟨y1, l1⟩ ⟨y2, l2⟩ => ?_, by simp [hl], ⟨fun m c D e => ?_, fun m m' c D E e1 e2 => ?_⟩⟩
  · rcases get3 e with ⟨hm, z⟩ | ⟨hm, z⟩ | ⟨hm, z⟩ | ⟨hm, z⟩
    · obtain ⟨c, vs, k1, k2⟩ := h.cell m xs (get_more' z)
      exact ⟨c, vs, (old (by omega)).mpr k1, k2⟩
    · cases z
    · cases z
      obtain ⟨c, vs, k1, k2⟩ := h.cell ρ0.length _ (by rw [hl]; exact s1)
      obtain rfl := k1.eq q1
      exact ⟨c, vs, by rw [hm, ← hl]; exact .of t2, k2⟩
    · cases z
      obtain ⟨c, vs, k1, k2⟩ := h.cell (ρ0.length + 1) _ (by rw [hl]; exact s2)
      obtain rfl := k1.eq q2
      exact ⟨c, vs, by rw [hm, ← hl]; exact .of t3, k2⟩
  · obtain ⟨n1, a1, b1, c1⟩ := adl e1 l1
    obtain ⟨n2, a2, b2, c2⟩ := adl e2 l2
    have := h.inj n1 n2 c a1 a2 ⟨_, b1⟩ ⟨_, b2⟩
    omega
  · rcases get3 e with ⟨hm, z⟩ | ⟨hm, z⟩ | ⟨hm, z⟩ | ⟨hm, z⟩
    · obtain ⟨dy, l, f, k1, k2, g1, g2, r⟩ := h.obj.at_ m c D (get_more z)
      have := tr m c D hm z
      have lo : ∀ {q : Nat} {x : Addr × Nat}, q < ρ0.length → (ρ0 ++ [(b, i), (p, j)])[q]? = some x → (ρ0 ++ [(a, C + 2), (b, 1), (p, 1)])[q]? = some x := fun {q x} hq e => by
        rw [List.getElem?_append_left hq] at e ⊢
        exact e
      exact ⟨dy, l, f, k1, k2, lo (by omega) g1, lo this g2, r⟩
    · cases z
      subst hm
      exact ⟨dx, b, p, 1, 1, t2, t3, by omega, by omega, ha, fx, fa⟩
    · cases z
    · cases z
  · rcases get3 e1 with ⟨hm, z⟩ | ⟨hm, z⟩ | ⟨hm, z⟩ | ⟨hm, z⟩
    · rcases get3 e2 with ⟨hm2, z2⟩ | ⟨hm2, z2⟩ | ⟨hm2, z2⟩ | ⟨hm2, z2⟩
      · exact h.obj.inj m m' c D E (get_more z) (get_more z2)
      · cases z2
        exact absurd z (new _ _)
      · cases z2
      · cases z2
    · cases z
      rcases get3 e2 with ⟨hm2, z2⟩ | ⟨hm2, z2⟩ | ⟨hm2, z2⟩ | ⟨hm2, z2⟩
      · exact absurd z2 (new _ _)
      · omega
      · cases z2
      · cases z2
    · cases z
    · cases z
def iniL (N : Nat) (ce : SE) : List U → Sto → Option Sto := fun ws st => (ce (none :: (ws.map some ++ List.replicate (N - 1 - ws.length) none)) st).bind fun p => match p.1 with
  | .l k => if k < st.length then none else match p.2[k]? with
    | some (some ls) => some (p.2.take st.length ++ [none, some ls, some []])
    | _ => none
  | _ => none
/-- the promise of such an __init__ -/
def spIniL (K : PySem.W.Frag) (C : Addr) (n : Nat) (gi : List U → Sto → Option Sto) : Sp := fun vs H Q _ => ∃ ρ F a dx us ws st st', vs = V.ref a :: us ∧ dx ≠ a ∧ HR ρ F H st ∧ F a = none ∧ F dx = none ∧ H a = some (.ins C dx []) ∧ H dx = some (.own a) ∧ WRs K ρ F us ws ∧ ws.length = n ∧
  gi ws st = some st' ∧ ∀ ρ' F' H' l, Ext ρ F ρ' F' → HR ρ' F' H' st' → ρ'[st.length]? = some (a, C + 2) → ρ'[st.length + 1]? = some (l, 1) → Q .non H'
structure CalIL (P : Program) (w : World) (K : PySem.W.Frag) (mg : Str → Option Value) (base : Heap) (k : Nat) (C : Addr) (n : Nat) (gi : List U → Sto → Option Sto) : Prop where
  ex : ∃ (f : Addr) (fd : FuncData) (ps : List Str), FnOk P w K mg base CX0 k f fd ps (spIniL K C n gi) ∧ Mk K C f ∧ Binds K fd ps []
/-- C(e, ..) -/
def cMakeL (C n : Nat) (gi : List U → Sto → Option Sto) (sa : SA) : SE := fun ev st => (sa ev st).bind fun r => if r.1.length = n then (gi r.1 r.2).map fun st' => (.o C r.2.length, st') else none
section
variable {X : Cx} {C : Addr} {e : Expr} {es : List Expr} {sa : SA} {x : Str} {p pos : Pos} {k : Nat}
theorem se_makeL {n : Nat} {gi : List U → Sto → Option Sto} (M : CalIL X.prog X.w X.K X.mg X.base k C n gi) (hr : Room (k + 1) X.A) (hg : Gl X x) (hm : X.mg x = some (.ref C)) (ha : PA X (e :: es) (tA X.K sa))
    (hdb : NotDbg x := by decide) (he : Bare1 X e es := by rfl) (hpl : NoStar X es pos := by rfl) : PE X (.Call (.Name x p) (e :: es) [] pos) (tI X.K (cMakeL C n gi sa)) := by
  obtain ⟨f, fd, ps, F, mk, hb⟩ := M.ex
  refine (pe_make mk F hr hg hm hb .nil pass0 ha hdb he hpl).weak fun σ H Q ⟨ρ, F1, ev, st, w, st', hr1, sr, q, post⟩ => ?_
  simp only [cMakeL, Option.bind_eq_some_iff] at q
  obtain ⟨⟨ws, st1⟩, e1, e2⟩ := q
  split at e2
  · rename_i hl
    simp only [Option.map_eq_some_iff] at e2
    obtain ⟨st2, e3, e4⟩ := e2
    cases e4
    refine ⟨ρ, F1, ev, st, ws, st1, hr1, sr, e1, fun vs ρ2 F2 H2 x2 hr2 wr a dx na nd ne => ?_⟩
    have fa : F2 a = none := hr2.sub.free na
    have fd : F2 dx = none := hr2.sub.free nd
    have sm : Same H2 (upd (upd H2 dx (.own a)) a (.ins C dx [])) := (same_upd nd).trans (same_upd (by rw [upd_ne (Ne.symm ne)]; exact na))
    refine ⟨ρ2, F2, a, dx, vs, ws, st1, _, by rw [List.append_nil], ne, ⟨hr2.sub.trans sm, fun m xs q => ?_, hr2.inj, hr2.len, hr2.obj.to (Same.refl _) fun b D dy us e n => ⟨sm _ _ e, n⟩⟩, fa, fd, upd_same, by rw [upd_ne ne, upd_same], wr, hl, e3, fun ρ3 F3 H3 l x3 hr3 h1 h2 => ?_⟩
    · obtain ⟨b, us, k1, k2, k3, k4⟩ := hr2.cell m xs q
      exact ⟨b, us, k1, sm _ _ k2, k3, k4⟩
    · exact ⟨rfl, post _ ρ3 F3 H3 (x2.trans x3) hr3 ⟨a, l, h1, h2, rfl⟩⟩
  · cases e2
end
section
variable {P : Program} {w : World} {K : PySem.W.Frag} {mg : Str → Option Value} {base : Heap}
theorem iniL_ok {x q : Str} {st : Stmt} {f C pp : Addr} {fd : FuncData} {N ps : List Str} {k n : Nat} {ce : SE} {self fld fld1 : Str} {e : Expr} {p1 p2 p3 p4 p5 p6 p7 : Pos} {pq : Addr} (F : FunD K x q (defArgs st) (defBody st) (defScope st) [] [] f fd) (S : FnScope N ps (defScope st))
    (c : SlX.SCls K C) (t : SlX.Slot1 K C fld pp 1) (t1 : SlX.Slot1 K C fld1 pq 0) (hbd : defBody st = [.Assign [.Attribute (.Name self p1) fld p2] e p3, .Assign [.Attribute (.Name self p4) fld1 p5] (.List [] p6) p7]) (hps : ps.length = n + 1) (hN : N[0]? = some self) (hv : Vis (defScope st) self) (hd : (self == ("__debug__" : Str)) = false) (hcd : (self == ("__classdict__" : Str)) = false)
    (h : ∀ (cdv : Value) (A : Around) (outer : List Env) (s : Shared) (H : Hp) (E : XK), Room k (A.deeper (envOfC q (defScope st) s.heap.objs.size f cdv)) → PE (cxOf CX0 P w K mg base N q (defScope st) f cdv A outer s H E).nox e (tI K ce))
    (hsw : ∀ env l, swapsWith e (some (.Attribute (.Name self p1) fld p2)) l env = pure false) (hsw1 : ∀ env l, swapsWith (.List [] p6) (some (.Attribute (.Name self p4) fld1 p5)) l env = pure false) :
    FnOk P w K mg base CX0 (k + 1) f fd ps (spIniL K C n (iniL N.length ce)) := by
  refine F.ok S (fun vs H Q E ⟨ρ, F, a, dx, us, ws, st, st', e1, _, _, _, _, _, _, wr, hl, _⟩ => by rw [e1, List.length_cons, wr.length, hl, hps]) fun cdv A outer s H vs Q E hrm hsp => ?_
  have hp := h cdv A outer s H E hrm
  refine ⟨tSeq (SlX.sSl K (tVar 0) (tI K ce) fld) (SlX.sSl K (tVar 0) (tLst tNil) fld1), PSs.nox ?_, ?_⟩
  · rw [hbd]
    exact pss_cons (SlX.ps_sl (pe_var hN hv hd hcd) hp (hsw _ _)) (pss_one (SlX.ps_sl (pe_var hN hv hd hcd) (pe_lst pa_nil) (hsw1 _ _)))
  obtain ⟨ρ, F1, a, dx, us, ws, st1, st', e1, ne, hr, fa, fdx, ha, hdx, wr, hl, eg, post⟩ := hsp
  subst e1
  have hN1 : 1 ≤ N.length := by
    cases N with
    | nil => simp at hN
    | cons => simp
  simp only [iniL, Option.bind_eq_some_iff] at eg
  obtain ⟨⟨w1, st2⟩, e2, e3⟩ := eg
  split at e3
  · rename_i k1 hy
    simp only at hy
    subst hy
    split at e3
    · cases e3
    rename_i hk1
    split at e3
    · rename_i ls hls
      cases e3
      simp only at hls
      have sF : Same F1 (upd (upd F1 dx (.own a)) a (.ins C dx [])) := (same_upd fdx).trans (same_upd (by rw [upd_ne (Ne.symm ne)]; exact fa))
      have sH : Same (upd (upd F1 dx (.own a)) a (.ins C dx [])) H := fun b o q => by
        by_cases hb : b = a
        · subst hb
          rw [upd_same] at q
          cases q
          exact ha
        · rw [upd_ne hb] at q
          by_cases hb2 : b = dx
          · subst hb2
            rw [upd_same] at q
            cases q
            exact hdx
          · rw [upd_ne hb2] at q
            exact hr.sub _ _ q
      have hr1 : HR ρ (upd (upd F1 dx (.own a)) a (.ins C dx [])) H st1 := ⟨sH, fun m xs q => by
        obtain ⟨b, us2, k1, k2, k3, k4⟩ := hr.cell m xs q
        refine ⟨b, us2, k1, k2, ?_, k4.mono sF⟩
        have n1 : b ≠ a := fun z => by
          subst z
          rw [ha] at k2
          cases k2
        have n2 : b ≠ dx := fun z => by
          subst z
          rw [hdx] at k2
          cases k2
        rw [upd_ne n1, upd_ne n2]
        exact k3, hr.inj, hr.len, hr.obj.to sF fun b D dy us e n => ⟨e, by rw [upd_ne (ins_slo ha e), upd_ne (own_slo hdx e)]; exact n⟩⟩
      refine ⟨ρ, _, _, st1, _, st2, hr1, (SR.self wr hN1).mono (.same_of sF), e2, fun v ρ2 F2 H2 x2 hr2 r => ?_⟩
      obtain ⟨b, hb, rfl⟩ := r
      have Fa : F2 a = some (.ins C dx []) := x2.same _ _ upd_same
      have Fd : F2 dx = some (.own a) := x2.same _ _ (by rw [upd_ne ne, upd_same])
      refine ⟨V.ref a, by simp [L2.start], a, C, dx, pp, [], 1, rfl, .inl ⟨hr2.sub _ _ Fa, rfl⟩, c, t, ?_⟩
      refine ⟨Nat.zero_le _, fun p np => ⟨V.ref a, by simp [L2.start], a, C, dx, pq, [none, some (.ref b)], 0, rfl, ?_⟩⟩
      have Ha : (SlX.slH H2 a C dx (SlX.putS 1 (.ref b) [])) a = some (SlX.SlO a C dx [none, some (.ref b)]) := upd_same
      have Hd : (SlX.slH H2 a C dx (SlX.putS 1 (.ref b) [])) dx = some (.xd []) := by unfold SlX.slH; rw [upd_ne ne, upd_same]
      have pa : p ≠ a := fun z => by
        subst z
        rw [Ha] at np
        cases np
      have pd : p ≠ dx := fun z => by
        subst z
        rw [Hd] at np
        cases np
      have Hpn : H2 p = none := by rw [SlX.slH_ne pa pd] at np; exact np
      refine ⟨.inr ⟨by rw [upd_ne (Ne.symm pa)]; exact Ha, by rw [upd_ne (Ne.symm pd)]; exact Hd⟩, c, t1, ?_⟩
      generalize hG : SlX.slH (upd (SlX.slH H2 a C dx (SlX.putS 1 (.ref b) [])) p (.lst [])) a C dx (SlX.putS 0 (.ref p) [none, some (.ref b)]) = H3
      have G1 : H3 a = some (SlX.SlO a C dx [some (.ref p), some (.ref b)]) := by rw [← hG]; exact upd_same
      have G2 : H3 dx = some (.xd []) := by rw [← hG]; unfold SlX.slH; rw [upd_ne ne, upd_same]
      have G3 : H3 p = some (.lst []) := by rw [← hG, SlX.slH_ne pa pd, upd_same]
      have G4 : ∀ y, y ≠ a → y ≠ dx → y ≠ p → H3 y = H2 y := fun y n1 n2 n3 => by rw [← hG, SlX.slH_ne n1 n2, upd_ne n3, SlX.slH_ne n1 n2]
      clear hG
      have hlen : ρ.length = st1.length := hr.len
      have hl2 := hr2.len
      have tri : Tri ρ2 st1.length := x2.tri hr.obj hlen.symm
      have hlk : k1 < st2.length := (List.getElem?_eq_some_iff.mp hls).1
      have hrA := hr2.moved tri (by omega) hls hb
      let F3 : Hp := fun y => if y = a then none else if y = dx then some (.xd []) else F2 y
      let H2' : Hp := fun y => if y = p then none else H3 y
      have Fp : F2 p = none := hr2.sub.free Hpn
      have F3a : F3 a = none := if_pos rfl
      have F3d : F3 dx = some (.xd []) := by show (if dx = a then _ else _) = _; rw [if_neg ne, if_pos rfl]
      have F3n : ∀ y, y ≠ a → y ≠ dx → F3 y = F2 y := fun y n1 n2 => by show (if y = a then _ else _) = _; rw [if_neg n1, if_neg n2]
      have H2n : ∀ y, y ≠ a → y ≠ dx → y ≠ p → H2' y = H2 y := fun y n1 n2 n3 => by show (if y = p then _ else _) = _; rw [if_neg n3]; exact G4 y n1 n2 n3
      have mv : ∀ y o, F2 y = some o → (∀ C d fs, o ≠ .ins C d fs) → (∀ y, o ≠ .own y) → F3 y = some o := fun y o q n1 n2 => by
        rw [F3n]
        · exact q
        · intro z
          subst z
          rw [Fa] at q
          cases q
          exact n1 _ _ _ rfl
        · intro z
          subst z
          rw [Fd] at q
          cases q
          exact n2 _ rfl
      have hrB0 : HR (ρ2.take st1.length ++ [(b, 0)]) F3 H2' (st2.take st1.length ++ [some ls]) := by
        refine ⟨fun y o q => ?_, fun m xs q => ?_, hrA.inj, hrA.len, hrA.obj.to2 (fun dy z => mv _ _ z (fun _ _ _ y => nomatch y) fun _ y => nomatch y) fun y D dy us e n => ?_⟩
        · by_cases n1 : y = a
          · rw [n1, F3a] at q
            cases q
          · by_cases n2 : y = dx
            · subst n2
              rw [F3d] at q
              show (if _ then _ else _) = _
              rw [if_neg (Ne.symm pd), G2]
              exact q
            · rw [F3n y n1 n2] at q
              have n3 : y ≠ p := fun z => by rw [z, Fp] at q; cases q
              rw [H2n y n1 n2 n3]
              exact hr2.sub _ _ q
        · obtain ⟨y, us2, k1, k2, k3, k4⟩ := hrA.cell m xs q
          have n1 : y ≠ a := fun z => by rw [z, Fa] at k3; cases k3
          have n2 : y ≠ dx := fun z => by rw [z, Fd] at k3; cases k3
          have n3 : y ≠ p := fun z => by rw [z, Hpn] at k2; cases k2
          exact ⟨y, us2, k1, by rw [H2n y n1 n2 n3]; exact k2, by rw [F3n y n1 n2]; exact k3, k4.ini mv⟩
        · have n1 : y ≠ a := ins_slo (hr2.sub _ _ Fa) e
          have n2 : y ≠ dx := own_slo (hr2.sub _ _ Fd) e
          have n3 : y ≠ p := fun z => by rw [z, Hpn] at e; cases e
          exact ⟨by rw [H2n y n1 n2 n3]; exact e, by rw [F3n y n1 n2]; exact n⟩
      have hrB := hrB0.push (p := p) (vs := []) (xs := []) (if_pos rfl) .nil
      have hH : upd H2' p (.lst []) = H3 := by
        funext y
        by_cases hy : y = p
        · rw [hy, upd_same, G3]
        · rw [upd_ne hy]
          exact if_neg hy
      rw [hH, List.append_assoc, List.append_assoc] at hrB
      have lr : (ρ2.take st1.length).length = st1.length := by rw [List.length_take]; omega
      have ls' : (st2.take st1.length).length = st1.length := by rw [List.length_take]; omega
      have hrC := HR.wrap (C := C) (dx := dx) hrB (by rw [lr, ls']) (by omega) (by omega) G1 F3d F3a (fun m D z => by
        obtain ⟨dy, _, _, _, _, _, _, _, _, g, _⟩ := hr2.obj.at_ m a D (get_take z).2
        exact ins_slo (hr2.sub _ _ Fa) g rfl) (by
        rw [lr]
        exact fun m y D hm z => tri m y D hm (get_take z).2)
      have xt := x2.take st1.length (Nat.le_of_eq hlen)
      refine post _ F3 H3 b ⟨fun m y z => get_more (xt.pre m y z), fun y o z => ?_, fun m y j z => let ⟨u, g1, g2⟩ := xt.kin m y j z; ⟨u, get_more g1, g2⟩⟩ hrC ?_ ?_
      · have n1 : y ≠ a := fun z2 => by rw [z2, fa] at z; cases z
        have n2 : y ≠ dx := fun z2 => by rw [z2, fdx] at z; cases z
        rw [F3n y n1 n2]
        exact x2.same _ _ (sF _ _ z)
      · have := (at3 (ρ2.take st1.length) (a, C + 2) (b, 1) (p, 1)).1
        rw [lr] at this
        exact this
      · have := (at3 (ρ2.take st1.length) (a, C + 2) (b, 1) (p, 1)).2.1
        rw [lr] at this
        exact this
    · cases e3
  · cases e3
end
end Cm

set_option Elab.async false
set_option linter.all false
set_option maxRecDepth 100000
set_option maxHeartbeats 4000000
namespace Cm
open PySem PySem.Spec PyProof.Rows L2

/-! ### one + other, one += other, one == other, len(one): objects of the store -/
theorem isOb_eq {C : Nat} {co : SE} {ev : Ev} {st : Sto} {r : U × Sto} (h : isOb C co ev st = some r) : co ev st = some r ∧ ∃ m, r.1 = .o C m ∨ r.1 = .p C m := by
  simp only [isOb, Option.bind_eq_some_iff] at h
  obtain ⟨⟨w, s⟩, e1, e2⟩ := h
  split at e2
  · rename_i D m hy
    simp only at hy
    subst hy
    split at e2
    · rename_i hD
      subst hD
      cases e2
      exact ⟨e1, m, .inl rfl⟩
    · cases e2
  · rename_i D m hy
    simp only at hy
    subst hy
    split at e2
    · rename_i hD
      subst hD
      cases e2
      exact ⟨e1, m, .inr rfl⟩
    · cases e2
  · cases e2
theorem obj_slt {K : PySem.W.Frag} {ρ : Rho} {F H : Hp} {st : Sto} {v : V} {w : U} {C m : Nat} (hr : HR ρ F H st) (hw : w = .o C m ∨ w = .p C m) (r : WR K ρ F v w) : ∃ a dx vs, v = .ref a ∧ SlX.Slt H a C dx vs := by
  obtain ⟨a, ha, rfl⟩ : ∃ a, ρ[m]? = some (a, C + 2) ∧ v = .ref a := by
    rcases hw with rfl | rfl
    · obtain ⟨a, _, h1, _, h2⟩ := r
      exact ⟨a, h1, h2⟩
    · obtain ⟨a, _, _, h1, _, _, h2⟩ := r
      exact ⟨a, h1, h2⟩
  obtain ⟨dx, l, f, k1, k2, _, _, sl⟩ := slt_of hr ha
  exact ⟨a, dx, _, rfl, sl⟩
/-- both are objects, and the promise for both -/
def rBin (K : PySem.W.Frag) (C : Addr) (fs : FS) : R2 := fun x y H Q => ∃ p dx vs q dy ws, x = V.ref p ∧ y = V.ref q ∧ SlX.Slt H p C dx vs ∧ SlX.Slt H q C dy ws ∧ spF K fs 2 [x, y] H Q E0
def cBin (C : Nat) (fs : FS) (ca cb : SE) : SE := fun ev st => (isOb C ca ev st).bind fun p => (isOb C cb ev p.2).bind fun q => fs [p.1, q.1] q.2
section
variable {X : Cx} {a b e : Expr} {pos : Pos} {ca cb ce : SE} {C g : Addr} {k : Nat} {fs : FS}
theorem bin_ok {σ : L2.St} {H : Hp} {Q : VK} (h : tI X.K (cBin C fs ca cb) σ H Q) : tI X.K ca σ H fun v H1 => tI X.K cb σ H1 fun u H2 => rBin X.K C fs v u H2 Q := by
  obtain ⟨ρ, F, ev, st, w, st', hr, sr, e, post⟩ := h
  simp only [cBin, Option.bind_eq_some_iff] at e
  obtain ⟨⟨w1, st1⟩, e1, ⟨w2, st2⟩, e2, e3⟩ := e
  obtain ⟨e1, m1, h1⟩ := isOb_eq e1
  obtain ⟨e2, m2, h2⟩ := isOb_eq e2
  refine ⟨ρ, F, ev, st, _, _, hr, sr, e1, fun v ρ1 F1 H1 x1 hr1 r1 => ⟨ρ1, F1, ev, _, _, _, hr1, sr.mono x1, e2, fun u ρ2 F2 H2 x2 hr2 r2 => ?_⟩⟩
  have r1' := r1.mono x2
  obtain ⟨p, dx, vs, rfl, s1⟩ := obj_slt hr2 h1 r1'
  obtain ⟨q, dy, ws, rfl, s2⟩ := obj_slt hr2 h2 r2
  exact ⟨p, dx, vs, q, dy, ws, rfl, rfl, s1, s2, ρ2, F2, [w1, w2], st2, w, st', hr2, .cons r1' (.cons r2 .nil), rfl, e3, fun v3 ρ3 F3 H3 x3 hr3 r3 => post v3 ρ3 F3 H3 ((x1.trans x2).trans x3) hr3 r3⟩
theorem op_addL {fd : FuncData} {ps : List Str} (hc : PySem.W.selfFirst X.K C = true) (hm : Meth X.K C "__add__" g) (F : FnOk X.prog X.w X.K X.mg X.base CX0 k g fd ps (spF X.K fs 2)) (hb : Binds X.K fd ps []) (hr : Room k X.A) : OpR X (binaryOp .Add) (rBin X.K C fs) := by
  rintro pins s σ H x y v u Q I rx ry ⟨p, dx, vs, q, dy, ws, rfl, rfl, h1, h2, hq⟩
  obtain rfl : v = Value.ref p := rx
  obtain rfl : u = Value.ref q := ry
  obtain ⟨sl, od, _, J, _⟩ := SlX.slt_inst I h1
  obtain ⟨sl', od', _, J', _⟩ := SlX.slt_inst I h2
  obtain ⟨m, hF⟩ := I.fr
  refine PySem.W.binop_K (op := .Add) hF I.ok.mod.kin J J'.type hc hm.at_ hm.fn (thn (wpAny_call (run_fnR (us := [.ref p, .ref q]) (vs := [.ref p, .ref q]) (F.raw hb .nil) hr pass0 I (.cons rfl (.cons rfl .nil)) hq)) fun w s' z => ?_)
  obtain ⟨z', H', I', rz, qz⟩ := z
  exact SlX.cmpback rz ⟨z', H', I', rz, qz⟩
theorem se_addL {ps : List Str} (hc : PySem.W.selfFirst X.K C = true) (M : CalM X.prog X.w X.K X.mg X.base k C "__add__" ps fs) (hl : ps.length = 2) (hr : Room k X.A) (ha : PE X a (tI X.K ca)) (hb : PE X b (tI X.K cb)) :
    PE X (.BinOp a .Add b pos) (tI X.K (cBin C fs ca cb)) := by
  obtain ⟨g, fd, F, hm, hbi⟩ := M.ex
  rw [hl] at F
  exact (pe_op (op_addL hc hm F hbi hr) ha hb).weak fun σ H Q h => bin_ok h
/-- the class says __iadd__ itself -/
theorem fills_I {M : Model} {h : Heap} {K : PySem.W.Frag} {f : Addr} {cd : ClassData} {rest : List Value} (Y : K.In h) (hc : PySem.W.clsIn K C = some cd) (hm : cd.mro = .ref C :: rest) (hs : PySem.W.findIn K (.ref C) "__iadd__" = some (some (.ref f))) : PySem.W.Looks M h (fillsInplaceSlot (.ref C) "add" true) true := by
  intro A Q E s k q
  unfold fillsInplaceSlot
  refine wpAny_bind ((PySem.W.looks_clsIn Y hc).andThen (f := fun cd => pure cd.mro) .now A _ E s k ?_)
  rw [hm, List.anyM_cons]
  refine wpAny_bind (wpAny_bind (PySem.W.looks_findIn Y hs A _ E s k ?_))
  dsimp only
  rw [if_pos (show (!ownNameWrapper (.ref f) (dunderI "add")) = true from rfl)]
  refine wpAny_pure ?_
  rw [if_pos rfl]
  exact wpAny_pure q
theorem op_iaddL {fd : FuncData} {ps : List Str} (hc : PySem.W.selfFirst X.K C = true) (hm : Meth X.K C "__iadd__" g) (F : FnOk X.prog X.w X.K X.mg X.base CX0 k g fd ps (spF X.K fs 2)) (hb : Binds X.K fd ps []) (hr : Room k X.A) : OpR X (inplaceOp .Add) (rBin X.K C fs) := by
  rintro pins s σ H x y v u Q I rx ry ⟨p, dx, vs, q, dy, ws, rfl, rfl, h1, h2, hq⟩
  obtain rfl : v = Value.ref p := rx
  obtain rfl : u = Value.ref q := ry
  obtain ⟨sl, od, _, J, _⟩ := SlX.slt_inst I h1
  obtain ⟨cd, hcd, hmr⟩ := PySem.W.any_some hc
  obtain ⟨rest, hmr⟩ : ∃ rest, cd.mro = .ref C :: rest := by
    cases z : cd.mro with
    | nil => rw [z] at hmr; cases hmr
    | cons c r => rw [z, List.head?_cons] at hmr; cases (beq_iff_eq.mp hmr); exact ⟨r, rfl⟩
  unfold inplaceOp
  refine wpAny_holding (wpAny_bind (J.type.here (wpAny_bind ((fills_I I.kIn hcd hmr hm.at_).here ?_))))
  rw [if_pos rfl]
  refine wpAny_bind (m := tryMethod (.ref p) _ (.ref q)) ?_
  unfold tryMethod
  refine wpAny_bind (PySem.W.special_fn I.kIn J hm.at_ (beq_iff_eq.mp hm.fn) (thn (wpAny_call (run_fnR (us := [.ref p, .ref q]) (vs := [.ref p, .ref q]) (F.raw hb .nil) hr pass0 I (.cons rfl (.cons rfl .nil)) hq)) fun w s' z => ?_))
  obtain ⟨z', H', I', rz, qz⟩ := z
  have back : PySem.W.CmpBack (EP X pins σ Q) w s' := SlX.cmpback rz ⟨z', H', I', rz, qz⟩
  cases w <;> first | exact back.elim | exact wpAny_pure (wpAny_bind (wpAny_rule (wpAny_pure back)))
def cAugO (i C : Nat) (fs : FS) (ce : SE) : SS := fun ev st => match ev[i]? with
  | some (some (.o D n)) => if D = C then (isOb C ce ev st).bind fun r => (fs [.o C n, r.1] r.2).map fun q => .nx (ev.set i (some q.1)) q.2 else none
  | _ => none
theorem s_augO {ps : List Str} {i : Nat} {x : Str} {pos' : Pos} (hc : PySem.W.selfFirst X.K C = true) (M : CalM X.prog X.w X.K X.mg X.base k C "__iadd__" ps fs) (hl : ps.length = 2) (hr : Room k X.A) (hN : X.N.Nodup) (hi : X.N[i]? = some x) (hx : Loc X.env.scope x) (he : PE X e (tI X.K ce))
    (hf : X.fn x = true ∨ X.env.scope.names.lookup x = some .local := by first | exact .inl rfl | exact .inr rfl | assumption) : PS X (.AugAssign (.Name x pos') .Add e pos) (tSS X.K (cAugO i C fs ce)) := by
  obtain ⟨g, fd, F, hm, hbi⟩ := M.ex
  rw [hl] at F
  refine (ps_aug hN hi hx he (op_iaddL hc hm F hbi hr) hf).weak fun D σ H ⟨ρ, F0, ev, st, out, hr0, sr, q, ok⟩ => ?_
  unfold cAugO at q
  split at q
  · rename_i D' n hq
    split at q
    · rename_i hD
      subst hD
      simp only [Option.bind_eq_some_iff, Option.map_eq_some_iff] at q
      obtain ⟨⟨w1, st1⟩, e1, ⟨w2, st2⟩, e2, e3⟩ := q
      subst e3
      obtain ⟨e1, m, hw⟩ := isOb_eq e1
      obtain ⟨v, k1, k2⟩ := sr.get i _ hq
      refine ⟨v, k1, ρ, F0, ev, st, _, _, hr0, sr, e1, fun u ρ1 F1 H1 x1 hr1 r1 => ?_⟩
      have k2' := k2.mono x1
      obtain ⟨p, dx, vs, rfl, s1⟩ := obj_slt hr1 (.inl rfl) k2'
      obtain ⟨q, dy, ws, rfl, s2⟩ := obj_slt hr1 hw r1
      exact ⟨p, dx, vs, q, dy, ws, rfl, rfl, s1, s2, ρ1, F1, _, st1, w2, st2, hr1, .cons k2' (.cons r1 .nil), rfl, e2, fun v3 ρ3 F3 H3 x3 hr3 r3 => ok _ ρ3 F3 H3 (x1.trans x3) hr3 (((sr.mono x1).mono x3).set r3 i)⟩
    · cases q
  · cases q
/-- len(one) -/
theorem call_lenO {fd : FuncData} {ps : List Str} (hm : Meth X.K C "__len__" g) (F : FnOk X.prog X.w X.K X.mg X.base CX0 k g fd ps (spF X.K fs 1)) (hb : Binds X.K fd ps []) (hr : Room (k + 1) X.A) :
    CallR X (.builtin "len") (fun xs H Q => ∃ p dx vs, xs = [V.ref p] ∧ SlX.Slt H p C dx vs ∧ spF X.K fs 1 [.ref p] H (fun z H' => ∃ i : Int, z = .int i ∧ 0 ≤ i ∧ i < 2 ^ 63 ∧ Q (.int i) H') E0) := by
  rintro pins s σ H xs us Q I r ⟨p, dx, vs, rfl, h1, hq⟩
  obtain ⟨u, rfl, ru⟩ := vals1 r
  obtain rfl : u = Value.ref p := ru
  obtain ⟨sl, od, _, J, _⟩ := SlX.slt_inst I h1
  have hr2 : Room k X.A.in1 := hr.in1
  refine Calls.call_function_entry PySem.kind_len PySem.plain_len PySem.entry_len (PySem.args_len1 _) ?_
  unfold Builtin.«len»
  refine wpAny_bind (m := oneArg "len" _) (wpAny_pure ?_)
  refine wpAny_bind (m := callSpecial? (.ref p) (PySem.Str.ofString "__len__")) (PySem.W.special_fn I.kIn J hm.at_ (beq_iff_eq.mp hm.fn) (thn (wpAny_call (SlX.run_at (us := [.ref p]) (ws := [.ref p]) (F.raw hb .nil) hr2 I.env0.in1 pass0 I (.cons rfl .nil) hq)) fun w s' z => ?_))
  obtain ⟨z', H', I', rz, i, ei, i0, i1, qz⟩ := z
  subst ei
  obtain ⟨t, rfl⟩ := (show ∃ t, w = Value.int i t from rz)
  refine wpAny_bind (wpAny_holding (wpAny_pure ?_))
  refine wpAny_bind (wpAny_letGo ?_)
  show wpAny _ _ (if i < 0 then _ else _) _ _ _
  rw [if_neg (by omega)]
  show wpAny _ _ (if i ≥ 2 ^ 63 then _ else _) _ _ _
  rw [if_neg (by omega)]
  exact wpAny_bind (wpAny_mkInt (wpAny_pure ⟨_, rfl, .int i, H', I'.tok _, ⟨_, rfl⟩, qz⟩))
end
end Cm

set_option Elab.async false
set_option linter.all false
set_option maxRecDepth 100000
set_option maxHeartbeats 4000000
namespace Cm
open PySem PySem.Spec PyProof.Rows L2

/-! ### self.own_limits = e at a method's end: the object's first list is another one from there on -/
theorem HR.repoint {ρ : Rho} {F H : Hp} {st : Sto} {n m k : Nat} {a b C dx l f : Addr} {ls : List PyData} (h : HR ρ F H st) (tri : Tri ρ n) (hm : m < n) (hk : n ≤ k) (ha : ρ[m]? = some (a, C + 2)) (hb : Ad ρ k b) (hs : st[k]? = some (some ls))
    (g1 : ∃ j, ρ[m + 1]? = some (l, j)) (g2 : ∃ j, ρ[m + 2]? = some (f, j)) (sl : H a = some (SlX.SlO a C dx [some (.ref f), some (.ref l)])) (fx : F dx = some (.xd [])) (fa : F a = none) :
    HR ((ρ.take n).set (m + 1) (b, 1)) F (SlX.slH H a C dx [some (.ref f), some (.ref b)]) ((st.take n).set (m + 1) (some ls)) := by
  have hl := h.len
  have m2 := tri m a C hm ha
  have kl : k < st.length := (List.getElem?_eq_some_iff.mp hs).1
  have rl : (ρ.take n).length = n := by rw [List.length_take]; omega
  have tl : (st.take n).length = n := by rw [List.length_take]; omega
  have ge : ∀ {i : Nat} {x : Addr × Nat}, ((ρ.take n).set (m + 1) (b, 1))[i]? = some x → (i = m + 1 ∧ x = (b, 1)) ∨ (i ≠ m + 1 ∧ i < n ∧ ρ[i]? = some x) := fun {i x} e => by
    by_cases hi : i = m + 1
    · subst hi
      rw [List.getElem?_set_self (by omega)] at e
      exact .inl ⟨rfl, (Option.some.inj e).symm⟩
    · rw [List.getElem?_set_ne (Ne.symm hi)] at e
      exact .inr ⟨hi, get_take e⟩
  have pu : ∀ {i : Nat} {x : Addr × Nat}, i ≠ m + 1 → i < n → ρ[i]? = some x → ((ρ.take n).set (m + 1) (b, 1))[i]? = some x := fun {i x} h1 h2 e => by
    rw [List.getElem?_set_ne (Ne.symm h1)]
    exact put_take h2 e
  have new : ((ρ.take n).set (m + 1) (b, 1))[m + 1]? = some (b, 1) := List.getElem?_set_self (by omega)
  have ges : ∀ {i : Nat} {xs : List PyData}, ((st.take n).set (m + 1) (some ls))[i]? = some (some xs) → (i = m + 1 ∧ xs = ls) ∨ (i ≠ m + 1 ∧ i < n ∧ st[i]? = some (some xs)) := fun {i xs} e => by
    by_cases hi : i = m + 1
    · subst hi
      rw [List.getElem?_set_self (by omega)] at e
      cases e
      exact .inl ⟨rfl, rfl⟩
    · rw [List.getElem?_set_ne (Ne.symm hi), List.getElem?_take] at e
      split at e
      · exact .inr ⟨hi, by assumption, e⟩
      · cases e
  have dxa : dx ≠ a := fun z => by rw [z, fa] at fx; cases fx
  have away : ∀ y, y ≠ a → y ≠ dx → SlX.slH H a C dx [some (.ref f), some (.ref b)] y = H y := fun y h1 h2 => SlX.slH_ne h1 h2
  have onL : ∀ {y : Addr} {vs : List V}, H y = some (.lst vs) → SlX.slH H a C dx [some (.ref f), some (.ref b)] y = some (.lst vs) := fun {y vs} e => by
    rw [away y]
    · exact e
    · exact fun z => (lst_slo e sl) z.symm
    · intro z
      rw [z, h.sub _ _ fx] at e
      cases e
  have adl : ∀ {i : Nat} {c : Addr} {y : List PyData}, Ad ((ρ.take n).set (m + 1) (b, 1)) i c → ((st.take n).set (m + 1) (some ls))[i]? = some (some y) → ∃ i', Ad ρ i' c ∧ st[i']? = some (some y) ∧ ((i = m + 1 ∧ i' = k) ∨ (i ≠ m + 1 ∧ i < n ∧ i' = i)) := fun {i c y} ⟨j, e1⟩ e2 => by
    rcases ge e1 with ⟨q1, q2⟩ | ⟨q1, q2, q3⟩
    · cases q2
      rcases ges e2 with ⟨_, rfl⟩ | ⟨q4, _⟩
      · exact ⟨k, hb, hs, .inl ⟨q1, rfl⟩⟩
      · exact absurd q1 q4
    · rcases ges e2 with ⟨q4, _⟩ | ⟨_, _, q6⟩
      · exact absurd q4 q1
      · exact ⟨i, ⟨j, q3⟩, q6, .inr ⟨q1, q2, rfl⟩⟩
  refine ⟨fun y o q => ?_, fun i xs e => ?_, fun i i' c e1 e2 ⟨y1, l1⟩ ⟨y2, l2⟩ => ?_, by simp [rl, tl], ⟨fun i c D e => ?_, fun i i' c D D' e1 e2 => ?_⟩⟩
  · have h1 : y ≠ a := fun z => by rw [z, fa] at q; cases q
    by_cases h2 : y = dx
    · subst h2
      rw [fx] at q
      unfold SlX.slH
      rw [upd_ne h1, upd_same]
      exact q
    · rw [away y h1 h2]
      exact h.sub _ _ q
  · rcases ges e with ⟨rfl, rfl⟩ | ⟨q4, q5, q6⟩
    · obtain ⟨c, vs, k1, k2, k3, k4⟩ := h.cell k _ hs
      obtain rfl := k1.eq2 hb
      exact ⟨b, vs, .of new, onL k2, k3, k4⟩
    · obtain ⟨c, vs, ⟨j, k1⟩, k2, k3, k4⟩ := h.cell i xs q6
      exact ⟨c, vs, ⟨j, pu q4 q5 k1⟩, onL k2, k3, k4⟩
  · obtain ⟨n1, a1, b1, c1⟩ := adl e1 l1
    obtain ⟨n2, a2, b2, c2⟩ := adl e2 l2
    have := h.inj n1 n2 c a1 a2 ⟨_, b1⟩ ⟨_, b2⟩
    omega
  · rcases ge e with ⟨_, q2⟩ | ⟨q1, q2, q3⟩
    · cases q2
    · by_cases him : i = m
      · subst him
        rw [ha] at q3
        cases q3
        obtain ⟨dy, l', f', k1, k2, z1, z2, z3, z4, z5, z6, z7⟩ := h.obj.at_ i a C ha
        obtain ⟨j2, g2⟩ := g2
        rw [g2] at z2
        cases z2
        exact ⟨dx, b, f, 1, _, new, pu (by omega) m2 g2, by omega, z4, by unfold SlX.slH; exact upd_same, fx, fa⟩
      · obtain ⟨dy, l', f', k1, k2, z1, z2, z3, z4, z5, z6, z7⟩ := h.obj.at_ i c D q3
        have hi2 := tri i c D q2 q3
        have ca : c ≠ a := fun z => him (h.obj.inj i m a D C (by rw [← z]; exact q3) ha)
        have cd : c ≠ dx := fun z => by
          rw [z, h.sub _ _ fx] at z5
          exact absurd (Option.some.inj z5).symm SlX.slO_not
        have im : i + 1 ≠ m := fun z => by
          rw [z, ha] at z1
          cases z1
          omega
        exact ⟨dy, l', f', k1, k2, pu (by omega) (by omega) z1, pu (by omega) hi2 z2, z3, z4, by rw [away c ca cd]; exact z5, z6, z7⟩
  · rcases ge e1 with ⟨_, q2⟩ | ⟨_, _, q3⟩
    · cases q2
    · rcases ge e2 with ⟨_, q5⟩ | ⟨_, _, q6⟩
      · cases q5
      · exact h.obj.inj i i' c D D' q3 q6
/-- rows ahead of a def's end -/
structure Rows (X : Cx) (ss : List Stmt) (b : SS) : Prop where
  run : ∀ {ts : List Stmt} {u : TS}, PSs X ts u → PSs X (ss ++ ts) (tSeq (tSS X.K b) u)
theorem rows_one {X : Cx} {s : Stmt} {a : SS} (h : PS X s (tSS X.K a)) : Rows X [s] a := ⟨fun k => pss_cons h k⟩
theorem rows_cons {X : Cx} {s : Stmt} {ss : List Stmt} {a b : SS} (h : PS X s (tSS X.K a)) (r : Rows X ss b) : Rows X (s :: ss) (cSeq a b) := ⟨fun {ts u} k => (pss_cons h (r.run k)).weak fun D σ H z => seq_ok (D := { D with nx := u D }) z⟩
/-- .. self.own_limits = e (and self is handed back) -/
def isP (C m : Nat) : Option (Option U) → Bool
  | some (some (.p D n)) => decide (D = C ∧ n = m)
  | _ => false
theorem isP_eq {C m : Nat} {x : Option (Option U)} (h : isP C m x = true) : x = some (some (.p C m)) := by
  unfold isP at h
  split at h
  · obtain ⟨rfl, rfl⟩ := of_decide_eq_true h
    rfl
  · cases h
def fRe (C N : Nat) (ret : Bool) (b : SS) (ce : SE) : FS := fun ws st => match ws with
  | .o D m :: us => if D = C then (b ((ws.map pinU).map some ++ List.replicate (N - ws.length) none) st).bind fun o => match o with
    | .nx ev1 st1 => if isP C m ev1[0]? = true then (ce ev1 st1).bind fun r => match r.1 with
      | .l k => if k < st.length ∨ st.length ≤ m then none else match r.2[k]? with
        | some (some ls) => some (if ret then .o C m else .d .none, (r.2.take st.length).set (m + 1) (some ls))
        | _ => none
      | _ => none
    else none
    | _ => none
    else none
  | _ => none
section
variable {P : Program} {w : World} {K : PySem.W.Frag} {mg : Str → Option Value} {base : Heap}
theorem re_end {ρ ρ1 : Rho} {F F1 H H1 : Hp} {st st1 st2 : Sto} {ev1 : Ev} {σ1 : L2.St} {l0 : Addr} {C m k pp : Nat} {ce : SE} {fld : Str} {ls : List PyData} (c : SlX.SCls K C) (t : SlX.Slot1 K C fld pp 1) (hr : HR ρ F H st) (x1 : Ext (pinR ρ) F ρ1 F1) (hr1 : HR ρ1 F1 H1 st1) (sr : SR K ρ1 F1 ev1 σ1)
    (hk1 : ρ[m + 1]? = some (l0, 1)) (hp : ev1[0]? = some (some (.p C m))) (e : ce ev1 st1 = some (.l k, st2)) (hk : st.length ≤ k) (hm : m < st.length) (q : st2[k]? = some (some ls)) {D : L2.Ends} (hD : ∀ a H', (∃ ρ' F' l, Ext ρ F ρ' F' ∧ HR ρ' F' H' ((st2.take st.length).set (m + 1) (some ls)) ∧ ρ'[m]? = some (a, C + 2) ∧ ρ'[m + 1]? = some (l, 1)) → σ1[0]? = some (some (.ref a)) → D.nx σ1 H') : SlX.sSl K (tVar 0) (tI K ce) fld D σ1 H1 := by
  obtain ⟨v, hv, r⟩ := sr.get 0 _ hp
  refine ⟨ρ1, F1, ev1, st1, _, _, hr1, sr, e, fun y ρ2 F2 H2 x2 hr2 ry => ⟨v, hv, ?_⟩⟩
  obtain ⟨a, l, f, h1, h2, h3, rfl⟩ := r.mono x2
  obtain ⟨b, hb, rfl⟩ := ry
  obtain ⟨dx, l', f', k1, k2, z1, z2, z3, z4, z5, z6, z7⟩ := hr2.obj.at_ m a C h1
  rw [h2] at z1
  cases z1
  rw [h3] at z2
  cases z2
  refine ⟨a, C, dx, pp, [some (.ref f), some (.ref l)], 1, rfl, .inr ⟨z5, hr2.sub _ _ z6⟩, c, t, ?_⟩
  have x12 := x1.trans x2
  have hb2 := HR.back x12 hr2
  have tri : Tri (backR ρ ρ2) st.length := x12.back.tri hr.obj hr.len.symm
  have ob : (backR ρ ρ2)[m]? = some (a, C + 2) := by
    have := back_get (ρ := ρ) h1
    rw [← (back_kind x12 h1).2 (by omega)] at this
    exact this
  have rp := hb2.repoint tri hm hk ob ⟨_, back_get hb⟩ q ⟨_, back_get h2⟩ ⟨_, back_get h3⟩ z5 z6 z7
  refine hD a _ ⟨_, F2, b, ?_, rp, ?_, ?_⟩ hv
  · have xt := x12.back.take st.length (Nat.le_of_eq hr.len)
    refine ⟨fun i y z => ?_, xt.same, fun i y j z => ?_⟩
    · have hi : i ≠ m + 1 := fun hi => by
        rw [hi, hk1] at z
        cases z
      rw [List.getElem?_set_ne (Ne.symm hi)]
      exact xt.pre i y z
    · by_cases hi : i = m + 1
      · subst hi
        rw [hk1] at z
        cases z
        refine ⟨b, List.getElem?_set_self ?_, by omega⟩
        have := (List.getElem?_eq_some_iff.mp hk1).1
        have l2 := hb2.len
        have l3 := lt_of_get q
        rw [List.length_take]
        have := hr.len
        omega
      · obtain ⟨u, g1, g2⟩ := xt.kin i y j z
        exact ⟨u, by rw [List.getElem?_set_ne (Ne.symm hi)]; exact g1, g2⟩
  · rw [List.getElem?_set_ne (by omega)]
    exact put_take hm ob
  · refine List.getElem?_set_self ?_
    have := (List.getElem?_eq_some_iff.mp hk1).1
    have l2 := hb2.len
    have l3 := lt_of_get q
    rw [List.length_take]
    have := hr.len
    omega
theorem def_okRe {x q : Str} {st : Stmt} {f : Addr} {fd : FuncData} {N ps : List Str} {k C pp : Nat} {b : SS} {ce : SE} {rows tl : List Stmt} {self fld : Str} {e : Expr} {p1 p2 p3 p4 p5 : Pos} {ret : Bool} (F : FunD K x q (defArgs st) (defBody st) (defScope st) [] [] f fd) (S : FnScope N ps (defScope st))
    (c : SlX.SCls K C) (t : SlX.Slot1 K C fld pp 1) (hbd : defBody st = rows ++ (.Assign [.Attribute (.Name self p1) fld p2] e p3 :: tl)) (htl : tl = if ret then [.Return (some (.Name self p4)) p5] else []) (hN : N[0]? = some self) (hv : Vis (defScope st) self) (hd : (self == ("__debug__" : Str)) = false) (hcd : (self == ("__classdict__" : Str)) = false)
    (hrw : ∀ (cdv : Value) (A : Around) (outer : List Env) (s : Shared) (H : Hp) (E : XK), Room k (A.deeper (envOfC q (defScope st) s.heap.objs.size f cdv)) → Rows (cxOf CX0 P w K mg base N q (defScope st) f cdv A outer s H E).nox rows b)
    (h : ∀ (cdv : Value) (A : Around) (outer : List Env) (s : Shared) (H : Hp) (E : XK), Room k (A.deeper (envOfC q (defScope st) s.heap.objs.size f cdv)) → PE (cxOf CX0 P w K mg base N q (defScope st) f cdv A outer s H E).nox e (tI K ce))
    (hsw : ∀ env l, swapsWith e (some (.Attribute (.Name self p1) fld p2)) l env = pure false) : FnOk P w K mg base CX0 (k + 1) f fd ps (spF K (fRe C N.length ret b ce) ps.length) := by
  refine F.ok S (fun vs H Q E ⟨_, _, ws, _, _, _, _, wr, hl, _, _⟩ => by rw [wr.length, hl]) fun cdv A outer s H vs Q E hrm ⟨ρ, F, ws, st0, w0, st', hr, wr, hl, eq, post⟩ => ?_
  have hp := h cdv A outer s H E hrm
  have hR := hrw cdv A outer s H E hrm
  let u : TS := if ret then tRet (tVar 0) else tNext
  have hu : PSs (cxOf CX0 P w K mg base N q (defScope st) f cdv A outer s H E).nox tl u := by
    rw [htl]
    cases ret with
    | true => exact pss_one (ps_ret (pe_var hN hv hd hcd))
    | false => exact pss_nil
  refine ⟨tSeq (tSS K b) (tSeq (SlX.sSl K (tVar 0) (tI K ce) fld) u), PSs.nox ?_, ?_⟩
  · rw [hbd]
    exact hR.run (pss_cons (SlX.ps_sl (pe_var hN hv hd hcd) hp (hsw _ _)) hu)
  unfold fRe at eq
  split at eq
  · rename_i D m us
    split at eq
    · rename_i hD
      subst hD
      simp only [Option.bind_eq_some_iff] at eq
      obtain ⟨o, e1, e2⟩ := eq
      split at e2
      · rename_i ev1 st1
        split at e2
        · rename_i hP
          simp only [Option.bind_eq_some_iff] at e2
          obtain ⟨⟨w1, st2⟩, e3, e4⟩ := e2
          split at e4
          · rename_i k1 hy
            simp only at hy
            subst hy
            split at e4
            · cases e4
            · rename_i hk
              split at e4
              · rename_i ls hls
                cases e4
                have wh : ∃ a l0, ρ[m + 1]? = some (l0, 1) ∧ ρ[m]? = some (a, D + 2) := by
                  cases wr with
                  | cons r _ => obtain ⟨a, l, h1, h2, _⟩ := r; exact ⟨a, l, h2, h1⟩
                obtain ⟨a0, l0, hk1, _⟩ := wh
                have sr0 := SR.start (N := N) (wr.pin hr)
                rw [List.length_map] at sr0
                refine ⟨pinR ρ, F, _, st0, .nx ev1 st1, hr.pin, sr0, e1, fun σ1 ρ1 F1 H1 x1 hr1 sr1 => ?_⟩
                refine re_end c t hr x1 hr1 sr1 hk1 (isP_eq hP) e3 (by omega) (by omega) hls fun a H' ⟨ρ', F', l, xx, hr', h1, h2⟩ hs => ?_
                cases ret with
                | true => exact ⟨.ref a, hs, post (.ref a) ρ' F' H' xx hr' ⟨a, l, h1, h2, rfl⟩⟩
                | false => exact post .non ρ' F' H' xx hr' .non
              · cases e4
          · cases e4
        · cases e2
      · cases e2
    · cases eq
  · cases eq
end
end Cm

set_option Elab.async false
set_option linter.all false
set_option maxRecDepth 100000
set_option maxHeartbeats 4000000
namespace Cm
open PySem PySem.Spec PyProof.Rows L2

/-! ### len(one), one == other as expressions -/
def cLenO (C : Nat) (fs : FS) (ca : SE) : SE := fun ev st => (isOb C ca ev st).bind fun r => (fs [r.1] r.2).bind fun q => match q.1 with
  | .d (.int i) => if 0 ≤ i ∧ i < 2 ^ 63 then some (.d (.int i), q.2) else none
  | _ => none
section
variable {X : Cx} {a b e : Expr} {p pos : Pos} {ca cb ce : SE} {C g : Addr} {k : Nat} {fs : FS}
theorem se_lenO {ps : List Str} (M : CalM X.prog X.w X.K X.mg X.base k C "__len__" ps fs) (hl : ps.length = 1) (hr : Room (k + 1) X.A) (hg : Gl X "len") (hm0 : X.mg "len" = none) (ha : PE X a (tI X.K ca))
    (hst : Bare1 X a [] := by rfl) (hpl : NoStar X [] pos := by rfl) : PE X (.Call (.Name "len" p) [a] [] pos) (tI X.K (cLenO C fs ca)) := by
  obtain ⟨g, fd, F, hm, hb⟩ := M.ex
  rw [hl] at F
  refine (pe_callB (call_lenO hm F hb hr) hg hm0 PySem.boot_len (pa_cons ha pa_nil hst) (by decide) (by decide) hst hpl).weak fun σ H Q ⟨ρ, F0, ev, st, w, st', hr0, sr, q, post⟩ => ?_
  simp only [cLenO, Option.bind_eq_some_iff] at q
  obtain ⟨⟨w1, st1⟩, e1, ⟨w2, st2⟩, e2, e3⟩ := q
  obtain ⟨e1, m, hw⟩ := isOb_eq e1
  refine ⟨ρ, F0, ev, st, _, _, hr0, sr, e1, fun v ρ1 F1 H1 x1 hr1 r1 => ?_⟩
  obtain ⟨pp, dx, vs, rfl, s1⟩ := obj_slt hr1 hw r1
  refine ⟨pp, dx, vs, rfl, s1, ρ1, F1, [w1], st1, w2, st2, hr1, .cons r1 .nil, rfl, e2, fun v3 ρ3 F3 H3 x3 hr3 r3 => ?_⟩
  split at e3
  · rename_i i hy
    simp only at hy
    subst hy
    split at e3
    · rename_i hi
      cases e3
      cases (show Dq F3 v3 (.int i) from r3)
      exact ⟨i, rfl, hi.1, hi.2, post _ ρ3 F3 H3 (x1.trans x3) hr3 (.int i)⟩
    · cases e3
  · cases e3
theorem se_eqO {ps : List Str} (M : CalM X.prog X.w X.K X.mg X.base k C "__eq__" ps fs) (hl : ps.length = 2) (hnf : PySem.W.notFirst X.K C (.ref C) = true) (hr : Room k X.A) (ha : PE X a (tI X.K ca)) (hb : PE X b (tI X.K cb)) (hmk : behindInMarks .Eq b = false) :
    PE X (.Compare a [.Eq] [b] pos) (tI X.K (cBin C fs ca cb)) := by
  obtain ⟨g, fd, F, hm, hbi⟩ := M.ex
  rw [hl] at F
  exact (pe_cmpR (SlX.op_own (op := .Eq) (sp := fun vs H Q E => spF X.K fs 2 (vs ++ []) H Q E) (fun _ _ => rfl) hm.at_ hm.fn (F.raw hbi .nil) hr pass0) ha hb hmk).weak fun σ H Q h => by
    obtain ⟨ρ, F0, ev, st, w, st', h1, h2, h3, kk⟩ := bin_ok h
    refine ⟨ρ, F0, ev, st, w, st', h1, h2, h3, fun v ρ' F' H' xx hr' r => ?_⟩
    obtain ⟨ρ2, F2, ev2, st2, w2, st3, g1, g2, g3, kk2⟩ := kk v ρ' F' H' xx hr' r
    refine ⟨ρ2, F2, ev2, st2, w2, st3, g1, g2, g3, fun u ρ3 F3 H3 x3 hr3 r3 => ?_⟩
    obtain ⟨p, dx, vs, q, dy, ws, e1, e2, s1, s2, sp⟩ := kk2 u ρ3 F3 H3 x3 hr3 r3
    exact ⟨p, dx, vs, q, C, dy, ws, e1, e2, s1, s2, hnf, sp⟩
end

/-! ### a method that may raise ahead of its last row self.own_limits = e -/
def fReX (C N : Nat) (b : SS) (ce : SE) : FS := fun ws st => match ws with
  | .o D m :: us => if D = C then (b ((ws.map pinU).map some ++ List.replicate (N - ws.length) none) st).bind fun o => match o with
    | .nx ev1 st1 => if isP C m ev1[0]? = true then (ce ev1 st1).bind fun r => match r.1 with
      | .l k => if k < st.length ∨ st.length ≤ m then none else match r.2[k]? with
        | some (some ls) => some (.d .none, (r.2.take st.length).set (m + 1) (some ls))
        | _ => none
      | _ => none
    else none
    | .rt w st1 => (exP w).map fun _ => (w, st1.take st.length)
    | _ => none
    else none
  | _ => none
structure CalMX (P : Program) (w : World) (K : PySem.W.Frag) (mg : Str → Option Value) (base : Heap) (n : Nat) (C : Addr) (m : Str) (ps : List Str) (k : XCls) (g : FS) : Prop where
  ex : ∃ (a : Addr) (fd : FuncData), FnOk P w K mg base (L2.CX P w) n a fd ps (spX K k g ps.length) ∧ Meth K C m a ∧ Binds K fd ps []
section
variable {P : Program} {w : World} {K : PySem.W.Frag} {mg : Str → Option Value} {base : Heap}
theorem def_okReX {x q : Str} {st : Stmt} {f : Addr} {fd : FuncData} {N ps : List Str} {n C pp : Nat} {b : SS} {ce : SE} {kx : XCls} {row : Stmt} {self fld : Str} {e : Expr} {p1 p2 p3 : Pos} (F : FunD K x q (defArgs st) (defBody st) (defScope st) [] [] f fd) (S : FnScope N ps (defScope st))
    (c : SlX.SCls K C) (t : SlX.Slot1 K C fld pp 1) (hbd : defBody st = [row, .Assign [.Attribute (.Name self p1) fld p2] e p3]) (hN : N[0]? = some self) (hv : Vis (defScope st) self) (hd : (self == ("__debug__" : Str)) = false) (hcd : (self == ("__classdict__" : Str)) = false)
    (hrw : ∀ (cdv : Value) (A : Around) (outer : List Env) (s : Shared) (H : Hp) (E : XK), Room n (A.deeper (envOfC q (defScope st) s.heap.objs.size f cdv)) → PS (cxOf (L2.CX P w) P w K mg base N q (defScope st) f cdv A outer s H E) row (tXS K kx (fun cls d _ H => E cls d H) b))
    (h : ∀ (cdv : Value) (A : Around) (outer : List Env) (s : Shared) (H : Hp) (E : XK), Room n (A.deeper (envOfC q (defScope st) s.heap.objs.size f cdv)) → PE (cxOf (L2.CX P w) P w K mg base N q (defScope st) f cdv A outer s H E) e (tI K ce))
    (hsw : ∀ env l, swapsWith e (some (.Attribute (.Name self p1) fld p2)) l env = pure false) : FnOk P w K mg base (L2.CX P w) (n + 1) f fd ps (spX K kx (fReX C N.length b ce) ps.length) := by
  refine F.ok S (fun vs H Q E ⟨_, _, ws, _, _, _, _, wr, hl, _, _⟩ => by rw [wr.length, hl]) fun cdv A outer s H vs Q E hrm ⟨ρ, F, ws, st0, w0, st', hr, wr, hl, eq, post, px⟩ => ?_
  have hp := h cdv A outer s H E hrm
  have hR := hrw cdv A outer s H E hrm
  refine ⟨tSeq (tXS K kx (fun cls d _ H => E cls d H) b) (SlX.sSl K (tVar 0) (tI K ce) fld), ?_, ?_⟩
  · rw [hbd]
    exact pss_cons hR (pss_one (SlX.ps_sl (pe_var hN hv hd hcd) hp (hsw _ _)))
  unfold fReX at eq
  split at eq
  · rename_i D m us
    split at eq
    · rename_i hD
      subst hD
      simp only [Option.bind_eq_some_iff] at eq
      obtain ⟨o, e1, e2⟩ := eq
      have sr0 := SR.start (N := N) (wr.pin hr)
      rw [List.length_map] at sr0
      refine ⟨pinR ρ, F, _, st0, o, hr.pin, sr0, e1, ?_⟩
      split at e2
      · rename_i ev1 st1
        split at e2
        · rename_i hP
          simp only [Option.bind_eq_some_iff] at e2
          obtain ⟨⟨w1, st2⟩, e3, e4⟩ := e2
          split at e4
          · rename_i k1 hy
            simp only at hy
            subst hy
            split at e4
            · cases e4
            · rename_i hk
              split at e4
              · rename_i ls hls
                cases e4
                have wh : ∃ a l0, ρ[m + 1]? = some (l0, 1) ∧ ρ[m]? = some (a, D + 2) := by
                  cases wr with
                  | cons r _ => obtain ⟨a, l, h1, h2, _⟩ := r; exact ⟨a, l, h2, h1⟩
                obtain ⟨a0, l0, hk1, _⟩ := wh
                refine ⟨fun σ1 ρ1 F1 H1 x1 hr1 sr1 => ?_, fun w st p z => by cases z⟩
                exact re_end c t hr x1 hr1 sr1 hk1 (isP_eq hP) e3 (by omega) (by omega) hls fun a H' ⟨ρ', F', l, xx, hr', h1, h2⟩ hs => post .non ρ' F' H' xx hr' .non
              · cases e4
          · cases e4
        · cases e2
      · rename_i w1 st1
        simp only [Option.map_eq_some_iff] at e2
        obtain ⟨pd, z1, z2⟩ := e2
        cases z2
        refine ⟨fun v ρ' F' H' x' hr' r => (no_mark r z1).elim, fun w2 st2 p2 z3 z4 => ?_⟩
        cases z3
        intro σ' ρ' F' H' x' hr'
        have hb := HR.back x' hr'
        have tri : Tri (backR ρ ρ') st0.length := x'.back.tri hr.obj hr.len.symm
        exact px p2 z4 ((backR ρ ρ').take st0.length) F' H' (x'.back.take _ (Nat.le_of_eq hr.len)) (hb.take _ tri)
      · cases e2
    · cases eq
  · cases eq
end
/-! ### try: o.m() / except C as n: x = a constant -/
def cTryM (i n C : Nat) (fs : FS) (co : SE) (z : Bool) : SS := fun ev st => (isOb C co ev st).bind fun r => (fs [r.1] r.2).bind fun q => if n < ev.length ∧ i ≠ n then (match exP q.1 with
  | none => some (.nx ev q.2)
  | some .none => some (.nx ((ev.set n none).set i (some (.d (.bool z)))) q.2)
  | some _ => none) else none
theorem takesF {X : Cx} : Takes X (fun _ _ _ _ => False) := fun u s' h => by
  rcases h with ⟨_, _, _, _, _, _, _, _, _, _, _, _, _, _, _, _, bad⟩
  exact bad.elim
section
variable {X : Cx} {C g : Addr} {k : Nat} {o : Expr} {m : Str} {apos pos : Pos} {sp : Sp} {fd : FuncData} {ps : List Str} {te : TE} {E : L2.St → XK}
theorem pe_methX0 {pl : Sem Bool} (F : FnOk X.prog X.w X.K X.mg X.base (L2.CX X.prog X.w) k g fd ps sp) (hb : Binds X.K fd ps []) (c : SlX.SCls X.K C) (hm : Meth X.K C m g) (hr : Room k X.A) (hx : ∀ σ, PassesAt (L2.CX X.prog X.w) X σ (E σ)) (he : PE X o te)
    (ht : eval (.Call (.Attribute o m apos) [] [] pos) X.env = (do
      let ov ← eval o X.env
      standAt apos.atName
      let (f, first) ← holding [ov] (getMethod ov m pl)
      callWith pos f first (backTo pos (starEach [] X.env)) (backToKw pos (keywordEach [] X.env))) := by rfl) :
    PE X (.Call (.Attribute o m apos) [] [] pos) (fun σ H Q => te σ H fun x H1 => ∃ a dx vs, x = .ref a ∧ SlX.Slt H1 a C dx vs ∧ sp [.ref a] H1 Q (E σ)) := by
  refine ⟨fun pins s σ H Q I h => PySem.W.methodCall_KW (pl := pl) (thn (he.run pins s σ H _ I h) fun u s1 ⟨x, H1, I1, rx, a, dx, vs, ex, hsl, q⟩ => ?_) ht⟩
  subst ex
  obtain rfl : u = Value.ref a := rx
  exact SlX.getmethsl_ok I1 hsl c hm (PySem.W.callWith_K0 (first := [.ref a]) I1.kIn hm.kp (run_fnS (us := [.ref a]) (vs := [.ref a]) F hr hb (hx σ) I1 (.cons rfl .nil) q))
theorem s_tryM {pl : Sem Bool} {fs : FS} {co : SE} {kC : Addr} {i n : Nat} {x nm En : Str} {z : Bool} {j0 : Nat} {pE px pz pB pH pT pX : Pos} (hst : X.stack = X.env :: X.outer) (hfr : X.env.frame = some X.env.locals) (M : CalMX X.prog X.w X.K X.mg X.base k C m ps ⟨kC, none⟩ fs) (hl : ps.length = 1) (c : SlX.SCls X.K C) (hr : Room k X.A)
    (hc : Names X En (.ref kC)) (hm : PySem.W.exmOne X.K (.ref kC) (.ref kC) = some true) (hN : X.N.Nodup) (hi : X.N[i]? = some x) (hx : Loc X.env.scope x) (hn : X.N[n]? = some nm) (hnm : X.env.kindOf nm = some .local)
    (ho : ∀ (pn : List (Addr × Obj)) (xe : Value → Shared → Prop), PE (X.tr pn xe) o (tI X.K co))
    (hfi : X.fn x = true ∨ X.env.scope.names.lookup x = some .local := by first | exact .inl rfl | exact .inr rfl | assumption)
    (ht : eval (.Call (.Attribute o m apos) [] [] pos) X.env = (do
      let ov ← eval o X.env
      standAt apos.atName
      let (f, first) ← holding [ov] (getMethod ov m pl)
      callWith pos f first (backTo pos (starEach [] X.env)) (backToKw pos (keywordEach [] X.env))) := by rfl)
    (hs1 : swapsWith (.Call (.Attribute o m apos) [] [] pos) none pX.line X.env = pure false := by rfl) (hs2 : swapsWith (.Constant (.bool z) j0 pz) (some (.Name x px)) pB.line X.env = pure false := by rfl) :
    PS X (.Try [.Expr (.Call (.Attribute o m apos) [] [] pos) pX] [.ExceptHandler (some (.Name En pE)) (some nm) [.Assign [.Name x px] (.Constant (.bool z) j0 pz) pB] pH] [] [] pT) (tSS X.K (cTryM i n C fs co z)) := by
  obtain ⟨g, fd, F, hmt, hb⟩ := M.ex
  rw [hl] at F
  refine (ps_try_as (tb := fun W => tDrop fun σ H Q => tI X.K co σ H fun x H1 => ∃ a dx vs, x = .ref a ∧ SlX.Slt H1 a C dx vs ∧ spX X.K ⟨kC, none⟩ fs 1 [.ref a] H1 Q (WE W σ)) (ts := fun a cls d => tAsg (tC (.bl z)) (gName i)) (Wout := fun _ _ _ _ => False) hst hfr hN hn hnm hc takesF
    (fun W pn xe tk _ => pss_one (ps_expr (X := X.tr pn xe) (pe_methX0 (X := X.tr pn xe) F hb c hmt hr (fun σ => passAt tk σ) (ho pn xe) ht) hs1))
    (fun a oe cls d pn hz hf => pss_one (ps_set (X := X.suite a ((a, oe) :: pn)) hN hi hx pe_bl hs2 hfi))).weak fun D σ H ⟨ρ, F0, ev, st0, out, hr0, sr, e0, ok⟩ => ?_
  simp only [cTryM, Option.bind_eq_some_iff] at e0
  obtain ⟨⟨w1, st1⟩, e1, ⟨w2, st2⟩, e2, e3⟩ := e0
  obtain ⟨e1, mm, hw⟩ := isOb_eq e1
  split at e3
  · rename_i hlt
    refine ⟨ρ, F0, ev, st0, _, _, hr0, sr, e1, fun v ρ1 F1 H1 x1 hr1 r1 => ?_⟩
    obtain ⟨a, dx, vs, rfl, s1⟩ := obj_slt hr1 hw r1
    refine ⟨a, dx, vs, rfl, s1, ρ1, F1, [w1], st1, w2, st2, hr1, .cons r1 .nil, rfl, e2, fun v3 ρ3 F3 H3 x3 hr3 r3 => ?_, fun p zp ρ3 F3 H3 x3 hr3 => ?_⟩
    · have nz : exP w2 = none := by
        cases zq : exP w2 with
        | none => rfl
        | some p => exact (no_mark r3 zq).elim
      simp only [nz] at e3
      cases e3
      exact ok σ ρ3 F3 H3 (x1.trans x3) hr3 (sr.mono (x1.trans x3))
    · simp only [zp] at e3
      split at e3
      · rename_i hq
        cases hq
      · rename_i hq
        cases hq
        cases e3
        refine ⟨true, hm, fun _ b hb2 => ?_, fun q => nomatch q⟩
        have s2 := ((((sr.mono (x1.trans x3)).drop n (some (.ref b))).set (w := .d (.bool z)) (v := .bl z) (.bl z) i).drop n none)
        have ee : (((ev.set n none).set i (some (.d (.bool z)))).set n none) = (ev.set n none).set i (some (.d (.bool z))) := by
          apply List.ext_getElem?
          intro l
          rw [List.getElem?_set]
          split
          · rename_i hl2
            subst hl2
            rw [List.getElem?_set_ne hlt.2, List.getElem?_set]
            simp
          · rfl
        rw [ee] at s2
        exact ok _ ρ3 F3 H3 (x1.trans x3) hr3 s2
      · cases e3
  · cases e3
end
end Cm

set_option Elab.async false
set_option linter.all false
set_option maxRecDepth 100000
set_option maxHeartbeats 4000000
namespace Cm
open PySem PySem.Spec PyProof.Rows L2

/-! ### a list of objects that stands still: laid, walked, asked -/
/-- all objects of the class at C -/
def allO (C : Nat) : List U → Option (List Nat)
  | [] => some []
  | .o D n :: ws => if D = C then (allO C ws).map fun ns => n :: ns else none
  | _ :: _ => none
def cLstO (C : Nat) (sa : SA) : SE := fun ev st => (sa ev st).bind fun r => if r.1.length ≤ lim then (allO C r.1).map fun ns => (.q C ns, r.2) else none
theorem allO_ok {K : PySem.W.Frag} {ρ : Rho} {F : Hp} {C : Nat} : ∀ {vs : List V} {ws : List U} {ns : List Nat}, WRs K ρ F vs ws → allO C ws = some ns → OsR ρ C vs ns
  | _, _, _, .nil, e => by cases e; exact ⟨rfl, fun i n q => by simp at q⟩
  | _, _, _, .cons (w := w) h t, e => by
    unfold allO at e
    split at e
    · rename_i h1; cases h1
    · rename_i D n ws' hq
      cases hq
      split at e
      · rename_i hD
        subst hD
        simp only [Option.map_eq_some_iff] at e
        obtain ⟨ns', e1, e2⟩ := e
        subst e2
        obtain ⟨k1, k2⟩ := allO_ok t e1
        obtain ⟨a, l, h1, h2, rfl⟩ := h
        refine ⟨by simp [k1], fun i m q => ?_⟩
        cases i with
        | zero =>
          simp only [List.getElem?_cons_zero, Option.some.injEq] at q
          subst q
          exact ⟨a, l, rfl, h1, h2⟩
        | succ i =>
          rw [List.getElem?_cons_succ] at q ⊢
          exact k2 i m q
      · cases e
    · cases e
section
variable {X : Cx} {es : List Expr} {k : Nat} {pos : Pos} {sa : SA} {C : Nat} {a i : Expr} {ca ci : SE}
theorem se_lstO (ha : PA X es (tA X.K sa)) : PE X (.List es pos) (tI X.K (cLstO C sa)) :=
  (pe_lst ha).weak fun σ H Q ⟨ρ, F, ev, st, w, st', hr, sr, e, post⟩ => by
    simp only [cLstO, Option.bind_eq_some_iff] at e
    obtain ⟨⟨ws, st1⟩, e1, e2⟩ := e
    split at e2
    · rename_i hl
      simp only [Option.map_eq_some_iff] at e2
      obtain ⟨ns, e3, e4⟩ := e2
      cases e4
      refine ⟨ρ, F, ev, st, ws, _, hr, sr, e1, fun vs ρ' F' H' x h wr => ⟨by rw [wr.length]; exact lim_le hl, fun p np => ?_⟩⟩
      have g := Grow.new (o := .lst vs) h.sub np
      exact post _ ρ' _ _ (x.trans (.of g)) (h.grow g) ⟨p, vs, rfl, upd_same, allO_ok wr e3⟩
    · cases e2
/-- x[k] -/
def cIxO (k : Nat) (ca : SE) : SE := fun ev st => (ca ev st).bind fun r => match r.1 with
  | .q C ns => (ns[k]?).map fun n => (.o C n, r.2)
  | _ => none
theorem se_ixO {z : Int} {j0 : Nat} {pz : Pos} (h0 : 0 ≤ z) (ha : PE X a (tI X.K ca)) (hp : PlainIx (.Constant (.int z) j0 pz) := by exact fun _ _ => rfl) : PE X (.Subscript a (.Constant (.int z) j0 pz) pos) (tI X.K (cIxO z.toNat ca)) :=
  (pe_ix ix_list ha pe_int hp).weak fun σ H Q ⟨ρ, F, ev, st, w, st', hr, sr, e, post⟩ => by
    simp only [cIxO, Option.bind_eq_some_iff] at e
    obtain ⟨⟨w1, st1⟩, e1, e2⟩ := e
    split at e2
    · rename_i D ns hy
      simp only at hy
      subst hy
      simp only [Option.map_eq_some_iff] at e2
      obtain ⟨n, e3, e4⟩ := e2
      cases e4
      refine ⟨ρ, F, ev, st, _, _, hr, sr, e1, fun v ρ' F' H' x hr' r => ?_⟩
      obtain ⟨p, vs, rfl, hF, hO⟩ := r
      obtain ⟨b, l, h1, h2, h3⟩ := hO.2 _ _ e3
      refine ⟨p, vs, z, .ref b, rfl, rfl, SqL.of (hr'.sub _ _ hF), ?_, post _ ρ' F' H' x hr' ⟨b, l, h2, h3, rfl⟩⟩
      have hlt : z.toNat < vs.length := (List.getElem?_eq_some_iff.mp h1).1
      unfold atI ixN
      rw [if_pos h0, if_pos (by omega)]
      exact h1
    · cases e2
/-- for t in x: body -/
def forO (C i : Nat) (b : SS) : List Nat → SS
  | [], ev, st => some (.nx ev st)
  | n :: ns, ev, st => (b (ev.set i (some (.o C n))) st).bind fun o => match o with
    | .nx ev' st' => forO C i b ns ev' st'
    | .ct ev' st' => forO C i b ns ev' st'
    | .bk ev' st' => some (.nx ev' st')
    | .rt w st' => some (.rt w st')
def cForO (i : Nat) (ci : SE) (b : SS) : SS := fun ev st => (ci ev st).bind fun r => match r.1 with
  | .q C ns => forO C i b ns ev r.2
  | _ => none
theorem s_forO {ii : Nat} {x : Str} {ss : List Stmt} {b : SS} {pt : Pos} {iter : Expr} (hp : PassesOwn (model X.prog X.w) X.A X.env X.xe) (hc : X.calm = true) (hN : X.N.Nodup) (hi : X.N[ii]? = some x) (hx : Loc X.env.scope x) (hl : PE X iter (tI X.K ci)) (hb : PSs X ss (tSS X.K b))
    (hf : X.fn x = true ∨ X.env.scope.names.lookup x = some .local := by first | exact .inl rfl | exact .inr rfl | assumption)
    (hs : ∀ x, foldedSetIterable iter X.env x = pure x := by exact fun _ => rfl) : PS X (.For (.Name x pt) iter ss [] pos) (tSS X.K (cForO ii ci b)) :=
  (ps_for hp hc (pi_list hl) (pg_name hN hi hx hf) hb hs).weak fun D σ H ⟨ρ, F, ev, st, o, hr, sr, e, ok⟩ => by
    simp only [cForO, Option.bind_eq_some_iff] at e
    obtain ⟨⟨w1, st1⟩, e1, e2⟩ := e
    split at e2
    · rename_i C ns hy
      simp only at hy
      subst hy
      refine ⟨ρ, F, ev, st, _, _, hr, sr, e1, fun v ρ' F' H' x hr' r => ?_⟩
      obtain ⟨p, vs, rfl, hF, hO⟩ := r
      refine ⟨p, rfl, ⟨vs, SqL.of (hr'.sub _ _ hF)⟩, fun i m σ H => m = ns.length - i ∧ i ≤ ns.length ∧ ∃ ρ1 F1 ev1 st1, Ext ρ' F' ρ1 F1 ∧ HR ρ1 F1 H st1 ∧ SR X.K ρ1 F1 ev1 σ ∧ forO C ii b (ns.drop i) ev1 st1 = some o, ⟨ns.length, rfl, Nat.zero_le _, ρ', F', ev, st1, .refl _ _, hr', sr.mono x, e2⟩, ?_⟩
      rintro i m σ1 H1 ⟨rfl, hi, ρ1, F1, ev1, st2, x1, hr1, sr1, e3⟩
      have hq : SqL X.K H1 p vs := SqL.of (hr1.sub _ _ (x1.same _ _ hF))
      have hO1 := hO.mono x1
      by_cases hlt : i < ns.length
      · rw [List.drop_eq_getElem_cons hlt] at e3
        simp only [forO, Option.bind_eq_some_iff] at e3
        obtain ⟨o1, e5, e6⟩ := e3
        obtain ⟨a, l, g1, g2, g3⟩ := hO1.2 i ns[i] (List.getElem?_eq_getElem hlt)
        refine .inr ⟨⟨vs, .ref a, hq, g1⟩, fun σ H => ∃ ρ1 F1 ev1 st1, Ext ρ' F' ρ1 F1 ∧ HR ρ1 F1 H st1 ∧ SR X.K ρ1 F1 ev1 σ ∧ forO C ii b (ns.drop (i + 1)) ev1 st1 = some o, fun σ' H' w => ⟨ns.length - (i + 1), by omega, rfl, hlt, w⟩, fun v H2 ⟨eH, yv⟩ => ?_⟩
        subst eH
        have ev' : v = .ref a := Option.some.inj ((yv vs hq).symm.trans g1)
        subst ev'
        refine ⟨ρ1, F1, _, st2, o1, hr1, sr1.set (w := .o C ns[i]) ⟨a, l, g2, g3, rfl⟩ ii, e5, ?_⟩
        refine OutOk.loop (o' := o) (fun ev' st'' q σ' ρ'' F'' H'' x' hr'' sr'' => ⟨ρ'', F'', ev', st'', x1.trans x', hr'', sr'', ?_⟩) (fun ev' st'' q => ?_) (fun w st'' q => ?_) (ok.mono (x.trans x1))
        · rcases q with q | q <;> (subst q; exact e6)
        · subst q; cases e6; rfl
        · subst q; cases e6; rfl
      · have hx2 : i = ns.length := by omega
        subst hx2
        rw [List.drop_length] at e3
        cases e3
        exact .inl ⟨⟨vs, hq, by rw [hO1.1]; exact Nat.le_refl _⟩, ok _ ρ1 F1 H1 (x.trans x1) hr1 sr1⟩
    · cases e2
end
end Cm

set_option Elab.async false
set_option linter.all false
set_option maxRecDepth 100000
set_option maxHeartbeats 4000000
namespace Cm
open PySem PySem.Spec PyProof.Rows L2

/-! ### what else is asked of the class; isinstance(x, C) of an object of the class at C -/
structure OL (K : PySem.W.Frag) (C : Addr) : Prop where
  si : SlX.SIsi K C
  kit : PySem.W.kitOne K (.ref C) (.ref C) = some true
  first : PySem.W.selfFirst K C = true
  last : PySem.W.notFirst K C (.ref C) = true
def olB (K : PySem.W.Frag) (C : Addr) : Bool :=
  He.eqO (PySem.W.findIn K (.ref C) "__class__") (some (some (.builtin "object.__class__"))) && (He.eqO (PySem.W.specialIn K (.builtin "object.__class__") "__get__") (some (some (.builtin "getset_descriptor.__get__"))) && (decide (PySem.W.takesIn K (.builtin "object.__class__") = some true) && (decide (PySem.W.mroIn K C (.type "object") = some true) &&
  (decide (PySem.W.kitOne K (.ref C) (.ref C) = some true) && (PySem.W.selfFirst K C && PySem.W.notFirst K C (.ref C))))))
theorem olB_ok {K : PySem.W.Frag} {C : Addr} (h : olB K C = true) : OL K C := by
  unfold olB at h
  simp only [Bool.and_eq_true, decide_eq_true_eq, He.eqO] at h
  obtain ⟨h1, h2, h3, h4, h5, h6, h7⟩ := h
  exact ⟨⟨h1, h2, h3, h4⟩, h5, h6, h7⟩
def cIsiO (C : Nat) (co : SE) : SE := fun ev st => (isOb C co ev st).map fun r => (.d (.bool true), r.2)
section
variable {X : Cx} {a : Expr} {p p2 pos : Pos} {ca : SE} {C : Addr}
theorem se_isiO {T : Str} (c : SlX.SCls X.K C) (ol : OL X.K C) (hg : Gl X "isinstance") (hm : X.mg "isinstance" = none) (hgT : Gl X T) (hmT : X.mg T = some (.ref C)) (ha : PE X a (tI X.K ca)) (hd : NotDbg T := by decide)
    (hst : Bare1 X a [.Name T p2] := by rfl) (hpl : NoStar X [.Name T p2] pos := by rfl) (hs2 : Bare1 X (.Name T p2) [] := by rfl) : PE X (.Call (.Name "isinstance" p) [a, .Name T p2] [] pos) (tI X.K (cIsiO C ca)) :=
  (pe_callB (SlX.call_isiSl (.ref C)) hg hm PyProof.Rows.boot_isinstance (pa_cons ha (pa_cons (pe_glob (v := .ref C) hgT hmT rfl hd) pa_nil hs2) hst) (by decide) (by decide) hst hpl).weak fun σ H Q ⟨ρ, F, ev, st, w, st', hr, sr, e, post⟩ => by
    simp only [cIsiO, Option.map_eq_some_iff] at e
    obtain ⟨⟨w1, st1⟩, e1, e2⟩ := e
    cases e2
    obtain ⟨e1, m, hw⟩ := isOb_eq e1
    refine ⟨ρ, F, ev, st, _, _, hr, sr, e1, fun v ρ' F' H' x hr' r => ?_⟩
    obtain ⟨q, dx, vs, rfl, s1⟩ := obj_slt hr' hw r
    exact ⟨q, C, dx, vs, .ref C, true, rfl, rfl, fun w z => z, s1, c, ol.si, ol.kit, post _ ρ' F' H' x hr' (.bl true)⟩
end
end Cm

set_option Elab.async false
set_option linter.all false
set_option maxRecDepth 100000
set_option maxHeartbeats 4000000
namespace My
open PySem PySem.Spec PyProof.Rows L2 Cm
abbrev cLine : Nat := 190
/- slots of _law_box: 0 _law_script, 1 _law_k, 2 _law_cell -/
def b__law_box : SS :=
  (cSeq (cSet 2 (cIf (cB (cD2 fLt (cVar 1) (cCall fLen (cCons (cVar 0) cNil)))) (cD2 fIx (cVar 0) (cVar 1)) (cD (.int 0))))
  (cRet (cLstM (cCons (cD2s fMul (cCall fAbs (cCons (cVar 2) cNil)) (cCall fInt (cCons (cD2 fGe (cCall fAbs (cCons (cVar 2) cNil)) (cD2 fPow (cD (.int 10)) (cD (.int 18)))) cNil))) (cCons (cD2s fAdd (cD2s fAdd (cD2 fMod (cCall fInt (cCons (cVar 2) cNil)) (cD (.int 2305843009213693951))) (cD2s fMul (cD (.int 39373)) (cVar 1))) (cD (.int 906))) (cCons (cD (.int 0)) cNil))))))
def f__law_box : FS := defSO 3 b__law_box
/- slots of tupled: 0 thing, 1 part -/
def b_tupled (g : FS) : SS :=
  (cRet (cIf (cTr (cIsi ["list", "tuple"] (cVar 0))) (cCall fTuple (cCons (cLc (iSeq (cVar 0)) (gN 1) bYes (cDef 1 g (cCons (cVar 1) cNil)) [1]) cNil)) (cVar 0)))
def f_tupled : Nat → FS
  | 0 => fNo
  | d + 1 => defS 2 (b_tupled (f_tupled d))
/- slots of Line_m_init: 0 self, 1 row -/
def e_Line_m_init : SE :=
  (cListM (cCons (cDef 1 (f_tupled 16) (cCons (cVar 1) cNil)) cNil))
def f_Line_m_init : List U → Sto → Option Sto := iniL 2 e_Line_m_init
/- slots of Line_m_add: 0 self, 1 other -/
def b_Line_m_add : SS :=
  (cRet (cMakeL cLine 1 f_Line_m_init (cCons (cLst (cStar (cOwn cLine 1 (cVar 0)) (cStar (cOwn cLine 1 (cVar 1)) cNil))) cNil)))
def f0_Line_m_add : FS := defS 2 b_Line_m_add
def f_Line_m_add : FS := fPin f0_Line_m_add
/- slots of Line_m_eq: 0 self, 1 other -/
def b_Line_m_eq : SS :=
  (cRet (cAnd (cIsiO cLine (cVar 1)) (cD2 fEq (cOwn cLine 1 (cVar 0)) (cOwn cLine 1 (cVar 1)))))
def f0_Line_m_eq : FS := defS 2 b_Line_m_eq
def f_Line_m_eq : FS := fPin f0_Line_m_eq
/- slots of Line_m_iadd: 0 self, 1 other, 2 later -/
def b_Line_m_iadd : SS :=
  (cSeq (cSet 2 (cLstM (cStar (cOwn cLine 1 (cVar 0)) (cStar (cOwn cLine 1 (cVar 1)) cNil))))
  (cExpr (cM mAppend (cOwn cLine 0 (cVar 0)) (cCons (cCall fTuple (cCons (cOwn cLine 1 (cVar 0)) cNil)) cNil))))
def e_Line_m_iadd : SE :=
  (cVar 2)
def f_Line_m_iadd : FS := fRe cLine 3 true b_Line_m_iadd e_Line_m_iadd
/- slots of Line_m_put: 0 self, 1 k, 2 limit -/
def b_Line_m_put : SS :=
  (cSeq (cIfS (bNot (cB (cChain fLe fLe (cD (.int 0)) (cVar 1) (cCall fLen (cCons (cOwn cLine 1 (cVar 0)) cNil))))) cFail cSkip)
  (cSeq (cExpr (cM mAppend (cOwn cLine 0 (cVar 0)) (cCons (cCall fTuple (cCons (cOwn cLine 1 (cVar 0)) cNil)) cNil)))
  (cExpr (cM mIns (cOwn cLine 1 (cVar 0)) (cCons (cVar 1) (cCons (cVar 2) cNil))))))
def f0_Line_m_put : FS := defS 3 b_Line_m_put
def f_Line_m_put : FS := fPin f0_Line_m_put
/- slots of Line_m_told: 0 self -/
def b_Line_m_told : SS :=
  (cRet (cCall fTuple (cCons (cOwn cLine 1 (cVar 0)) cNil)))
def f0_Line_m_told : FS := defS 1 b_Line_m_told
def f_Line_m_told : FS := fPin f0_Line_m_told
/- slots of Line_m_back: 0 self -/
def bx_Line_m_back : SS :=
  (cIfS (cB (cD2 fEq (cCall fLen (cCons (cOwn cLine 0 (cVar 0)) cNil)) (cD (.int 0)))) cRaise cSkip)
def ex_Line_m_back : SE :=
  (cListM (cCons (cM mPop (cOwn cLine 0 (cVar 0)) cNil) cNil))
def fx_Line_m_back : FS := fReX cLine 1 bx_Line_m_back ex_Line_m_back
/- slots of _law_gone_back: 0 _law_line_so, 1 _law_done_so, 2 _law_its -/
def b__law_gone_back : SS :=
  (cSeq (cSet 1 (cD (.bool true)))
  (cSeq (cTryM 1 2 cLine fx_Line_m_back (cVar 0) false)
  (cRet (cVar 1))))
def f__law_gone_back : FS := defS 3 b__law_gone_back
/- slots of _law_same: 0 _law_got, 1 _law_due, 2 _law_mine, 3 _law_its -/
def b__law_same (g : FS) : SS :=
  (cSeq (cIfS (cTr (cIsi ["list", "tuple"] (cVar 1))) (cSeq (cIfS (bOr (cB (cD2 fNe (cIsi ["list"] (cVar 0)) (cIsi ["list"] (cVar 1)))) (cB (cD2 fNe (cIsi ["tuple"] (cVar 0)) (cIsi ["tuple"] (cVar 1))))) (cRet (cD (.bool false))) cSkip)
  (cRet (cAnd (cD2 fEq (cCall fLen (cCons (cVar 0) cNil)) (cCall fLen (cCons (cVar 1) cNil))) (cCall fAll (cCons (cLc (iZip2 (cCons (cVar 0) (cCons (cVar 1) cNil))) (gT (gsCons (gN 2) (gsCons (gN 3) gsNil))) bYes (cDef 2 g (cCons (cVar 2) (cCons (cVar 3) cNil))) [2, 3]) cNil))))) cSkip)
  (cSeq (cIfS (bOr (cB (cD2 fIs (cVar 1) (cD .none))) (cTr (cIsi ["bool", "str"] (cVar 1)))) (cRet (cAnd (cD2 fEq (cVar 0) (cVar 1)) (cAnd (cD2 fEq (cIsi ["bool"] (cVar 0)) (cIsi ["bool"] (cVar 1))) (cD2 fEq (cD2 fIs (cVar 0) (cD .none)) (cD2 fIs (cVar 1) (cD .none)))))) cSkip)
  (cRet (cAnd (cIsi ["int"] (cVar 0)) (cAnd (cNot (cIsi ["bool"] (cVar 0))) (cD2 fEq (cVar 0) (cVar 1)))))))
def f__law_same : Nat → FS
  | 0 => fNo
  | d + 1 => defS 4 (b__law_same (f__law_same d))
/- slots of _law_by_hand_right: 0 _law_both, 1 _law_got, 2 _law_due, 3 _law_same_so, 4 _law_one, 5 _law_twins, 6 _law_twin, 7 _law_other -/
def b__law_by_hand_right : SS :=
  (cSeq (cParN [4, 7] (cCons (cMakeL cLine 1 f_Line_m_init (cCons (cTup (cCons (cD (.int 11)) (cCons (cD (.int 6)) cNil))) cNil)) (cCons (cMakeL cLine 1 f_Line_m_init (cCons (cTup (cCons (cD (.int 3)) cNil)) cNil)) cNil)))
  (cSeq (cSet 0 (cBin cLine f_Line_m_add (cVar 4) (cVar 7)))
  (cSeq (cSet 1 (cLst (cCons (cDef 1 f_Line_m_told (cCons (isOb cLine (cVar 0)) cNil)) (cCons (cDef 1 f_Line_m_told (cCons (isOb cLine (cVar 4)) cNil)) (cCons (cDef 1 f_Line_m_told (cCons (isOb cLine (cVar 7)) cNil)) (cCons (cDef 1 f__law_gone_back (cCons (cVar 0) cNil)) (cCons (cDef 1 f_Line_m_told (cCons (isOb cLine (cBin cLine f_Line_m_add (cVar 4) (cMakeL cLine 1 f_Line_m_init (cCons (cTup cNil) cNil)))) cNil)) (cCons (cDef 1 f_Line_m_told (cCons (isOb cLine (cBin cLine f_Line_m_add (cVar 4) (cVar 4))) cNil)) cNil))))))))
  (cSeq (cSet 2 (cLst (cCons (cTup (cCons (cD (.int 11)) (cCons (cD (.int 6)) (cCons (cD (.int 3)) cNil)))) (cCons (cTup (cCons (cD (.int 11)) (cCons (cD (.int 6)) cNil))) (cCons (cTup (cCons (cD (.int 3)) cNil)) (cCons (cD (.bool false)) (cCons (cTup (cCons (cD (.int 11)) (cCons (cD (.int 6)) cNil))) (cCons (cTup (cCons (cD (.int 11)) (cCons (cD (.int 6)) (cCons (cD (.int 11)) (cCons (cD (.int 6)) cNil))))) cNil))))))))
  (cSeq (cSet 3 (cVar 4))
  (cSeq (cAugO 4 cLine f_Line_m_iadd (cVar 7))
  (cSeq (cSet 1 (cD2s fAdd (cVar 1) (cLst (cCons (cDef 1 f_Line_m_told (cCons (isOb cLine (cVar 3)) cNil)) (cCons (cBin cLine f_Line_m_eq (cVar 3) (cVar 4)) (cCons (cDef 1 f_Line_m_told (cCons (isOb cLine (cVar 7)) cNil)) (cCons (cDef 1 f__law_gone_back (cCons (cVar 3) cNil)) cNil)))))))
  (cSeq (cSet 1 (cD2s fAdd (cVar 1) (cLst (cCons (cDef 1 f_Line_m_told (cCons (isOb cLine (cVar 4)) cNil)) (cCons (cDef 1 f__law_gone_back (cCons (cVar 4) cNil)) cNil)))))
  (cSeq (cSet 2 (cD2s fAdd (cVar 2) (cLst (cCons (cTup (cCons (cD (.int 11)) (cCons (cD (.int 6)) (cCons (cD (.int 3)) cNil)))) (cCons (cD (.bool true)) (cCons (cTup (cCons (cD (.int 3)) cNil)) (cCons (cD (.bool true)) (cCons (cTup (cCons (cD (.int 11)) (cCons (cD (.int 6)) cNil))) (cCons (cD (.bool false)) cNil)))))))))
  (cSeq (cAugO 4 cLine f_Line_m_iadd (cMakeL cLine 1 f_Line_m_init (cCons (cTup cNil) cNil)))
  (cSeq (cSet 1 (cD2s fAdd (cVar 1) (cLst (cCons (cDef 1 f_Line_m_told (cCons (isOb cLine (cVar 4)) cNil)) (cCons (cDef 1 f__law_gone_back (cCons (cVar 4) cNil)) (cCons (cDef 1 f_Line_m_told (cCons (isOb cLine (cVar 4)) cNil)) (cCons (cDef 1 f__law_gone_back (cCons (cVar 4) cNil)) cNil)))))))
  (cSeq (cSet 2 (cD2s fAdd (cVar 2) (cLst (cCons (cTup (cCons (cD (.int 11)) (cCons (cD (.int 6)) cNil))) (cCons (cD (.bool true)) (cCons (cTup (cCons (cD (.int 11)) (cCons (cD (.int 6)) cNil))) (cCons (cD (.bool false)) cNil)))))))
  (cSeq (cSet 5 (cLstO cLine (cCons (cBin cLine f_Line_m_add (cVar 4) (cMakeL cLine 1 f_Line_m_init (cCons (cTup cNil) cNil))) (cCons (cBin cLine f_Line_m_add (cMakeL cLine 1 f_Line_m_init (cCons (cTup cNil) cNil)) (cVar 4)) cNil))))
  (cSeq (cForO 6 (cVar 5) (cExpr (cDef 3 f_Line_m_put (cCons (isOb cLine (cVar 6)) (cCons (cD (.int 0)) (cCons (cD (.int 99)) cNil))))))
  (cSeq (cSet 1 (cD2s fAdd (cVar 1) (cLst (cCons (cDef 1 f_Line_m_told (cCons (isOb cLine (cVar 4)) cNil)) (cCons (cDef 1 f_Line_m_told (cCons (isOb cLine (cIxO 0 (cVar 5))) cNil)) cNil)))))
  (cSeq (cAugO 4 cLine f_Line_m_iadd (cVar 4))
  (cRet (cDef 2 (f__law_same 16) (cCons (cD2s fAdd (cVar 1) (cLst (cCons (cDef 1 f_Line_m_told (cCons (isOb cLine (cVar 4)) cNil)) cNil))) (cCons (cD2s fAdd (cVar 2) (cLst (cCons (cTup (cCons (cD (.int 11)) (cCons (cD (.int 6)) cNil))) (cCons (cTup (cCons (cD (.int 99)) (cCons (cD (.int 11)) (cCons (cD (.int 6)) cNil)))) (cCons (cTup (cCons (cD (.int 11)) (cCons (cD (.int 6)) (cCons (cD (.int 11)) (cCons (cD (.int 6)) cNil))))) cNil))))) cNil))))))))))))))))))))
def f__law_by_hand_right : FS := defS 8 b__law_by_hand_right
/- slots of _law_cells: 0 _law_script, 1 _law_most_so, 2 _law_cells_here, 3 _law_k, 4 _law_cell, 5 _law_at_so -/
def b__law_cells : SS :=
  (cSeq (cSet 2 (cOr (cListM (cCons (cSl (cVar 0) oNone (oSome (cVar 1))) cNil)) (cLstM (cCons (cD (.int 0)) cNil))))
  (cSeq (cFor (iEnum1 (cCons (cSl (cVar 0) (oSome (cVar 1)) (oSome (cD (.int 63)))) cNil)) (gT (gsCons (gN 3) (gsCons (gN 4) gsNil))) (cSeq (cSet 5 (cD2 fMod (cCall fInt (cCons (cVar 3) cNil)) (cVar 1)))
  (cSetIx (cVar 2) (cVar 5) (cD2s fAdd (cD2 fIx (cVar 2) (cVar 5)) (cD2s fMul (cVar 4) (cD2s fAdd (cVar 3) (cD (.int 2))))))))
  (cRet (cVar 2))))
def f__law_cells : FS := defS 6 b__law_cells
/- slots of Line_m_len: 0 self -/
def b_Line_m_len : SS :=
  (cRet (cCall fLen (cCons (cOwn cLine 1 (cVar 0)) cNil)))
def f0_Line_m_len : FS := defS 1 b_Line_m_len
def f_Line_m_len : FS := fPin f0_Line_m_len
/- slots of _law_take: 0 _law_box_here, 1 _law_below, 2 _law_once, 3 _law_far, 4 _law_twice, 5 _law_drawn -/
def b__law_take : SS :=
  (cSeq (cIfS (cB (cD2 fGt (cD2 fIx (cVar 0) (cD (.int 0))) (cD (.int 0)))) (cSeq (cSet 5 (cD2 fMod (cCall fInt (cCons (cD2 fIx (cVar 0) (cD (.int 0))) cNil)) (cVar 1)))
  (cSeq (cSetIx (cVar 0) (cD (.int 0)) (cD2 fDiv (cD2 fIx (cVar 0) (cD (.int 0))) (cVar 1)))
  (cRet (cVar 5)))) cSkip)
  (cSeq (cSetIx (cVar 0) (cD (.int 2)) (cD2s fAdd (cD2 fIx (cVar 0) (cD (.int 2))) (cD (.int 1))))
  (cSeq (cSet 2 (cD2 fMod (cCall fInt (cCons (cD2s fMul (cD2s fAdd (cD2 fIx (cVar 0) (cD (.int 1))) (cD2s fMul (cD (.int 48271)) (cD2 fIx (cVar 0) (cD (.int 2))))) (cD2s fAdd (cD (.int 39373)) (cD2 fIx (cVar 0) (cD (.int 2))))) cNil)) (cD (.int 2147483647))))
  (cSeq (cSet 3 (cD2s fAdd (cD2 fMod (cCall fInt (cCons (cVar 2) cNil)) (cD (.int 40009))) (cD (.int 7))))
  (cSeq (cSet 4 (cD2 fMod (cCall fInt (cCons (cD2s fMul (cD2s fAdd (cD2s fAdd (cVar 2) (cD2 fIx (cVar 0) (cD (.int 2)))) (cD2 fDiv (cD2 fIx (cVar 0) (cD (.int 1))) (cD (.int 1000003)))) (cVar 3)) cNil)) (cD (.int 2147483629))))
  (cRet (cD2 fMod (cCall fInt (cCons (cD2 fDiv (cD2 fMod (cCall fInt (cCons (cD2s fAdd (cD2s fMul (cVar 4) (cD (.int 48271))) (cVar 2)) cNil)) (cD (.int 2147483587))) (cD (.int 64))) cNil)) (cVar 1))))))))
def f__law_take : FS := defS 6 b__law_take
/- slots of _law_of: 0 _law_box_here, 1 _law_some -/
def b__law_of : SS :=
  (cRet (cD2 fIx (cVar 1) (cDef 2 f__law_take (cCons (cVar 0) (cCons (cCall fLen (cCons (cVar 1) cNil)) cNil)))))
def f__law_of : FS := defS 2 b__law_of
/- slots of _law_least: 0 _law_box_here -/
def b__law_least : SS :=
  (cRet (cDef 2 f__law_of (cCons (cVar 0) (cCons (cLst (cCons (cD (.int 1)) (cCons (cD (.int 1)) (cCons (cD (.int 2)) (cCons (cD (.int 3)) (cCons (cD2s fAdd (cD (.int 4)) (cDef 2 f__law_take (cCons (cVar 0) (cCons (cD (.int 9)) cNil)))) (cCons (cD2s fAdd (cD (.int 1)) (cDef 2 f__law_take (cCons (cVar 0) (cCons (cD2 fPow (cD (.int 10)) (cD (.int 30))) cNil)))) cNil))))))) cNil))))
def f__law_least : FS := defS 1 b__law_least
/- slots of _law_row: 0 _law_box_here, 1 _law_least_so, 2 _law_at_most, 3 _law_top, 4 _law_turn, 5 _law_way_so, 6 _law_found -/
def b__law_row : SS :=
  (cSeq (cParN [5, 6] (cCons (cDef 2 f__law_take (cCons (cVar 0) (cCons (cD (.int 5)) cNil))) (cCons (cLstM cNil) cNil)))
  (cSeq (cSet 3 (cD2s fAdd (cD2s fMul (cVar 1) (cD2s fAdd (cD (.int 2)) (cDef 2 f__law_take (cCons (cVar 0) (cCons (cD (.int 12)) cNil))))) (cDef 2 f__law_take (cCons (cVar 0) (cCons (cD2s fAdd (cVar 1) (cD (.int 1))) cNil)))))
  (cSeq (cFor (iRange1 (cCons (cDef 2 f__law_take (cCons (cVar 0) (cCons (cD2s fAdd (cVar 2) (cD (.int 1))) cNil))) cNil)) (gN 4) (cIfS (cB (cD2 fEq (cVar 5) (cD (.int 0)))) (cExpr (cM mAppend (cVar 6) (cCons (cD2s fAdd (cD (.int 1)) (cDef 2 f__law_take (cCons (cVar 0) (cCons (cD2s fAdd (cD2s fMul (cD (.int 12)) (cVar 1)) (cD (.int 5))) cNil)))) cNil))) (cIfS (cB (cD2 fEq (cVar 5) (cD (.int 1)))) (cSeq (cExpr (cM mAppend (cVar 6) (cCons (cCall fMax (cCons (cD (.int 1)) (cCons (cVar 3) cNil))) cNil)))
  (cSet 3 (cD2 fSub (cD2 fSub (cVar 3) (cD (.int 1))) (cDef 2 f__law_take (cCons (cVar 0) (cCons (cD2s fAdd (cVar 1) (cD (.int 2))) cNil)))))) (cIfS (cB (cD2 fEq (cVar 5) (cD (.int 2)))) (cSeq (cExpr (cM mAppend (cVar 6) (cCons (cCall fMax (cCons (cD (.int 1)) (cCons (cVar 3) cNil))) cNil)))
  (cSet 3 (cD2 fSub (cD2 fSub (cVar 3) (cD (.int 1))) (cDef 2 f__law_take (cCons (cVar 0) (cCons (cD2s fAdd (cD2s fMul (cD (.int 2)) (cVar 1)) (cD (.int 3))) cNil)))))) (cIfS (cB (cD2 fEq (cVar 5) (cD (.int 3)))) (cExpr (cM mAppend (cVar 6) (cCons (cCall fMax (cCons (cD (.int 1)) (cCons (cD2 fSub (cVar 3) (cDef 2 f__law_take (cCons (cVar 0) (cCons (cD2s fAdd (cD2s fMul (cD (.int 3)) (cVar 1)) (cD (.int 1))) cNil)))) cNil))) cNil))) (cExpr (cM mAppend (cVar 6) (cCons (cDef 2 f__law_of (cCons (cVar 0) (cCons (cLst (cCons (cVar 3) (cCons (cCall fMax (cCons (cD (.int 1)) (cCons (cD2 fSub (cVar 3) (cVar 1)) cNil))) (cCons (cCall fMax (cCons (cD (.int 1)) (cCons (cD2 fSub (cD2 fSub (cVar 3) (cVar 1)) (cD (.int 1))) cNil))) (cCons (cD2s fMul (cD (.int 2)) (cVar 1)) cNil))))) cNil))) cNil))))))))
  (cRet (cCall fTuple (cCons (cVar 6) cNil))))))
def f__law_row : FS := defS 7 b__law_row
/- slots of _law_right: 0 _law_box_here, 1 _law_least_so, 2 _law_both, 3 _law_held, 4 _law_one, 5 _law_one_so, 6 _law_other_so, 7 _law_other -/
def b__law_right : SS :=
  (cSeq (cSet 1 (cDef 1 f__law_least (cCons (cVar 0) cNil)))
  (cSeq (cParN [5, 6] (cCons (cDef 3 f__law_row (cCons (cVar 0) (cCons (cVar 1) (cCons (cD (.int 5)) cNil)))) (cCons (cDef 3 f__law_row (cCons (cVar 0) (cCons (cVar 1) (cCons (cD (.int 5)) cNil)))) cNil)))
  (cSeq (cParN [4, 7] (cCons (cMakeL cLine 1 f_Line_m_init (cCons (cVar 5) cNil)) (cCons (cMakeL cLine 1 f_Line_m_init (cCons (cCall fList (cCons (cVar 6) cNil)) cNil)) cNil)))
  (cSeq (cSet 2 (cBin cLine f_Line_m_add (cVar 4) (cVar 7)))
  (cSeq (cIfS (bNot (cTr (cDef 2 (f__law_same 16) (cCons (cLst (cCons (cDef 1 f_Line_m_told (cCons (isOb cLine (cVar 2)) cNil)) (cCons (cDef 1 f_Line_m_told (cCons (isOb cLine (cVar 4)) cNil)) (cCons (cDef 1 f_Line_m_told (cCons (isOb cLine (cVar 7)) cNil)) cNil)))) (cCons (cLst (cCons (cD2s fAdd (cVar 5) (cVar 6)) (cCons (cVar 5) (cCons (cVar 6) cNil)))) cNil))))) (cRet (cD (.bool false))) cSkip)
  (cSeq (cIfS (bOr (cTr (cDef 1 f__law_gone_back (cCons (cVar 2) cNil))) (bOr (cB (cD2 fIsNot (cBin cLine f_Line_m_eq (cVar 2) (cMakeL cLine 1 f_Line_m_init (cCons (cD2s fAdd (cVar 5) (cVar 6)) cNil))) (cD (.bool true)))) (cB (cD2 fNe (cLenO cLine f_Line_m_len (cVar 2)) (cD2s fAdd (cLenO cLine f_Line_m_len (cVar 4)) (cLenO cLine f_Line_m_len (cVar 7))))))) (cRet (cD (.bool false))) cSkip)
  (cSeq (cExpr (cDef 3 f_Line_m_put (cCons (isOb cLine (cVar 2)) (cCons (cD (.int 0)) (cCons (cD (.int 7)) cNil)))))
  (cSeq (cIfS (bOr (cB (cD2 fNe (cDef 1 f_Line_m_told (cCons (isOb cLine (cVar 4)) cNil)) (cVar 5))) (cB (cD2 fNe (cDef 1 f_Line_m_told (cCons (isOb cLine (cVar 7)) cNil)) (cVar 6)))) (cRet (cD (.bool false))) cSkip)
  (cSeq (cSet 3 (cVar 4))
  (cSeq (cAugO 4 cLine f_Line_m_iadd (cVar 7))
  (cSeq (cIfS (bOr (cB (cD2 fNe (cDef 1 f_Line_m_told (cCons (isOb cLine (cVar 3)) cNil)) (cD2s fAdd (cVar 5) (cVar 6)))) (bOr (cB (cD2 fNe (cDef 1 f_Line_m_told (cCons (isOb cLine (cVar 4)) cNil)) (cDef 1 f_Line_m_told (cCons (isOb cLine (cVar 3)) cNil)))) (cB (cD2 fNe (cDef 1 f_Line_m_told (cCons (isOb cLine (cVar 7)) cNil)) (cVar 6))))) (cRet (cD (.bool false))) cSkip)
  (cSeq (cExpr (cDef 3 f_Line_m_put (cCons (isOb cLine (cVar 7)) (cCons (cD (.int 0)) (cCons (cD (.int 7)) cNil)))))
  (cSeq (cIfS (bOr (cB (cD2 fNe (cDef 1 f_Line_m_told (cCons (isOb cLine (cVar 3)) cNil)) (cD2s fAdd (cVar 5) (cVar 6)))) (bNot (cTr (cDef 1 f__law_gone_back (cCons (cVar 3) cNil))))) (cRet (cD (.bool false))) cSkip)
  (cRet (cAnd (cD2 fEq (cDef 1 f_Line_m_told (cCons (isOb cLine (cVar 4)) cNil)) (cVar 5)) (cNot (cDef 1 f__law_gone_back (cCons (cVar 3) cNil))))))))))))))))))
def f__law_right : FS := defS 8 b__law_right
/- slots of law: 0 _law_script, 1 _law_cells_here, 2 _law_k, 3 _law_box_here, 4 _law_turn -/
def b_law : SS :=
  (cSeq (cIfS (bNot (cTr (cDef 0 f__law_by_hand_right cNil))) (cRet (cD (.bool false))) cSkip)
  (cSeq (cSet 1 (cDef 2 f__law_cells (cCons (cVar 0) (cCons (cD (.int 3)) cNil))))
  (cSeq (cFor (iRange1 (cCons (cCall fLen (cCons (cVar 1) cNil)) cNil)) (gN 2) (cSeq (cSet 3 (cDef 2 f__law_box (cCons (cVar 1) (cCons (cVar 2) cNil))))
  (cIfS (bNot (cTr (cCall fAll (cCons (cLc (iRange1 (cCons (cD (.int 4)) cNil)) (gN 4) bYes (cDef 1 f__law_right (cCons (cVar 3) cNil)) [4]) cNil)))) (cRet (cD (.bool false))) cSkip)))
  (cRet (cD (.bool true))))))
def f_law : FS := defS 5 b_law
end My

set_option Elab.async false
set_option linter.all false
set_option maxRecDepth 100000
set_option maxHeartbeats 4000000
namespace My
open PySem PySem.Spec PyProof.Rows L2 Cm
def top (i : Nat) : Stmt := PySem.Challenge.pw_cutsmaller_k06_lines_added.main.body.getD i (.Pass ⟨0, 0, 0, 0⟩)
def mth (i j : Nat) : Stmt := match top i with
  | .ClassDef _ _ _ body _ _ _ _ _ _ _ => body.getD j (.Pass ⟨0, 0, 0, 0⟩)
  | _ => .Pass ⟨0, 0, 0, 0⟩
structure OC_Line (K : PySem.W.Frag) (mg : Str → Option Value) : Prop where
  g : mg "Line" = some (.ref cLine)
  c : SlX.SCls K cLine
  o : OL K cLine
  s0 : ∃ p, SlX.Slot1 K cLine "own_earlier" p 0
  s1 : ∃ p, SlX.Slot1 K cLine "own_limits" p 1
abbrev s__law_box : Stmt := top 11
abbrev N__law_box : List Str := ["_law_script", "_law_k", "_law_cell"]
theorem sc__law_box : FnScope N__law_box ["_law_script", "_law_k"] (defScope s__law_box) := ⟨rfl, rfl, rfl, by decide +kernel, rfl, by decide +kernel, by decide +kernel⟩
abbrev s_tupled : Stmt := top 4
abbrev N_tupled : List Str := ["thing", "part"]
theorem sc_tupled : FnScope N_tupled ["thing"] (defScope s_tupled) := ⟨rfl, rfl, rfl, by decide +kernel, rfl, by decide +kernel, by decide +kernel⟩
abbrev s_Line_m_init : Stmt := mth 9 1
abbrev N_Line_m_init : List Str := ["self", "row"]
theorem sc_Line_m_init : FnScope N_Line_m_init ["self", "row"] (defScope s_Line_m_init) := ⟨rfl, rfl, rfl, by decide +kernel, rfl, by decide +kernel, by decide +kernel⟩
abbrev s_Line_m_add : Stmt := mth 9 8
abbrev N_Line_m_add : List Str := ["self", "other"]
theorem sc_Line_m_add : FnScope N_Line_m_add ["self", "other"] (defScope s_Line_m_add) := ⟨rfl, rfl, rfl, by decide +kernel, rfl, by decide +kernel, by decide +kernel⟩
abbrev s_Line_m_eq : Stmt := mth 9 7
abbrev N_Line_m_eq : List Str := ["self", "other"]
theorem sc_Line_m_eq : FnScope N_Line_m_eq ["self", "other"] (defScope s_Line_m_eq) := ⟨rfl, rfl, rfl, by decide +kernel, rfl, by decide +kernel, by decide +kernel⟩
abbrev s_Line_m_iadd : Stmt := mth 9 9
abbrev N_Line_m_iadd : List Str := ["self", "other", "later"]
theorem sc_Line_m_iadd : FnScope N_Line_m_iadd ["self", "other"] (defScope s_Line_m_iadd) := ⟨rfl, rfl, rfl, by decide +kernel, rfl, by decide +kernel, by decide +kernel⟩
abbrev s_Line_m_put : Stmt := mth 9 12
abbrev N_Line_m_put : List Str := ["self", "k", "limit"]
theorem sc_Line_m_put : FnScope N_Line_m_put ["self", "k", "limit"] (defScope s_Line_m_put) := ⟨rfl, rfl, rfl, by decide +kernel, rfl, by decide +kernel, by decide +kernel⟩
abbrev s_Line_m_told : Stmt := mth 9 11
abbrev N_Line_m_told : List Str := ["self"]
theorem sc_Line_m_told : FnScope N_Line_m_told ["self"] (defScope s_Line_m_told) := ⟨rfl, rfl, rfl, by decide +kernel, rfl, by decide +kernel, by decide +kernel⟩
abbrev s_Line_m_back : Stmt := mth 9 14
abbrev N_Line_m_back : List Str := ["self"]
theorem sc_Line_m_back : FnScope N_Line_m_back ["self"] (defScope s_Line_m_back) := ⟨rfl, rfl, rfl, by decide +kernel, rfl, by decide +kernel, by decide +kernel⟩
abbrev s__law_gone_back : Stmt := top 18
abbrev N__law_gone_back : List Str := ["_law_line_so", "_law_done_so", "_law_its"]
theorem sc__law_gone_back : FnScope N__law_gone_back ["_law_line_so"] (defScope s__law_gone_back) := ⟨rfl, rfl, rfl, by decide +kernel, rfl, by decide +kernel, by decide +kernel⟩
abbrev s__law_same : Stmt := top 15
abbrev N__law_same : List Str := ["_law_got", "_law_due", "_law_mine", "_law_its"]
theorem sc__law_same : FnScope N__law_same ["_law_got", "_law_due"] (defScope s__law_same) := ⟨rfl, rfl, rfl, by decide +kernel, rfl, by decide +kernel, by decide +kernel⟩
abbrev s__law_by_hand_right : Stmt := top 19
abbrev N__law_by_hand_right : List Str := ["_law_both", "_law_got", "_law_due", "_law_same_so", "_law_one", "_law_twins", "_law_twin", "_law_other"]
theorem sc__law_by_hand_right : FnScope N__law_by_hand_right [] (defScope s__law_by_hand_right) := ⟨rfl, rfl, rfl, by decide +kernel, rfl, by decide +kernel, by decide +kernel⟩
abbrev s__law_cells : Stmt := top 13
abbrev N__law_cells : List Str := ["_law_script", "_law_most_so", "_law_cells_here", "_law_k", "_law_cell", "_law_at_so"]
theorem sc__law_cells : FnScope N__law_cells ["_law_script", "_law_most_so"] (defScope s__law_cells) := ⟨rfl, rfl, rfl, by decide +kernel, rfl, by decide +kernel, by decide +kernel⟩
abbrev s_Line_m_len : Stmt := mth 9 3
abbrev N_Line_m_len : List Str := ["self"]
theorem sc_Line_m_len : FnScope N_Line_m_len ["self"] (defScope s_Line_m_len) := ⟨rfl, rfl, rfl, by decide +kernel, rfl, by decide +kernel, by decide +kernel⟩
abbrev s__law_take : Stmt := top 12
abbrev N__law_take : List Str := ["_law_box_here", "_law_below", "_law_once", "_law_far", "_law_twice", "_law_drawn"]
theorem sc__law_take : FnScope N__law_take ["_law_box_here", "_law_below"] (defScope s__law_take) := ⟨rfl, rfl, rfl, by decide +kernel, rfl, by decide +kernel, by decide +kernel⟩
abbrev s__law_of : Stmt := top 14
abbrev N__law_of : List Str := ["_law_box_here", "_law_some"]
theorem sc__law_of : FnScope N__law_of ["_law_box_here", "_law_some"] (defScope s__law_of) := ⟨rfl, rfl, rfl, by decide +kernel, rfl, by decide +kernel, by decide +kernel⟩
abbrev s__law_least : Stmt := top 16
abbrev N__law_least : List Str := ["_law_box_here"]
theorem sc__law_least : FnScope N__law_least ["_law_box_here"] (defScope s__law_least) := ⟨rfl, rfl, rfl, by decide +kernel, rfl, by decide +kernel, by decide +kernel⟩
abbrev s__law_row : Stmt := top 17
abbrev N__law_row : List Str := ["_law_box_here", "_law_least_so", "_law_at_most", "_law_top", "_law_turn", "_law_way_so", "_law_found"]
theorem sc__law_row : FnScope N__law_row ["_law_box_here", "_law_least_so", "_law_at_most"] (defScope s__law_row) := ⟨rfl, rfl, rfl, by decide +kernel, rfl, by decide +kernel, by decide +kernel⟩
abbrev s__law_right : Stmt := top 20
abbrev N__law_right : List Str := ["_law_box_here", "_law_least_so", "_law_both", "_law_held", "_law_one", "_law_one_so", "_law_other_so", "_law_other"]
theorem sc__law_right : FnScope N__law_right ["_law_box_here"] (defScope s__law_right) := ⟨rfl, rfl, rfl, by decide +kernel, rfl, by decide +kernel, by decide +kernel⟩
abbrev s_law : Stmt := top 21
abbrev N_law : List Str := ["_law_script", "_law_cells_here", "_law_k", "_law_box_here", "_law_turn"]
theorem sc_law : FnScope N_law ["_law_script"] (defScope s_law) := ⟨rfl, rfl, rfl, by decide +kernel, rfl, by decide +kernel, by decide +kernel⟩
/-- what the top has left: names that are free, constants -/
structure Zs (mg : Str → Option Value) : Prop where
  z_abs : mg "abs" = none
  z_all : mg "all" = none
  z_bool : mg "bool" = none
  z_enumerate : mg "enumerate" = none
  z_int : mg "int" = none
  z_isinstance : mg "isinstance" = none
  z_len : mg "len" = none
  z_list : mg "list" = none
  z_max : mg "max" = none
  z_range : mg "range" = none
  z_str : mg "str" = none
  z_tuple : mg "tuple" = none
  z_zip : mg "zip" = none
section
variable {P : Program} {w : World} {K : PySem.W.Frag} {mg : Str → Option Value} {base : Heap}
theorem ok__law_box (Z : Zs mg) (h : At K mg "_law_box" s__law_box) (O_Line : OC_Line K mg)   : Cal P w K mg base 1 "_law_box" s__law_box ["_law_script", "_law_k"] f__law_box :=
  .of h (fun a fd F hm => def_okO (x := "_law_box") (st := s__law_box) (N := N__law_box) (ps := ["_law_script", "_law_k"]) (b := b__law_box) (k := 0) F sc__law_box fun cdv A outer s H E hr =>
      by
        refine ss_cons ?_ ?_
        · refine s_set (i := 2) sc__law_box.nd rfl (.inl rfl) ?_
          refine se_if ?_ ?_ se_int
          · refine st_cmp (op_ltA hr) snd_lt (se_var (i := 1)) ?_ (nomark _)
            refine se_callB call_lenA snd_len (by rfl) Z.z_len PySem.boot_len ?_
            exact (sa_cons (se_var (i := 0)) sa_nil)
          · exact (se_ix ix_seq snd_ix (se_var (i := 0)) (se_var (i := 1)))
        · refine ss_one ?_
          refine s_ret ?_
          refine se_lstM ?_
          refine sa_cons ?_ ?_
          · refine se_ops op_mulA snd_mul ?_ ?_
            · refine se_callB call_abs snd_abs (by rfl) Z.z_abs PyProof.Rows.boot_abs ?_
              exact (sa_cons (se_var (i := 2)) sa_nil)
            · refine se_callTy call_int1 snd_int (by rfl) Z.z_int PyProof.Rows.boot_int ?_
              refine sa_cons ?_ sa_nil
              refine se_cmp op_ge snd_ge ?_ ?_ (nomark _)
              · refine se_callB call_abs snd_abs (by rfl) Z.z_abs PyProof.Rows.boot_abs ?_
                exact (sa_cons (se_var (i := 2)) sa_nil)
              · exact (se_op op_pow snd_pow se_int se_int)
          · refine sa_cons ?_ ?_
            · refine se_ops op_addA snd_add ?_ se_int
              refine se_ops op_addA snd_add ?_ ?_
              · refine se_op op_mod snd_mod ?_ se_int
                refine se_callTy call_int1 snd_int (by rfl) Z.z_int PyProof.Rows.boot_int ?_
                exact (sa_cons (se_var (i := 2)) sa_nil)
              · exact (se_ops op_mulA snd_mul se_int (se_var (i := 1)))
            · exact (sa_cons se_int sa_nil)) (fun _ _ _ _ _ _ us hl => match us, hl with | [_, _], _ => rfl)
theorem ok_tupled (Z : Zs mg) (h : At K mg "tupled" s_tupled) (O_Line : OC_Line K mg)   : ∀ d : Nat, Cal P w K mg base (1 + d) "tupled" s_tupled ["thing"] (f_tupled d)
  | 0 => .of h (fun _ _ _ _ => def_none) (fun _ _ _ _ _ _ us hl => match us, hl with | [_], _ => rfl)
  | d + 1 => .of h (fun a fd F hm => by
    have ih := ok_tupled Z h O_Line d
    exact def_okD (x := "tupled") (st := s_tupled) (N := N_tupled) (ps := ["thing"]) (b := b_tupled (f_tupled d)) F sc_tupled fun cdv A outer s H E hr =>
      by
        refine ss_one ?_
        refine s_ret ?_
        refine se_if ?_ ?_ (se_var (i := 0))
        · exact (st_tr (se_isi2 (by rfl) Z.z_isinstance (by rfl) Z.z_list PyProof.Rows.boot_list (by decide) (by rfl) Z.z_tuple PyProof.Rows.boot_tuple (by decide) (se_var (i := 0))))
        · refine se_callTy call_tuple_of snd_tuple (by rfl) Z.z_tuple PyProof.Rows.boot_tuple ?_
          refine sa_cons ?_ sa_nil
          refine se_lc (own := [("part", 1)]) rfl sc_tupled.nd ?_ (blkOk_by (own := [("part", 1)]) (N := N_tupled) (sc := defScope s_tupled) (by decide +kernel)) (fun _ _ _ _ _ => (g_name (i := 1) (by decide) sc_tupled.nd rfl (.inl rfl))) (fun _ _ _ _ _ => ts_nil) (fun _ _ _ _ _ => ?_)
          · exact (i_seq (se_var (i := 0)))
          · refine se_cal (ps := ["thing"]) (fs := (f_tupled d)) ih hr (by rfl) ?_
            exact (sa_cons (se_var (i := 1)) sa_nil)) (fun _ _ _ _ _ _ us hl => match us, hl with | [_], _ => rfl)
theorem ok_Line_m_init (Z : Zs mg) (h : AtI K cLine "Line.__init__" s_Line_m_init) (O_Line : OC_Line K mg) (c_tupled : Cal P w K mg base 17 "tupled" s_tupled ["thing"] (f_tupled 16))  : CalIL P w K mg base 18 cLine 1 f_Line_m_init := by
  obtain ⟨f, fd, F, hm⟩ := h
  obtain ⟨_, t⟩ := O_Line.s1
  obtain ⟨_, t1⟩ := O_Line.s0
  exact ⟨f, fd, ["self", "row"], iniL_ok (x := "__init__") (q := "Line.__init__") (st := s_Line_m_init) (N := N_Line_m_init) (ps := ["self", "row"]) (n := 1) (ce := e_Line_m_init) (k := 17) F sc_Line_m_init O_Line.c t t1 rfl rfl rfl (.inl rfl) (by decide) (by decide) (fun cdv A outer s H E hr => by
        refine se_listM (by rfl) Z.z_list ?_
        refine sa_cons ?_ sa_nil
        refine se_cal (ps := ["thing"]) (fs := (f_tupled 16)) c_tupled (hr.mono (by decide)) (by rfl) ?_
        exact (sa_cons (se_var (i := 1)) sa_nil)) (fun _ _ => rfl) (fun _ _ => rfl), hm, FunD.bindsN F (fun _ _ _ _ _ _ us hl => match us, hl with | [_, _], _ => rfl)⟩
theorem ok_Line_m_add (Z : Zs mg) (h : AtM K cLine "__add__" "Line.__add__" s_Line_m_add) (O_Line : OC_Line K mg) (c_Line_m_init : CalIL P w K mg base 18 cLine 1 f_Line_m_init)  : CalM P w K mg base 20 cLine "__add__" ["self", "other"] f_Line_m_add := by
  obtain ⟨g, fd, F, hm⟩ := h
  exact CalM.pin (.of F hm (def_okQ (x := "__add__") (q := "Line.__add__") (st := s_Line_m_add) (N := N_Line_m_add) (ps := ["self", "other"]) (b := b_Line_m_add) (k := 19) F sc_Line_m_add fun cdv A outer s H E hr => by
        refine ss_one ?_
        refine s_ret ?_
        refine se_makeL c_Line_m_init (hr.mono (by decide)) (by rfl) O_Line.g ?_
        refine sa_cons ?_ sa_nil
        refine se_lst ?_
        refine sa_star ?_ ?_
        · exact (se_own O_Line.c (O_Line.s1).choose_spec (by decide) (se_var (i := 0)))
        · refine sa_star ?_ sa_nil
          exact (se_own O_Line.c (O_Line.s1).choose_spec (by decide) (se_var (i := 1)))) (fun _ _ _ _ _ _ us hl => match us, hl with | [_, _], _ => rfl))
theorem ok_Line_m_eq (Z : Zs mg) (h : AtM K cLine "__eq__" "Line.__eq__" s_Line_m_eq) (O_Line : OC_Line K mg)   : CalM P w K mg base 1 cLine "__eq__" ["self", "other"] f_Line_m_eq := by
  obtain ⟨g, fd, F, hm⟩ := h
  exact CalM.pin (.of F hm (def_okQ (x := "__eq__") (q := "Line.__eq__") (st := s_Line_m_eq) (N := N_Line_m_eq) (ps := ["self", "other"]) (b := b_Line_m_eq) (k := 0) F sc_Line_m_eq fun cdv A outer s H E hr => by
        refine ss_one ?_
        refine s_ret ?_
        refine se_and ?_ ?_
        · exact (se_isiO O_Line.c O_Line.o (by rfl) Z.z_isinstance (by rfl) O_Line.g (se_var (i := 1)))
        · refine pe_one ?_
          refine se_cmp (op_eqD hr.units) snd_eq ?_ ?_ (nomark _)
          · exact (se_own O_Line.c (O_Line.s1).choose_spec (by decide) (se_var (i := 0)))
          · exact (se_own O_Line.c (O_Line.s1).choose_spec (by decide) (se_var (i := 1)))) (fun _ _ _ _ _ _ us hl => match us, hl with | [_, _], _ => rfl))
theorem ok_Line_m_iadd (Z : Zs mg) (h : AtM K cLine "__iadd__" "Line.__iadd__" s_Line_m_iadd) (O_Line : OC_Line K mg)   : CalM P w K mg base 1 cLine "__iadd__" ["self", "other"] f_Line_m_iadd := by
  obtain ⟨g, fd, F, hm⟩ := h
  obtain ⟨_, t⟩ := O_Line.s1
  exact .of F hm (def_okRe (x := "__iadd__") (q := "Line.__iadd__") (st := s_Line_m_iadd) (N := N_Line_m_iadd) (ps := ["self", "other"]) (b := b_Line_m_iadd) (ce := e_Line_m_iadd) (rows := (defBody s_Line_m_iadd).take 2) (ret := true) (k := 0) F sc_Line_m_iadd O_Line.c t rfl rfl rfl (.inl rfl) (by decide) (by decide) (fun cdv A outer s H E hr => by
        exact (rows_cons (s_set (i := 2) sc_Line_m_iadd.nd rfl (.inl rfl) (se_lstM (sa_star (se_own O_Line.c (O_Line.s1).choose_spec (by decide) (se_var (i := 0))) (sa_star (se_own O_Line.c (O_Line.s1).choose_spec (by decide) (se_var (i := 1))) sa_nil)))) (rows_one (s_expr (se_meth PySem.F.plainAttrs_list PySem.F.slot_list_append PySem.F.type_list_append mt_append snd_append (se_own O_Line.c (O_Line.s0).choose_spec (by decide) (se_var (i := 0))) (sa_cons (se_callTy call_tuple_of snd_tuple (by rfl) Z.z_tuple PyProof.Rows.boot_tuple (sa_cons (se_own O_Line.c (O_Line.s1).choose_spec (by decide) (se_var (i := 0))) sa_nil)) sa_nil)))))) (fun cdv A outer s H E hr => by
        exact (se_var (i := 2))) (fun _ _ => rfl)) (fun _ _ _ _ _ _ us hl => match us, hl with | [_, _], _ => rfl)
theorem ok_Line_m_put (Z : Zs mg) (h : AtM K cLine "put" "Line.put" s_Line_m_put) (O_Line : OC_Line K mg)   : CalM P w K mg base 1 cLine "put" ["self", "k", "limit"] f_Line_m_put := by
  obtain ⟨g, fd, F, hm⟩ := h
  exact CalM.pin (.of F hm (def_okQ (x := "put") (q := "Line.put") (st := s_Line_m_put) (N := N_Line_m_put) (ps := ["self", "k", "limit"]) (b := b_Line_m_put) (k := 0) F sc_Line_m_put fun cdv A outer s H E hr => by
        refine ss_cons ?_ ?_
        · refine s_if ?_ ?_ ss_nil
          · refine st_not ?_
            refine st_chain op_le op_le snd_le snd_le se_int (se_var (i := 1)) ?_
            refine se_callB call_lenA snd_len (by rfl) Z.z_len PySem.boot_len ?_
            refine sa_cons ?_ sa_nil
            exact (se_own O_Line.c (O_Line.s1).choose_spec (by decide) (se_var (i := 0)))
          · exact (ss_one s_fail)
        · refine ss_cons ?_ ?_
          · refine s_expr ?_
            refine se_meth PySem.F.plainAttrs_list PySem.F.slot_list_append PySem.F.type_list_append mt_append snd_append ?_ ?_
            · exact (se_own O_Line.c (O_Line.s0).choose_spec (by decide) (se_var (i := 0)))
            · refine sa_cons ?_ sa_nil
              refine se_callTy call_tuple_of snd_tuple (by rfl) Z.z_tuple PyProof.Rows.boot_tuple ?_
              refine sa_cons ?_ sa_nil
              exact (se_own O_Line.c (O_Line.s1).choose_spec (by decide) (se_var (i := 0)))
          · refine ss_one ?_
            refine s_expr ?_
            refine se_meth PySem.F.plainAttrs_list PySem.F.slot_list_insert PySem.F.type_list_insert mt_ins snd_ins ?_ ?_
            · exact (se_own O_Line.c (O_Line.s1).choose_spec (by decide) (se_var (i := 0)))
            · refine sa_cons (se_var (i := 1)) ?_
              exact (sa_cons (se_var (i := 2)) sa_nil)) (fun _ _ _ _ _ _ us hl => match us, hl with | [_, _, _], _ => rfl))
theorem ok_Line_m_told (Z : Zs mg) (h : AtM K cLine "told" "Line.told" s_Line_m_told) (O_Line : OC_Line K mg)   : CalM P w K mg base 1 cLine "told" ["self"] f_Line_m_told := by
  obtain ⟨g, fd, F, hm⟩ := h
  exact CalM.pin (.of F hm (def_okQ (x := "told") (q := "Line.told") (st := s_Line_m_told) (N := N_Line_m_told) (ps := ["self"]) (b := b_Line_m_told) (k := 0) F sc_Line_m_told fun cdv A outer s H E hr => by
        refine ss_one ?_
        refine s_ret ?_
        refine se_callTy call_tuple_of snd_tuple (by rfl) Z.z_tuple PyProof.Rows.boot_tuple ?_
        refine sa_cons ?_ sa_nil
        exact (se_own O_Line.c (O_Line.s1).choose_spec (by decide) (se_var (i := 0)))) (fun _ _ _ _ _ _ us hl => match us, hl with | [_], _ => rfl))
theorem okx_Line_m_back (Z : Zs mg) (h : AtM K cLine "back" "Line.back" s_Line_m_back) (O_Line : OC_Line K mg)   {C_NothingDone f_NothingDone : Addr} (zc_NothingDone : ZC K "NothingDone" "NothingDone.__init__" "/claim/cut.py" zbL none C_NothingDone f_NothingDone) (mc_NothingDone : mg "NothingDone" = some (.ref C_NothingDone)) (hP : PgOk P "/claim/cut.py") : CalMX P w K mg base 2 cLine "back" ["self"] ⟨C_NothingDone, none⟩ fx_Line_m_back := by
  obtain ⟨g, fd, F, hm⟩ := h
  obtain ⟨_, t⟩ := O_Line.s1
  exact ⟨g, fd, def_okReX (x := "back") (q := "Line.back") (st := s_Line_m_back) (N := N_Line_m_back) (ps := ["self"]) (b := bx_Line_m_back) (ce := ex_Line_m_back) (n := 1) F sc_Line_m_back O_Line.c t rfl rfl (.inl rfl) (by decide) (by decide) (fun cdv A outer s H E hr => by
        refine x_if ?_ ?_ x_nil
        · refine st_cmp (op_eqD hr.units) snd_eq ?_ se_int (nomark _)
          refine se_callB call_lenA snd_len (by rfl) Z.z_len PySem.boot_len ?_
          refine sa_cons ?_ sa_nil
          exact (se_own O_Line.c (O_Line.s0).choose_spec (by decide) (se_var (i := 0)))
        · exact (x_one (x_raise rfl (takes_of rfl rfl rfl rfl) zc_NothingDone zbL_ok hP (n := 0) (hr.mono (by decide)) (by rfl) mc_NothingDone))) (fun cdv A outer s H E hr => by
        refine se_listM (by rfl) Z.z_list ?_
        refine sa_cons ?_ sa_nil
        exact (se_meth0 PySem.F.plainAttrs_list PySem.F.slot_list_pop PySem.F.type_list_pop mt_pop snd_pop (se_own O_Line.c (O_Line.s0).choose_spec (by decide) (se_var (i := 0))))) (fun _ _ => rfl), hm, FunD.bindsN F (fun _ _ _ _ _ _ us hl => match us, hl with | [_], _ => rfl)⟩
theorem ok__law_gone_back (Z : Zs mg) (h : At K mg "_law_gone_back" s__law_gone_back) (O_Line : OC_Line K mg) {C_NothingDone f_NothingDone : Addr} (zc_NothingDone : ZC K "NothingDone" "NothingDone.__init__" "/claim/cut.py" zbL none C_NothingDone f_NothingDone) (mc_NothingDone : mg "NothingDone" = some (.ref C_NothingDone)) (cx_Line_m_back : CalMX P w K mg base 2 cLine "back" ["self"] ⟨C_NothingDone, none⟩ fx_Line_m_back)  : Cal P w K mg base 3 "_law_gone_back" s__law_gone_back ["_law_line_so"] f__law_gone_back :=
  .of h (fun a fd F hm => def_okD (x := "_law_gone_back") (st := s__law_gone_back) (N := N__law_gone_back) (ps := ["_law_line_so"]) (b := b__law_gone_back) (k := 2) F sc__law_gone_back fun cdv A outer s H E hr =>
      by
        refine ss_cons ?_ ?_
        · exact (s_set (i := 1) sc__law_gone_back.nd rfl (.inl rfl) se_bl)
        · refine ss_cons ?_ ?_
          · exact (s_tryM (i := 1) (n := 2) rfl rfl cx_Line_m_back rfl O_Line.c (hr.mono (by decide)) ⟨by rfl, by decide, .inl mc_NothingDone⟩ zc_NothingDone.exm sc__law_gone_back.nd rfl (.inl rfl) rfl rfl (fun pn xe => (se_var (i := 0))))
          · exact (ss_one (s_ret (se_var (i := 1))))) (fun _ _ _ _ _ _ us hl => match us, hl with | [_], _ => rfl)
theorem ok__law_same (Z : Zs mg) (h : At K mg "_law_same" s__law_same) (O_Line : OC_Line K mg)   : ∀ d : Nat, Cal P w K mg base (1 + d) "_law_same" s__law_same ["_law_got", "_law_due"] (f__law_same d)
  | 0 => .of h (fun _ _ _ _ => def_none) (fun _ _ _ _ _ _ us hl => match us, hl with | [_, _], _ => rfl)
  | d + 1 => .of h (fun a fd F hm => by
    have ih := ok__law_same Z h O_Line d
    exact def_okD (x := "_law_same") (st := s__law_same) (N := N__law_same) (ps := ["_law_got", "_law_due"]) (b := b__law_same (f__law_same d)) F sc__law_same fun cdv A outer s H E hr =>
      by
        refine ss_cons ?_ ?_
        · refine s_if ?_ ?_ ss_nil
          · exact (st_tr (se_isi2 (by rfl) Z.z_isinstance (by rfl) Z.z_list PyProof.Rows.boot_list (by decide) (by rfl) Z.z_tuple PyProof.Rows.boot_tuple (by decide) (se_var (i := 1))))
          · refine ss_cons ?_ ?_
            · refine s_if ?_ ?_ ss_nil
              · refine PW.pt ?_
                refine st_or ?_ ?_
                · refine st_cmp (op_neD hr.units) snd_ne ?_ ?_ (nomark _)
                  · exact (se_isi (by rfl) Z.z_isinstance (by rfl) Z.z_list PyProof.Rows.boot_list (by decide) (se_var (i := 0)))
                  · exact (se_isi (by rfl) Z.z_isinstance (by rfl) Z.z_list PyProof.Rows.boot_list (by decide) (se_var (i := 1)))
                · refine st_or1 ?_
                  refine st_cmp (op_neD hr.units) snd_ne ?_ ?_ (nomark _)
                  · exact (se_isi (by rfl) Z.z_isinstance (by rfl) Z.z_tuple PyProof.Rows.boot_tuple (by decide) (se_var (i := 0)))
                  · exact (se_isi (by rfl) Z.z_isinstance (by rfl) Z.z_tuple PyProof.Rows.boot_tuple (by decide) (se_var (i := 1)))
              · exact (ss_one (s_ret se_bl))
            · refine ss_one ?_
              refine s_ret ?_
              refine se_and ?_ ?_
              · refine se_cmp (op_eqD hr.units) snd_eq ?_ ?_ (nomark _)
                · refine se_callB call_lenA snd_len (by rfl) Z.z_len PySem.boot_len ?_
                  exact (sa_cons (se_var (i := 0)) sa_nil)
                · refine se_callB call_lenA snd_len (by rfl) Z.z_len PySem.boot_len ?_
                  exact (sa_cons (se_var (i := 1)) sa_nil)
              · refine pe_one ?_
                refine se_callB (cr_all rfl) snd_all (by rfl) Z.z_all PyProof.Rows.boot_all ?_
                refine sa_cons ?_ sa_nil
                refine se_lc (own := [("_law_mine", 2), ("_law_its", 3)]) rfl sc__law_same.nd ?_ (blkOk_by (own := [("_law_mine", 2), ("_law_its", 3)]) (N := N__law_same) (sc := defScope s__law_same) (by decide +kernel)) (fun _ _ _ _ _ => ?_) (fun _ _ _ _ _ => ts_nil) (fun _ _ _ _ _ => ?_)
                · refine i_zip (by rfl) Z.z_zip ?_
                  refine sa_cons (se_var (i := 0)) ?_
                  exact (sa_cons (se_var (i := 1)) sa_nil)
                · refine g_tup rfl ?_ ?_
                  · refine gs_cons (g_name (i := 2) (by decide) sc__law_same.nd rfl (.inl rfl)) ?_
                    exact (gs_cons (g_name (i := 3) (by decide) sc__law_same.nd rfl (.inl rfl)) gs_nil)
                  · exact (gs_len (gs_len gs_len0 _) _)
                · refine se_cal (ps := ["_law_got", "_law_due"]) (fs := (f__law_same d)) ih hr (by rfl) ?_
                  refine sa_cons (se_var (i := 2)) ?_
                  exact (sa_cons (se_var (i := 3)) sa_nil)
        · refine ss_cons ?_ ?_
          · refine s_if ?_ ?_ ss_nil
            · refine PW.pt ?_
              refine st_or ?_ ?_
              · exact (st_cmp op_isA snd_is (se_var (i := 1)) se_non (nomark _))
              · refine st_or1 ?_
                exact (st_tr (se_isi2 (by rfl) Z.z_isinstance (by rfl) Z.z_bool (by decide +kernel) (by decide) (by rfl) Z.z_str PyProof.Rows.boot_str (by decide) (se_var (i := 1))))
            · refine ss_one ?_
              refine s_ret ?_
              refine se_and ?_ ?_
              · exact (se_cmp (op_eqD hr.units) snd_eq (se_var (i := 0)) (se_var (i := 1)) (nomark _))
              · refine se_and ?_ ?_
                · refine se_cmp (op_eqD hr.units) snd_eq ?_ ?_ (nomark _)
                  · exact (se_isi (by rfl) Z.z_isinstance (by rfl) Z.z_bool (by decide +kernel) (by decide) (se_var (i := 0)))
                  · exact (se_isi (by rfl) Z.z_isinstance (by rfl) Z.z_bool (by decide +kernel) (by decide) (se_var (i := 1)))
                · refine pe_one ?_
                  refine se_cmp (op_eqD hr.units) snd_eq ?_ ?_ (nomark _)
                  · exact (se_cmp op_isA snd_is (se_var (i := 0)) se_non (nomark _))
                  · exact (se_cmp op_isA snd_is (se_var (i := 1)) se_non (nomark _))
          · refine ss_one ?_
            refine s_ret ?_
            refine se_and ?_ ?_
            · exact (se_isi (by rfl) Z.z_isinstance (by rfl) Z.z_int PyProof.Rows.boot_int (by decide) (se_var (i := 0)))
            · refine se_and ?_ ?_
              · exact (se_not (se_isi (by rfl) Z.z_isinstance (by rfl) Z.z_bool (by decide +kernel) (by decide) (se_var (i := 0))))
              · refine pe_one ?_
                exact (se_cmp (op_eqD hr.units) snd_eq (se_var (i := 0)) (se_var (i := 1)) (nomark _))) (fun _ _ _ _ _ _ us hl => match us, hl with | [_, _], _ => rfl)
theorem ok__law_by_hand_right (Z : Zs mg) (h : At K mg "_law_by_hand_right" s__law_by_hand_right) (O_Line : OC_Line K mg) (c_Line_m_add : CalM P w K mg base 20 cLine "__add__" ["self", "other"] f_Line_m_add) (c_Line_m_eq : CalM P w K mg base 1 cLine "__eq__" ["self", "other"] f_Line_m_eq) (c_Line_m_iadd : CalM P w K mg base 1 cLine "__iadd__" ["self", "other"] f_Line_m_iadd) (c_Line_m_init : CalIL P w K mg base 18 cLine 1 f_Line_m_init) (c_Line_m_put : CalM P w K mg base 1 cLine "put" ["self", "k", "limit"] f_Line_m_put) (c_Line_m_told : CalM P w K mg base 1 cLine "told" ["self"] f_Line_m_told) (c__law_gone_back : Cal P w K mg base 3 "_law_gone_back" s__law_gone_back ["_law_line_so"] f__law_gone_back) (c__law_same : Cal P w K mg base 17 "_law_same" s__law_same ["_law_got", "_law_due"] (f__law_same 16))  : Cal P w K mg base 21 "_law_by_hand_right" s__law_by_hand_right [] f__law_by_hand_right :=
  .of h (fun a fd F hm => def_okD (x := "_law_by_hand_right") (st := s__law_by_hand_right) (N := N__law_by_hand_right) (ps := []) (b := b__law_by_hand_right) (k := 20) F sc__law_by_hand_right fun cdv A outer s H E hr =>
      by
        refine ss_cons ?_ ?_
        · refine s_par (i := 4) (j := 7) rfl sc__law_by_hand_right.nd rfl rfl (by decide) rfl rfl ?_ (by rfl)
          refine sa_cons ?_ ?_
          · refine se_makeL c_Line_m_init (hr.mono (by decide)) (by rfl) O_Line.g ?_
            refine sa_cons ?_ sa_nil
            refine se_tup ?_
            refine sa_cons se_int ?_
            exact (sa_cons se_int sa_nil)
          · refine sa_cons ?_ sa_nil
            refine se_makeL c_Line_m_init (hr.mono (by decide)) (by rfl) O_Line.g ?_
            refine sa_cons ?_ sa_nil
            refine se_tup ?_
            exact (sa_cons se_int sa_nil)
        · refine ss_cons ?_ ?_
          · refine s_set (i := 0) sc__law_by_hand_right.nd rfl (.inl rfl) ?_
            exact (se_addL O_Line.o.first c_Line_m_add rfl (hr.mono (by decide)) (se_var (i := 4)) (se_var (i := 7)))
          · refine ss_cons ?_ ?_
            · refine s_set (i := 1) sc__law_by_hand_right.nd rfl (.inl rfl) ?_
              refine se_lst ?_
              refine sa_cons ?_ ?_
              · exact (so_methO0 (ps := ["self"]) (fs := f_Line_m_told) O_Line.c c_Line_m_told (hr.mono (by decide)) (se_var (i := 0)))
              · refine sa_cons ?_ ?_
                · exact (so_methO0 (ps := ["self"]) (fs := f_Line_m_told) O_Line.c c_Line_m_told (hr.mono (by decide)) (se_var (i := 4)))
                · refine sa_cons ?_ ?_
                  · exact (so_methO0 (ps := ["self"]) (fs := f_Line_m_told) O_Line.c c_Line_m_told (hr.mono (by decide)) (se_var (i := 7)))
                  · refine sa_cons ?_ ?_
                    · refine se_cal (ps := ["_law_line_so"]) (fs := f__law_gone_back) c__law_gone_back (hr.mono (by decide)) (by rfl) ?_
                      exact (sa_cons (se_var (i := 0)) sa_nil)
                    · refine sa_cons ?_ ?_
                      · refine so_methO0 (ps := ["self"]) (fs := f_Line_m_told) O_Line.c c_Line_m_told (hr.mono (by decide)) ?_
                        refine se_addL O_Line.o.first c_Line_m_add rfl (hr.mono (by decide)) (se_var (i := 4)) ?_
                        refine se_makeL c_Line_m_init (hr.mono (by decide)) (by rfl) O_Line.g ?_
                        refine sa_cons ?_ sa_nil
                        exact (se_tup sa_nil)
                      · refine sa_cons ?_ sa_nil
                        refine so_methO0 (ps := ["self"]) (fs := f_Line_m_told) O_Line.c c_Line_m_told (hr.mono (by decide)) ?_
                        exact (se_addL O_Line.o.first c_Line_m_add rfl (hr.mono (by decide)) (se_var (i := 4)) (se_var (i := 4)))
            · refine ss_cons ?_ ?_
              · refine s_set (i := 2) sc__law_by_hand_right.nd rfl (.inl rfl) ?_
                refine se_lst ?_
                refine sa_cons ?_ ?_
                · refine se_tup ?_
                  refine sa_cons se_int ?_
                  refine sa_cons se_int ?_
                  exact (sa_cons se_int sa_nil)
                · refine sa_cons ?_ ?_
                  · refine se_tup ?_
                    refine sa_cons se_int ?_
                    exact (sa_cons se_int sa_nil)
                  · refine sa_cons ?_ ?_
                    · refine se_tup ?_
                      exact (sa_cons se_int sa_nil)
                    · refine sa_cons se_bl ?_
                      refine sa_cons ?_ ?_
                      · refine se_tup ?_
                        refine sa_cons se_int ?_
                        exact (sa_cons se_int sa_nil)
                      · refine sa_cons ?_ sa_nil
                        refine se_tup ?_
                        refine sa_cons se_int ?_
                        refine sa_cons se_int ?_
                        refine sa_cons se_int ?_
                        exact (sa_cons se_int sa_nil)
              · refine ss_cons ?_ ?_
                · exact (s_set (i := 3) sc__law_by_hand_right.nd rfl (.inl rfl) (se_var (i := 4)))
                · refine ss_cons ?_ ?_
                  · exact (s_augO (i := 4) O_Line.o.first c_Line_m_iadd rfl (hr.mono (by decide)) sc__law_by_hand_right.nd rfl (.inl rfl) (se_var (i := 7)))
                  · refine ss_cons ?_ ?_
                    · refine s_set (i := 1) sc__law_by_hand_right.nd rfl (.inl rfl) ?_
                      refine se_ops op_addA snd_add (se_var (i := 1)) ?_
                      refine se_lst ?_
                      refine sa_cons ?_ ?_
                      · exact (so_methO0 (ps := ["self"]) (fs := f_Line_m_told) O_Line.c c_Line_m_told (hr.mono (by decide)) (se_var (i := 3)))
                      · refine sa_cons ?_ ?_
                        · exact (se_eqO c_Line_m_eq rfl O_Line.o.last (hr.mono (by decide)) (se_var (i := 3)) (se_var (i := 4)) (nomark _))
                        · refine sa_cons ?_ ?_
                          · exact (so_methO0 (ps := ["self"]) (fs := f_Line_m_told) O_Line.c c_Line_m_told (hr.mono (by decide)) (se_var (i := 7)))
                          · refine sa_cons ?_ sa_nil
                            refine se_cal (ps := ["_law_line_so"]) (fs := f__law_gone_back) c__law_gone_back (hr.mono (by decide)) (by rfl) ?_
                            exact (sa_cons (se_var (i := 3)) sa_nil)
                    · refine ss_cons ?_ ?_
                      · refine s_set (i := 1) sc__law_by_hand_right.nd rfl (.inl rfl) ?_
                        refine se_ops op_addA snd_add (se_var (i := 1)) ?_
                        refine se_lst ?_
                        refine sa_cons ?_ ?_
                        · exact (so_methO0 (ps := ["self"]) (fs := f_Line_m_told) O_Line.c c_Line_m_told (hr.mono (by decide)) (se_var (i := 4)))
                        · refine sa_cons ?_ sa_nil
                          refine se_cal (ps := ["_law_line_so"]) (fs := f__law_gone_back) c__law_gone_back (hr.mono (by decide)) (by rfl) ?_
                          exact (sa_cons (se_var (i := 4)) sa_nil)
                      · refine ss_cons ?_ ?_
                        · refine s_set (i := 2) sc__law_by_hand_right.nd rfl (.inl rfl) ?_
                          refine se_ops op_addA snd_add (se_var (i := 2)) ?_
                          refine se_lst ?_
                          refine sa_cons ?_ ?_
                          · refine se_tup ?_
                            refine sa_cons se_int ?_
                            refine sa_cons se_int ?_
                            exact (sa_cons se_int sa_nil)
                          · refine sa_cons se_bl ?_
                            refine sa_cons ?_ ?_
                            · refine se_tup ?_
                              exact (sa_cons se_int sa_nil)
                            · refine sa_cons se_bl ?_
                              refine sa_cons ?_ ?_
                              · refine se_tup ?_
                                refine sa_cons se_int ?_
                                exact (sa_cons se_int sa_nil)
                              · exact (sa_cons se_bl sa_nil)
                        · refine ss_cons ?_ ?_
                          · refine s_augO (i := 4) O_Line.o.first c_Line_m_iadd rfl (hr.mono (by decide)) sc__law_by_hand_right.nd rfl (.inl rfl) ?_
                            refine se_makeL c_Line_m_init (hr.mono (by decide)) (by rfl) O_Line.g ?_
                            refine sa_cons ?_ sa_nil
                            exact (se_tup sa_nil)
                          · refine ss_cons ?_ ?_
                            · refine s_set (i := 1) sc__law_by_hand_right.nd rfl (.inl rfl) ?_
                              refine se_ops op_addA snd_add (se_var (i := 1)) ?_
                              refine se_lst ?_
                              refine sa_cons ?_ ?_
                              · exact (so_methO0 (ps := ["self"]) (fs := f_Line_m_told) O_Line.c c_Line_m_told (hr.mono (by decide)) (se_var (i := 4)))
                              · refine sa_cons ?_ ?_
                                · refine se_cal (ps := ["_law_line_so"]) (fs := f__law_gone_back) c__law_gone_back (hr.mono (by decide)) (by rfl) ?_
                                  exact (sa_cons (se_var (i := 4)) sa_nil)
                                · refine sa_cons ?_ ?_
                                  · exact (so_methO0 (ps := ["self"]) (fs := f_Line_m_told) O_Line.c c_Line_m_told (hr.mono (by decide)) (se_var (i := 4)))
                                  · refine sa_cons ?_ sa_nil
                                    refine se_cal (ps := ["_law_line_so"]) (fs := f__law_gone_back) c__law_gone_back (hr.mono (by decide)) (by rfl) ?_
                                    exact (sa_cons (se_var (i := 4)) sa_nil)
                            · refine ss_cons ?_ ?_
                              · refine s_set (i := 2) sc__law_by_hand_right.nd rfl (.inl rfl) ?_
                                refine se_ops op_addA snd_add (se_var (i := 2)) ?_
                                refine se_lst ?_
                                refine sa_cons ?_ ?_
                                · refine se_tup ?_
                                  refine sa_cons se_int ?_
                                  exact (sa_cons se_int sa_nil)
                                · refine sa_cons se_bl ?_
                                  refine sa_cons ?_ ?_
                                  · refine se_tup ?_
                                    refine sa_cons se_int ?_
                                    exact (sa_cons se_int sa_nil)
                                  · exact (sa_cons se_bl sa_nil)
                              · refine ss_cons ?_ ?_
                                · refine s_set (i := 5) sc__law_by_hand_right.nd rfl (.inl rfl) ?_
                                  refine se_lstO ?_
                                  refine sa_cons ?_ ?_
                                  · refine se_addL O_Line.o.first c_Line_m_add rfl (hr.mono (by decide)) (se_var (i := 4)) ?_
                                    refine se_makeL c_Line_m_init (hr.mono (by decide)) (by rfl) O_Line.g ?_
                                    refine sa_cons ?_ sa_nil
                                    exact (se_tup sa_nil)
                                  · refine sa_cons ?_ sa_nil
                                    refine se_addL O_Line.o.first c_Line_m_add rfl (hr.mono (by decide)) ?_ (se_var (i := 4))
                                    refine se_makeL c_Line_m_init (hr.mono (by decide)) (by rfl) O_Line.g ?_
                                    refine sa_cons ?_ sa_nil
                                    exact (se_tup sa_nil)
                                · refine ss_cons ?_ ?_
                                  · refine s_forO (ii := 6) PassesOwn.never rfl sc__law_by_hand_right.nd rfl (.inl rfl) (se_var (i := 5)) ?_
                                    refine ss_one ?_
                                    refine s_expr ?_
                                    refine so_methO (ps := ["self", "k", "limit"]) (fs := f_Line_m_put) O_Line.c c_Line_m_put (hr.mono (by decide)) (se_var (i := 6)) ?_
                                    refine sa_cons se_int ?_
                                    exact (sa_cons se_int sa_nil)
                                  · refine ss_cons ?_ ?_
                                    · refine s_set (i := 1) sc__law_by_hand_right.nd rfl (.inl rfl) ?_
                                      refine se_ops op_addA snd_add (se_var (i := 1)) ?_
                                      refine se_lst ?_
                                      refine sa_cons ?_ ?_
                                      · exact (so_methO0 (ps := ["self"]) (fs := f_Line_m_told) O_Line.c c_Line_m_told (hr.mono (by decide)) (se_var (i := 4)))
                                      · refine sa_cons ?_ sa_nil
                                        exact (so_methO0 (ps := ["self"]) (fs := f_Line_m_told) O_Line.c c_Line_m_told (hr.mono (by decide)) (se_ixO (by decide) (se_var (i := 5))))
                                    · refine ss_cons ?_ ?_
                                      · exact (s_augO (i := 4) O_Line.o.first c_Line_m_iadd rfl (hr.mono (by decide)) sc__law_by_hand_right.nd rfl (.inl rfl) (se_var (i := 4)))
                                      · refine ss_one ?_
                                        refine s_ret ?_
                                        refine se_cal (ps := ["_law_got", "_law_due"]) (fs := (f__law_same 16)) c__law_same (hr.mono (by decide)) (by rfl) ?_
                                        refine sa_cons ?_ ?_
                                        · refine se_ops op_addA snd_add (se_var (i := 1)) ?_
                                          refine se_lst ?_
                                          refine sa_cons ?_ sa_nil
                                          exact (so_methO0 (ps := ["self"]) (fs := f_Line_m_told) O_Line.c c_Line_m_told (hr.mono (by decide)) (se_var (i := 4)))
                                        · refine sa_cons ?_ sa_nil
                                          refine se_ops op_addA snd_add (se_var (i := 2)) ?_
                                          refine se_lst ?_
                                          refine sa_cons ?_ ?_
                                          · refine se_tup ?_
                                            refine sa_cons se_int ?_
                                            exact (sa_cons se_int sa_nil)
                                          · refine sa_cons ?_ ?_
                                            · refine se_tup ?_
                                              refine sa_cons se_int ?_
                                              refine sa_cons se_int ?_
                                              exact (sa_cons se_int sa_nil)
                                            · refine sa_cons ?_ sa_nil
                                              refine se_tup ?_
                                              refine sa_cons se_int ?_
                                              refine sa_cons se_int ?_
                                              refine sa_cons se_int ?_
                                              exact (sa_cons se_int sa_nil)) (fun _ _ _ _ _ _ us hl => match us, hl with | [], _ => rfl)
theorem ok__law_cells (Z : Zs mg) (h : At K mg "_law_cells" s__law_cells) (O_Line : OC_Line K mg)   : Cal P w K mg base 1 "_law_cells" s__law_cells ["_law_script", "_law_most_so"] f__law_cells :=
  .of h (fun a fd F hm => def_okD (x := "_law_cells") (st := s__law_cells) (N := N__law_cells) (ps := ["_law_script", "_law_most_so"]) (b := b__law_cells) (k := 0) F sc__law_cells fun cdv A outer s H E hr =>
      by
        refine ss_cons ?_ ?_
        · refine s_set (i := 2) sc__law_cells.nd rfl (.inl rfl) ?_
          refine se_or ?_ ?_
          · refine se_listM (by rfl) Z.z_list ?_
            refine sa_cons ?_ sa_nil
            refine se_sl (se_var (i := 0)) so_none ?_
            exact (so_some (se_var (i := 1)))
          · refine pe_one ?_
            refine se_lstM ?_
            exact (sa_cons se_int sa_nil)
        · refine ss_cons ?_ ?_
          · refine s_for (zs := [3, 4]) PassesOwn.never rfl ?_ ?_ ?_
            · refine i_enum (by rfl) Z.z_enumerate ?_
              refine sa_cons ?_ sa_nil
              refine se_sl (se_var (i := 0)) ?_ ?_
              · exact (so_some (se_var (i := 1)))
              · exact (so_some se_int)
            · refine g_tup rfl ?_ ?_
              · refine gs_cons (g_name (i := 3) (by decide) sc__law_cells.nd rfl (.inl rfl)) ?_
                exact (gs_cons (g_name (i := 4) (by decide) sc__law_cells.nd rfl (.inl rfl)) gs_nil)
              · exact (gs_len (gs_len gs_len0 _) _)
            · refine ss_cons ?_ ?_
              · refine s_set (i := 5) sc__law_cells.nd rfl (.inl rfl) ?_
                refine se_op op_mod snd_mod ?_ (se_var (i := 1))
                refine se_callTy call_int1 snd_int (by rfl) Z.z_int PyProof.Rows.boot_int ?_
                exact (sa_cons (se_var (i := 3)) sa_nil)
              · refine ss_one ?_
                refine s_setIx ?_ (se_var (i := 2)) (se_var (i := 5))
                refine se_ops op_addA snd_add ?_ ?_
                · exact (se_ix ix_seq snd_ix (se_var (i := 2)) (se_var (i := 5)))
                · refine se_ops op_mulA snd_mul (se_var (i := 4)) ?_
                  exact (se_ops op_addA snd_add (se_var (i := 3)) se_int)
          · exact (ss_one (s_ret (se_var (i := 2))))) (fun _ _ _ _ _ _ us hl => match us, hl with | [_, _], _ => rfl)
theorem ok_Line_m_len (Z : Zs mg) (h : AtM K cLine "__len__" "Line.__len__" s_Line_m_len) (O_Line : OC_Line K mg)   : CalM P w K mg base 1 cLine "__len__" ["self"] f_Line_m_len := by
  obtain ⟨g, fd, F, hm⟩ := h
  exact CalM.pin (.of F hm (def_okQ (x := "__len__") (q := "Line.__len__") (st := s_Line_m_len) (N := N_Line_m_len) (ps := ["self"]) (b := b_Line_m_len) (k := 0) F sc_Line_m_len fun cdv A outer s H E hr => by
        refine ss_one ?_
        refine s_ret ?_
        refine se_callB call_lenA snd_len (by rfl) Z.z_len PySem.boot_len ?_
        refine sa_cons ?_ sa_nil
        exact (se_own O_Line.c (O_Line.s1).choose_spec (by decide) (se_var (i := 0)))) (fun _ _ _ _ _ _ us hl => match us, hl with | [_], _ => rfl))
theorem ok__law_take (Z : Zs mg) (h : At K mg "_law_take" s__law_take) (O_Line : OC_Line K mg)   : Cal P w K mg base 1 "_law_take" s__law_take ["_law_box_here", "_law_below"] f__law_take :=
  .of h (fun a fd F hm => def_okD (x := "_law_take") (st := s__law_take) (N := N__law_take) (ps := ["_law_box_here", "_law_below"]) (b := b__law_take) (k := 0) F sc__law_take fun cdv A outer s H E hr =>
      by
        refine ss_cons ?_ ?_
        · refine s_if ?_ ?_ ss_nil
          · refine st_cmp op_gt snd_gt ?_ se_int (nomark _)
            exact (se_ix ix_seq snd_ix (se_var (i := 0)) se_int)
          · refine ss_cons ?_ ?_
            · refine s_set (i := 5) sc__law_take.nd rfl (.inl rfl) ?_
              refine se_op op_mod snd_mod ?_ (se_var (i := 1))
              refine se_callTy call_int1 snd_int (by rfl) Z.z_int PyProof.Rows.boot_int ?_
              refine sa_cons ?_ sa_nil
              exact (se_ix ix_seq snd_ix (se_var (i := 0)) se_int)
            · refine ss_cons ?_ ?_
              · refine s_setIx ?_ (se_var (i := 0)) se_int
                refine se_op op_fdivW snd_div ?_ (se_var (i := 1))
                exact (se_ix ix_seq snd_ix (se_var (i := 0)) se_int)
              · exact (ss_one (s_ret (se_var (i := 5))))
        · refine ss_cons ?_ ?_
          · refine s_setIx ?_ (se_var (i := 0)) se_int
            refine se_ops op_addA snd_add ?_ se_int
            exact (se_ix ix_seq snd_ix (se_var (i := 0)) se_int)
          · refine ss_cons ?_ ?_
            · refine s_set (i := 2) sc__law_take.nd rfl (.inl rfl) ?_
              refine se_op op_mod snd_mod ?_ se_int
              refine se_callTy call_int1 snd_int (by rfl) Z.z_int PyProof.Rows.boot_int ?_
              refine sa_cons ?_ sa_nil
              refine se_ops op_mulA snd_mul ?_ ?_
              · refine se_ops op_addA snd_add ?_ ?_
                · exact (se_ix ix_seq snd_ix (se_var (i := 0)) se_int)
                · refine se_ops op_mulA snd_mul se_int ?_
                  exact (se_ix ix_seq snd_ix (se_var (i := 0)) se_int)
              · refine se_ops op_addA snd_add se_int ?_
                exact (se_ix ix_seq snd_ix (se_var (i := 0)) se_int)
            · refine ss_cons ?_ ?_
              · refine s_set (i := 3) sc__law_take.nd rfl (.inl rfl) ?_
                refine se_ops op_addA snd_add ?_ se_int
                refine se_op op_mod snd_mod ?_ se_int
                refine se_callTy call_int1 snd_int (by rfl) Z.z_int PyProof.Rows.boot_int ?_
                exact (sa_cons (se_var (i := 2)) sa_nil)
              · refine ss_cons ?_ ?_
                · refine s_set (i := 4) sc__law_take.nd rfl (.inl rfl) ?_
                  refine se_op op_mod snd_mod ?_ se_int
                  refine se_callTy call_int1 snd_int (by rfl) Z.z_int PyProof.Rows.boot_int ?_
                  refine sa_cons ?_ sa_nil
                  refine se_ops op_mulA snd_mul ?_ (se_var (i := 3))
                  refine se_ops op_addA snd_add ?_ ?_
                  · refine se_ops op_addA snd_add (se_var (i := 2)) ?_
                    exact (se_ix ix_seq snd_ix (se_var (i := 0)) se_int)
                  · refine se_op op_fdivW snd_div ?_ se_int
                    exact (se_ix ix_seq snd_ix (se_var (i := 0)) se_int)
                · refine ss_one ?_
                  refine s_ret ?_
                  refine se_op op_mod snd_mod ?_ (se_var (i := 1))
                  refine se_callTy call_int1 snd_int (by rfl) Z.z_int PyProof.Rows.boot_int ?_
                  refine sa_cons ?_ sa_nil
                  refine se_op op_fdivW snd_div ?_ se_int
                  refine se_op op_mod snd_mod ?_ se_int
                  refine se_callTy call_int1 snd_int (by rfl) Z.z_int PyProof.Rows.boot_int ?_
                  refine sa_cons ?_ sa_nil
                  refine se_ops op_addA snd_add ?_ (se_var (i := 2))
                  exact (se_ops op_mulA snd_mul (se_var (i := 4)) se_int)) (fun _ _ _ _ _ _ us hl => match us, hl with | [_, _], _ => rfl)
theorem ok__law_of (Z : Zs mg) (h : At K mg "_law_of" s__law_of) (O_Line : OC_Line K mg) (c__law_take : Cal P w K mg base 1 "_law_take" s__law_take ["_law_box_here", "_law_below"] f__law_take)  : Cal P w K mg base 2 "_law_of" s__law_of ["_law_box_here", "_law_some"] f__law_of :=
  .of h (fun a fd F hm => def_okD (x := "_law_of") (st := s__law_of) (N := N__law_of) (ps := ["_law_box_here", "_law_some"]) (b := b__law_of) (k := 1) F sc__law_of fun cdv A outer s H E hr =>
      by
        refine ss_one ?_
        refine s_ret ?_
        refine se_ix ix_seq snd_ix (se_var (i := 1)) ?_
        refine se_cal (ps := ["_law_box_here", "_law_below"]) (fs := f__law_take) c__law_take (hr.mono (by decide)) (by rfl) ?_
        refine sa_cons (se_var (i := 0)) ?_
        refine sa_cons ?_ sa_nil
        refine se_callB call_lenA snd_len (by rfl) Z.z_len PySem.boot_len ?_
        exact (sa_cons (se_var (i := 1)) sa_nil)) (fun _ _ _ _ _ _ us hl => match us, hl with | [_, _], _ => rfl)
theorem ok__law_least (Z : Zs mg) (h : At K mg "_law_least" s__law_least) (O_Line : OC_Line K mg) (c__law_of : Cal P w K mg base 2 "_law_of" s__law_of ["_law_box_here", "_law_some"] f__law_of) (c__law_take : Cal P w K mg base 1 "_law_take" s__law_take ["_law_box_here", "_law_below"] f__law_take)  : Cal P w K mg base 3 "_law_least" s__law_least ["_law_box_here"] f__law_least :=
  .of h (fun a fd F hm => def_okD (x := "_law_least") (st := s__law_least) (N := N__law_least) (ps := ["_law_box_here"]) (b := b__law_least) (k := 2) F sc__law_least fun cdv A outer s H E hr =>
      by
        refine ss_one ?_
        refine s_ret ?_
        refine se_cal (ps := ["_law_box_here", "_law_some"]) (fs := f__law_of) c__law_of (hr.mono (by decide)) (by rfl) ?_
        refine sa_cons (se_var (i := 0)) ?_
        refine sa_cons ?_ sa_nil
        refine se_lst ?_
        refine sa_cons se_int ?_
        refine sa_cons se_int ?_
        refine sa_cons se_int ?_
        refine sa_cons se_int ?_
        refine sa_cons ?_ ?_
        · refine se_ops op_addA snd_add se_int ?_
          refine se_cal (ps := ["_law_box_here", "_law_below"]) (fs := f__law_take) c__law_take (hr.mono (by decide)) (by rfl) ?_
          refine sa_cons (se_var (i := 0)) ?_
          exact (sa_cons se_int sa_nil)
        · refine sa_cons ?_ sa_nil
          refine se_ops op_addA snd_add se_int ?_
          refine se_cal (ps := ["_law_box_here", "_law_below"]) (fs := f__law_take) c__law_take (hr.mono (by decide)) (by rfl) ?_
          refine sa_cons (se_var (i := 0)) ?_
          refine sa_cons ?_ sa_nil
          exact (se_op op_pow snd_pow se_int se_int)) (fun _ _ _ _ _ _ us hl => match us, hl with | [_], _ => rfl)
theorem ok__law_row (Z : Zs mg) (h : At K mg "_law_row" s__law_row) (O_Line : OC_Line K mg) (c__law_of : Cal P w K mg base 2 "_law_of" s__law_of ["_law_box_here", "_law_some"] f__law_of) (c__law_take : Cal P w K mg base 1 "_law_take" s__law_take ["_law_box_here", "_law_below"] f__law_take)  : Cal P w K mg base 3 "_law_row" s__law_row ["_law_box_here", "_law_least_so", "_law_at_most"] f__law_row :=
  .of h (fun a fd F hm => def_okD (x := "_law_row") (st := s__law_row) (N := N__law_row) (ps := ["_law_box_here", "_law_least_so", "_law_at_most"]) (b := b__law_row) (k := 2) F sc__law_row fun cdv A outer s H E hr =>
      by
        refine ss_cons ?_ ?_
        · refine s_par (i := 5) (j := 6) rfl sc__law_row.nd rfl rfl (by decide) rfl rfl ?_ (by rfl)
          refine sa_cons ?_ ?_
          · refine se_cal (ps := ["_law_box_here", "_law_below"]) (fs := f__law_take) c__law_take (hr.mono (by decide)) (by rfl) ?_
            refine sa_cons (se_var (i := 0)) ?_
            exact (sa_cons se_int sa_nil)
          · refine sa_cons ?_ sa_nil
            exact (se_lstM sa_nil)
        · refine ss_cons ?_ ?_
          · refine s_set (i := 3) sc__law_row.nd rfl (.inl rfl) ?_
            refine se_ops op_addA snd_add ?_ ?_
            · refine se_ops op_mulA snd_mul (se_var (i := 1)) ?_
              refine se_ops op_addA snd_add se_int ?_
              refine se_cal (ps := ["_law_box_here", "_law_below"]) (fs := f__law_take) c__law_take (hr.mono (by decide)) (by rfl) ?_
              refine sa_cons (se_var (i := 0)) ?_
              exact (sa_cons se_int sa_nil)
            · refine se_cal (ps := ["_law_box_here", "_law_below"]) (fs := f__law_take) c__law_take (hr.mono (by decide)) (by rfl) ?_
              refine sa_cons (se_var (i := 0)) ?_
              refine sa_cons ?_ sa_nil
              exact (se_ops op_addA snd_add (se_var (i := 1)) se_int)
          · refine ss_cons ?_ ?_
            · refine s_for (zs := [4]) PassesOwn.never rfl ?_ (g_name (i := 4) (by decide) sc__law_row.nd rfl (.inl rfl)) ?_
              · refine i_range1 (by rfl) Z.z_range ?_
                refine sa_cons ?_ sa_nil
                refine se_cal (ps := ["_law_box_here", "_law_below"]) (fs := f__law_take) c__law_take (hr.mono (by decide)) (by rfl) ?_
                refine sa_cons (se_var (i := 0)) ?_
                refine sa_cons ?_ sa_nil
                exact (se_ops op_addA snd_add (se_var (i := 2)) se_int)
              · refine ss_one ?_
                refine s_if ?_ ?_ ?_
                · exact (st_cmp (op_eqD hr.units) snd_eq (se_var (i := 5)) se_int (nomark _))
                · refine ss_one ?_
                  refine s_expr ?_
                  refine se_meth PySem.F.plainAttrs_list PySem.F.slot_list_append PySem.F.type_list_append mt_append snd_append (se_var (i := 6)) ?_
                  refine sa_cons ?_ sa_nil
                  refine se_ops op_addA snd_add se_int ?_
                  refine se_cal (ps := ["_law_box_here", "_law_below"]) (fs := f__law_take) c__law_take (hr.mono (by decide)) (by rfl) ?_
                  refine sa_cons (se_var (i := 0)) ?_
                  refine sa_cons ?_ sa_nil
                  refine se_ops op_addA snd_add ?_ se_int
                  exact (se_ops op_mulA snd_mul se_int (se_var (i := 1)))
                · refine ss_one ?_
                  refine s_if ?_ ?_ ?_
                  · exact (st_cmp (op_eqD hr.units) snd_eq (se_var (i := 5)) se_int (nomark _))
                  · refine ss_cons ?_ ?_
                    · refine s_expr ?_
                      refine se_meth PySem.F.plainAttrs_list PySem.F.slot_list_append PySem.F.type_list_append mt_append snd_append (se_var (i := 6)) ?_
                      refine sa_cons ?_ sa_nil
                      refine se_callB (call_maxA rfl hr) snd_max (by rfl) Z.z_max PyProof.Rows.boot_max ?_
                      refine sa_cons se_int ?_
                      exact (sa_cons (se_var (i := 3)) sa_nil)
                    · refine ss_one ?_
                      refine s_set (i := 3) sc__law_row.nd rfl (.inl rfl) ?_
                      refine se_op op_sub snd_sub ?_ ?_
                      · exact (se_op op_sub snd_sub (se_var (i := 3)) se_int)
                      · refine se_cal (ps := ["_law_box_here", "_law_below"]) (fs := f__law_take) c__law_take (hr.mono (by decide)) (by rfl) ?_
                        refine sa_cons (se_var (i := 0)) ?_
                        refine sa_cons ?_ sa_nil
                        exact (se_ops op_addA snd_add (se_var (i := 1)) se_int)
                  · refine ss_one ?_
                    refine s_if ?_ ?_ ?_
                    · exact (st_cmp (op_eqD hr.units) snd_eq (se_var (i := 5)) se_int (nomark _))
                    · refine ss_cons ?_ ?_
                      · refine s_expr ?_
                        refine se_meth PySem.F.plainAttrs_list PySem.F.slot_list_append PySem.F.type_list_append mt_append snd_append (se_var (i := 6)) ?_
                        refine sa_cons ?_ sa_nil
                        refine se_callB (call_maxA rfl hr) snd_max (by rfl) Z.z_max PyProof.Rows.boot_max ?_
                        refine sa_cons se_int ?_
                        exact (sa_cons (se_var (i := 3)) sa_nil)
                      · refine ss_one ?_
                        refine s_set (i := 3) sc__law_row.nd rfl (.inl rfl) ?_
                        refine se_op op_sub snd_sub ?_ ?_
                        · exact (se_op op_sub snd_sub (se_var (i := 3)) se_int)
                        · refine se_cal (ps := ["_law_box_here", "_law_below"]) (fs := f__law_take) c__law_take (hr.mono (by decide)) (by rfl) ?_
                          refine sa_cons (se_var (i := 0)) ?_
                          refine sa_cons ?_ sa_nil
                          refine se_ops op_addA snd_add ?_ se_int
                          exact (se_ops op_mulA snd_mul se_int (se_var (i := 1)))
                    · refine ss_one ?_
                      refine s_if ?_ ?_ ?_
                      · exact (st_cmp (op_eqD hr.units) snd_eq (se_var (i := 5)) se_int (nomark _))
                      · refine ss_one ?_
                        refine s_expr ?_
                        refine se_meth PySem.F.plainAttrs_list PySem.F.slot_list_append PySem.F.type_list_append mt_append snd_append (se_var (i := 6)) ?_
                        refine sa_cons ?_ sa_nil
                        refine se_callB (call_maxA rfl hr) snd_max (by rfl) Z.z_max PyProof.Rows.boot_max ?_
                        refine sa_cons se_int ?_
                        refine sa_cons ?_ sa_nil
                        refine se_op op_sub snd_sub (se_var (i := 3)) ?_
                        refine se_cal (ps := ["_law_box_here", "_law_below"]) (fs := f__law_take) c__law_take (hr.mono (by decide)) (by rfl) ?_
                        refine sa_cons (se_var (i := 0)) ?_
                        refine sa_cons ?_ sa_nil
                        refine se_ops op_addA snd_add ?_ se_int
                        exact (se_ops op_mulA snd_mul se_int (se_var (i := 1)))
                      · refine ss_one ?_
                        refine s_expr ?_
                        refine se_meth PySem.F.plainAttrs_list PySem.F.slot_list_append PySem.F.type_list_append mt_append snd_append (se_var (i := 6)) ?_
                        refine sa_cons ?_ sa_nil
                        refine se_cal (ps := ["_law_box_here", "_law_some"]) (fs := f__law_of) c__law_of (hr.mono (by decide)) (by rfl) ?_
                        refine sa_cons (se_var (i := 0)) ?_
                        refine sa_cons ?_ sa_nil
                        refine se_lst ?_
                        refine sa_cons (se_var (i := 3)) ?_
                        refine sa_cons ?_ ?_
                        · refine se_callB (call_maxA rfl hr) snd_max (by rfl) Z.z_max PyProof.Rows.boot_max ?_
                          refine sa_cons se_int ?_
                          refine sa_cons ?_ sa_nil
                          exact (se_op op_sub snd_sub (se_var (i := 3)) (se_var (i := 1)))
                        · refine sa_cons ?_ ?_
                          · refine se_callB (call_maxA rfl hr) snd_max (by rfl) Z.z_max PyProof.Rows.boot_max ?_
                            refine sa_cons se_int ?_
                            refine sa_cons ?_ sa_nil
                            refine se_op op_sub snd_sub ?_ se_int
                            exact (se_op op_sub snd_sub (se_var (i := 3)) (se_var (i := 1)))
                          · refine sa_cons ?_ sa_nil
                            exact (se_ops op_mulA snd_mul se_int (se_var (i := 1)))
            · refine ss_one ?_
              refine s_ret ?_
              refine se_callTy call_tuple_of snd_tuple (by rfl) Z.z_tuple PyProof.Rows.boot_tuple ?_
              exact (sa_cons (se_var (i := 6)) sa_nil)) (fun _ _ _ _ _ _ us hl => match us, hl with | [_, _, _], _ => rfl)
theorem ok__law_right (Z : Zs mg) (h : At K mg "_law_right" s__law_right) (O_Line : OC_Line K mg) (c_Line_m_add : CalM P w K mg base 20 cLine "__add__" ["self", "other"] f_Line_m_add) (c_Line_m_eq : CalM P w K mg base 1 cLine "__eq__" ["self", "other"] f_Line_m_eq) (c_Line_m_iadd : CalM P w K mg base 1 cLine "__iadd__" ["self", "other"] f_Line_m_iadd) (c_Line_m_init : CalIL P w K mg base 18 cLine 1 f_Line_m_init) (c_Line_m_len : CalM P w K mg base 1 cLine "__len__" ["self"] f_Line_m_len) (c_Line_m_put : CalM P w K mg base 1 cLine "put" ["self", "k", "limit"] f_Line_m_put) (c_Line_m_told : CalM P w K mg base 1 cLine "told" ["self"] f_Line_m_told) (c__law_gone_back : Cal P w K mg base 3 "_law_gone_back" s__law_gone_back ["_law_line_so"] f__law_gone_back) (c__law_least : Cal P w K mg base 3 "_law_least" s__law_least ["_law_box_here"] f__law_least) (c__law_row : Cal P w K mg base 3 "_law_row" s__law_row ["_law_box_here", "_law_least_so", "_law_at_most"] f__law_row) (c__law_same : Cal P w K mg base 17 "_law_same" s__law_same ["_law_got", "_law_due"] (f__law_same 16))  : Cal P w K mg base 21 "_law_right" s__law_right ["_law_box_here"] f__law_right :=
  .of h (fun a fd F hm => def_okD (x := "_law_right") (st := s__law_right) (N := N__law_right) (ps := ["_law_box_here"]) (b := b__law_right) (k := 20) F sc__law_right fun cdv A outer s H E hr =>
      by
        refine ss_cons ?_ ?_
        · refine s_set (i := 1) sc__law_right.nd rfl (.inl rfl) ?_
          refine se_cal (ps := ["_law_box_here"]) (fs := f__law_least) c__law_least (hr.mono (by decide)) (by rfl) ?_
          exact (sa_cons (se_var (i := 0)) sa_nil)
        · refine ss_cons ?_ ?_
          · refine s_par (i := 5) (j := 6) rfl sc__law_right.nd rfl rfl (by decide) rfl rfl ?_ (by rfl)
            refine sa_cons ?_ ?_
            · refine se_cal (ps := ["_law_box_here", "_law_least_so", "_law_at_most"]) (fs := f__law_row) c__law_row (hr.mono (by decide)) (by rfl) ?_
              refine sa_cons (se_var (i := 0)) ?_
              refine sa_cons (se_var (i := 1)) ?_
              exact (sa_cons se_int sa_nil)
            · refine sa_cons ?_ sa_nil
              refine se_cal (ps := ["_law_box_here", "_law_least_so", "_law_at_most"]) (fs := f__law_row) c__law_row (hr.mono (by decide)) (by rfl) ?_
              refine sa_cons (se_var (i := 0)) ?_
              refine sa_cons (se_var (i := 1)) ?_
              exact (sa_cons se_int sa_nil)
          · refine ss_cons ?_ ?_
            · refine s_par (i := 4) (j := 7) rfl sc__law_right.nd rfl rfl (by decide) rfl rfl ?_ (by rfl)
              refine sa_cons ?_ ?_
              · refine se_makeL c_Line_m_init (hr.mono (by decide)) (by rfl) O_Line.g ?_
                exact (sa_cons (se_var (i := 5)) sa_nil)
              · refine sa_cons ?_ sa_nil
                refine se_makeL c_Line_m_init (hr.mono (by decide)) (by rfl) O_Line.g ?_
                refine sa_cons ?_ sa_nil
                refine se_callTy call_list_of snd_list (by rfl) Z.z_list PyProof.Rows.boot_list ?_
                exact (sa_cons (se_var (i := 6)) sa_nil)
            · refine ss_cons ?_ ?_
              · refine s_set (i := 2) sc__law_right.nd rfl (.inl rfl) ?_
                exact (se_addL O_Line.o.first c_Line_m_add rfl (hr.mono (by decide)) (se_var (i := 4)) (se_var (i := 7)))
              · refine ss_cons ?_ ?_
                · refine s_if ?_ ?_ ss_nil
                  · refine st_not ?_
                    refine st_tr ?_
                    refine se_cal (ps := ["_law_got", "_law_due"]) (fs := (f__law_same 16)) c__law_same (hr.mono (by decide)) (by rfl) ?_
                    refine sa_cons ?_ ?_
                    · refine se_lst ?_
                      refine sa_cons ?_ ?_
                      · exact (so_methO0 (ps := ["self"]) (fs := f_Line_m_told) O_Line.c c_Line_m_told (hr.mono (by decide)) (se_var (i := 2)))
                      · refine sa_cons ?_ ?_
                        · exact (so_methO0 (ps := ["self"]) (fs := f_Line_m_told) O_Line.c c_Line_m_told (hr.mono (by decide)) (se_var (i := 4)))
                        · refine sa_cons ?_ sa_nil
                          exact (so_methO0 (ps := ["self"]) (fs := f_Line_m_told) O_Line.c c_Line_m_told (hr.mono (by decide)) (se_var (i := 7)))
                    · refine sa_cons ?_ sa_nil
                      refine se_lst ?_
                      refine sa_cons ?_ ?_
                      · exact (se_ops op_addA snd_add (se_var (i := 5)) (se_var (i := 6)))
                      · refine sa_cons (se_var (i := 5)) ?_
                        exact (sa_cons (se_var (i := 6)) sa_nil)
                  · exact (ss_one (s_ret se_bl))
                · refine ss_cons ?_ ?_
                  · refine s_if ?_ ?_ ss_nil
                    · refine PW.pt ?_
                      refine st_or ?_ ?_
                      · refine st_tr ?_
                        refine se_cal (ps := ["_law_line_so"]) (fs := f__law_gone_back) c__law_gone_back (hr.mono (by decide)) (by rfl) ?_
                        exact (sa_cons (se_var (i := 2)) sa_nil)
                      · refine st_or ?_ ?_
                        · refine st_cmp op_notA snd_isnot ?_ se_bl (nomark _)
                          refine se_eqO c_Line_m_eq rfl O_Line.o.last (hr.mono (by decide)) (se_var (i := 2)) ?_ (nomark _)
                          refine se_makeL c_Line_m_init (hr.mono (by decide)) (by rfl) O_Line.g ?_
                          refine sa_cons ?_ sa_nil
                          exact (se_ops op_addA snd_add (se_var (i := 5)) (se_var (i := 6)))
                        · refine st_or1 ?_
                          refine st_cmp (op_neD hr.units) snd_ne ?_ ?_ (nomark _)
                          · exact (se_lenO c_Line_m_len rfl (hr.mono (by decide)) (by rfl) Z.z_len (se_var (i := 2)))
                          · refine se_ops op_addA snd_add ?_ ?_
                            · exact (se_lenO c_Line_m_len rfl (hr.mono (by decide)) (by rfl) Z.z_len (se_var (i := 4)))
                            · exact (se_lenO c_Line_m_len rfl (hr.mono (by decide)) (by rfl) Z.z_len (se_var (i := 7)))
                    · exact (ss_one (s_ret se_bl))
                  · refine ss_cons ?_ ?_
                    · refine s_expr ?_
                      refine so_methO (ps := ["self", "k", "limit"]) (fs := f_Line_m_put) O_Line.c c_Line_m_put (hr.mono (by decide)) (se_var (i := 2)) ?_
                      refine sa_cons se_int ?_
                      exact (sa_cons se_int sa_nil)
                    · refine ss_cons ?_ ?_
                      · refine s_if ?_ ?_ ss_nil
                        · refine PW.pt ?_
                          refine st_or ?_ ?_
                          · refine st_cmp (op_neD hr.units) snd_ne ?_ (se_var (i := 5)) (nomark _)
                            exact (so_methO0 (ps := ["self"]) (fs := f_Line_m_told) O_Line.c c_Line_m_told (hr.mono (by decide)) (se_var (i := 4)))
                          · refine st_or1 ?_
                            refine st_cmp (op_neD hr.units) snd_ne ?_ (se_var (i := 6)) (nomark _)
                            exact (so_methO0 (ps := ["self"]) (fs := f_Line_m_told) O_Line.c c_Line_m_told (hr.mono (by decide)) (se_var (i := 7)))
                        · exact (ss_one (s_ret se_bl))
                      · refine ss_cons ?_ ?_
                        · exact (s_set (i := 3) sc__law_right.nd rfl (.inl rfl) (se_var (i := 4)))
                        · refine ss_cons ?_ ?_
                          · exact (s_augO (i := 4) O_Line.o.first c_Line_m_iadd rfl (hr.mono (by decide)) sc__law_right.nd rfl (.inl rfl) (se_var (i := 7)))
                          · refine ss_cons ?_ ?_
                            · refine s_if ?_ ?_ ss_nil
                              · refine PW.pt ?_
                                refine st_or ?_ ?_
                                · refine st_cmp (op_neD hr.units) snd_ne ?_ ?_ (nomark _)
                                  · exact (so_methO0 (ps := ["self"]) (fs := f_Line_m_told) O_Line.c c_Line_m_told (hr.mono (by decide)) (se_var (i := 3)))
                                  · exact (se_ops op_addA snd_add (se_var (i := 5)) (se_var (i := 6)))
                                · refine st_or ?_ ?_
                                  · refine st_cmp (op_neD hr.units) snd_ne ?_ ?_ (nomark _)
                                    · exact (so_methO0 (ps := ["self"]) (fs := f_Line_m_told) O_Line.c c_Line_m_told (hr.mono (by decide)) (se_var (i := 4)))
                                    · exact (so_methO0 (ps := ["self"]) (fs := f_Line_m_told) O_Line.c c_Line_m_told (hr.mono (by decide)) (se_var (i := 3)))
                                  · refine st_or1 ?_
                                    refine st_cmp (op_neD hr.units) snd_ne ?_ (se_var (i := 6)) (nomark _)
                                    exact (so_methO0 (ps := ["self"]) (fs := f_Line_m_told) O_Line.c c_Line_m_told (hr.mono (by decide)) (se_var (i := 7)))
                              · exact (ss_one (s_ret se_bl))
                            · refine ss_cons ?_ ?_
                              · refine s_expr ?_
                                refine so_methO (ps := ["self", "k", "limit"]) (fs := f_Line_m_put) O_Line.c c_Line_m_put (hr.mono (by decide)) (se_var (i := 7)) ?_
                                refine sa_cons se_int ?_
                                exact (sa_cons se_int sa_nil)
                              · refine ss_cons ?_ ?_
                                · refine s_if ?_ ?_ ss_nil
                                  · refine PW.pt ?_
                                    refine st_or ?_ ?_
                                    · refine st_cmp (op_neD hr.units) snd_ne ?_ ?_ (nomark _)
                                      · exact (so_methO0 (ps := ["self"]) (fs := f_Line_m_told) O_Line.c c_Line_m_told (hr.mono (by decide)) (se_var (i := 3)))
                                      · exact (se_ops op_addA snd_add (se_var (i := 5)) (se_var (i := 6)))
                                    · refine st_or1 ?_
                                      refine st_not ?_
                                      refine st_tr ?_
                                      refine se_cal (ps := ["_law_line_so"]) (fs := f__law_gone_back) c__law_gone_back (hr.mono (by decide)) (by rfl) ?_
                                      exact (sa_cons (se_var (i := 3)) sa_nil)
                                  · exact (ss_one (s_ret se_bl))
                                · refine ss_one ?_
                                  refine s_ret ?_
                                  refine se_and ?_ ?_
                                  · refine se_cmp (op_eqD hr.units) snd_eq ?_ (se_var (i := 5)) (nomark _)
                                    exact (so_methO0 (ps := ["self"]) (fs := f_Line_m_told) O_Line.c c_Line_m_told (hr.mono (by decide)) (se_var (i := 4)))
                                  · refine pe_one ?_
                                    refine se_not ?_
                                    refine se_cal (ps := ["_law_line_so"]) (fs := f__law_gone_back) c__law_gone_back (hr.mono (by decide)) (by rfl) ?_
                                    exact (sa_cons (se_var (i := 3)) sa_nil)) (fun _ _ _ _ _ _ us hl => match us, hl with | [_], _ => rfl)
theorem ok_law (Z : Zs mg) (h : At K mg "law" s_law) (O_Line : OC_Line K mg) (c__law_box : Cal P w K mg base 1 "_law_box" s__law_box ["_law_script", "_law_k"] f__law_box) (c__law_by_hand_right : Cal P w K mg base 21 "_law_by_hand_right" s__law_by_hand_right [] f__law_by_hand_right) (c__law_cells : Cal P w K mg base 1 "_law_cells" s__law_cells ["_law_script", "_law_most_so"] f__law_cells) (c__law_right : Cal P w K mg base 21 "_law_right" s__law_right ["_law_box_here"] f__law_right)  : Cal P w K mg base 22 "law" s_law ["_law_script"] f_law :=
  .of h (fun a fd F hm => def_okD (x := "law") (st := s_law) (N := N_law) (ps := ["_law_script"]) (b := b_law) (k := 21) F sc_law fun cdv A outer s H E hr =>
      by
        refine ss_cons ?_ ?_
        · refine s_if ?_ ?_ ss_nil
          · exact (st_not (st_tr (se_cal0 (ps := []) (fs := f__law_by_hand_right) c__law_by_hand_right (hr.mono (by decide)) (by rfl))))
          · exact (ss_one (s_ret se_bl))
        · refine ss_cons ?_ ?_
          · refine s_set (i := 1) sc_law.nd rfl (.inl rfl) ?_
            refine se_cal (ps := ["_law_script", "_law_most_so"]) (fs := f__law_cells) c__law_cells (hr.mono (by decide)) (by rfl) ?_
            refine sa_cons (se_var (i := 0)) ?_
            exact (sa_cons se_int sa_nil)
          · refine ss_cons ?_ ?_
            · refine s_for (zs := [2]) PassesOwn.never rfl ?_ (g_name (i := 2) (by decide) sc_law.nd rfl (.inl rfl)) ?_
              · refine i_range1 (by rfl) Z.z_range ?_
                refine sa_cons ?_ sa_nil
                refine se_callB call_lenA snd_len (by rfl) Z.z_len PySem.boot_len ?_
                exact (sa_cons (se_var (i := 1)) sa_nil)
              · refine ss_cons ?_ ?_
                · refine s_set (i := 3) sc_law.nd rfl (.inr rfl) ?_
                  refine se_cal (ps := ["_law_script", "_law_k"]) (fs := f__law_box) c__law_box (hr.mono (by decide)) (by rfl) ?_
                  refine sa_cons (se_var (i := 1)) ?_
                  exact (sa_cons (se_var (i := 2)) sa_nil)
                · refine ss_one ?_
                  refine s_if ?_ ?_ ss_nil
                  · refine st_not ?_
                    refine st_tr ?_
                    refine se_callB (cr_all rfl) snd_all (by rfl) Z.z_all PyProof.Rows.boot_all ?_
                    refine sa_cons ?_ sa_nil
                    refine se_lc (own := [("_law_turn", 4)]) rfl sc_law.nd ?_ (blkOk_by (own := [("_law_turn", 4)]) (N := N_law) (sc := defScope s_law) (by decide +kernel)) (fun _ _ _ _ _ => (g_name (i := 4) (by decide) sc_law.nd rfl (.inl rfl))) (fun _ _ _ _ _ => ts_nil) (fun _ _ _ _ _ => ?_)
                    · refine i_range1 (by rfl) Z.z_range ?_
                      exact (sa_cons se_int sa_nil)
                    · refine se_cal (ps := ["_law_box_here"]) (fs := f__law_right) c__law_right (hr.mono (by decide)) (by rfl) ?_
                      exact (sa_cons (se_var (i := 3)) sa_nil)
                  · exact (ss_one (s_ret se_bl))
            · exact (ss_one (s_ret se_bl))) (fun _ _ _ _ _ _ us hl => match us, hl with | [_], _ => rfl)
end
/-! ### the head: facts by names, the run -/
def dd__law_box : He.DefD := ⟨("_law_box", none), "_law_box", "_law_box", defArgs s__law_box, defBody s__law_box, defScope s__law_box, [], []⟩
def dd_tupled : He.DefD := ⟨("tupled", none), "tupled", "tupled", defArgs s_tupled, defBody s_tupled, defScope s_tupled, [], []⟩
def dd_Line_m_init : He.DefD := ⟨("Line", some "__init__"), "__init__", "Line.__init__", defArgs s_Line_m_init, defBody s_Line_m_init, defScope s_Line_m_init, [], []⟩
def dd_Line_m_add : He.DefD := ⟨("Line", some "__add__"), "__add__", "Line.__add__", defArgs s_Line_m_add, defBody s_Line_m_add, defScope s_Line_m_add, [], []⟩
def dd_Line_m_eq : He.DefD := ⟨("Line", some "__eq__"), "__eq__", "Line.__eq__", defArgs s_Line_m_eq, defBody s_Line_m_eq, defScope s_Line_m_eq, [], []⟩
def dd_Line_m_iadd : He.DefD := ⟨("Line", some "__iadd__"), "__iadd__", "Line.__iadd__", defArgs s_Line_m_iadd, defBody s_Line_m_iadd, defScope s_Line_m_iadd, [], []⟩
def dd_Line_m_put : He.DefD := ⟨("Line", some "put"), "put", "Line.put", defArgs s_Line_m_put, defBody s_Line_m_put, defScope s_Line_m_put, [], []⟩
def dd_Line_m_told : He.DefD := ⟨("Line", some "told"), "told", "Line.told", defArgs s_Line_m_told, defBody s_Line_m_told, defScope s_Line_m_told, [], []⟩
def dd_Line_m_back : He.DefD := ⟨("Line", some "back"), "back", "Line.back", defArgs s_Line_m_back, defBody s_Line_m_back, defScope s_Line_m_back, [], []⟩
def dd__law_gone_back : He.DefD := ⟨("_law_gone_back", none), "_law_gone_back", "_law_gone_back", defArgs s__law_gone_back, defBody s__law_gone_back, defScope s__law_gone_back, [], []⟩
def dd__law_same : He.DefD := ⟨("_law_same", none), "_law_same", "_law_same", defArgs s__law_same, defBody s__law_same, defScope s__law_same, [], []⟩
def dd__law_by_hand_right : He.DefD := ⟨("_law_by_hand_right", none), "_law_by_hand_right", "_law_by_hand_right", defArgs s__law_by_hand_right, defBody s__law_by_hand_right, defScope s__law_by_hand_right, [], []⟩
def dd__law_cells : He.DefD := ⟨("_law_cells", none), "_law_cells", "_law_cells", defArgs s__law_cells, defBody s__law_cells, defScope s__law_cells, [], []⟩
def dd_Line_m_len : He.DefD := ⟨("Line", some "__len__"), "__len__", "Line.__len__", defArgs s_Line_m_len, defBody s_Line_m_len, defScope s_Line_m_len, [], []⟩
def dd__law_take : He.DefD := ⟨("_law_take", none), "_law_take", "_law_take", defArgs s__law_take, defBody s__law_take, defScope s__law_take, [], []⟩
def dd__law_of : He.DefD := ⟨("_law_of", none), "_law_of", "_law_of", defArgs s__law_of, defBody s__law_of, defScope s__law_of, [], []⟩
def dd__law_least : He.DefD := ⟨("_law_least", none), "_law_least", "_law_least", defArgs s__law_least, defBody s__law_least, defScope s__law_least, [], []⟩
def dd__law_row : He.DefD := ⟨("_law_row", none), "_law_row", "_law_row", defArgs s__law_row, defBody s__law_row, defScope s__law_row, [], []⟩
def dd__law_right : He.DefD := ⟨("_law_right", none), "_law_right", "_law_right", defArgs s__law_right, defBody s__law_right, defScope s__law_right, [], []⟩
def dd_law : He.DefD := ⟨("law", none), "law", "law", defArgs s_law, defBody s_law, defScope s_law, [], []⟩
def fn : List He.DefD := [dd__law_box, dd_tupled, dd_Line_m_init, dd_Line_m_add, dd_Line_m_eq, dd_Line_m_iadd, dd_Line_m_put, dd_Line_m_told, dd_Line_m_back, dd__law_gone_back, dd__law_same, dd__law_by_hand_right, dd__law_cells, dd_Line_m_len, dd__law_take, dd__law_of, dd__law_least, dd__law_row, dd__law_right, dd_law]
def fa : List He.Fa := [.glo "_law_box", .glo "tupled", .mkr "Line", .meth "Line" "__add__", .meth "Line" "__eq__", .meth "Line" "__iadd__", .meth "Line" "put", .meth "Line" "told", .meth "Line" "back", .glo "_law_gone_back", .glo "_law_same", .glo "_law_by_hand_right", .glo "_law_cells", .meth "Line" "__len__", .glo "_law_take", .glo "_law_of", .glo "_law_least", .glo "_law_row", .glo "_law_right", .glo "law", .free "abs", .free "all", .free "bool", .free "enumerate", .free "int", .free "isinstance", .free "len", .free "list", .free "max", .free "range", .free "str", .free "tuple", .free "zip", .glo "Line"]
def loose : List Str := (["NoHop", "NothingDone", "tupled", "hop_places", "cuts", "parts", "Line", "_law_box", "_law_take", "_law_cells", "_law_of", "_law_same", "_law_least", "_law_row", "_law_gone_back", "_law_by_hand_right", "_law_right"] : List Str)
def ocb_Line (K : PySem.W.Frag) : Bool := clB K "Line" cLine && (olB K cLine && slB K cLine "own_earlier" 0 && slB K cLine "own_limits" 1)
def ocb_NothingDone (K : PySem.W.Frag) : Bool := zB K "NothingDone" "NothingDone.__init__" "/claim/cut.py" zbL none
def exb (K : PySem.W.Frag) : Bool := ocb_Line K && (ocb_NothingDone K)
abbrev R : PySem.W.OpenRow := PySem.W.OpenLaw.row PySem.Challenge.rw_cutsmaller_k06_lines_added
abbrev hk : PySem.W.Hook := Cm.hookE 4 fa fn exb
def ob (s : PySem.W.SharedT) : He.AlD × Bool := Cm.obsE 4 fa fn exb (HandSHeadRun.getT s)
theorem ob_eq (s : PySem.W.SharedT) : ob s = hk.obs s.abs := Cm.obsE_eq (HandSHeadRun.getT_eq s)
theorem run (w : World) : HandSHeadRun.RunEq R (PySem.W.view R.prog [21]) hk ob 4000 loose w := by
  intro os
  kernel_rfl
theorem facts {P : Program} {w : World} {K : PySem.W.Frag} {h : Heap} {mg : Str → Option Value} {f : Addr} (X : K.In h) (G : h.Ns mainGlobals mg) (hfa : mg ("law" : Str) = some (.ref f)) (c0 : Cm.SaysE fa fn exb K) (hP : PgOk P "/claim/cut.py") :
    ∃ fd : FuncData, (∀ (s : Shared) (v : Value), BindsTo s fd ⟨[v], []⟩ [("_law_script", v)]) ∧ ∀ base : Heap, K.In base → base.Ns mainGlobals mg → FnOk P w K mg base CX0 22 f fd ["_law_script"] (spF K f_law 1) := by
  have c := c0.1
  have x0 : exb K = true := c0.2
  obtain ⟨o_Line, x1⟩ := Bool.and_eq_true_iff.mp (show (ocb_Line K && (ocb_NothingDone K)) = true from x0)
  have o_NothingDone := x1
  obtain ⟨cl_Line, sl_Line⟩ := Bool.and_eq_true_iff.mp (show (clB K "Line" cLine && (olB K cLine && slB K cLine "own_earlier" 0 && slB K cLine "own_limits" 1)) = true from o_Line)
  obtain ⟨eC_Line, sc_Line⟩ := clB_ok cl_Line
  have O_Line : OC_Line K mg := ⟨by rw [← eC_Line]; exact He.glo_ok X G (c.fact 33 (f := .glo "Line") rfl), sc_Line, olB_ok (Bool.and_eq_true_iff.mp (Bool.and_eq_true_iff.mp sl_Line).1).1, slB_ok (Bool.and_eq_true_iff.mp (Bool.and_eq_true_iff.mp sl_Line).1).2, slB_ok (Bool.and_eq_true_iff.mp sl_Line).2⟩
  have zc_NothingDone := zc_of (x := "NothingDone") o_NothingDone
  have mc_NothingDone := PySem.W.mg_of X G zc_NothingDone.gC
  have Z : Zs mg := ⟨He.free_ok X G (c.fact 20 (f := .free "abs") rfl), He.free_ok X G (c.fact 21 (f := .free "all") rfl), He.free_ok X G (c.fact 22 (f := .free "bool") rfl), He.free_ok X G (c.fact 23 (f := .free "enumerate") rfl), He.free_ok X G (c.fact 24 (f := .free "int") rfl), He.free_ok X G (c.fact 25 (f := .free "isinstance") rfl), He.free_ok X G (c.fact 26 (f := .free "len") rfl), He.free_ok X G (c.fact 27 (f := .free "list") rfl), He.free_ok X G (c.fact 28 (f := .free "max") rfl), He.free_ok X G (c.fact 29 (f := .free "range") rfl), He.free_ok X G (c.fact 30 (f := .free "str") rfl), He.free_ok X G (c.fact 31 (f := .free "tuple") rfl), He.free_ok X G (c.fact 32 (f := .free "zip") rfl)⟩
  have h__law_box : At K mg "_law_box" s__law_box := by
    obtain ⟨fd, F⟩ := c.def_ 0 (d := dd__law_box) rfl
    exact ⟨_, fd, F, He.glo_ok X G (c.fact 0 (f := .glo "_law_box") rfl)⟩
  have h_tupled : At K mg "tupled" s_tupled := by
    obtain ⟨fd, F⟩ := c.def_ 1 (d := dd_tupled) rfl
    exact ⟨_, fd, F, He.glo_ok X G (c.fact 1 (f := .glo "tupled") rfl)⟩
  have h_Line_m_init : AtI K cLine "Line.__init__" s_Line_m_init := by
    obtain ⟨fd, F⟩ := c.def_ 2 (d := dd_Line_m_init) rfl
    have F1 : FunD K "__init__" "Line.__init__" (defArgs s_Line_m_init) (defBody s_Line_m_init) (defScope s_Line_m_init) [] [] (He.ma K (He.ga K "Line") "__init__") fd := F
    have M := He.mkr_ok (c.fact 2 (f := .mkr "Line") rfl)
    rw [eC_Line] at F1 M
    exact ⟨_, fd, F1, M⟩
  have h_Line_m_add : AtM K cLine "__add__" "Line.__add__" s_Line_m_add := by
    obtain ⟨fd, F⟩ := c.def_ 3 (d := dd_Line_m_add) rfl
    have F1 : FunD K "__add__" "Line.__add__" (defArgs s_Line_m_add) (defBody s_Line_m_add) (defScope s_Line_m_add) [] [] (He.ma K (He.ga K "Line") "__add__") fd := F
    have M := He.meth_ok (c.fact 3 (f := .meth "Line" "__add__") rfl)
    rw [eC_Line] at F1 M
    exact ⟨_, fd, F1, M⟩
  have h_Line_m_eq : AtM K cLine "__eq__" "Line.__eq__" s_Line_m_eq := by
    obtain ⟨fd, F⟩ := c.def_ 4 (d := dd_Line_m_eq) rfl
    have F1 : FunD K "__eq__" "Line.__eq__" (defArgs s_Line_m_eq) (defBody s_Line_m_eq) (defScope s_Line_m_eq) [] [] (He.ma K (He.ga K "Line") "__eq__") fd := F
    have M := He.meth_ok (c.fact 4 (f := .meth "Line" "__eq__") rfl)
    rw [eC_Line] at F1 M
    exact ⟨_, fd, F1, M⟩
  have h_Line_m_iadd : AtM K cLine "__iadd__" "Line.__iadd__" s_Line_m_iadd := by
    obtain ⟨fd, F⟩ := c.def_ 5 (d := dd_Line_m_iadd) rfl
    have F1 : FunD K "__iadd__" "Line.__iadd__" (defArgs s_Line_m_iadd) (defBody s_Line_m_iadd) (defScope s_Line_m_iadd) [] [] (He.ma K (He.ga K "Line") "__iadd__") fd := F
    have M := He.meth_ok (c.fact 5 (f := .meth "Line" "__iadd__") rfl)
    rw [eC_Line] at F1 M
    exact ⟨_, fd, F1, M⟩
  have h_Line_m_put : AtM K cLine "put" "Line.put" s_Line_m_put := by
    obtain ⟨fd, F⟩ := c.def_ 6 (d := dd_Line_m_put) rfl
    have F1 : FunD K "put" "Line.put" (defArgs s_Line_m_put) (defBody s_Line_m_put) (defScope s_Line_m_put) [] [] (He.ma K (He.ga K "Line") "put") fd := F
    have M := He.meth_ok (c.fact 6 (f := .meth "Line" "put") rfl)
    rw [eC_Line] at F1 M
    exact ⟨_, fd, F1, M⟩
  have h_Line_m_told : AtM K cLine "told" "Line.told" s_Line_m_told := by
    obtain ⟨fd, F⟩ := c.def_ 7 (d := dd_Line_m_told) rfl
    have F1 : FunD K "told" "Line.told" (defArgs s_Line_m_told) (defBody s_Line_m_told) (defScope s_Line_m_told) [] [] (He.ma K (He.ga K "Line") "told") fd := F
    have M := He.meth_ok (c.fact 7 (f := .meth "Line" "told") rfl)
    rw [eC_Line] at F1 M
    exact ⟨_, fd, F1, M⟩
  have h_Line_m_back : AtM K cLine "back" "Line.back" s_Line_m_back := by
    obtain ⟨fd, F⟩ := c.def_ 8 (d := dd_Line_m_back) rfl
    have F1 : FunD K "back" "Line.back" (defArgs s_Line_m_back) (defBody s_Line_m_back) (defScope s_Line_m_back) [] [] (He.ma K (He.ga K "Line") "back") fd := F
    have M := He.meth_ok (c.fact 8 (f := .meth "Line" "back") rfl)
    rw [eC_Line] at F1 M
    exact ⟨_, fd, F1, M⟩
  have h__law_gone_back : At K mg "_law_gone_back" s__law_gone_back := by
    obtain ⟨fd, F⟩ := c.def_ 9 (d := dd__law_gone_back) rfl
    exact ⟨_, fd, F, He.glo_ok X G (c.fact 9 (f := .glo "_law_gone_back") rfl)⟩
  have h__law_same : At K mg "_law_same" s__law_same := by
    obtain ⟨fd, F⟩ := c.def_ 10 (d := dd__law_same) rfl
    exact ⟨_, fd, F, He.glo_ok X G (c.fact 10 (f := .glo "_law_same") rfl)⟩
  have h__law_by_hand_right : At K mg "_law_by_hand_right" s__law_by_hand_right := by
    obtain ⟨fd, F⟩ := c.def_ 11 (d := dd__law_by_hand_right) rfl
    exact ⟨_, fd, F, He.glo_ok X G (c.fact 11 (f := .glo "_law_by_hand_right") rfl)⟩
  have h__law_cells : At K mg "_law_cells" s__law_cells := by
    obtain ⟨fd, F⟩ := c.def_ 12 (d := dd__law_cells) rfl
    exact ⟨_, fd, F, He.glo_ok X G (c.fact 12 (f := .glo "_law_cells") rfl)⟩
  have h_Line_m_len : AtM K cLine "__len__" "Line.__len__" s_Line_m_len := by
    obtain ⟨fd, F⟩ := c.def_ 13 (d := dd_Line_m_len) rfl
    have F1 : FunD K "__len__" "Line.__len__" (defArgs s_Line_m_len) (defBody s_Line_m_len) (defScope s_Line_m_len) [] [] (He.ma K (He.ga K "Line") "__len__") fd := F
    have M := He.meth_ok (c.fact 13 (f := .meth "Line" "__len__") rfl)
    rw [eC_Line] at F1 M
    exact ⟨_, fd, F1, M⟩
  have h__law_take : At K mg "_law_take" s__law_take := by
    obtain ⟨fd, F⟩ := c.def_ 14 (d := dd__law_take) rfl
    exact ⟨_, fd, F, He.glo_ok X G (c.fact 14 (f := .glo "_law_take") rfl)⟩
  have h__law_of : At K mg "_law_of" s__law_of := by
    obtain ⟨fd, F⟩ := c.def_ 15 (d := dd__law_of) rfl
    exact ⟨_, fd, F, He.glo_ok X G (c.fact 15 (f := .glo "_law_of") rfl)⟩
  have h__law_least : At K mg "_law_least" s__law_least := by
    obtain ⟨fd, F⟩ := c.def_ 16 (d := dd__law_least) rfl
    exact ⟨_, fd, F, He.glo_ok X G (c.fact 16 (f := .glo "_law_least") rfl)⟩
  have h__law_row : At K mg "_law_row" s__law_row := by
    obtain ⟨fd, F⟩ := c.def_ 17 (d := dd__law_row) rfl
    exact ⟨_, fd, F, He.glo_ok X G (c.fact 17 (f := .glo "_law_row") rfl)⟩
  have h__law_right : At K mg "_law_right" s__law_right := by
    obtain ⟨fd, F⟩ := c.def_ 18 (d := dd__law_right) rfl
    exact ⟨_, fd, F, He.glo_ok X G (c.fact 18 (f := .glo "_law_right") rfl)⟩
  have h_law : At K mg "law" s_law := by
    obtain ⟨fd, F⟩ := c.def_ 19 (d := dd_law) rfl
    exact ⟨_, fd, F, He.glo_ok X G (c.fact 19 (f := .glo "law") rfl)⟩
  obtain ⟨a, fd, F, hm⟩ := id h_law
  have ea : a = f := by
    rw [hm] at hfa
    injection hfa with hfa
    injection hfa
  subst ea
  have b := FunD.bindsA (ps := ["_law_script"]) F fun _ _ _ _ _ _ us hl => match us, hl with | [_], _ => rfl
  refine ⟨fd, fun s v => b s [v] rfl, fun base _ _ => ?_⟩
  have c__law_box := ok__law_box (P := P) (w := w) (base := base) Z h__law_box O_Line
  have c_tupled := ok_tupled (P := P) (w := w) (base := base) Z h_tupled O_Line 16
  have c_Line_m_init := ok_Line_m_init (P := P) (w := w) (base := base) Z h_Line_m_init O_Line c_tupled
  have c_Line_m_add := ok_Line_m_add (P := P) (w := w) (base := base) Z h_Line_m_add O_Line c_Line_m_init
  have c_Line_m_eq := ok_Line_m_eq (P := P) (w := w) (base := base) Z h_Line_m_eq O_Line
  have c_Line_m_iadd := ok_Line_m_iadd (P := P) (w := w) (base := base) Z h_Line_m_iadd O_Line
  have c_Line_m_put := ok_Line_m_put (P := P) (w := w) (base := base) Z h_Line_m_put O_Line
  have c_Line_m_told := ok_Line_m_told (P := P) (w := w) (base := base) Z h_Line_m_told O_Line
  have cx_Line_m_back := okx_Line_m_back (P := P) (w := w) (base := base) Z h_Line_m_back O_Line zc_NothingDone mc_NothingDone hP
  have c__law_gone_back := ok__law_gone_back (P := P) (w := w) (base := base) Z h__law_gone_back O_Line zc_NothingDone mc_NothingDone cx_Line_m_back
  have c__law_same := ok__law_same (P := P) (w := w) (base := base) Z h__law_same O_Line 16
  have c__law_by_hand_right := ok__law_by_hand_right (P := P) (w := w) (base := base) Z h__law_by_hand_right O_Line c_Line_m_add c_Line_m_eq c_Line_m_iadd c_Line_m_init c_Line_m_put c_Line_m_told c__law_gone_back c__law_same
  have c__law_cells := ok__law_cells (P := P) (w := w) (base := base) Z h__law_cells O_Line
  have c_Line_m_len := ok_Line_m_len (P := P) (w := w) (base := base) Z h_Line_m_len O_Line
  have c__law_take := ok__law_take (P := P) (w := w) (base := base) Z h__law_take O_Line
  have c__law_of := ok__law_of (P := P) (w := w) (base := base) Z h__law_of O_Line c__law_take
  have c__law_least := ok__law_least (P := P) (w := w) (base := base) Z h__law_least O_Line c__law_of c__law_take
  have c__law_row := ok__law_row (P := P) (w := w) (base := base) Z h__law_row O_Line c__law_of c__law_take
  have c__law_right := ok__law_right (P := P) (w := w) (base := base) Z h__law_right O_Line c_Line_m_add c_Line_m_eq c_Line_m_iadd c_Line_m_init c_Line_m_len c_Line_m_put c_Line_m_told c__law_gone_back c__law_least c__law_row c__law_same
  have c_law := ok_law (P := P) (w := w) (base := base) Z h_law O_Line c__law_box c__law_by_hand_right c__law_cells c__law_right
  exact c_law.pick F hm
end My

set_option Elab.async false
set_option linter.all false
set_option maxRecDepth 100000
set_option maxHeartbeats 4000000
namespace My
open PySem PySem.Spec PyProof.Rows L2 Cm
def lo (k : Int) : Prop := 1 ≤ k ∧ k.natAbs.log2 < 9000
def once (y n : Int) : Int := ((y + 48271 * n) * (39373 + n)) % 2147483647
def twice (y n : Int) : Int := ((once y n + n + y / 1000003) * (once y n % 40009 + 7)) % 2147483629
def drawn (y n k : Int) : Int := ((twice y n * 48271 + once y n) % 2147483587 / 64) % k
theorem take_spec {m : Nat} {B : Bx} {k : Int} (h : BxOk m B) (hm : m < 1000000000000) (hk : lo k) : ∃ (r : Int) (B' : Bx), 0 ≤ r ∧ r < k ∧ BxOk (m + 1) B' ∧
    ∀ (st L : Sto) (b : Nat), b < st.length → f__law_take [.l b, .d (.int k)] (ex (st.set b (some (lay B))) L) = some (.d (.int r), ex (st.set b (some (lay B'))) L) := by
  obtain ⟨x0, y0, n0, n1, m1⟩ := h
  obtain ⟨k1, k2⟩ := hk
  have kp : 0 < k := by omega
  by_cases hx : 0 < B.x
  · refine ⟨B.x % k, ⟨B.x / k, B.y, B.n⟩, Int.emod_nonneg _ (by omega), Int.emod_lt_of_pos _ kp, ⟨Int.ediv_nonneg x0 (by omega), y0, n0, by show B.n ≤ _; omega, by omega⟩, ?_⟩
    intro st L b hb
    simp [f__law_take, defS_ap, b__law_take, ex_box hb, lay, fIx, atI, ixN, hx, kp, k2, ex_setb hb]
  · refine ⟨drawn B.y (B.n + 1) k, ⟨B.x, B.y, B.n + 1⟩, ?_, ?_, ⟨x0, y0, by show 0 ≤ B.n + 1; omega, by show B.n + 1 ≤ _; omega, by omega⟩, ?_⟩
    rotate_left 2
    · intro st L b hb
      have o1 : mulOk 48271 (B.n + 1) = true := mul_smallL (by omega) (by omega)
      have o2 : ∀ z, mulOk z (39373 + (B.n + 1)) = true := fun z => mul_small (by omega) (by omega)
      have o3 : ∀ z w : Int, mulOk z (w % 40009 + 7) = true := fun z w => mul_small (by omega) (by omega)
      have o4 : ∀ z : Int, mulOk z 48271 = true := fun z => mul_small (by omega) (by omega)
      have l1 : Nat.log2 1000003 < 9000 := by decide
      have l2 : Nat.log2 64 < 9000 := by decide
      simp [f__law_take, defS_ap, b__law_take, ex_box hb, lay, fIx, atI, ixN, hx, kp, k2, ex_setb hb, o1, o2, o3, o4, l1, l2, drawn, twice, once]
    · exact Int.emod_nonneg _ (by omega)
    · exact Int.emod_lt_of_pos _ kp
theorem lo_of {k : Int} (h1 : 1 ≤ k) (h2 : k ≤ 100000000000000000000000000000000000000000000000000) : lo k := by
  refine ⟨h1, ?_⟩
  have h3 : k.natAbs ≤ 100000000000000000000000000000000000000000000000000 := by omega
  rw [Nat.log2_lt (by omega)]
  exact Nat.lt_of_le_of_lt h3 (by decide +kernel)
/-- what a function of the box gives: a value for which R holds, and a box that has drawn c times more at most -/
def Dr (f : FS) (ws : List U) (m c : Nat) (B : Bx) (R : PyData → Prop) : Prop := ∃ (x : PyData) (B' : Bx), R x ∧ BxOk (m + c) B' ∧
    ∀ (st L : Sto) (b : Nat), b < st.length → f (.l b :: ws) (ex (st.set b (some (lay B))) L) = some (.d x, ex (st.set b (some (lay B'))) L)
theorem dr_lift {f : FS} {ws : List U} {B B' : Bx} {x : PyData} (h : ∀ (st : Sto) (b : Nat), b < st.length → f (.l b :: ws) (ex (st.set b (some (lay B))) []) = some (.d x, st.set b (some (lay B')))) :
    ∀ (st L : Sto) (b : Nat), b < st.length → f (.l b :: ws) (ex (st.set b (some (lay B))) L) = some (.d x, ex (st.set b (some (lay B'))) L) := by
  intro st L b hb
  have := h (st ++ L) b (by simp; omega)
  rw [List.set_append_left _ _ hb, List.set_append_left _ _ hb] at this
  simpa [ex] using this
theorem pure_lift {f : FS} {ws : List U} {x : PyData} (h : ∀ st : Sto, f ws (ex st []) = some (.d x, st)) (st : Sto) : f ws st = some (.d x, st) := by
  have := h st
  rwa [← ex_nil st] at this
theorem of_spec {m : Nat} {B : Bx} {xs : List PyData} (h : BxOk m B) (hm : m < 1000000000000) (h1 : 1 ≤ xs.length) (h2 : xs.length ≤ 1000000) : Dr f__law_of [.d (.list xs)] m 1 B (· ∈ xs) := by
  obtain ⟨r, B', r0, r1, hB, e⟩ := take_spec (k := xs.length) h hm (lo_of (by omega) (by omega))
  obtain ⟨k, rfl⟩ : ∃ k : Nat, r = k := ⟨r.toNat, by omega⟩
  have hk : k < xs.length := by omega
  refine ⟨xs[k], B', List.getElem_mem hk, hB, ?_⟩
  apply dr_lift
  intro st b hb
  simp [f__law_of, defS_ap, b__law_of, e _ _ _ hb, hk]
structure Pos where
  st : Sto
  b : Nat
def Pos.ok (θ : Pos) : Prop := θ.b < θ.st.length
@[simp] theorem ex_ex (st L M : Sto) : ex (ex st L) M = ex st (L ++ M) := by simp [ex]
theorem take_df {l h h' : Int} (h1 : 1 ≤ l) (h2 : h ≤ 10000000000000000000000000000000000000000000000000000000000000000000000000000000000000000000000000000) (e : h - 1 = h') : DF f__law_take [Iz (some l) (some h)] (Iz (some 0) (some h')) 1 := fun xs m B hx hb hm => by
  cases hx with
  | cons q t =>
    cases t
    obtain ⟨k, rfl, q1, q2⟩ := q
    simp only [LoB, HiB] at q1 q2
    have lk : lo k := by
      refine ⟨by omega, ?_⟩
      have h3 : k.natAbs ≤ 10000000000000000000000000000000000000000000000000000000000000000000000000000000000000000000000000000 := by omega
      rw [Nat.log2_lt (by omega)]
      exact Nat.lt_of_le_of_lt h3 (by decide +kernel)
    have hm' : m < 1000000000000 := by simp only [Mx] at hm; omega
    obtain ⟨r, B', r0, r1, hB, f⟩ := take_spec hb hm' lk
    refine ⟨.int r, B', ⟨r, rfl, ?_, ?_⟩, hB, fun st L b hb => f st L b hb⟩
    · simp only [LoB]
      omega
    · simp only [HiB]
      omega
theorem of_df {e : Pd} {lo hi : Nat} (h1 : 1 ≤ lo) (h2 : hi ≤ 1000000) : DF f__law_of [Ls e lo hi] e 1 := fun xs m B hx hb hm => by
  cases hx with
  | cons q t =>
    cases t
    obtain ⟨ys, rfl, c1, c2, c3⟩ := q
    have hm' : m < 1000000000000 := by simp only [Mx] at hm; omega
    obtain ⟨z, B', hz, hB, f⟩ := of_spec (xs := ys) hb hm' (by omega) (by omega)
    exact ⟨z, B', c3 z hz, hB, fun st L b hb => f st L b hb⟩
end My

set_option Elab.async false
set_option linter.all false
set_option maxRecDepth 100000
set_option maxHeartbeats 4000000
namespace My
open PySem PySem.Spec PyProof.Rows L2 Cm
theorem cut_to (xs : List PyData) {i : Int} (h : 0 ≤ i) : Cm.cutD xs none (some i) = xs.take i.toNat := by
  obtain ⟨k, rfl⟩ : ∃ k : Nat, i = k := ⟨i.toNat, by omega⟩
  unfold Cm.cutD
  rw [HT.sIx_none, HT.sIx_nat]
  simp only [List.drop_zero, Nat.sub_zero, Int.toNat_natCast]
  rw [List.take_eq_take_iff]
  omega
theorem cut_from (xs : List PyData) {i : Int} (h : 0 ≤ i) : Cm.cutD xs (some i) none = xs.drop i.toNat := by
  obtain ⟨k, rfl⟩ : ∃ k : Nat, i = k := ⟨i.toNat, by omega⟩
  unfold Cm.cutD
  rw [HT.sIx_none, HT.sIx_nat, Int.toNat_natCast, List.take_of_length_le (by rw [List.length_drop]; omega)]
  by_cases hk : k ≤ xs.length
  · rw [Nat.min_eq_left hk]
  · rw [Nat.min_eq_right (by omega), List.drop_of_length_le (by omega), List.drop_of_length_le (by omega)]
theorem cut_both (xs : List PyData) {i j : Int} (h : 0 ≤ i) (h2 : 0 ≤ j) : Cm.cutD xs (some i) (some j) = (xs.drop i.toNat).take (j.toNat - i.toNat) := by
  obtain ⟨k, rfl⟩ : ∃ k : Nat, i = k := ⟨i.toNat, by omega⟩
  obtain ⟨l, rfl⟩ : ∃ l : Nat, j = l := ⟨j.toNat, by omega⟩
  unfold Cm.cutD
  rw [HT.sIx_nat, HT.sIx_nat, Int.toNat_natCast, Int.toNat_natCast]
  by_cases hk : k ≤ xs.length
  · rw [Nat.min_eq_left hk, List.take_eq_take_iff, List.length_drop]
    omega
  · rw [List.drop_of_length_le (i := k) (by omega), List.drop_of_length_le (i := min k xs.length) (by omega)]
    simp
theorem enumD_mem : ∀ {xs : List PyData} {i : Nat} {y : PyData}, y ∈ enumD i xs → ∃ (k : Nat) (x : PyData), i ≤ k ∧ k < i + xs.length ∧ x ∈ xs ∧ y = .tuple [.int (k : Nat), x]
  | [], _, _, h => by cases h
  | x :: xs, i, y, h => by
    rcases List.mem_cons.mp h with rfl | h
    · exact ⟨i, x, Nat.le_refl _, by simp, by simp, rfl⟩
    · obtain ⟨k, z, a, b, c, d⟩ := enumD_mem h
      exact ⟨k, z, by omega, by simp; omega, by simp [c], d⟩
@[simp] theorem enumD_len : ∀ (xs : List PyData) (i : Nat), (enumD i xs).length = xs.length
  | [], _ => rfl
  | x :: xs, i => by simp [enumD, enumD_len xs]
theorem cells_spec (ns : List Int) (w : Nat) (w1 : 1 ≤ w) (w2 : w ≤ 1000) (st : Sto) : ∃ cs : List Int, 1 ≤ cs.length ∧ cs.length ≤ w ∧
    f__law_cells [.s ns, .d (.int (w : Nat))] (ex st []) = some (.d (.list (cs.map .int)), st) := by
  by_cases hn : ns = []
  · subst hn
    refine ⟨[0], by simp, by simp; omega, ?_⟩
    simp [f__law_cells, defS_ap, b__law_cells, cut_to, cut_both, enumD, forL]
  · obtain ⟨s', ⟨h1, h2, _⟩, e⟩ := forL_abs (T := Unit) (S := List Int × Option U × Option U × Option U)
      (g := (gT (gsCons (gN 3) (gsCons (gN 4) gsNil)))) (b := (cSeq (cSet 5 (cD2 fMod (cCall fInt (cCons (cVar 3) cNil)) (cVar 1))) (cSetIx (cVar 2) (cVar 5) (cD2s fAdd (cD2 fIx (cVar 2) (cVar 5)) (cD2s fMul (cVar 4) (cD2s fAdd (cVar 3) (cD (.int 2))))))))
      (fun _ => True) (fun _ s => [some (.s ns), some (.d (.int (w : Nat))), some (.l st.length), s.2.1, s.2.2.1, s.2.2.2])
      (fun _ s => ex st [some (s.1.map .int)])
      (fun rest s => 1 ≤ s.1.length ∧ s.1.length ≤ w ∧ (rest ≠ [] → s.1.length = w) ∧ ∀ y ∈ rest, ∃ (k : Nat) (c : Int), k < 1000 ∧ y = .tuple [.int (k : Nat), .int c]) (by
        rintro x xs ⟨cs, t3, t4, t5⟩ ⟨l1, l2, l3, hr⟩
        obtain ⟨k, c, hk, rfl⟩ := hr x List.mem_cons_self
        simp only [] at l1 l2 l3
        have hw : cs.length = w := l3 (by simp)
        have hw' : (0 : Int) < w := by omega
        have hw0 : 0 < w := by omega
        have m0 : 0 ≤ (k : Int) % w := Int.emod_nonneg _ (by omega)
        have m1 : (k : Int) % w < w := Int.emod_lt_of_pos _ hw'
        obtain ⟨j, hj⟩ : ∃ j : Nat, (k : Int) % w = j := ⟨((k : Int) % w).toNat, by omega⟩
        have hj' : j < cs.length := by omega
        refine ⟨(cs.set j (cs[j] + c * ((k : Int) + 2)), some (.d (.int (k : Nat))), some (.d (.int c)), some (.d (.int (j : Nat)))), ⟨by simpa using l1, by simpa using l2, by intro _; simpa using hw, fun y hy => hr y (List.mem_cons_of_mem _ hy)⟩, ?_⟩
        intro _ _
        have o1 : ∀ z : Int, mulOk z ((k : Int) + 2) = true := fun z => mul_small (by omega) (by omega)
        have o2 : ixN cs.length (j : Int) = some j := by simp [ixN, hj']
        refine ⟨_, rfl, ?_⟩
        simp [hw', hw0, hj, o1, o2, hj'])
      (enumD 0 (Cm.cutD (ns.map .int) (some (w : Nat)) (some 63))) (ns.take w, none, none, none) (by
        refine ⟨?_, ?_, ?_, ?_⟩
        · have := List.length_pos_iff.mpr hn
          simp; omega
        · simp; omega
        · intro hne
          have hne' : (enumD 0 (Cm.cutD (ns.map PyData.int) (some (w : Nat)) (some 63))).length ≠ 0 := by
            intro h0
            exact hne (List.length_eq_zero_iff.mp h0)
          rw [enumD_len, cut_both _ (by omega) (by omega)] at hne'
          simp at hne' ⊢
          omega
        · intro y hy
          obtain ⟨k, x, a, b, c, d⟩ := enumD_mem hy
          rw [cut_both _ (by omega) (by omega)] at b c
          have c' := List.mem_of_mem_drop (List.mem_of_mem_take c)
          simp only [List.mem_map] at c'
          obtain ⟨z, _, rfl⟩ := c'
          simp at b
          exact ⟨k, z, by omega, d⟩)
    obtain ⟨cs, t3, t4, t5⟩ := s'
    refine ⟨cs, h1, h2, ?_⟩
    have e' := e () trivial
    have w0 : w ≠ 0 := by omega
    simp at e'
    simp [f__law_cells, defS_ap, b__law_cells, cut_to, hn, w0, e']
theorem box_spec (cs : List Int) (k : Nat) (hk : k < cs.length) (h2 : k < 1000) (st : Sto) : ∃ B : Bx, BxOk 0 B ∧ f__law_box [.d (.list (cs.map .int)), .d (.int (k : Nat))] (ex st []) = some (.l st.length, ex st [some (lay B)]) := by
  refine ⟨⟨(if cs[k] < 0 then -cs[k] else cs[k]) * (if 1000000000000000000 ≤ (if cs[k] < 0 then -cs[k] else cs[k]) then 1 else 0), cs[k] % 2305843009213693951 + 39373 * (k : Int) + 906, 0⟩, ⟨?_, ?_, ?_, ?_, ?_⟩, ?_⟩
  · refine Int.mul_nonneg ?_ ?_
    · split <;> omega
    · split <;> omega
  · show 0 ≤ cs[k] % 2305843009213693951 + 39373 * (k : Int) + 906
    omega
  · exact Int.le_refl _
  · exact Int.le_refl _
  · omega
  · have o1 : ∀ (z w : Int), mulOk z (if w ≤ z then 1 else 0) = true := fun z w => mul_small (by split <;> omega) (by split <;> omega)
    have o2 : ∀ z : Int, mulOk 39373 z = true := fun z => mul_smallL (by omega) (by omega)
    simp [f__law_box, defSO_ap, b__law_box, hk, o1, o2, lay]
    rfl
end My

set_option Elab.async false
set_option linter.all false
set_option maxRecDepth 100000
set_option maxHeartbeats 4000000
namespace My
open PySem PySem.Spec PyProof.Rows L2 Cm
theorem hand_spec : f__law_by_hand_right [] (ex [] []) = some (.d (.bool true), []) := by kernel_rfl
theorem hand_spec' : f__law_by_hand_right [] [] = some (.d (.bool true), []) := hand_spec
end My

set_option Elab.async false
set_option linter.all false
set_option maxRecDepth 100000
set_option maxHeartbeats 4000000
namespace My
open PySem PySem.Spec PyProof.Rows L2 Cm
/-- a list or a tuple of these -/
def Sq (x : PyData) (xs : List PyData) : Prop := x = .tuple xs ∨ x = .list xs
abbrev iL (ns : List Int) : List PyData := ns.map .int
abbrev nL (ns : List Nat) : List PyData := ns.map fun n => .int (n : Nat)
theorem fIx_last (ys : List Int) (z : Int) : fIx (.list (iL (ys ++ [z]))) (.int (-1)) = some (.int z) := by
  have : (-(((iL (ys ++ [z])).length : Nat) : Int) ≤ -1) := by simp; omega
  have e : ((-1 : Int) + (((iL (ys ++ [z])).length : Nat) : Int)).toNat = ys.length := by simp; omega
  simp only [fIx, atI, ixN, if_neg (by decide : ¬ (0 : Int) ≤ -1), if_pos this, e, Option.bind_some]
  simp
theorem filter_yes {α : Type} (xs : List α) : xs.filter (fun _ => true) = xs := List.filter_eq_self.mpr (by intros; rfl)
@[simp] theorem allD_map (xs : List PyData) : allD (xs.map U.d) = some xs := by
  have := allD_app xs []
  simpa using this
theorem lcC_pure {g : GT} {tt : SB} {te : SE} {ev : Ev} (c : PyData → Bool) (f : PyData → PyData) (st : Sto) (n : Nat) (xs : List PyData) (hn : st[n]? = some (some xs))
    (h : ∀ x ∈ xs, ∀ acc, ∃ ev1, g x ev = some ev1 ∧ tt ev1 (ex st [some acc]) = some (c x, ex st [some acc]) ∧ (c x = true → te ev1 (ex st [some acc]) = some (.d (f x), ex st [some acc]))) :
    ∀ (k i : Nat) (acc : List PyData), xs.length - i < k → acc.length + (xs.length - i) ≤ lim → lcC g tt te ev n k i st acc = some (acc ++ ((xs.drop i).filter c).map f, st)
  | 0, i, acc, hk, _ => by omega
  | k + 1, i, acc, hk, hl => by
    obtain ⟨hb, e0⟩ := List.getElem?_eq_some_iff.mp hn
    have g0 : (st ++ [some acc])[n]? = some (some xs) := by rw [List.getElem?_append_left hb, hn]
    by_cases hi : i < xs.length
    · obtain ⟨ev1, e1, e2, e3⟩ := h xs[i] (List.getElem_mem hi) acc
      have e2' : tt ev1 (st ++ [some acc]) = some (c xs[i], ex st [some acc]) := e2
      have g1 : (ex st [some acc])[st.length]? = some (some acc) := by rw [ex_get0]; rfl
      have g2 : (ex st [some acc]).take st.length = st := by simp
      have g3 : xs[i]? = some xs[i] := List.getElem?_eq_getElem hi
      rw [List.drop_eq_getElem_cons hi]
      by_cases t : c xs[i] = true
      · have := lcC_pure c f st n xs hn h k (i + 1) (acc ++ [f xs[i]]) (by omega) (by simp; simp at hl; omega)
        have ha : acc.length < lim := by omega
        simp only [lcC, g0, g3, e1, e2', t, e3 t, g1, g2, Option.bind_some, if_pos ha, if_true, this]
        rw [List.filter_cons_of_pos t, List.map_cons, List.append_assoc]
        rfl
      · have := lcC_pure c f st n xs hn h k (i + 1) acc (by omega) (by omega)
        have t' : c xs[i] = false := by simpa using t
        simp only [lcC, g0, g3, e1, e2', t', g1, g2, Option.bind_some, this]
        rw [List.filter_cons_of_neg t]
        rfl
    · have g3 : xs[i]? = none := List.getElem?_eq_none (by omega)
      simp only [lcC, g0, g3]
      rw [List.drop_of_length_le (by omega)]
      simp
end My

set_option Elab.async false
set_option linter.all false
set_option maxRecDepth 100000
set_option maxHeartbeats 4000000
namespace My
open PySem PySem.Spec PyProof.Rows L2 Cm
theorem canAll : ∀ {xs : List PyData}, (∀ x ∈ xs, x.canLay0 = true) → PyData.canLayAll0 xs = true
  | [], _ => rfl
  | x :: xs, h => by
    rw [PyData.canLayAll0, h x List.mem_cons_self, canAll (fun y hy => h y (List.mem_cons_of_mem _ hy))]
    rfl
theorem depAll {k : Nat} : ∀ {xs : List PyData}, (∀ x ∈ xs, x.depth ≤ k) → PyData.depthAll xs ≤ k
  | [], _ => Nat.zero_le _
  | x :: xs, h => by
    rw [PyData.depthAll]
    exact Nat.max_le.mpr ⟨h x List.mem_cons_self, depAll (fun y hy => h y (List.mem_cons_of_mem _ hy))⟩
def Shp (k : Nat) (x : PyData) : Prop := x.canLay0 = true ∧ x.depth ≤ k
theorem shp_int (i : Int) : Shp 0 (.int i) := ⟨rfl, Nat.le_refl _⟩
theorem shp_seq {k : Nat} {x : PyData} {xs : List PyData} (hx : Sq x xs) (h : ∀ y ∈ xs, Shp k y) : Shp (k + 1) x := by
  rcases hx with rfl | rfl
  · refine ⟨?_, ?_⟩
    · rw [PyData.canLay0]; exact canAll (fun y hy => (h y hy).1)
    · rw [PyData.depth]; exact Nat.succ_le_succ (depAll (fun y hy => (h y hy).2))
  · refine ⟨?_, ?_⟩
    · rw [PyData.canLay0]; exact canAll (fun y hy => (h y hy).1)
    · rw [PyData.depth]; exact Nat.succ_le_succ (depAll (fun y hy => (h y hy).2))
theorem shp_shaped {k : Nat} {x : PyData} (h : Shp k x) (hk : k ≤ 64) : SeqAt.shaped x = true := by
  unfold SeqAt.shaped
  rw [h.1, decide_eq_true (Nat.le_trans h.2 hk)]
  rfl
theorem shp_ints {x : PyData} {ns : List Int} (hx : Sq x (iL ns)) : Shp 1 x := shp_seq hx (fun y hy => by
  obtain ⟨i, _, rfl⟩ := List.mem_map.mp hy
  exact shp_int i)
theorem eq_self {k : Nat} {x : PyData} (h : Shp k x) (hk : k ≤ 64) : fEq x x = some (.bool true) := by
  unfold fEq
  rw [shp_shaped h hk, SeqAt.eqv_refl x h.1]
  rfl
theorem ne_self {k : Nat} {x : PyData} (h : Shp k x) (hk : k ≤ 64) : fNe x x = some (.bool false) := by
  unfold fNe
  rw [shp_shaped h hk, SeqAt.eqv_refl x h.1]
  rfl
end My

set_option Elab.async false
set_option linter.all false
set_option maxRecDepth 100000
set_option maxHeartbeats 4000000
namespace My
open PySem PySem.Spec PyProof.Rows L2 Cm
theorem same_int (d : Nat) (i : Int) (st : Sto) : f__law_same (d + 1) [.d (.int i), .d (.int i)] st = some (.d (.bool true), st) := by
  revert st
  apply pure_lift
  intro st
  simp [f__law_same, defS_ap, b__law_same, known, isaT, isNone]
theorem all_true (xs : List PyData) : asBools (xs.map fun _ => PyData.bool true) = some (xs.map fun _ => true) := by
  have := asBools_map (xs.map fun _ => true)
  simpa [Function.comp_def] using this
def SameOk (d : Nat) (x : PyData) : Prop := ∀ st : Sto, f__law_same d [.d x, .d x] st = some (.d (.bool true), st)
theorem same_seq (d : Nat) {x : PyData} {xs : List PyData} (hx : Sq x xs) (h : ∀ y ∈ xs, SameOk d y) (hl : xs.length ≤ 1000) : SameOk (d + 1) x := by
  unfold SameOk
  apply pure_lift
  intro st
  have lc := lcL_pure (g := gT (gsCons (gN 2) (gsCons (gN 3) gsNil))) (tt := bYes) (te := cDef 2 (f__law_same d) (cCons (cVar 2) (cCons (cVar 3) cNil))) (ev := [some (.d x), some (.d x), none, none])
    (fun _ => true) (fun _ => .bool true) (ex st []) (zipD xs xs) [] (by
      intro z hz acc
      unfold zipD at hz
      rw [List.zipWith_self] at hz
      obtain ⟨q, hq, rfl⟩ := List.mem_map.mp hz
      refine ⟨_, rfl, rfl, fun _ => ?_⟩
      simp [h q hq _]) (by simp [zipD]; omega)
  rw [List.nil_append, filter_yes] at lc
  have ha := all_true (zipD xs xs)
  rcases hx with rfl | rfl <;> simp -implicitDefEqProofs [f__law_same, defS_ap, b__law_same, known, isaT, isNone, lc, ha]
theorem same_ints {d : Nat} {x : PyData} {ns : List Int} (hx : Sq x (iL ns)) (hl : ns.length ≤ 1000) : SameOk (d + 2) x :=
  same_seq (d + 1) hx (fun y hy => by
    obtain ⟨i, _, rfl⟩ := List.mem_map.mp hy
    exact same_int d i) (by simpa using hl)
end My

set_option Elab.async false
set_option linter.all false
set_option maxRecDepth 100000
set_option maxHeartbeats 4000000
namespace My
open PySem PySem.Spec PyProof.Rows L2 Cm
def trues (k : Nat) : List PyData := List.replicate k (.bool true)
theorem trues_snoc (k : Nat) : trues k ++ [.bool true] = trues (k + 1) := by simp [trues, List.replicate_succ']
theorem trues_all (k : Nat) : fAll [.list (trues k)] = some (.bool true) := by
  have : trues k = (List.replicate k true).map .bool := by simp [trues]
  rw [this, fAll_l, asBools_map]
  simp
theorem box_form (Z : Sto) (v : Option (List PyData)) : ex Z [v] = ex ((Z ++ [none]).set Z.length v) [] := by
  simp [ex, List.set_append]
end My

set_option Elab.async false
set_option linter.all false
set_option maxRecDepth 100000
set_option maxHeartbeats 4000000
namespace My
open PySem PySem.Spec PyProof.Rows L2 Cm
theorem ai_law_least_0 : DF f__law_least [] (Iz (some 1) (some 1000000000000000000000000000000)) 3 := by
  show DF (defS 1 b__law_least) _ _ _
  refine df_of (N := none) (n0 := 0) ?_ rfl rfl
  show ASt b__law_least [some .box] 3 none { R := some (.val (Iz (some 1) (some 1000000000000000000000000000000))) }
  unfold b__law_least
  exact as_up (as_ret (ae_lev (b := (Iz (some 1) (some 1000000000000000000000000000000))) (ae_val (ae_df (as := [(Ls (Iz (some 1) (some 1000000000000000000000000000000)) 6 6)]) (r := (Iz (some 1) (some 1000000000000000000000000000000))) (k1 := 1) (n := 2) (aa_cons (ae_box rfl) (aa_cons (ae_le (ae_lst (as := [(Iz (some 1) (some 1)), (Iz (some 1) (some 1)), (Iz (some 2) (some 2)), (Iz (some 3) (some 3)), (Iz (some 4) (some 12)), (Iz (some 1) (some 1000000000000000000000000000000))]) (aa_cons (ae_c (iz_c 1)) (aa_cons (ae_c (iz_c 1)) (aa_cons (ae_c (iz_c 2)) (aa_cons (ae_c (iz_c 3)) (aa_cons (ae_2s (a := (Iz (some 4) (some 4))) (b := (Iz (some 0) (some 8))) (r := (Iz (some 4) (some 12))) (ae_val (ae_c (iz_c 4))) (ae_val (ae_df (as := [(Iz (some 9) (some 9))]) (r := (Iz (some 0) (some 8))) (k1 := 1) (n := 2) (aa_cons (ae_box rfl) (aa_cons (ae_c (iz_c 9)) aa_nil)) (take_df (l := 9) (h := 9) (h' := 8) (by decide) (by decide) rfl))) (tr_add (l := (some 4)) (h := (some 12)) rfl rfl)) (aa_cons (ae_2s (a := (Iz (some 1) (some 1))) (b := (Iz (some 0) (some 999999999999999999999999999999))) (r := (Iz (some 1) (some 1000000000000000000000000000000))) (ae_val (ae_c (iz_c 1))) (ae_val (ae_df (as := [(Iz (some 1000000000000000000000000000000) (some 1000000000000000000000000000000))]) (r := (Iz (some 0) (some 999999999999999999999999999999))) (k1 := 1) (n := 2) (aa_cons (ae_box rfl) (aa_cons (ae_2 (ae_val (ae_c (a := Is _) rfl)) (ae_val (ae_c (a := Is _) rfl)) (tr_const2 (r := (Iz (some 1000000000000000000000000000000) (some 1000000000000000000000000000000))) (z := .int 1000000000000000000000000000000) (by kernel_rfl) (iz_c _))) aa_nil)) (take_df (l := 1000000000000000000000000000000) (h := 1000000000000000000000000000000) (h' := 999999999999999999999999999999) (by decide) (by decide) rfl))) (tr_add (l := (some 1)) (h := (some 1000000000000000000000000000000)) rfl rfl)) aa_nil)))))) (by decide)) (lsof_ls (mem1 (iz_le rfl rfl) (mem1 (iz_le rfl rfl) (mem1 (iz_le rfl rfl) (mem1 (iz_le rfl rfl) (mem1 (iz_le rfl rfl) (mem1 self_le mem0)))))) (by simp only [List.length]; omega) (by simp only [List.length]; omega))) aa_nil)) (of_df (by decide) (by decide)))) self_le) rfl) (by omega)
theorem ai_law_row_0 : DF f__law_row [(Iz (some 1) (some 10000000000000000000000000000000)), (Iz (some 5) (some 5))] (Tp (Iz none (some 140000000000000000000000000000000)) 0 5) 9 := by
  show DF (defS 7 b__law_row) _ _ _
  refine df_of (N := none) (n0 := 4) ?_ rfl rfl
  show ASt b__law_row [some .box, some (.dat (Iz (some 1) (some 10000000000000000000000000000000))), some (.dat (Iz (some 5) (some 5))), none, none, none, none] 9 none { R := some (.val (Tp (Iz none (some 140000000000000000000000000000000)) 0 5)) }
  unfold b__law_row
  refine as_seq (A1 := [some .box, some (.dat (Iz (some 1) (some 10000000000000000000000000000000))), some (.dat (Iz (some 5) (some 5))), none, none, some (.dat (Iz (some 0) (some 4))), some (.own Bot 0 0)]) (k1 := 1) (k2 := 8) ?_ ?_
  · exact as_up (as_par (rs := [.dat (Iz (some 0) (some 4)), .own Bot 0 0]) (aa_cons (ae_df (as := [(Iz (some 5) (some 5))]) (r := (Iz (some 0) (some 4))) (k1 := 1) (n := 2) (aa_cons (ae_box rfl) (aa_cons (ae_c (iz_c 5)) aa_nil)) (take_df (l := 5) (h := 5) (h' := 4) (by decide) (by decide) rfl)) (aa_cons (ao_lst (as := []) (e := Bot) (n := 0) aa_nil (by decide) mem0) aa_nil)) (.dat (.own .nil))) (by omega)
  · refine as_seq (A1 := [some .box, some (.dat (Iz (some 1) (some 10000000000000000000000000000000))), some (.dat (Iz (some 5) (some 5))), some (.dat (Iz (some 2) (some 140000000000000000000000000000000))), none, some (.dat (Iz (some 0) (some 4))), some (.own Bot 0 0)]) (k1 := 2) (k2 := 6) ?_ ?_
    · exact as_up (as_set (a := (Iz (some 2) (some 140000000000000000000000000000000))) (ae_2s (a := (Iz (some 2) (some 130000000000000000000000000000000))) (b := (Iz (some 0) (some 10000000000000000000000000000000))) (r := (Iz (some 2) (some 140000000000000000000000000000000))) (ae_val (ae_2s (a := (Iz (some 1) (some 10000000000000000000000000000000))) (b := (Iz (some 2) (some 13))) (r := (Iz (some 2) (some 130000000000000000000000000000000))) (ae_val (ae_var (a := (Iz (some 1) (some 10000000000000000000000000000000))) rfl)) (ae_val (ae_2s (a := (Iz (some 2) (some 2))) (b := (Iz (some 0) (some 11))) (r := (Iz (some 2) (some 13))) (ae_val (ae_c (iz_c 2))) (ae_val (ae_df (as := [(Iz (some 12) (some 12))]) (r := (Iz (some 0) (some 11))) (k1 := 1) (n := 2) (aa_cons (ae_box rfl) (aa_cons (ae_c (iz_c 12)) aa_nil)) (take_df (l := 12) (h := 12) (h' := 11) (by decide) (by decide) rfl))) (tr_add (l := (some 2)) (h := (some 13)) rfl rfl))) (tr_mulR (l := (some 2)) (h := (some 130000000000000000000000000000000)) (by decide) (by decide) (by decide) rfl rfl))) (ae_val (ae_df (as := [(Iz (some 2) (some 10000000000000000000000000000001))]) (r := (Iz (some 0) (some 10000000000000000000000000000000))) (k1 := 1) (n := 2) (aa_cons (ae_box rfl) (aa_cons (ae_2s (a := (Iz (some 1) (some 10000000000000000000000000000000))) (b := (Iz (some 1) (some 1))) (r := (Iz (some 2) (some 10000000000000000000000000000001))) (ae_val (ae_var (a := (Iz (some 1) (some 10000000000000000000000000000000))) rfl)) (ae_val (ae_c (iz_c 1))) (tr_add (l := (some 2)) (h := (some 10000000000000000000000000000001)) rfl rfl)) aa_nil)) (take_df (l := 2) (h := 10000000000000000000000000000001) (h' := 10000000000000000000000000000000) (by decide) (by decide) rfl))) (tr_add (l := (some 2)) (h := (some 140000000000000000000000000000000)) rfl rfl))) (by omega)
    · refine as_seq (A1 := [some .box, some (.dat (Iz (some 1) (some 10000000000000000000000000000000))), some (.dat (Iz (some 5) (some 5))), some (.dat (Iz none (some 140000000000000000000000000000000))), none, some (.dat (Iz (some 0) (some 4))), some (.own (Iz none (some 140000000000000000000000000000000)) 0 5)]) (k1 := 6) (k2 := 0) ?_ ?_
      · refine as_up (k := 1 + 5 * 1) (as_for (kb := 1) (lo := 0) (hi := 5) (I := fun j1 => [some .box, some (.dat (Iz (some 1) (some 10000000000000000000000000000000))), some (.dat (Iz (some 5) (some 5))), some (.dat (Iz none (some 140000000000000000000000000000000))), none, some (.dat (Iz (some 0) (some 4))), some (.own (Iz none (some 140000000000000000000000000000000)) 0 (0 + j1 * 1))]) (J := fun j1 => [some .box, some (.dat (Iz (some 1) (some 10000000000000000000000000000000))), some (.dat (Iz (some 5) (some 5))), some (.dat (Iz none (some 140000000000000000000000000000000))), some (.dat (Iz (some 0) (some 4))), some (.dat (Iz (some 0) (some 4))), some (.own (Iz none (some 140000000000000000000000000000000)) 0 (0 + j1 * 1))]) (A1 := [some .box, some (.dat (Iz (some 1) (some 10000000000000000000000000000000))), some (.dat (Iz (some 5) (some 5))), some (.dat (Iz none (some 140000000000000000000000000000000))), none, some (.dat (Iz (some 0) (some 4))), some (.own (Iz none (some 140000000000000000000000000000000)) 0 5)]) (it_up (it_range1 (l := 0) (h := 5) (ae_df (as := [(Iz (some 6) (some 6))]) (r := (Iz (some 0) (some 5))) (k1 := 1) (n := 2) (aa_cons (ae_box rfl) (aa_cons (ae_2s (a := (Iz (some 5) (some 5))) (b := (Iz (some 1) (some 1))) (r := (Iz (some 6) (some 6))) (ae_val (ae_var (a := (Iz (some 5) (some 5))) rfl)) (ae_val (ae_c (iz_c 1))) (tr_add (l := (some 6)) (h := (some 6)) rfl rfl)) aa_nil)) (take_df (l := 6) (h := 6) (h' := 5) (by decide) (by decide) rfl)) (by decide) (by decide) rfl rfl) (by omega)) (.cons awle_box (.cons (awle_dat self_le) (.cons (awle_dat self_le) (.cons (awle_dat (iz_le rfl rfl)) (.cons awle_none (.cons (awle_dat self_le) (.cons (awle_ow bot_le (by omega) (by omega)) .nil))))))) (fun j1 hj1 => ag_name) (fun j1 hj1 => ?_) (fun j1 _ hj1 => (.cons awle_box (.cons (awle_dat self_le) (.cons (awle_dat self_le) (.cons (awle_dat self_le) (.cons awle_none (.cons (awle_dat self_le) (.cons (awle_ow self_le (by omega) (by omega)) .nil))))))))) (by omega)
        show ASt _ [some .box, some (.dat (Iz (some 1) (some 10000000000000000000000000000000))), some (.dat (Iz (some 5) (some 5))), some (.dat (Iz none (some 140000000000000000000000000000000))), some (.dat (Iz (some 0) (some 4))), some (.dat (Iz (some 0) (some 4))), some (.own (Iz none (some 140000000000000000000000000000000)) 0 (0 + j1 * 1))] _ (some [some .box, some (.dat (Iz (some 1) (some 10000000000000000000000000000000))), some (.dat (Iz (some 5) (some 5))), some (.dat (Iz none (some 140000000000000000000000000000000))), none, some (.dat (Iz (some 0) (some 4))), some (.own (Iz none (some 140000000000000000000000000000000)) 0 (0 + (j1 + 1) * 1))]) _
        refine as_post (A1 := [some .box, some (.dat (Iz (some 1) (some 10000000000000000000000000000000))), some (.dat (Iz (some 5) (some 5))), some (.dat (Iz none (some 140000000000000000000000000000000))), some (.dat (Iz (some 0) (some 4))), some (.dat (Iz (some 0) (some 4))), some (.own (Iz none (some 140000000000000000000000000000000)) 1 (1 + j1 * 1))]) ?_ (.cons awle_box (.cons (awle_dat self_le) (.cons (awle_dat self_le) (.cons (awle_dat self_le) (.cons awle_none (.cons (awle_dat self_le) (.cons (awle_ow self_le (by omega) (by omega)) .nil)))))))
        refine as_if (q := anyB) (k := 0) (k1 := 1) (ab_up (ab_b (q := anyB) (ae_2 (a := (Iz (some 0) (some 4))) (b := (Iz (some 0) (some 0))) (r := Bl) (ae_val (ae_var (a := (Iz (some 0) (some 4))) rfl)) (ae_val (ae_c (iz_c 0))) (tr_eq sd_iz sd_iz (by decide) (by decide)))) (by omega)) (fun _ => ?_) (fun _ => ?_)
        · refine as_post (A1 := [some .box, some (.dat (Iz (some 1) (some 10000000000000000000000000000000))), some (.dat (Iz (some 5) (some 5))), some (.dat (Iz none (some 140000000000000000000000000000000))), some (.dat (Iz (some 0) (some 4))), some (.dat (Iz (some 0) (some 4))), some (.own (Iz none (some 140000000000000000000000000000000)) (0 + 1) ((0 + j1 * 1) + 1))]) ?_ (.cons awle_box (.cons (awle_dat self_le) (.cons (awle_dat self_le) (.cons (awle_dat self_le) (.cons (awle_dat self_le) (.cons (awle_dat self_le) (.cons (awle_ow self_le (by omega) (by omega)) .nil)))))))
          exact as_up (as_append (e' := (Iz none (some 140000000000000000000000000000000))) (e := (Iz none (some 140000000000000000000000000000000))) (lo := 0) (hi := (0 + j1 * 1)) (a := (Iz (some 1) (some 120000000000000000000000000000005))) rfl (ae_2s (a := (Iz (some 1) (some 1))) (b := (Iz (some 0) (some 120000000000000000000000000000004))) (r := (Iz (some 1) (some 120000000000000000000000000000005))) (ae_val (ae_c (iz_c 1))) (ae_val (ae_df (as := [(Iz (some 17) (some 120000000000000000000000000000005))]) (r := (Iz (some 0) (some 120000000000000000000000000000004))) (k1 := 1) (n := 2) (aa_cons (ae_box rfl) (aa_cons (ae_2s (a := (Iz (some 12) (some 120000000000000000000000000000000))) (b := (Iz (some 5) (some 5))) (r := (Iz (some 17) (some 120000000000000000000000000000005))) (ae_val (ae_2s (a := (Iz (some 12) (some 12))) (b := (Iz (some 1) (some 10000000000000000000000000000000))) (r := (Iz (some 12) (some 120000000000000000000000000000000))) (ae_val (ae_c (iz_c 12))) (ae_val (ae_var (a := (Iz (some 1) (some 10000000000000000000000000000000))) rfl)) (tr_mulL (l := (some 12)) (h := (some 120000000000000000000000000000000)) (by decide) (by decide) (by decide) rfl rfl))) (ae_val (ae_c (iz_c 5))) (tr_add (l := (some 17)) (h := (some 120000000000000000000000000000005)) rfl rfl)) aa_nil)) (take_df (l := 17) (h := 120000000000000000000000000000005) (h' := 120000000000000000000000000000004) (by decide) (by decide) rfl))) (tr_add (l := (some 1)) (h := (some 120000000000000000000000000000005)) rfl rfl)) self_le (iz_le rfl rfl) (by simp only [lim]; omega)) (by omega)
        · refine as_if (q := anyB) (k := 0) (k1 := 1) (ab_up (ab_b (q := anyB) (ae_2 (a := (Iz (some 0) (some 4))) (b := (Iz (some 1) (some 1))) (r := Bl) (ae_val (ae_var (a := (Iz (some 0) (some 4))) rfl)) (ae_val (ae_c (iz_c 1))) (tr_eq sd_iz sd_iz (by decide) (by decide)))) (by omega)) (fun _ => ?_) (fun _ => ?_)
          · refine as_post (A1 := [some .box, some (.dat (Iz (some 1) (some 10000000000000000000000000000000))), some (.dat (Iz (some 5) (some 5))), some (.dat (Iz none (some 139999999999999999999999999999999))), some (.dat (Iz (some 0) (some 4))), some (.dat (Iz (some 0) (some 4))), some (.own (Iz none (some 140000000000000000000000000000000)) 1 (1 + j1 * 1))]) ?_ (.cons awle_box (.cons (awle_dat self_le) (.cons (awle_dat self_le) (.cons (awle_dat (iz_le rfl rfl)) (.cons (awle_dat self_le) (.cons (awle_dat self_le) (.cons (awle_ow self_le (by omega) (by omega)) .nil)))))))
            refine as_seq (A1 := [some .box, some (.dat (Iz (some 1) (some 10000000000000000000000000000000))), some (.dat (Iz (some 5) (some 5))), some (.dat (Iz none (some 140000000000000000000000000000000))), some (.dat (Iz (some 0) (some 4))), some (.dat (Iz (some 0) (some 4))), some (.own (Iz none (some 140000000000000000000000000000000)) 1 (1 + j1 * 1))]) (k1 := 0) (k2 := 1) ?_ ?_
            · refine as_post (A1 := [some .box, some (.dat (Iz (some 1) (some 10000000000000000000000000000000))), some (.dat (Iz (some 5) (some 5))), some (.dat (Iz none (some 140000000000000000000000000000000))), some (.dat (Iz (some 0) (some 4))), some (.dat (Iz (some 0) (some 4))), some (.own (Iz none (some 140000000000000000000000000000000)) (0 + 1) ((0 + j1 * 1) + 1))]) ?_ (.cons awle_box (.cons (awle_dat self_le) (.cons (awle_dat self_le) (.cons (awle_dat self_le) (.cons (awle_dat self_le) (.cons (awle_dat self_le) (.cons (awle_ow self_le (by omega) (by omega)) .nil)))))))
              exact as_up (as_append (e' := (Iz none (some 140000000000000000000000000000000))) (e := (Iz none (some 140000000000000000000000000000000))) (lo := 0) (hi := (0 + j1 * 1)) (a := (Iz (some 1) (some 140000000000000000000000000000000))) rfl (ae_call (as := [(Iz (some 1) (some 1)), (Iz none (some 140000000000000000000000000000000))]) (r := (Iz (some 1) (some 140000000000000000000000000000000))) (aa_cons (ae_val (ae_c (iz_c 1))) (aa_cons (ae_val (ae_var (a := (Iz none (some 140000000000000000000000000000000))) rfl)) aa_nil)) (tr_max rfl rfl)) self_le (iz_le rfl rfl) (by simp only [lim]; omega)) (by omega)
            · exact as_up (as_set (a := (Iz none (some 139999999999999999999999999999999))) (ae_2 (a := (Iz none (some 139999999999999999999999999999999))) (b := (Iz (some 0) (some 10000000000000000000000000000001))) (r := (Iz none (some 139999999999999999999999999999999))) (ae_val (ae_2 (a := (Iz none (some 140000000000000000000000000000000))) (b := (Iz (some 1) (some 1))) (r := (Iz none (some 139999999999999999999999999999999))) (ae_val (ae_var (a := (Iz none (some 140000000000000000000000000000000))) rfl)) (ae_val (ae_c (iz_c 1))) (tr_sub (l := none) (h := (some 139999999999999999999999999999999)) rfl rfl))) (ae_val (ae_df (as := [(Iz (some 3) (some 10000000000000000000000000000002))]) (r := (Iz (some 0) (some 10000000000000000000000000000001))) (k1 := 1) (n := 2) (aa_cons (ae_box rfl) (aa_cons (ae_2s (a := (Iz (some 1) (some 10000000000000000000000000000000))) (b := (Iz (some 2) (some 2))) (r := (Iz (some 3) (some 10000000000000000000000000000002))) (ae_val (ae_var (a := (Iz (some 1) (some 10000000000000000000000000000000))) rfl)) (ae_val (ae_c (iz_c 2))) (tr_add (l := (some 3)) (h := (some 10000000000000000000000000000002)) rfl rfl)) aa_nil)) (take_df (l := 3) (h := 10000000000000000000000000000002) (h' := 10000000000000000000000000000001) (by decide) (by decide) rfl))) (tr_sub (l := none) (h := (some 139999999999999999999999999999999)) rfl rfl))) (by omega)
          · refine as_if (q := anyB) (k := 0) (k1 := 1) (ab_up (ab_b (q := anyB) (ae_2 (a := (Iz (some 0) (some 4))) (b := (Iz (some 2) (some 2))) (r := Bl) (ae_val (ae_var (a := (Iz (some 0) (some 4))) rfl)) (ae_val (ae_c (iz_c 2))) (tr_eq sd_iz sd_iz (by decide) (by decide)))) (by omega)) (fun _ => ?_) (fun _ => ?_)
            · refine as_post (A1 := [some .box, some (.dat (Iz (some 1) (some 10000000000000000000000000000000))), some (.dat (Iz (some 5) (some 5))), some (.dat (Iz none (some 139999999999999999999999999999999))), some (.dat (Iz (some 0) (some 4))), some (.dat (Iz (some 0) (some 4))), some (.own (Iz none (some 140000000000000000000000000000000)) 1 (1 + j1 * 1))]) ?_ (.cons awle_box (.cons (awle_dat self_le) (.cons (awle_dat self_le) (.cons (awle_dat (iz_le rfl rfl)) (.cons (awle_dat self_le) (.cons (awle_dat self_le) (.cons (awle_ow self_le (by omega) (by omega)) .nil)))))))
              refine as_seq (A1 := [some .box, some (.dat (Iz (some 1) (some 10000000000000000000000000000000))), some (.dat (Iz (some 5) (some 5))), some (.dat (Iz none (some 140000000000000000000000000000000))), some (.dat (Iz (some 0) (some 4))), some (.dat (Iz (some 0) (some 4))), some (.own (Iz none (some 140000000000000000000000000000000)) 1 (1 + j1 * 1))]) (k1 := 0) (k2 := 1) ?_ ?_
              · refine as_post (A1 := [some .box, some (.dat (Iz (some 1) (some 10000000000000000000000000000000))), some (.dat (Iz (some 5) (some 5))), some (.dat (Iz none (some 140000000000000000000000000000000))), some (.dat (Iz (some 0) (some 4))), some (.dat (Iz (some 0) (some 4))), some (.own (Iz none (some 140000000000000000000000000000000)) (0 + 1) ((0 + j1 * 1) + 1))]) ?_ (.cons awle_box (.cons (awle_dat self_le) (.cons (awle_dat self_le) (.cons (awle_dat self_le) (.cons (awle_dat self_le) (.cons (awle_dat self_le) (.cons (awle_ow self_le (by omega) (by omega)) .nil)))))))
                exact as_up (as_append (e' := (Iz none (some 140000000000000000000000000000000))) (e := (Iz none (some 140000000000000000000000000000000))) (lo := 0) (hi := (0 + j1 * 1)) (a := (Iz (some 1) (some 140000000000000000000000000000000))) rfl (ae_call (as := [(Iz (some 1) (some 1)), (Iz none (some 140000000000000000000000000000000))]) (r := (Iz (some 1) (some 140000000000000000000000000000000))) (aa_cons (ae_val (ae_c (iz_c 1))) (aa_cons (ae_val (ae_var (a := (Iz none (some 140000000000000000000000000000000))) rfl)) aa_nil)) (tr_max rfl rfl)) self_le (iz_le rfl rfl) (by simp only [lim]; omega)) (by omega)
              · exact as_up (as_set (a := (Iz none (some 139999999999999999999999999999999))) (ae_2 (a := (Iz none (some 139999999999999999999999999999999))) (b := (Iz (some 0) (some 20000000000000000000000000000002))) (r := (Iz none (some 139999999999999999999999999999999))) (ae_val (ae_2 (a := (Iz none (some 140000000000000000000000000000000))) (b := (Iz (some 1) (some 1))) (r := (Iz none (some 139999999999999999999999999999999))) (ae_val (ae_var (a := (Iz none (some 140000000000000000000000000000000))) rfl)) (ae_val (ae_c (iz_c 1))) (tr_sub (l := none) (h := (some 139999999999999999999999999999999)) rfl rfl))) (ae_val (ae_df (as := [(Iz (some 5) (some 20000000000000000000000000000003))]) (r := (Iz (some 0) (some 20000000000000000000000000000002))) (k1 := 1) (n := 2) (aa_cons (ae_box rfl) (aa_cons (ae_2s (a := (Iz (some 2) (some 20000000000000000000000000000000))) (b := (Iz (some 3) (some 3))) (r := (Iz (some 5) (some 20000000000000000000000000000003))) (ae_val (ae_2s (a := (Iz (some 2) (some 2))) (b := (Iz (some 1) (some 10000000000000000000000000000000))) (r := (Iz (some 2) (some 20000000000000000000000000000000))) (ae_val (ae_c (iz_c 2))) (ae_val (ae_var (a := (Iz (some 1) (some 10000000000000000000000000000000))) rfl)) (tr_mulL (l := (some 2)) (h := (some 20000000000000000000000000000000)) (by decide) (by decide) (by decide) rfl rfl))) (ae_val (ae_c (iz_c 3))) (tr_add (l := (some 5)) (h := (some 20000000000000000000000000000003)) rfl rfl)) aa_nil)) (take_df (l := 5) (h := 20000000000000000000000000000003) (h' := 20000000000000000000000000000002) (by decide) (by decide) rfl))) (tr_sub (l := none) (h := (some 139999999999999999999999999999999)) rfl rfl))) (by omega)
            · refine as_if (q := anyB) (k := 0) (k1 := 1) (ab_up (ab_b (q := anyB) (ae_2 (a := (Iz (some 0) (some 4))) (b := (Iz (some 3) (some 3))) (r := Bl) (ae_val (ae_var (a := (Iz (some 0) (some 4))) rfl)) (ae_val (ae_c (iz_c 3))) (tr_eq sd_iz sd_iz (by decide) (by decide)))) (by omega)) (fun _ => ?_) (fun _ => ?_)
              · refine as_post (A1 := [some .box, some (.dat (Iz (some 1) (some 10000000000000000000000000000000))), some (.dat (Iz (some 5) (some 5))), some (.dat (Iz none (some 140000000000000000000000000000000))), some (.dat (Iz (some 0) (some 4))), some (.dat (Iz (some 0) (some 4))), some (.own (Iz none (some 140000000000000000000000000000000)) (0 + 1) ((0 + j1 * 1) + 1))]) ?_ (.cons awle_box (.cons (awle_dat self_le) (.cons (awle_dat self_le) (.cons (awle_dat self_le) (.cons (awle_dat self_le) (.cons (awle_dat self_le) (.cons (awle_ow self_le (by omega) (by omega)) .nil)))))))
                exact as_up (as_append (e' := (Iz none (some 140000000000000000000000000000000))) (e := (Iz none (some 140000000000000000000000000000000))) (lo := 0) (hi := (0 + j1 * 1)) (a := (Iz (some 1) (some 140000000000000000000000000000000))) rfl (ae_call (as := [(Iz (some 1) (some 1)), (Iz none (some 140000000000000000000000000000000))]) (r := (Iz (some 1) (some 140000000000000000000000000000000))) (aa_cons (ae_val (ae_c (iz_c 1))) (aa_cons (ae_val (ae_2 (a := (Iz none (some 140000000000000000000000000000000))) (b := (Iz (some 0) (some 30000000000000000000000000000000))) (r := (Iz none (some 140000000000000000000000000000000))) (ae_val (ae_var (a := (Iz none (some 140000000000000000000000000000000))) rfl)) (ae_val (ae_df (as := [(Iz (some 4) (some 30000000000000000000000000000001))]) (r := (Iz (some 0) (some 30000000000000000000000000000000))) (k1 := 1) (n := 2) (aa_cons (ae_box rfl) (aa_cons (ae_2s (a := (Iz (some 3) (some 30000000000000000000000000000000))) (b := (Iz (some 1) (some 1))) (r := (Iz (some 4) (some 30000000000000000000000000000001))) (ae_val (ae_2s (a := (Iz (some 3) (some 3))) (b := (Iz (some 1) (some 10000000000000000000000000000000))) (r := (Iz (some 3) (some 30000000000000000000000000000000))) (ae_val (ae_c (iz_c 3))) (ae_val (ae_var (a := (Iz (some 1) (some 10000000000000000000000000000000))) rfl)) (tr_mulL (l := (some 3)) (h := (some 30000000000000000000000000000000)) (by decide) (by decide) (by decide) rfl rfl))) (ae_val (ae_c (iz_c 1))) (tr_add (l := (some 4)) (h := (some 30000000000000000000000000000001)) rfl rfl)) aa_nil)) (take_df (l := 4) (h := 30000000000000000000000000000001) (h' := 30000000000000000000000000000000) (by decide) (by decide) rfl))) (tr_sub (l := none) (h := (some 140000000000000000000000000000000)) rfl rfl))) aa_nil)) (tr_max rfl rfl)) self_le (iz_le rfl rfl) (by simp only [lim]; omega)) (by omega)
              · refine as_post (A1 := [some .box, some (.dat (Iz (some 1) (some 10000000000000000000000000000000))), some (.dat (Iz (some 5) (some 5))), some (.dat (Iz none (some 140000000000000000000000000000000))), some (.dat (Iz (some 0) (some 4))), some (.dat (Iz (some 0) (some 4))), some (.own (Iz none (some 140000000000000000000000000000000)) (0 + 1) ((0 + j1 * 1) + 1))]) ?_ (.cons awle_box (.cons (awle_dat self_le) (.cons (awle_dat self_le) (.cons (awle_dat self_le) (.cons (awle_dat self_le) (.cons (awle_dat self_le) (.cons (awle_ow self_le (by omega) (by omega)) .nil)))))))
                exact as_up (as_append (e' := (Iz none (some 140000000000000000000000000000000))) (e := (Iz none (some 140000000000000000000000000000000))) (lo := 0) (hi := (0 + j1 * 1)) (a := (Iz none (some 140000000000000000000000000000000))) rfl (ae_df (as := [(Ls (Iz none (some 140000000000000000000000000000000)) 4 4)]) (r := (Iz none (some 140000000000000000000000000000000))) (k1 := 1) (n := 2) (aa_cons (ae_box rfl) (aa_cons (ae_le (ae_lst (as := [(Iz none (some 140000000000000000000000000000000)), (Iz (some 1) (some 139999999999999999999999999999999)), (Iz (some 1) (some 139999999999999999999999999999998)), (Iz (some 2) (some 20000000000000000000000000000000))]) (aa_cons (ae_var (a := (Iz none (some 140000000000000000000000000000000))) rfl) (aa_cons (ae_call (as := [(Iz (some 1) (some 1)), (Iz none (some 139999999999999999999999999999999))]) (r := (Iz (some 1) (some 139999999999999999999999999999999))) (aa_cons (ae_val (ae_c (iz_c 1))) (aa_cons (ae_val (ae_2 (a := (Iz none (some 140000000000000000000000000000000))) (b := (Iz (some 1) (some 10000000000000000000000000000000))) (r := (Iz none (some 139999999999999999999999999999999))) (ae_val (ae_var (a := (Iz none (some 140000000000000000000000000000000))) rfl)) (ae_val (ae_var (a := (Iz (some 1) (some 10000000000000000000000000000000))) rfl)) (tr_sub (l := none) (h := (some 139999999999999999999999999999999)) rfl rfl))) aa_nil)) (tr_max rfl rfl)) (aa_cons (ae_call (as := [(Iz (some 1) (some 1)), (Iz none (some 139999999999999999999999999999998))]) (r := (Iz (some 1) (some 139999999999999999999999999999998))) (aa_cons (ae_val (ae_c (iz_c 1))) (aa_cons (ae_val (ae_2 (a := (Iz none (some 139999999999999999999999999999999))) (b := (Iz (some 1) (some 1))) (r := (Iz none (some 139999999999999999999999999999998))) (ae_val (ae_2 (a := (Iz none (some 140000000000000000000000000000000))) (b := (Iz (some 1) (some 10000000000000000000000000000000))) (r := (Iz none (some 139999999999999999999999999999999))) (ae_val (ae_var (a := (Iz none (some 140000000000000000000000000000000))) rfl)) (ae_val (ae_var (a := (Iz (some 1) (some 10000000000000000000000000000000))) rfl)) (tr_sub (l := none) (h := (some 139999999999999999999999999999999)) rfl rfl))) (ae_val (ae_c (iz_c 1))) (tr_sub (l := none) (h := (some 139999999999999999999999999999998)) rfl rfl))) aa_nil)) (tr_max rfl rfl)) (aa_cons (ae_2s (a := (Iz (some 2) (some 2))) (b := (Iz (some 1) (some 10000000000000000000000000000000))) (r := (Iz (some 2) (some 20000000000000000000000000000000))) (ae_val (ae_c (iz_c 2))) (ae_val (ae_var (a := (Iz (some 1) (some 10000000000000000000000000000000))) rfl)) (tr_mulL (l := (some 2)) (h := (some 20000000000000000000000000000000)) (by decide) (by decide) (by decide) rfl rfl)) aa_nil)))) (by decide)) (lsof_ls (mem1 self_le (mem1 (iz_le rfl rfl) (mem1 (iz_le rfl rfl) (mem1 (iz_le rfl rfl) mem0)))) (by simp only [List.length]; omega) (by simp only [List.length]; omega))) aa_nil)) (of_df (by decide) (by decide))) self_le self_le (by simp only [lim]; omega)) (by omega)
      · exact as_up (as_ret (ae_lev (b := (Tp (Iz none (some 140000000000000000000000000000000)) 0 5)) (ae_val (ae_call (as := [(Ls (Iz none (some 140000000000000000000000000000000)) 0 5)]) (r := (Tp (Iz none (some 140000000000000000000000000000000)) 0 5)) (aa_cons (ae_own (a := (Ls (Iz none (some 140000000000000000000000000000000)) 0 5)) (e := (Iz none (some 140000000000000000000000000000000))) (lo := 0) (hi := 5) rfl (fun xs h => ⟨xs, rfl, h⟩)) aa_nil) tr_tupL)) self_le) rfl) (by omega)
end My

set_option Elab.async false
set_option linter.all false
set_option maxRecDepth 100000
set_option maxHeartbeats 4000000
namespace My
open PySem PySem.Spec PyProof.Rows L2 Cm
theorem told_spec {S : Sto} {n : Nat} {ls : List PyData} (h : S[n + 1]? = some (some ls)) : f_Line_m_told [.o 190 n] S = some (.d (.tuple ls), S) := by
  simp [f_Line_m_told, fPin, pinU, f0_Line_m_told, defS_ap, b_Line_m_told, cOwn, h, rd, outU]
end My

set_option Elab.async false
set_option linter.all false
set_option maxRecDepth 100000
set_option maxHeartbeats 4000000
namespace My
open PySem PySem.Spec PyProof.Rows L2 Cm
theorem put_spec {S : Sto} {n : Nat} {ls es : List PyData} {z : PyData} (h : S[n + 1]? = some (some ls)) (h2 : S[n + 2]? = some (some es)) (hl : ls.length ≤ 1000) (hl2 : es.length ≤ 1000) : f_Line_m_put [.o 190 n, .d (.int 0), .d z] S = some (.d .none, (S.set (n + 2) (some (es ++ [.tuple ls]))).set (n + 1) (some (z :: ls))) := by
  have l1 : es.length ≤ 999999 := by omega
  have l3 : es.length < 1000000 := by omega
  have l4 : ls.length < 1000000 := by omega
  have l2 : ls.length ≤ 999999 := by omega
  have h4 : ∀ x, (S.set (n + 2) x)[n + 1]? = some (some ls) := fun x => by rw [List.getElem?_set_ne (by omega)]; exact h
  simp [f_Line_m_put, fPin, pinU, f0_Line_m_put, defS_ap, b_Line_m_put, cOwn, h, h2, h4, rd, outU, mIns, l1, l2, l3, l4]
  rw [List.take_of_length_le (by simp)]
theorem len_spec {S : Sto} {n : Nat} {ls : List PyData} (h : S[n + 1]? = some (some ls)) : f_Line_m_len [.o 190 n] S = some (.d (.int ls.length), S) := by
  simp [f_Line_m_len, fPin, pinU, f0_Line_m_len, defS_ap, b_Line_m_len, cOwn, h, rd, outU]
end My

set_option Elab.async false
set_option linter.all false
set_option maxRecDepth 100000
set_option maxHeartbeats 4000000
namespace My
open PySem PySem.Spec PyProof.Rows L2 Cm
theorem eqv_ints : ∀ xs ys : List Int, PyData.eqv (.tuple (iL xs)) (.tuple (iL ys)) = decide (xs = ys)
  | [], [] => rfl
  | [], y :: ys => rfl
  | x :: xs, [] => rfl
  | x :: xs, y :: ys => by
    have e1 : PyData.eqv (.tuple (iL (x :: xs))) (.tuple (iL (y :: ys))) = (x == y && PyData.eqv (.tuple (iL xs)) (.tuple (iL ys))) := rfl
    rw [e1, eqv_ints xs ys]
    by_cases c1 : x = y
    · by_cases c2 : xs = ys
      · simp [c1, c2]
      · simp [c1, c2]
    · simp [c1]
theorem fEq_intsT (xs ys : List Int) : fEq (.tuple (iL xs)) (.tuple (iL ys)) = some (.bool (decide (xs = ys))) := by
  unfold fEq
  rw [shp_shaped (shp_ints (.inl rfl)) (by omega), shp_shaped (shp_ints (.inl rfl)) (by omega), eqv_ints]
  rfl
theorem fEq_intsL (xs ys : List Int) : fEq (.list (iL xs)) (.list (iL ys)) = some (.bool (decide (xs = ys))) := by
  unfold fEq
  rw [shp_shaped (shp_ints (.inr rfl)) (by omega), shp_shaped (shp_ints (.inr rfl)) (by omega)]
  have e : PyData.eqv (.list (iL xs)) (.list (iL ys)) = PyData.eqv (.tuple (iL xs)) (.tuple (iL ys)) := rfl
  rw [e, eqv_ints]
  rfl
theorem fNe_intsT (xs ys : List Int) : fNe (.tuple (iL xs)) (.tuple (iL ys)) = some (.bool (!decide (xs = ys))) := by
  unfold fNe
  rw [shp_shaped (shp_ints (.inl rfl)) (by omega), shp_shaped (shp_ints (.inl rfl)) (by omega), eqv_ints]
  rfl
theorem eq_spec {S : Sto} {n m : Nat} {a b : List Int} (h : S[n + 1]? = some (some (iL a))) (h2 : S[m + 1]? = some (some (iL b))) : f_Line_m_eq [.o 190 n, .o 190 m] S = some (.d (.bool (decide (a = b))), S) := by
  have e := fEq_intsL a b
  simp only [iL] at h h2 e
  simp [f_Line_m_eq, fPin, pinU, f0_Line_m_eq, defS_ap, b_Line_m_eq, cOwn, cIsiO, isOb, h, h2, e, rd, outU]
end My

set_option Elab.async false
set_option linter.all false
set_option maxRecDepth 100000
set_option maxHeartbeats 4000000
namespace My
open PySem PySem.Spec PyProof.Rows L2 Cm
def TupOk (d : Nat) (x y : PyData) : Prop := ∀ st : Sto, f_tupled d [.d x] st = some (.d y, st)
theorem tup_int (d : Nat) (i : Int) : TupOk (d + 1) (.int i) (.int i) := by
  unfold TupOk
  apply pure_lift
  intro st
  simp [f_tupled, defS_ap, b_tupled, known, isaT]
theorem tup_seq (d : Nat) {x : PyData} {xs : List PyData} (f : PyData → PyData) (hx : Sq x xs) (h : ∀ y ∈ xs, TupOk d y (f y)) (hl : xs.length ≤ 1000) : TupOk (d + 1) x (.tuple (xs.map f)) := by
  unfold TupOk
  apply pure_lift
  intro st
  have lc := lcL_pure (g := gN 1) (tt := bYes) (te := cDef 1 (f_tupled d) (cCons (cVar 1) cNil)) (ev := [some (.d x), none]) (fun _ => true) f (ex st []) xs [] (by
    intro z hz acc
    refine ⟨_, rfl, rfl, fun _ => ?_⟩
    simp [h z hz _]) (by simp; omega)
  rw [List.nil_append, filter_yes] at lc
  rcases hx with rfl | rfl <;> simp -implicitDefEqProofs [f_tupled, defS_ap, b_tupled, known, isaT, lc]
theorem tup_ints {d : Nat} {x : PyData} {ns : List Int} (hx : Sq x (iL ns)) (hl : ns.length ≤ 1000) : TupOk (d + 2) x (.tuple (iL ns)) := by
  have := tup_seq (d + 1) (fun y => y) hx (fun y hy => by
    obtain ⟨i, _, rfl⟩ := List.mem_map.mp hy
    exact tup_int d i) (by simpa using hl)
  rw [List.map_id'] at this
  exact this
theorem tup_pairs {d : Nat} {x : PyData} {ps : List (Int × Int)} (hx : Sq x (ps.map Cm.pairD)) (hl : ps.length ≤ 1000) : TupOk (d + 3) x (.tuple (ps.map Cm.pairD)) := by
  have := tup_seq (d + 2) (fun y => y) hx (fun y hy => by
    obtain ⟨p, _, rfl⟩ := List.mem_map.mp hy
    exact tup_ints (d := d) (x := Cm.pairD p) (ns := [p.1, p.2]) (.inl rfl) (by simp)) (by simpa using hl)
  rw [List.map_id'] at this
  exact this
theorem make_spec {S : Sto} {x : PyData} {a : List Int} (hx : Sq x (iL a)) (hl : a.length ≤ 1000) : f_Line_m_init [.d x] S = some (S ++ [none, some (iL a), some []]) := by
  have t := tup_ints (d := 14) hx hl S
  simp only [iL] at t
  have l1 : a.length ≤ 1000000 := by omega
  simp [f_Line_m_init, iniL, e_Line_m_init, t, l1]
end My

set_option Elab.async false
set_option linter.all false
set_option maxRecDepth 100000
set_option maxHeartbeats 4000000
namespace My
open PySem PySem.Spec PyProof.Rows L2 Cm
theorem add_spec {S : Sto} {n m : Nat} {a b : List Int} (h : S[n + 1]? = some (some (iL a))) (h2 : S[m + 1]? = some (some (iL b))) (ha : a.length ≤ 400) (hb : b.length ≤ 400) : f_Line_m_add [.o 190 n, .o 190 m] S = some (.o 190 S.length, S ++ [none, some (iL (a ++ b)), some []]) := by
  have mk := make_spec (S := S) (x := .list (iL (a ++ b))) (a := a ++ b) (.inr rfl) (by simp; omega)
  have l1 : a.length + b.length ≤ 1000000 := by omega
  simp only [iL, List.map_append] at h h2 mk ⊢
  have al : allD (a.map (U.d ∘ PyData.int) ++ b.map (U.d ∘ PyData.int)) = some (a.map PyData.int ++ b.map PyData.int) := by
    have := allD_map (a.map PyData.int ++ b.map PyData.int)
    simpa using this
  have lv : leave S.length (.o cLine S.length) (S ++ [none, some (a.map PyData.int ++ b.map PyData.int), some []]) = some (.o cLine S.length, S ++ [none, some (a.map PyData.int ++ b.map PyData.int), some []]) := by
    obtain ⟨_, q1, q2⟩ := at3 S none (some (a.map PyData.int ++ b.map PyData.int)) (some [])
    simp only [leave, if_neg (Nat.lt_irrefl _), q1, q2]
    simp
  simp [al, lv, f_Line_m_add, fPin, pinU, f0_Line_m_add, defS_ap, b_Line_m_add, cOwn, cMakeL, h, h2, mk, rd, outU, l1]
end My

set_option Elab.async false
set_option linter.all false
set_option maxRecDepth 100000
set_option maxHeartbeats 4000000
namespace My
open PySem PySem.Spec PyProof.Rows L2 Cm
theorem iadd_spec {S : Sto} {n m : Nat} {a b : List Int} {es : List PyData} (h : S[n + 1]? = some (some (iL a))) (h3 : S[n + 2]? = some (some es)) (h2 : S[m + 1]? = some (some (iL b))) (ha : a.length ≤ 400) (hb : b.length ≤ 400) (he : es.length ≤ 400) :
    f_Line_m_iadd [.o 190 n, .o 190 m] S = some (.o 190 n, (S.set (n + 2) (some (es ++ [.tuple (iL a)]))).set (n + 1) (some (iL (a ++ b)))) := by
  have l1 : a.length + b.length ≤ 1000000 := by omega
  have l2 : es.length ≤ 999999 := by omega
  have l3 : es.length < 1000000 := by omega
  have n1 : n + 1 < S.length := (List.getElem?_eq_some_iff.mp h).1
  have n2 : n + 2 < S.length := (List.getElem?_eq_some_iff.mp h3).1
  simp only [iL] at h h2 ⊢
  have al : allD (a.map (U.d ∘ PyData.int) ++ b.map (U.d ∘ PyData.int)) = some (a.map PyData.int ++ b.map PyData.int) := by
    have := allD_map (a.map PyData.int ++ b.map PyData.int)
    simpa using this
  have g1 : ∀ x, (S ++ [x])[n + 1]? = some (some (a.map PyData.int)) := fun x => by rw [List.getElem?_append_left n1]; exact h
  have g2 : ∀ x, (S ++ [x])[n + 2]? = some (some es) := fun x => by rw [List.getElem?_append_left n2]; exact h3
  have g4 : ∀ x y, ((S ++ [x]).set (n + 2) y)[S.length]? = some x := fun x y => by rw [List.getElem?_set_ne (by omega)]; simp
  have g5 : ∀ x y, ((S ++ [x]).set (n + 2) y).take S.length = S.set (n + 2) y := fun x y => by rw [List.set_append_left _ _ n2]; simp
  have nl : ¬ S.length ≤ n := by omega
  have ne : ¬ n + 2 = S.length := by omega
  simp [f_Line_m_iadd, fRe, pinU, b_Line_m_iadd, e_Line_m_iadd, cOwn, h, h2, h3, rd, al, l1, l2, l3, g1, g2, g4, g5, isP, nl, List.getElem_set, ne]
end My

set_option Elab.async false
set_option linter.all false
set_option maxRecDepth 100000
set_option maxHeartbeats 4000000
namespace My
open PySem PySem.Spec PyProof.Rows L2 Cm
theorem back_spec {S : Sto} {n : Nat} {ls : List PyData} {es : List PyData} {a : List Int} (h : S[n + 1]? = some (some ls)) (h3 : S[n + 2]? = some (some (es ++ [.tuple (iL a)]))) (ha : a.length ≤ 400) (he : es.length ≤ 400) :
    fx_Line_m_back [.o 190 n] S = some (.d .none, (S.set (n + 2) (some es)).set (n + 1) (some (iL a))) := by
  have l1 : a.length ≤ 1000000 := by omega
  have n1 : n + 1 < S.length := (List.getElem?_eq_some_iff.mp h).1
  have n2 : n + 2 < S.length := (List.getElem?_eq_some_iff.mp h3).1
  have nl : ¬ S.length ≤ n := by omega
  have l2 : es.length ≤ 1000000 := by omega
  have g1 : ∀ y, (S.set (n + 2) (some es) ++ [y])[S.length]? = some y := fun y => by rw [List.getElem?_append_right (by simp)]; simp
  have g2 : ∀ y, (S.set (n + 2) (some es) ++ [y]).take S.length = S.set (n + 2) (some es) := fun y => by rw [List.take_append_of_le_length (by simp), List.take_of_length_le (by simp)]
  have e0 : ¬ ((es.length : Int) + 1 = 0) := by omega
  simp [fx_Line_m_back, fReX, pinU, bx_Line_m_back, ex_Line_m_back, cOwn, h, h3, rd, l1, isP, nl, mPop, e0, l2, g1, g2]
end My

set_option Elab.async false
set_option linter.all false
set_option maxRecDepth 100000
set_option maxHeartbeats 4000000
namespace My
open PySem PySem.Spec PyProof.Rows L2 Cm
theorem back_none {S : Sto} {n : Nat} {ls : List PyData} (h : S[n + 1]? = some (some ls)) (h3 : S[n + 2]? = some (some [])) : fx_Line_m_back [.o 190 n] S = some (.d (exM .none), S) := by
  simp [fx_Line_m_back, fReX, pinU, bx_Line_m_back, cOwn, h, h3, rd, cRaise, exP, exM]
theorem gone_none {S : Sto} {n : Nat} {ls : List PyData} (h : S[n + 1]? = some (some ls)) (h3 : S[n + 2]? = some (some [])) : f__law_gone_back [.o 190 n] S = some (.d (.bool false), S) := by
  have e := back_none h h3
  simp [f__law_gone_back, defS_ap, b__law_gone_back, cTryM, isOb, e, exP, exM]
theorem gone_spec {S : Sto} {n : Nat} {ls : List PyData} {es : List PyData} {a : List Int} (h : S[n + 1]? = some (some ls)) (h3 : S[n + 2]? = some (some (es ++ [.tuple (iL a)]))) (ha : a.length ≤ 400) (he : es.length ≤ 400) :
    f__law_gone_back [.o 190 n] S = some (.d (.bool true), (S.set (n + 2) (some es)).set (n + 1) (some (iL a))) := by
  have e := back_spec h h3 ha he
  simp [f__law_gone_back, defS_ap, b__law_gone_back, cTryM, isOb, e, exP]
  rw [List.take_of_length_le (by simp)]
end My

set_option Elab.async false
set_option linter.all false
set_option maxRecDepth 100000
set_option maxHeartbeats 4000000
namespace My
open PySem PySem.Spec PyProof.Rows L2 Cm
theorem at_ap {α : Type} (S l : List α) (k : Nat) : (S ++ l)[S.length + k]? = l[k]? := by
  rw [List.getElem?_append_right (by omega)]
  congr 1
  omega
theorem set_ap {α : Type} (S l : List α) (k : Nat) (x : α) : (S ++ l).set (S.length + k) x = S ++ l.set k x := by
  rw [List.set_append_right _ _ (by omega)]
  congr 2
  omega
theorem take_ap {α : Type} (S l : List α) : (S ++ l).take S.length = S := by simp
theorem ints_of {lo hi : Option Int} : ∀ {xs : List PyData}, (∀ x ∈ xs, Iz lo hi x) → ∃ a : List Int, xs = iL a
  | [], _ => ⟨[], rfl⟩
  | x :: xs, h => by
    obtain ⟨i, rfl, _⟩ := h x List.mem_cons_self
    obtain ⟨a, rfl⟩ := ints_of fun y hy => h y (List.mem_cons_of_mem _ hy)
    exact ⟨i :: a, rfl⟩
theorem same3 {a b c : List Int} (ha : a.length ≤ 100) (hb : b.length ≤ 100) (hc : c.length ≤ 100) (S : Sto) : f__law_same 16 [.d (.list [.tuple (iL a), .tuple (iL b), .tuple (iL c)]), .d (.list [.tuple (iL a), .tuple (iL b), .tuple (iL c)])] S = some (.d (.bool true), S) :=
  same_seq 15 (.inr rfl) (fun y hy => by
    simp only [List.mem_cons, List.not_mem_nil, or_false] at hy
    rcases hy with rfl | rfl | rfl
    · exact same_ints (d := 13) (.inl rfl) (by omega)
    · exact same_ints (d := 13) (.inl rfl) (by omega)
    · exact same_ints (d := 13) (.inl rfl) (by omega)) (by simp) S
theorem right_at (a b : List Int) (la : a.length ≤ 5) (lb : b.length ≤ 5) (l : Int) (j : Nat) (st S0 S1 S2 : Sto) (S : Sto) (e1 : f__law_least [.l j] S0 = some (.d (.int l), S1))
    (e2 : f__law_row [.l j, .d (.int l), .d (.int 5)] S1 = some (.d (.tuple (iL a)), S2)) (e3 : f__law_row [.l j, .d (.int l), .d (.int 5)] S2 = some (.d (.tuple (iL b)), S)) (hS : S.length = S0.length) :
    f__law_right [.l j] S0 = some (.d (.bool true), S) := by
  have m1 := make_spec (S := S) (x := .tuple (iL a)) (a := a) (.inl rfl) (by omega)
  have m2 := make_spec (S := S ++ [none, some (iL a), some []]) (x := .list (iL b)) (a := b) (.inr rfl) (by omega)
  have ad := add_spec (S := S ++ [none, some (iL a), some [], none, some (iL b), some []]) (n := S.length) (m := S.length + 3) (a := a) (b := b) (by rw [at_ap]; rfl) (by rw [Nat.add_assoc, at_ap]; rfl) (by omega) (by omega)
  have sm := same3 (a := a ++ b) (b := a) (c := b) (by simp; omega) (by omega) (by omega)
  have t0 : ∀ (n : Nat) (l : Sto) (ls : List PyData), l[n + 1]? = some (some ls) → f_Line_m_told [.o 190 (S.length + n)] (S ++ l) = some (.d (.tuple ls), S ++ l) := fun n l ls h => told_spec (by rw [Nat.add_assoc, at_ap]; exact h)
  have n0 : ∀ (n : Nat) (l : Sto) (ls : List PyData), l[n + 1]? = some (some ls) → l[n + 2]? = some (some []) → f__law_gone_back [.o 190 (S.length + n)] (S ++ l) = some (.d (.bool false), S ++ l) := fun n l ls h h2 => gone_none (by rw [Nat.add_assoc, at_ap]; exact h) (by rw [Nat.add_assoc, at_ap]; exact h2)
  have l0 : ∀ (n : Nat) (l : Sto) (ls : List PyData), l[n + 1]? = some (some ls) → f_Line_m_len [.o 190 (S.length + n)] (S ++ l) = some (.d (.int ls.length), S ++ l) := fun n l ls h => len_spec (by rw [Nat.add_assoc, at_ap]; exact h)
  have ga : ∀ (n : Nat) (l : Sto) x, l[n]? = some x → (S ++ l)[S.length + n]? = some x := fun n l x h => by rw [at_ap]; exact h
  have m1' : f_Line_m_init [.d (.tuple (iL a))] S = some (S ++ [none, some (iL a), some []]) := m1
  have m2' : f_Line_m_init [.d (.list (iL b))] (S ++ [none, some (iL a), some []]) = some (S ++ [none, some (iL a), some [], none, some (iL b), some []]) := by rw [m2]; simp
  have ad' : f_Line_m_add [.o 190 S.length, .o 190 (S.length + 3)] (S ++ [none, some (iL a), some [], none, some (iL b), some []]) = some (.o 190 (S.length + 6), S ++ [none, some (iL a), some [], none, some (iL b), some [], none, some (iL (a ++ b)), some []]) := by rw [ad]; simp
  have q1 := t0 6 [none, some (iL a), some [], none, some (iL b), some [], none, some (iL (a ++ b)), some []] _ rfl
  have q2 := t0 0 [none, some (iL a), some [], none, some (iL b), some [], none, some (iL (a ++ b)), some []] _ rfl
  have q3 := t0 3 [none, some (iL a), some [], none, some (iL b), some [], none, some (iL (a ++ b)), some []] _ rfl
  have q4 := n0 6 [none, some (iL a), some [], none, some (iL b), some [], none, some (iL (a ++ b)), some []] _ rfl rfl
  have m3 := make_spec (S := S ++ [none, some (iL a), some [], none, some (iL b), some [], none, some (iL (a ++ b)), some []]) (x := .tuple (iL (a ++ b))) (a := a ++ b) (.inl rfl) (by simp; omega)
  have m3' : f_Line_m_init [.d (.tuple (iL (a ++ b)))] (S ++ [none, some (iL a), some [], none, some (iL b), some [], none, some (iL (a ++ b)), some []]) = some (S ++ [none, some (iL a), some [], none, some (iL b), some [], none, some (iL (a ++ b)), some [], none, some (iL (a ++ b)), some []]) := by rw [m3]; simp
  have q5 := eq_spec (S := S ++ [none, some (iL a), some [], none, some (iL b), some [], none, some (iL (a ++ b)), some [], none, some (iL (a ++ b)), some []]) (n := S.length + 6) (m := S.length + 9) (a := a ++ b) (b := a ++ b) (ga 7 _ _ rfl) (ga 10 _ _ rfl)
  rw [decide_eq_true rfl] at q5
  have q6 := l0 6 [none, some (iL a), some [], none, some (iL b), some [], none, some (iL (a ++ b)), some [], none, some (iL (a ++ b)), some []] _ rfl
  have q7 := l0 0 [none, some (iL a), some [], none, some (iL b), some [], none, some (iL (a ++ b)), some [], none, some (iL (a ++ b)), some []] _ rfl
  have q8 := l0 3 [none, some (iL a), some [], none, some (iL b), some [], none, some (iL (a ++ b)), some [], none, some (iL (a ++ b)), some []] _ rfl
  have q9 : f_Line_m_put [.o 190 (S.length + 6), .d (.int 0), .d (.int 7)] (S ++ [none, some (iL a), some [], none, some (iL b), some [], none, some (iL (a ++ b)), some [], none, some (iL (a ++ b)), some []]) = some (.d .none, S ++ [none, some (iL a), some [], none, some (iL b), some [], none, some (.int 7 :: iL (a ++ b)), some [.tuple (iL (a ++ b))], none, some (iL (a ++ b)), some []]) := by
    rw [put_spec (ga 7 _ _ rfl) (ga 8 _ _ rfl) (by simp; omega) (by simp), Nat.add_assoc, Nat.add_assoc, set_ap, set_ap]
    rfl
  have p1 := t0 0 [none, some (iL a), some [], none, some (iL b), some [], none, some (.int 7 :: iL (a ++ b)), some [.tuple (iL (a ++ b))], none, some (iL (a ++ b)), some []] _ rfl
  have p2 := t0 3 [none, some (iL a), some [], none, some (iL b), some [], none, some (.int 7 :: iL (a ++ b)), some [.tuple (iL (a ++ b))], none, some (iL (a ++ b)), some []] _ rfl
  have p3 : f_Line_m_iadd [.o 190 S.length, .o 190 (S.length + 3)] (S ++ [none, some (iL a), some [], none, some (iL b), some [], none, some (.int 7 :: iL (a ++ b)), some [.tuple (iL (a ++ b))], none, some (iL (a ++ b)), some []]) = some (.o 190 S.length, S ++ [none, some (iL (a ++ b)), some [.tuple (iL a)], none, some (iL b), some [], none, some (.int 7 :: iL (a ++ b)), some [.tuple (iL (a ++ b))], none, some (iL (a ++ b)), some []]) := by
    rw [iadd_spec (ga 1 _ _ rfl) (ga 2 _ _ rfl) (ga 4 _ _ rfl) (by omega) (by omega) (by simp), set_ap, set_ap]
    rfl
  have p4 := t0 0 [none, some (iL (a ++ b)), some [.tuple (iL a)], none, some (iL b), some [], none, some (.int 7 :: iL (a ++ b)), some [.tuple (iL (a ++ b))], none, some (iL (a ++ b)), some []] _ rfl
  have p5 := t0 3 [none, some (iL (a ++ b)), some [.tuple (iL a)], none, some (iL b), some [], none, some (.int 7 :: iL (a ++ b)), some [.tuple (iL (a ++ b))], none, some (iL (a ++ b)), some []] _ rfl
  have p6 : f_Line_m_put [.o 190 (S.length + 3), .d (.int 0), .d (.int 7)] (S ++ [none, some (iL (a ++ b)), some [.tuple (iL a)], none, some (iL b), some [], none, some (.int 7 :: iL (a ++ b)), some [.tuple (iL (a ++ b))], none, some (iL (a ++ b)), some []]) = some (.d .none, S ++ [none, some (iL (a ++ b)), some [.tuple (iL a)], none, some (.int 7 :: iL b), some [.tuple (iL b)], none, some (.int 7 :: iL (a ++ b)), some [.tuple (iL (a ++ b))], none, some (iL (a ++ b)), some []]) := by
    rw [put_spec (ga 4 _ _ rfl) (ga 5 _ _ rfl) (by simp; omega) (by simp), Nat.add_assoc, Nat.add_assoc, set_ap, set_ap]
    rfl
  have p7 := t0 0 [none, some (iL (a ++ b)), some [.tuple (iL a)], none, some (.int 7 :: iL b), some [.tuple (iL b)], none, some (.int 7 :: iL (a ++ b)), some [.tuple (iL (a ++ b))], none, some (iL (a ++ b)), some []] _ rfl
  have p8 : f__law_gone_back [.o 190 S.length] (S ++ [none, some (iL (a ++ b)), some [.tuple (iL a)], none, some (.int 7 :: iL b), some [.tuple (iL b)], none, some (.int 7 :: iL (a ++ b)), some [.tuple (iL (a ++ b))], none, some (iL (a ++ b)), some []]) = some (.d (.bool true), S ++ [none, some (iL a), some [], none, some (.int 7 :: iL b), some [.tuple (iL b)], none, some (.int 7 :: iL (a ++ b)), some [.tuple (iL (a ++ b))], none, some (iL (a ++ b)), some []]) := by
    rw [gone_spec (es := []) (ga 1 _ _ rfl) (ga 2 _ _ rfl) (by omega) (by simp), set_ap, set_ap]
    rfl
  have p9 := t0 0 [none, some (iL a), some [], none, some (.int 7 :: iL b), some [.tuple (iL b)], none, some (.int 7 :: iL (a ++ b)), some [.tuple (iL (a ++ b))], none, some (iL (a ++ b)), some []] _ rfl
  have p10 := n0 0 [none, some (iL a), some [], none, some (.int 7 :: iL b), some [.tuple (iL b)], none, some (.int 7 :: iL (a ++ b)), some [.tuple (iL (a ++ b))], none, some (iL (a ++ b)), some []] _ rfl rfl
  simp only [Nat.add_zero] at q2 q7 p1 p4 p7 p9 p10
  have fa : fAdd (.tuple (iL a)) (.tuple (iL b)) = some (.tuple (iL (a ++ b))) := by
    have l1 : a.length + b.length ≤ 1000000 := by omega
    simp [fAdd, l1]
  have fl : fList [.tuple (iL b)] = some (.list (iL b)) := by
    have l1 : b.length ≤ 1000000 := by omega
    simp [fList, l1]
  have fea := fEq_intsT a a
  have fna := fNe_intsT a a
  have fnb := fNe_intsT b b
  have fnc := fNe_intsT (a ++ b) (a ++ b)
  rw [decide_eq_true rfl] at fea fna fnb fnc
  have lz : (List.map PyData.int (a ++ b)).length = (a ++ b).length := by simp
  clear m1 m2 m3 ad
  have hn : (a ++ b).length = a.length + b.length := by simp
  generalize a ++ b = ab at *
  have c1 : (0 : Int) ≤ (a.length : Int) + (b.length : Int) ∧ (a.length : Int) + (b.length : Int) < 9223372036854775808 := ⟨by omega, by omega⟩
  have c2 : (a.length : Int) < 9223372036854775808 := by omega
  have c3 : (b.length : Int) < 9223372036854775808 := by omega
  simp -implicitDefEqProofs [f__law_right, defS_ap, b__law_right, e1, e2, e3, cMakeL, cBin, isOb, cAugO, cLenO, m1', m2', ad', sm, q1, q2, q3, q4, m3', q5, q6, q7, q8, q9, p1, p2, p3, p4, p5, p6, p7, p8, p9, p10, fa, fl, fea, fna, fnb, fnc, hn, c1, c2, c3]
  rw [← hS, take_ap]
theorem right_spec {m : Nat} {B : Bx} (h : BxOk m B) (hm : m < 100000000000) : Dr f__law_right [] m 10000 B (· = .bool true) := by
  obtain ⟨_, B1, ⟨l, rfl, l0, l1⟩, g1, e1⟩ := ai_law_least_0 [] m B .nil h (by simp only [Mx]; omega)
  simp only [LoB, HiB] at l0 l1
  obtain ⟨_, B2, ⟨xs, rfl, _, c1, c2⟩, g2, e2⟩ := ai_law_row_0 [.int l, .int 5] (m + 3) B1 (.cons ⟨l, rfl, by simp only [LoB]; omega, by simp only [HiB]; omega⟩ (.cons ⟨5, rfl, by simp [LoB], by simp [HiB]⟩ .nil)) g1 (by simp only [Mx]; omega)
  obtain ⟨_, B3, ⟨ys, rfl, _, d1, d2⟩, g3, e3⟩ := ai_law_row_0 [.int l, .int 5] (m + 3 + 9) B2 (.cons ⟨l, rfl, by simp only [LoB]; omega, by simp only [HiB]; omega⟩ (.cons ⟨5, rfl, by simp [LoB], by simp [HiB]⟩ .nil)) g2 (by simp only [Mx]; omega)
  obtain ⟨a, rfl⟩ := ints_of c2
  obtain ⟨b, rfl⟩ := ints_of d2
  refine ⟨.bool true, B3, rfl, bx_up g3 (by omega) (by omega), fun st L j hj => ?_⟩
  exact right_at a b (by simpa using c1) (by simpa using d1) l j st _ _ _ _ (e1 st L j hj) (e2 st L j hj) (e3 st L j hj) (by simp [ex])
end My

set_option Elab.async false
set_option linter.all false
set_option maxRecDepth 100000
set_option maxHeartbeats 4000000
namespace My
open PySem PySem.Spec PyProof.Rows L2 Cm
theorem turns {m : Nat} {B : Bx} (h : BxOk m B) (hm : m < 1000000) (ns cs : List Int) (t2 : Option U) : ∃ B', ∀ Z : Sto, lcL (gN 4) bYes (cDef 1 f__law_right (cCons (cVar 3) cNil)) [some (.s ns), some (.d (.list (iL cs))), t2, some (.l Z.length), none] (rangeD 0 4) (ex Z [some (lay B)]) [] = some (trues 4, ex Z [some (lay B')]) := by
  obtain ⟨B3, acc, ⟨h3, k, rfl, hk⟩, e3⟩ := lcL_abs (T := Sto) (S := Bx) (g := gN 4) (te := cDef 1 f__law_right (cCons (cVar 3) cNil))
    (fun _ => True) (fun Z => [some (.s ns), some (.d (.list (iL cs))), t2, some (.l Z.length), none]) (fun Z s => ex Z [some (lay s)]) (by intro θ s s'; simp)
    (fun rest s acc => BxOk (m + 10000 * (4 - rest.length)) s ∧ ∃ k, acc = trues k ∧ k + rest.length = 4) (by
      rintro x xs C acc ⟨hC, k, rfl, hk⟩
      simp only [List.length_cons] at hC hk
      obtain ⟨y, C2, rfl, g2, f2⟩ := right_spec hC (by omega)
      refine ⟨.bool true, C2, ⟨bx_up g2 (by omega) (by omega), k + 1, trues_snoc k, by omega⟩, by simp [trues]; omega, ?_⟩
      intro Z _
      refine ⟨_, rfl, ?_⟩
      have f3 : f__law_right [.l Z.length] (ex Z [some (lay C), some (trues k)]) = some (.d (.bool true), ex Z [some (lay C2), some (trues k)]) := by
        have := f2 (Z ++ [none]) [some (trues k)] Z.length (by simp)
        simpa [ex, List.set_append] using this
      simp -implicitDefEqProofs [f3])
    (rangeD 0 4) B [] ⟨bx_up h (by omega) (by omega), 0, rfl, by simp⟩
  simp at hk
  subst hk
  exact ⟨B3, fun Z => e3 Z trivial⟩
theorem law_true : ∀ ns : List Int, ns.length ≤ 63 → (∀ z ∈ ns, Builtin.Int.intBits z ≤ 1048576) → ∃ st, f_law [.s ns] [] = some (.d (.bool true), st) := by
  intro ns _ _
  obtain ⟨cs, c1, c2, ec⟩ := cells_spec ns 3 (by omega) (by omega) []
  rw [← ex_nil] at ec
  obtain ⟨ev', st', e, t2, t3, hev, _⟩ := forL_ind (g := (gN 2)) (b := (cSeq (cSet 3 (cDef 2 f__law_box (cCons (cVar 1) (cCons (cVar 2) cNil)))) (cIfS (bNot (cTr (cCall fAll (cCons (cLc (iRange1 (cCons (cD (.int 4)) cNil)) (gN 4) bYes (cDef 1 f__law_right (cCons (cVar 3) cNil)) [4]) cNil)))) (cRet (cD (.bool false))) cSkip)))
    (fun rest ev st => ∃ t2 t3, ev = [some (.s ns), some (.d (.list (iL cs))), t2, t3, none] ∧ ∀ y ∈ rest, ∃ k : Nat, k < cs.length ∧ y = .int (k : Nat)) (by
      rintro x xs ev st ⟨t2, t3, rfl, hr⟩
      obtain ⟨k, hk, rfl⟩ := hr x List.mem_cons_self
      obtain ⟨B, hB, eb⟩ := box_spec cs k hk (by omega) st
      rw [← ex_nil] at eb
      obtain ⟨B', et⟩ := turns hB (by omega) ns cs (some (.d (.int (k : Nat))))
      replace et := et st
      have ta := trues_all 4
      have bg : big 4 = true := big_of (by omega) (by omega)
      refine ⟨_, [some (.s ns), some (.d (.list (iL cs))), some (.d (.int (k : Nat))), some (.l st.length), none], ex st [some (lay B')], rfl, ?_, _, _, rfl, fun y hy => hr y (List.mem_cons_of_mem _ hy)⟩
      simp -implicitDefEqProofs [eb, bg, et, ta])
    (rangeD 0 cs.length) [some (.s ns), some (.d (.list (iL cs))), none, none, none] [] ⟨none, none, rfl, fun y hy => by
      obtain ⟨k, hk, rfl⟩ := rangeD_mem.mp hy
      exact ⟨k, hk, by rw [Int.zero_add]⟩⟩
  have bg : big (cs.length : Int) = true := big_of (by omega) (by omega)
  simp at ec
  refine ⟨[], ?_⟩
  simp -implicitDefEqProofs [f_law, defS_ap, b_law, hand_spec', ec, bg, e]
end My

open PySem PySem.W PySem.Calls PyProof.Rows
set_option maxHeartbeats 0 in
theorem PySem.Challenge.cw_cutsmaller_k06_lines_added_holds : PySem.Challenge.rw_cutsmaller_k06_lines_added.Holds := by
  w_on; o_law
  refine HandSHeadRun.head_any (r := OpenLaw.row PySem.Challenge.rw_cutsmaller_k06_lines_added) (q := view (OpenLaw.row PySem.Challenge.rw_cutsmaller_k06_lines_added).prog [21]) (H := My.hk) (ob := My.ob) (M := 4000) (loose := My.loose) (d := HandSHeadRun.topDef (OpenLaw.row PySem.Challenge.rw_cutsmaller_k06_lines_added).prog 21) (kwd := []) My.ob_eq
    (by kernel_rfl) (fun s => by kernel_rfl) My.run (by kernel_rfl) (by kernel_rfl) (by kernel_rfl) (by rfl) (by first | assumption | decide +kernel) (by decide +kernel) ⟨rfl, rfl, rfl, rfl, rfl, by decide +kernel⟩ ?hw ?hc
  case hw => w_witness2
  case hc =>
    refine Cm.walk_cm (l := PySem.Challenge.rw_cutsmaller_k06_lines_added) (n := 63) (k := 22) (x := "_law_script") (g := My.f_law) rfl (by decide) (by kernel_rfl) ⟨rfl, by decide, by decide⟩ ?F My.law_true
    intro w mg fa h Y G hmg0
    obtain ⟨K, KX, c⟩ := Y
    have hmg : mg ("law" : PySem.Str) = some (.ref fa) := by
      have e : (HandSHeadRun.topDef (OpenLaw.row PySem.Challenge.rw_cutsmaller_k06_lines_added).prog 21).name = ("law" : PySem.Str) := by kernel_rfl
      rw [← e]
      exact hmg0
    obtain ⟨fd, hb, hF⟩ := My.facts (P := (PySem.Challenge.rw_cutsmaller_k06_lines_added).prog) (w := w) KX G hmg c ⟨by kernel_rfl, by kernel_rfl⟩
    exact ⟨K, fd, KX, hb, hF⟩
