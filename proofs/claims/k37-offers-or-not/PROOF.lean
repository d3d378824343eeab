import PyProof.Rows.All
import Wide.All
import OpenK.AllK
import Wide.FinOn
import HandS.ForMost
import HandS.Walk
import HandS.Wide
import HandS.Flow
import HandS.Star
import HandS.Zip
import HandS.IsInst
import HandS.Deep
import HandS.SortInts
import HandS.SortKw
import HandS.TupAny
import HandS.Defaults
import KE.GoesMore
import HandS.More
import HandS.TupMul
import HandS.Style
import KE.DataMinMax
import HandS.HeadEnd
import HandS.EndBits
import HandS.RevTup
import HandS.Strs
import HandS.SetFor
import HandS.Conv
import PyProof.ReprRoads
import PyProof.Rows.NestShow
import PyProof.Rows.IntBool
import PyProof.LongRange
import HandS.Flt
import PyProof.ListRange
import PyProof.Rows.FloatCmp
import HandS.Dict
import KE.KStateDown
import HandS.Head0
import HandS.Head1
import HandS.Head2
import HandS.HeadHook1
import HandS.HeadHook2
import PySem.Challenge.RW_cutsmaller_k37_offers_or_not
import PyProof.ReprLen
import PyProof.FitsInt
set_option Elab.async false
set_option linter.all false
set_option maxRecDepth 100000
/-! Cm: a small semantics of plain data (Option), sound over the hand layer -/
namespace Cm
open PySem PySem.Spec PyProof.Rows L2

/-! ### values: data, a list of the store that may change, the script -/
inductive U where
  | d (x : PyData)
  | l (n : Nat)
  | s (ns : List Int)
  | k (kd : List (Int × PyData))
abbrev Sto := List (Option (List PyData))
abbrev Ev := List (Option U)
abbrev SE := Ev → Sto → Option (U × Sto)
abbrev SA := Ev → Sto → Option (List U × Sto)
abbrev SB := Ev → Sto → Option (Bool × Sto)

mutual
inductive Dq (F : Hp) : V → PyData → Prop
  | non : Dq F .non .none
  | bl (b : Bool) : Dq F (.bl b) (.bool b)
  | int (i : Int) : Dq F (.int i) (.int i)
  | str (x : Str) : Dq F (.str x) (.str x)
  | lst {a : Addr} {xs : List V} {ds : List PyData} : F a = some (.lst xs) → DqA F xs ds → Dq F (.ref a) (.list ds)
  | tup {a : Addr} {xs : List V} {ds : List PyData} : F a = some (.tup xs) → DqA F xs ds → Dq F (.ref a) (.tuple ds)
inductive DqA (F : Hp) : List V → List PyData → Prop
  | nil : DqA F [] []
  | cons {v : V} {vs : List V} {d : PyData} {ds : List PyData} : Dq F v d → DqA F vs ds → DqA F (v :: vs) (d :: ds)
end

section
variable {F F' H : Hp} {K : PySem.W.Frag}
mutual
theorem Dq.mono (e : Same F F') : ∀ {v : V} {d : PyData}, Dq F v d → Dq F' v d
  | _, _, .non => .non
  | _, _, .bl b => .bl b
  | _, _, .int i => .int i
  | _, _, .str x => .str x
  | _, _, .lst h a => .lst (e _ _ h) (DqA.mono e a)
  | _, _, .tup h a => .tup (e _ _ h) (DqA.mono e a)
theorem DqA.mono (e : Same F F') : ∀ {vs : List V} {ds : List PyData}, DqA F vs ds → DqA F' vs ds
  | _, _, .nil => .nil
  | _, _, .cons h t => .cons (Dq.mono e h) (DqA.mono e t)
end
mutual
theorem Dq.dp : ∀ {v : V} {d : PyData}, Dq F v d → Dp K F v d
  | _, _, .non => .non
  | _, _, .bl b => .bl b
  | _, _, .int i => .int i
  | _, _, .str x => .str x
  | _, _, .lst h a => .lst (SqL.of h) (DqA.dp a)
  | _, _, .tup h a => .tup (SqT.of h) (DqA.dp a)
theorem DqA.dp : ∀ {vs : List V} {ds : List PyData}, DqA F vs ds → DpAll K F vs ds
  | _, _, .nil => .nil
  | _, _, .cons h t => .cons (Dq.dp h) (DqA.dp t)
end
theorem DqA.length : ∀ {vs : List V} {ds : List PyData}, DqA F vs ds → vs.length = ds.length
  | _, _, .nil => rfl
  | _, _, .cons _ t => by simp [DqA.length t]
theorem DqA.append : ∀ {vs ws : List V} {ds es : List PyData}, DqA F vs ds → DqA F ws es → DqA F (vs ++ ws) (ds ++ es)
  | _, _, _, _, .nil, h => h
  | _, _, _, _, .cons a t, h => .cons a (DqA.append t h)
theorem DqA.get : ∀ {vs : List V} {ds : List PyData} {i : Nat} {v : V}, DqA F vs ds → vs[i]? = some v → ∃ d, ds[i]? = some d ∧ Dq F v d
  | _, _, _, _, .nil, e => by simp at e
  | _, _, 0, _, .cons a _, e => by
    simp only [List.getElem?_cons_zero, Option.some.injEq] at e
    subst e
    exact ⟨_, rfl, a⟩
  | _, _, i + 1, _, .cons _ t, e => by
    rw [List.getElem?_cons_succ] at e ⊢
    exact DqA.get t e
theorem DqA.get' : ∀ {vs : List V} {ds : List PyData} {i : Nat} {d : PyData}, DqA F vs ds → ds[i]? = some d → ∃ v, vs[i]? = some v ∧ Dq F v d
  | _, _, _, _, .nil, e => by simp at e
  | _, _, 0, _, .cons a _, e => by
    simp only [List.getElem?_cons_zero, Option.some.injEq] at e
    subst e
    exact ⟨_, rfl, a⟩
  | _, _, i + 1, _, .cons _ t, e => by
    rw [List.getElem?_cons_succ] at e ⊢
    exact DqA.get' t e
theorem DqA.take : ∀ {vs : List V} {ds : List PyData} (n : Nat), DqA F vs ds → DqA F (vs.take n) (ds.take n)
  | _, _, 0, _ => .nil
  | _, _, _ + 1, .nil => .nil
  | _, _, n + 1, .cons a t => .cons a (DqA.take n t)
theorem DqA.drop : ∀ {vs : List V} {ds : List PyData} (n : Nat), DqA F vs ds → DqA F (vs.drop n) (ds.drop n)
  | _, _, 0, h => h
  | _, _, _ + 1, .nil => .nil
  | _, _, n + 1, .cons _ t => DqA.drop n t
theorem DqA.set {v : V} {d : PyData} (h : Dq F v d) : ∀ {vs : List V} {ds : List PyData} (n : Nat), DqA F vs ds → DqA F (vs.set n v) (ds.set n d)
  | _, _, _, .nil => .nil
  | _, _, 0, .cons _ t => .cons h t
  | _, _, n + 1, .cons a t => .cons a (DqA.set h n t)
theorem DqA.reverse : ∀ {vs : List V} {ds : List PyData}, DqA F vs ds → DqA F vs.reverse ds.reverse
  | _, _, .nil => .nil
  | _, _, .cons a t => by
    simp only [List.reverse_cons]
    exact (DqA.reverse t).append (.cons a .nil)
theorem DqA.eraseIdx : ∀ {vs : List V} {ds : List PyData} (n : Nat), DqA F vs ds → DqA F (vs.eraseIdx n) (ds.eraseIdx n)
  | _, _, _, .nil => .nil
  | _, _, 0, .cons _ t => t
  | _, _, n + 1, .cons a t => .cons a (DqA.eraseIdx n t)
theorem DqA.dropLast : ∀ {vs : List V} {ds : List PyData}, DqA F vs ds → DqA F vs.dropLast ds.dropLast
  | _, _, .nil => .nil
  | _, _, .cons _ .nil => .nil
  | _, _, .cons a (.cons b t) => .cons a (DqA.dropLast (.cons b t))
theorem DqA.rep {vs : List V} {ds : List PyData} (h : DqA F vs ds) : ∀ n : Nat, DqA F (List.replicate n vs).flatten (List.replicate n ds).flatten
  | 0 => .nil
  | n + 1 => by
    simp only [List.replicate_succ, List.flatten_cons]
    exact h.append (DqA.rep h n)
theorem DqA.ints : ∀ {ns : List Int}, DqA F (ns.map V.int) (ns.map PyData.int)
  | [] => .nil
  | n :: ns => .cons (.int n) DqA.ints
theorem DqA.of_ints : ∀ {ns : List Int} {vs : List V}, DqA F vs (ns.map PyData.int) → vs = ns.map V.int
  | [], _, .nil => rfl
  | n :: ns, _, .cons (.int _) t => by simp [DqA.of_ints t]
theorem DqA.of_bools : ∀ {bs : List Bool} {vs : List V}, DqA F vs (bs.map PyData.bool) → vs = bs.map V.bl
  | [], _, .nil => rfl
  | b :: bs, _, .cons (.bl _) t => by simp [DqA.of_bools t]
theorem DqA.of_strs : ∀ {bs : List Str} {vs : List V}, DqA F vs (bs.map PyData.str) → vs = bs.map V.str
  | [], _, .nil => rfl
  | b :: bs, _, .cons (.str _) t => by simp [DqA.of_strs t]
end

/-! ### a dict with ints for keys, read alone -/
inductive KR (F : Hp) : List (Key × V) → List (Int × PyData) → Prop
  | nil : KR F [] []
  | cons {i : Int} {v : V} {d : PyData} {ks : List (Key × V)} {kd : List (Int × PyData)} : Dq F v d → KR F ks kd → KR F ((.inl i, v) :: ks) ((i, d) :: kd)
theorem KR.mono {F F' : Hp} (e : Same F F') : ∀ {ks : List (Key × V)} {kd : List (Int × PyData)}, KR F ks kd → KR F' ks kd
  | _, _, .nil => .nil
  | _, _, .cons h t => .cons (h.mono e) (KR.mono e t)
/-! ### a heap that grew by new frozen things alone -/
structure Grow (F H F' H' : Hp) : Prop where
  ff : Same F F'
  hh : Same H H'
  fh : Same F' H'
  fr : ∀ a o, H a = some o → F a = none → F' a = none
theorem Grow.refl {F H : Hp} (h : Same F H) : Grow F H F H := ⟨Same.refl _, Same.refl _, h, fun _ _ _ n => n⟩
theorem Grow.trans {F H F1 H1 F2 H2 : Hp} (a : Grow F H F1 H1) (b : Grow F1 H1 F2 H2) : Grow F H F2 H2 :=
  ⟨a.ff.trans b.ff, a.hh.trans b.hh, b.fh, fun c o e n => b.fr c o (a.hh _ _ e) (a.fr c o e n)⟩
theorem same_upd {H : Hp} {p : Addr} {o : HO} (h : H p = none) : Same H (upd H p o) := fun b x e => by
  rw [upd_ne (ne_of_none e h)]
  exact e
theorem upd_mono {F H : Hp} {p : Addr} {o : HO} (h : Same F H) : Same (upd F p o) (upd H p o) := fun b x e => by
  by_cases hb : b = p
  · subst hb
    rw [upd_same] at e ⊢
    exact e
  · rw [upd_ne hb] at e ⊢
    exact h _ _ e
theorem Grow.new {F H : Hp} {p : Addr} {o : HO} (h : Same F H) (n : H p = none) : Grow F H (upd F p o) (upd H p o) := by
  have nf : F p = none := h.free n
  refine ⟨same_upd nf, same_upd n, upd_mono h, fun a u e nn => ?_⟩
  rw [upd_ne (ne_of_none e n)]
  exact nn

/-! ### the store -/
structure HR (ρ : List Addr) (F H : Hp) (st : Sto) : Prop where
  sub : Same F H
  cell : ∀ (n : Nat) (xs : List PyData), st[n]? = some (some xs) → ∃ a vs, ρ[n]? = some a ∧ H a = some (.lst vs) ∧ F a = none ∧ DqA F vs xs
  inj : ∀ (n m : Nat) (a : Addr), ρ[n]? = some a → ρ[m]? = some a → (∃ xs, st[n]? = some (some xs)) → (∃ xs, st[m]? = some (some xs)) → n = m
  len : ρ.length = st.length
theorem HR.grow {ρ : List Addr} {F H F' H' : Hp} {st : Sto} (h : HR ρ F H st) (g : Grow F H F' H') : HR ρ F' H' st :=
  ⟨g.fh, fun n xs e => let ⟨a, vs, e1, e2, e3, e4⟩ := h.cell n xs e; ⟨a, vs, e1, g.hh _ _ e2, g.fr _ _ e2 e3, e4.mono g.ff⟩, h.inj, h.len⟩

structure Ext (ρ : List Addr) (F : Hp) (ρ' : List Addr) (F' : Hp) : Prop where
  pre : ∀ (n : Nat) (a : Addr), ρ[n]? = some a → ρ'[n]? = some a
  same : Same F F'
theorem Ext.refl (ρ : List Addr) (F : Hp) : Ext ρ F ρ F := ⟨fun _ _ h => h, Same.refl _⟩
theorem Ext.trans {ρ ρ1 ρ2 : List Addr} {F F1 F2 : Hp} (a : Ext ρ F ρ1 F1) (b : Ext ρ1 F1 ρ2 F2) : Ext ρ F ρ2 F2 := ⟨fun n x h => b.pre n x (a.pre n x h), a.same.trans b.same⟩
theorem Ext.of {ρ : List Addr} {F H F' H' : Hp} (g : Grow F H F' H') : Ext ρ F ρ F' := ⟨fun _ _ h => h, g.ff⟩

def WR (K : PySem.W.Frag) (ρ : List Addr) (F : Hp) (v : V) : U → Prop
  | .d x => Dq F v x
  | .l n => ∃ a, ρ[n]? = some a ∧ v = .ref a
  | .s ns => ∃ a, v = .ref a ∧ SqL K F a (ns.map V.int)
  | .k kd => ∃ a ks, v = .ref a ∧ F a = some (.dK ks) ∧ KR F ks kd
theorem WR.mono {K : PySem.W.Frag} {ρ ρ' : List Addr} {F F' : Hp} {v : V} (e : Ext ρ F ρ' F') : ∀ {w : U}, WR K ρ F v w → WR K ρ' F' v w
  | .d _, h => Dq.mono e.same h
  | .l _, ⟨a, h1, h2⟩ => ⟨a, e.pre _ _ h1, h2⟩
  | .s _, ⟨a, h1, h2⟩ => ⟨a, h1, e.same.seq h2⟩
  | .k _, ⟨a, ks, h1, h2, h3⟩ => ⟨a, ks, h1, e.same _ _ h2, h3.mono e.same⟩
inductive WRs (K : PySem.W.Frag) (ρ : List Addr) (F : Hp) : List V → List U → Prop
  | nil : WRs K ρ F [] []
  | cons {v : V} {w : U} {vs : List V} {ws : List U} : WR K ρ F v w → WRs K ρ F vs ws → WRs K ρ F (v :: vs) (w :: ws)
theorem WRs.mono {K : PySem.W.Frag} {ρ ρ' : List Addr} {F F' : Hp} (e : Ext ρ F ρ' F') : ∀ {vs : List V} {ws : List U}, WRs K ρ F vs ws → WRs K ρ' F' vs ws
  | _, _, .nil => .nil
  | _, _, .cons h t => .cons (h.mono e) (WRs.mono e t)
theorem WRs.length {K : PySem.W.Frag} {ρ : List Addr} {F : Hp} : ∀ {vs : List V} {ws : List U}, WRs K ρ F vs ws → vs.length = ws.length
  | _, _, .nil => rfl
  | _, _, .cons _ t => by simp [WRs.length t]
theorem WRs.append {K : PySem.W.Frag} {ρ : List Addr} {F : Hp} : ∀ {vs vs' : List V} {ws ws' : List U}, WRs K ρ F vs ws → WRs K ρ F vs' ws' → WRs K ρ F (vs ++ vs') (ws ++ ws')
  | _, _, _, _, .nil, h => h
  | _, _, _, _, .cons a t, h => .cons a (WRs.append t h)

/-- the slots -/
structure SR (K : PySem.W.Frag) (ρ : List Addr) (F : Hp) (ev : Ev) (σ : L2.St) : Prop where
  len : ev.length = σ.length
  get : ∀ (i : Nat) (w : U), ev[i]? = some (some w) → ∃ v, σ[i]? = some (some v) ∧ WR K ρ F v w
theorem SR.mono {K : PySem.W.Frag} {ρ ρ' : List Addr} {F F' : Hp} {ev : Ev} {σ : L2.St} (h : SR K ρ F ev σ) (e : Ext ρ F ρ' F') : SR K ρ' F' ev σ :=
  ⟨h.len, fun i w q => let ⟨v, h1, h2⟩ := h.get i w q; ⟨v, h1, h2.mono e⟩⟩
theorem SR.set {K : PySem.W.Frag} {ρ : List Addr} {F : Hp} {ev : Ev} {σ : L2.St} {v : V} {w : U} (h : SR K ρ F ev σ) (r : WR K ρ F v w) (i : Nat) : SR K ρ F (ev.set i (some w)) (σ.set i (some v)) := by
  refine ⟨by simp [h.len], fun j u q => ?_⟩
  rw [List.getElem?_set] at q ⊢
  by_cases hj : i = j
  · subst hj
    simp only [if_true] at q ⊢
    by_cases hl : i < ev.length
    · rw [if_pos hl] at q
      cases q
      rw [if_pos (by rw [← h.len]; exact hl)]
      exact ⟨v, rfl, r⟩
    · rw [if_neg hl] at q
      cases q
  · simp only [if_neg hj] at q ⊢
    exact h.get j u q
/-- forgotten slots -/
def wipeE (ev : Ev) : List Nat → Ev
  | [] => ev
  | v :: vs => (wipeE ev vs).set v none
theorem SR.none {K : PySem.W.Frag} {ρ : List Addr} {F : Hp} {ev : Ev} {σ : L2.St} (h : SR K ρ F ev σ) (i : Nat) (x : Option V) : SR K ρ F (ev.set i Option.none) (σ.set i x) := by
  refine ⟨by simp [h.len], fun j u q => ?_⟩
  rw [List.getElem?_set] at q ⊢
  by_cases hj : i = j
  · subst hj
    simp only [if_true] at q
    split at q <;> cases q
  · simp only [if_neg hj] at q ⊢
    exact h.get j u q
theorem SR.wipe {K : PySem.W.Frag} {ρ : List Addr} {F : Hp} {ev : Ev} {σ : L2.St} (h : SR K ρ F ev σ) : ∀ vs : List Nat, SR K ρ F (wipeE ev vs) (L2.wipe σ vs)
  | [] => h
  | v :: vs => (SR.wipe h vs).none v Option.none

/-! ### what an expression, a test, an argument list computes -/
def Post (K : PySem.W.Frag) (ρ : List Addr) (F : Hp) (w : U) (st' : Sto) (Q : VK) : Prop :=
  ∀ v ρ' F' H', Ext ρ F ρ' F' → HR ρ' F' H' st' → WR K ρ' F' v w → Q v H'
def tI (K : PySem.W.Frag) (c : SE) : TE := fun σ H Q => ∃ ρ F ev st w st', HR ρ F H st ∧ SR K ρ F ev σ ∧ c ev st = some (w, st') ∧ Post K ρ F w st' Q
def tT (K : PySem.W.Frag) (c : SB) : TT := fun σ H Q => ∃ ρ F ev st b st', HR ρ F H st ∧ SR K ρ F ev σ ∧ c ev st = some (b, st') ∧ ∀ ρ' F' H', Ext ρ F ρ' F' → HR ρ' F' H' st' → Q b H'
def tA (K : PySem.W.Frag) (c : SA) : TA := fun σ H Q => ∃ ρ F ev st ws st', HR ρ F H st ∧ SR K ρ F ev σ ∧ c ev st = some (ws, st') ∧ ∀ vs ρ' F' H', Ext ρ F ρ' F' → HR ρ' F' H' st' → WRs K ρ' F' vs ws → Q vs H'
end Cm
namespace L2
theorem PE.weak {X : Cx} {e : PySem.Expr} {t u : TE} (h : PE X e t) (w : ∀ σ H Q, u σ H Q → t σ H Q) : PE X e u := ⟨fun pins s σ H Q I q => h.run pins s σ H Q I (w σ H Q q)⟩
theorem PT.weak {X : Cx} {e : PySem.Expr} {t u : TT} (h : PT X e t) (w : ∀ σ H Q, u σ H Q → t σ H Q) : PT X e u := ⟨fun pins s σ H Q I q => h.run pins s σ H Q I (w σ H Q q)⟩
theorem PW.weak {X : Cx} {e : PySem.Expr} {t u : TT} (h : PW X e t) (w : ∀ σ H Q, u σ H Q → t σ H Q) : PW X e u := ⟨fun wh pins s σ H Q I q => h.run wh pins s σ H Q I (w σ H Q q)⟩
theorem PTs.weak {X : Cx} {e : List PySem.Expr} {t u : TT} (h : PTs X e t) (w : ∀ σ H Q, u σ H Q → t σ H Q) : PTs X e u := ⟨fun pins s σ H Q I q => h.run pins s σ H Q I (w σ H Q q)⟩
theorem PA.weak {X : Cx} {e : List PySem.Expr} {t u : TA} (h : PA X e t) (w : ∀ σ H Q, u σ H Q → t σ H Q) : PA X e u := ⟨fun pos pins s σ H Q I q => h.run pos pins s σ H Q I (w σ H Q q)⟩
theorem PS.weak {X : Cx} {e : PySem.Stmt} {t u : TS} (h : PS X e t) (w : ∀ D σ H, u D σ H → t D σ H) : PS X e u := ⟨fun pins s σ H D I q => h.run pins s σ H D I (w D σ H q)⟩
theorem PSs.weak {X : Cx} {e : List PySem.Stmt} {t u : TS} (h : PSs X e t) (w : ∀ D σ H, u D σ H → t D σ H) : PSs X e u := ⟨fun pins s σ H D I q => h.run pins s σ H D I (w D σ H q)⟩
theorem PI.weak {X : Cx} {tg e : PySem.Expr} {t u : TI} (h : PI X tg e t) (w : ∀ σ H R, u σ H R → t σ H R) : PI X tg e u := ⟨fun pins s σ H R I q => h.run pins s σ H R I (w σ H R q)⟩
theorem PG.weak {X : Cx} {tg : PySem.Expr} {t u : TG} (h : PG X tg t) (w : ∀ v σ H Q, u v σ H Q → t v σ H Q) : PG X tg u := ⟨fun pins s σ H v x Q I r q => h.run pins s σ H v x Q I r (w v σ H Q q)⟩
end L2

set_option Elab.async false
set_option linter.all false
set_option maxRecDepth 100000
namespace Cm
open PySem PySem.Spec PyProof.Rows L2

/-! ### reading a value of the store -/
def rd (st : Sto) : U → Option PyData
  | .d x => some x
  | .l n => match st[n]? with
    | some (some xs) => some (.list xs)
    | _ => none
  | .s ns => some (.list (ns.map .int))
  | .k _ => none
def rdS (st : Sto) : U → Option PyData
  | .d x => some x
  | .l n => match st[n]? with
    | some (some xs) => some (.list xs)
    | _ => none
  | .s _ => none
  | .k _ => none
def rdAll (st : Sto) : List U → Option (List PyData)
  | [] => some []
  | w :: ws => (rd st w).bind fun x => (rdAll st ws).map fun xs => x :: xs
def allD : List U → Option (List PyData)
  | [] => some []
  | .d x :: ws => (allD ws).map fun xs => x :: xs
  | _ :: _ => none
@[simp] theorem rd_d (st : Sto) (x : PyData) : rd st (.d x) = some x := rfl
@[simp] theorem rdS_d (st : Sto) (x : PyData) : rdS st (.d x) = some x := rfl
def Rds (F H : Hp) (v : V) (x : PyData) : Prop := Dq F v x ∨ ∃ a vs xs, v = .ref a ∧ x = .list xs ∧ H a = some (.lst vs) ∧ DqA F vs xs
def Rdd (K : PySem.W.Frag) (F H : Hp) (v : V) (x : PyData) : Prop := Dq F v x ∨ ∃ a vs xs, v = .ref a ∧ x = .list xs ∧ SqL K H a vs ∧ DqA F vs xs
section
variable {K : PySem.W.Frag} {ρ : List Addr} {F H : Hp} {st : Sto} {v : V} {w : U} {x : PyData}
theorem rd_ok (h : HR ρ F H st) (r : WR K ρ F v w) (e : rd st w = some x) : Rdd K F H v x := by
  cases w with
  | d y =>
    cases e
    exact .inl r
  | l n =>
    simp only [rd] at e
    split at e
    · rename_i xs q
      cases e
      obtain ⟨a, vs, h1, h2, h3, h4⟩ := h.cell n xs q
      obtain ⟨b, h5, h6⟩ := r
      rw [h1] at h5
      cases h5
      exact .inr ⟨a, vs, xs, h6, rfl, SqL.of h2, h4⟩
    · cases e
  | s ns =>
    cases e
    obtain ⟨a, h1, h2⟩ := r
    exact .inr ⟨a, _, _, h1, rfl, h.sub.seq h2, DqA.ints⟩
  | k kd => cases e
theorem rdS_ok (h : HR ρ F H st) (r : WR K ρ F v w) (e : rdS st w = some x) : Rds F H v x := by
  cases w with
  | d y =>
    cases e
    exact .inl r
  | l n =>
    simp only [rdS] at e
    split at e
    · rename_i xs q
      cases e
      obtain ⟨a, vs, h1, h2, h3, h4⟩ := h.cell n xs q
      obtain ⟨b, h5, h6⟩ := r
      rw [h1] at h5
      cases h5
      exact .inr ⟨a, vs, xs, h6, rfl, h2, h4⟩
    · cases e
  | s ns => cases e
  | k kd => cases e
theorem Rdd.list {xs : List PyData} (hs : Same F H) (r : Rdd K F H v (.list xs)) : ∃ a vs, v = .ref a ∧ SqL K H a vs ∧ DqA F vs xs := by
  rcases r with r | ⟨a, vs, ys, h1, h2, h3, h4⟩
  · cases r with
    | lst h a => exact ⟨_, _, rfl, SqL.of (hs _ _ h), a⟩
  · cases h2
    exact ⟨a, vs, h1, h3, h4⟩
theorem Rds.list {xs : List PyData} (hs : Same F H) (r : Rds F H v (.list xs)) : ∃ a vs, v = .ref a ∧ H a = some (.lst vs) ∧ DqA F vs xs := by
  rcases r with r | ⟨a, vs, ys, h1, h2, h3, h4⟩
  · cases r with
    | lst h a => exact ⟨_, _, rfl, hs _ _ h, a⟩
  · cases h2
    exact ⟨a, vs, h1, h3, h4⟩
theorem Rds.rdd (r : Rds F H v x) : Rdd K F H v x := r.elim .inl fun ⟨a, vs, xs, h1, h2, h3, h4⟩ => .inr ⟨a, vs, xs, h1, h2, SqL.of h3, h4⟩
theorem Rdd.tup {xs : List PyData} (hs : Same F H) (r : Rdd K F H v (.tuple xs)) : ∃ a vs, v = .ref a ∧ H a = some (.tup vs) ∧ F a = some (.tup vs) ∧ DqA F vs xs := by
  rcases r with r | ⟨a, vs, ys, h1, h2, h3, h4⟩
  · cases r with
    | tup h a => exact ⟨_, _, rfl, hs _ _ h, h, a⟩
  · cases h2
theorem Rdd.int {i : Int} (r : Rdd K F H v (.int i)) : v = .int i := by
  rcases r with r | ⟨a, vs, ys, h1, h2, h3, h4⟩
  · cases r; rfl
  · cases h2
theorem Rdd.bl {b : Bool} (r : Rdd K F H v (.bool b)) : v = .bl b := by
  rcases r with r | ⟨a, vs, ys, h1, h2, h3, h4⟩
  · cases r; rfl
  · cases h2
theorem Rdd.non (r : Rdd K F H v .none) : v = .non := by
  rcases r with r | ⟨a, vs, ys, h1, h2, h3, h4⟩
  · cases r; rfl
  · cases h2
theorem Rdd.str {z : Str} (r : Rdd K F H v (.str z)) : v = .str z := by
  rcases r with r | ⟨a, vs, ys, h1, h2, h3, h4⟩
  · cases r; rfl
  · cases h2
theorem Rdd.nodict {z : List (PyData × PyData)} (r : Rdd K F H v (.dict z)) : False := by
  rcases r with r | ⟨a, vs, ys, h1, h2, h3, h4⟩
  · cases r
  · cases h2
theorem Rdd.dp (hs : Same F H) (r : Rdd K F H v x) : Dp K H v x := by
  rcases r with r | ⟨a, vs, ys, h1, h2, h3, h4⟩
  · exact (r.mono hs).dp
  · subst h1 h2
    exact .lst h3 (h4.mono hs).dp
end
inductive RdA (K : PySem.W.Frag) (F H : Hp) : List V → List PyData → Prop
  | nil : RdA K F H [] []
  | cons {v : V} {x : PyData} {vs : List V} {xs : List PyData} : Rdd K F H v x → RdA K F H vs xs → RdA K F H (v :: vs) (x :: xs)
theorem rdAll_ok {K : PySem.W.Frag} {ρ : List Addr} {F H : Hp} {st : Sto} (h : HR ρ F H st) : ∀ {vs : List V} {ws : List U} {xs : List PyData}, WRs K ρ F vs ws → rdAll st ws = some xs → RdA K F H vs xs
  | _, _, _, .nil, e => by cases e; exact .nil
  | _, _, _, .cons r t, e => by
    simp only [rdAll, Option.bind_eq_some_iff, Option.map_eq_some_iff] at e
    obtain ⟨x, e1, xs, e2, rfl⟩ := e
    exact .cons (rd_ok h r e1) (rdAll_ok h t e2)
theorem allD_ok {K : PySem.W.Frag} {ρ : List Addr} {F : Hp} : ∀ {vs : List V} {ws : List U} {xs : List PyData}, WRs K ρ F vs ws → allD ws = some xs → DqA F vs xs
  | _, _, _, .nil, e => by cases e; exact .nil
  | _, _, _, .cons (w := .d x) r t, e => by
    simp only [allD, Option.map_eq_some_iff] at e
    obtain ⟨xs, e2, rfl⟩ := e
    exact .cons r (allD_ok t e2)
  | _, _, _, .cons (w := .l n) r t, e => by cases e
  | _, _, _, .cons (w := .s n) r t, e => by cases e

/-! ### combinators -/
def cVar (i : Nat) : SE := fun ev st => match ev[i]? with
  | some (some w) => some (w, st)
  | _ => none
def cD (x : PyData) : SE := fun _ st => some (.d x, st)
def cD1 (f : PyData → Option PyData) (a : SE) : SE := fun ev st => (a ev st).bind fun p => (rd p.2 p.1).bind fun x => (f x).map fun z => (.d z, p.2)
def cD2 (f : PyData → PyData → Option PyData) (a b : SE) : SE := fun ev st => (a ev st).bind fun p => (b ev p.2).bind fun q => (rd q.2 p.1).bind fun x => (rd q.2 q.1).bind fun y => (f x y).map fun z => (.d z, q.2)
def cD2s (f : PyData → PyData → Option PyData) (a b : SE) : SE := fun ev st => (a ev st).bind fun p => (b ev p.2).bind fun q => (rdS q.2 p.1).bind fun x => (rdS q.2 q.1).bind fun y => (f x y).map fun z => (.d z, q.2)
def cNil : SA := fun _ st => some ([], st)
def cCons (a : SE) (r : SA) : SA := fun ev st => (a ev st).bind fun p => (r ev p.2).map fun q => (p.1 :: q.1, q.2)
def items : PyData → Option (List PyData)
  | .list xs => some xs
  | .tuple xs => some xs
  | _ => none
def cStar (a : SE) (r : SA) : SA := fun ev st => (a ev st).bind fun p => (rd p.2 p.1).bind fun x => (items x).bind fun xs => (r ev p.2).map fun q => (xs.map U.d ++ q.1, q.2)
def lim : Nat := 1000000
theorem lim_le {n : Nat} (h : n ≤ lim) : n ≤ sizeLine := Nat.le_trans h (by decide)
def cLst (a : SA) : SE := fun ev st => (a ev st).bind fun p => (allD p.1).bind fun xs => if xs.length ≤ lim then some (.d (.list xs), p.2) else none
def cTup (a : SA) : SE := fun ev st => (a ev st).bind fun p => (allD p.1).bind fun xs => if xs.length ≤ lim then some (.d (.tuple xs), p.2) else none
/-- a new list of the store -/
def cLstM (a : SA) : SE := fun ev st => (a ev st).bind fun p => (allD p.1).bind fun xs => if xs.length ≤ lim then some (.l p.2.length, p.2 ++ [some xs]) else none
def cCall (f : List PyData → Option PyData) (a : SA) : SE := fun ev st => (a ev st).bind fun p => (rdAll p.2 p.1).bind fun xs => (f xs).map fun z => (.d z, p.2)
def truth : PyData → Option Bool
  | .none => some false
  | .bool b => some b
  | .int i => some (i != 0)
  | .str x => if x.length ≤ lim then some ((x.length : Int) != 0) else none
  | .list xs => some (!xs.isEmpty)
  | .tuple xs => some (!xs.isEmpty)
  | .dict _ => none
/-- a test: the value's truth -/
def cTr (a : SE) : SB := fun ev st => (a ev st).bind fun p => (rd p.2 p.1).bind fun x => (truth x).map fun b => (b, p.2)
/-- a test: a bool -/
def cB (a : SE) : SB := fun ev st => (a ev st).bind fun p => match p.1 with
  | .d (.bool b) => some (b, p.2)
  | _ => none
def bAnd (a b : SB) : SB := fun ev st => (a ev st).bind fun p => if p.1 then b ev p.2 else some (false, p.2)
def bOr (a b : SB) : SB := fun ev st => (a ev st).bind fun p => if p.1 then some (true, p.2) else b ev p.2
def bNot (a : SB) : SB := fun ev st => (a ev st).map fun p => (!p.1, p.2)
def cAnd (a b : SE) : SE := fun ev st => (a ev st).bind fun p => (rd p.2 p.1).bind fun x => (truth x).bind fun t => if t then b ev p.2 else some p
def cOr (a b : SE) : SE := fun ev st => (a ev st).bind fun p => (rd p.2 p.1).bind fun x => (truth x).bind fun t => if t then some p else b ev p.2
def cNot (a : SE) : SE := fun ev st => (a ev st).bind fun p => (rd p.2 p.1).bind fun x => (truth x).map fun t => (.d (.bool !t), p.2)
def cIf (c : SB) (a b : SE) : SE := fun ev st => (c ev st).bind fun p => if p.1 then a ev p.2 else b ev p.2
def cChain (f g : PyData → PyData → Option PyData) (a b c : SE) : SE := fun ev st => (a ev st).bind fun p => (b ev p.2).bind fun q => (rd q.2 p.1).bind fun x => (rd q.2 q.1).bind fun y => (f x y).bind fun z => match z with
  | .bool true => (c ev q.2).bind fun r => (rd r.2 q.1).bind fun y => (rd r.2 r.1).bind fun u => (g y u).map fun z => (.d z, r.2)
  | .bool false => some (.d (.bool false), q.2)
  | _ => none

/-! ### what makes an operation's rule sound -/
def Rep (F H : Hp) (z : PyData) (Q : VK) : Prop := ∀ v F' H', Grow F H F' H' → Dq F' v z → Q v H'
def Snd1 (K : PySem.W.Frag) (r : V → Hp → VK → Prop) (f : PyData → Option PyData) : Prop := ∀ F H v x z Q, Same F H → Rdd K F H v x → f x = some z → Rep F H z Q → r v H Q
def Snd2 (K : PySem.W.Frag) (r : R2) (f : PyData → PyData → Option PyData) : Prop := ∀ F H v u x y z Q, Same F H → Rdd K F H v x → Rdd K F H u y → f x y = some z → Rep F H z Q → r v u H Q
def Snd2s (r : R2) (f : PyData → PyData → Option PyData) : Prop := ∀ F H v u x y z Q, Same F H → Rds F H v x → Rds F H u y → f x y = some z → Rep F H z Q → r v u H Q
def SndN (K : PySem.W.Frag) (r : List V → Hp → VK → Prop) (f : List PyData → Option PyData) : Prop := ∀ F H vs xs z Q, Same F H → RdA K F H vs xs → f xs = some z → Rep F H z Q → r vs H Q
theorem Rep.now {F H : Hp} {z : PyData} {Q : VK} {v : V} (h : Rep F H z Q) (hs : Same F H) (d : Dq F v z) : Q v H := h v F H (.refl hs) d
theorem Rep.lst {F H : Hp} {xs : List V} {ds : List PyData} {Q : VK} (h : Rep F H (.list ds) Q) (hs : Same F H) (d : DqA F xs ds) (p : Addr) (n : H p = none) : Q (.ref p) (upd H p (.lst xs)) :=
  h _ (upd F p (.lst xs)) _ (.new hs n) (.lst upd_same (d.mono (same_upd (hs.free n))))
theorem Rep.tup {F H : Hp} {xs : List V} {ds : List PyData} {Q : VK} (h : Rep F H (.tuple ds) Q) (hs : Same F H) (d : DqA F xs ds) (p : Addr) (n : H p = none) : Q (.ref p) (upd H p (.tup xs)) :=
  h _ (upd F p (.tup xs)) _ (.new hs n) (.tup upd_same (d.mono (same_upd (hs.free n))))
theorem Post.grow {K : PySem.W.Frag} {ρ ρ1 : List Addr} {F F1 H1 : Hp} {z : PyData} {st : Sto} {Q : VK} (p : Post K ρ F (.d z) st Q) (x : Ext ρ F ρ1 F1) (h : HR ρ1 F1 H1 st) : Rep F1 H1 z Q :=
  fun v F' H' g d => p v ρ1 F' H' (x.trans (.of g)) (h.grow g) d

section
variable {X : Cx} {e a b c : Expr} {es : List Expr} {pos : Pos} {ca cb cc : SE} {sa : SA} {ba bb : SB}
theorem se_var {i : Nat} {x : Str} (hN : X.N[i]? = some x := by rfl) (hv : Vis X.env.scope x := by first | exact Or.inl rfl | exact Or.inr (Or.inl rfl) | exact Or.inr (Or.inr rfl)) (hd : (x == ("__debug__" : Str)) = false := by decide)
    (hcd : (x == ("__classdict__" : Str)) = false := by decide) : PE X (.Name x pos) (tI X.K (cVar i)) := (pe_var hN hv hd hcd).weak fun σ H Q ⟨ρ, F, ev, st, w, st', hr, sr, e, post⟩ => by
  unfold cVar at e
  split at e
  · rename_i u q
    cases e
    obtain ⟨v, h1, h2⟩ := sr.get i _ q
    exact ⟨v, h1, post v ρ F H (.refl _ _) hr h2⟩
  · cases e
theorem se_c {x : PyData} {v : V} (h : PE X e (tC v)) (d : ∀ F, Dq F v x) : PE X e (tI X.K (cD x)) := h.weak fun σ H Q ⟨ρ, F, ev, st, w, st', hr, sr, e, post⟩ => by
  cases e
  exact post v ρ F H (.refl _ _) hr (d F)
theorem se_int {i j} : PE X (.Constant (.int i) j pos) (tI X.K (cD (.int i))) := se_c pe_int fun _ => .int i
theorem se_bl {i j} : PE X (.Constant (.bool i) j pos) (tI X.K (cD (.bool i))) := se_c pe_bl fun _ => .bl i
theorem se_non {j} : PE X (.Constant .none j pos) (tI X.K (cD .none)) := se_c pe_non fun _ => .non
theorem se_str {i j} : PE X (.Constant (.str i) j pos) (tI X.K (cD (.str i))) := se_c pe_str fun _ => .str i
theorem glob_int {x : Str} {i : Int} {t : Tok} (hg : Gl X x) (hm : X.mg x = some (.int i t)) (hd : (x == ("__debug__" : Str)) = false := by decide) : PE X (.Name x pos) (tI X.K (cD (.int i))) := se_c (pe_glob hg hm (v := .int i) ⟨_, rfl⟩ hd) fun _ => .int i
/-- any two-place rule with the shape of an operation -/
theorem two {r : R2} {f : PyData → PyData → Option PyData} (hs : Snd2 X.K r f) {σ : L2.St} {H : Hp} {Q : VK} (h : tI X.K (cD2 f ca cb) σ H Q) : tOp r (tI X.K ca) (tI X.K cb) σ H Q := by
  obtain ⟨ρ, F, ev, st, w, st', hr, sr, e, post⟩ := h
  simp only [cD2, Option.bind_eq_some_iff, Option.map_eq_some_iff] at e
  obtain ⟨⟨w1, st1⟩, e1, ⟨w2, st2⟩, e2, x, e3, y, e4, z, e5, e6⟩ := e
  cases e6
  refine ⟨ρ, F, ev, st, w1, st1, hr, sr, e1, fun v1 ρ1 F1 H1 x1 hr1 wr1 => ⟨ρ1, F1, ev, st1, w2, st2, hr1, sr.mono x1, e2, fun v2 ρ2 F2 H2 x2 hr2 wr2 => ?_⟩⟩
  exact hs F2 H2 v1 v2 x y z Q hr2.sub (rd_ok hr2 (wr1.mono x2) e3) (rd_ok hr2 wr2 e4) e5 (post.grow (x1.trans x2) hr2)
theorem two_s {r : R2} {f : PyData → PyData → Option PyData} (hs : Snd2s r f) {σ : L2.St} {H : Hp} {Q : VK} (h : tI X.K (cD2s f ca cb) σ H Q) : tOp r (tI X.K ca) (tI X.K cb) σ H Q := by
  obtain ⟨ρ, F, ev, st, w, st', hr, sr, e, post⟩ := h
  simp only [cD2s, Option.bind_eq_some_iff, Option.map_eq_some_iff] at e
  obtain ⟨⟨w1, st1⟩, e1, ⟨w2, st2⟩, e2, x, e3, y, e4, z, e5, e6⟩ := e
  cases e6
  refine ⟨ρ, F, ev, st, w1, st1, hr, sr, e1, fun v1 ρ1 F1 H1 x1 hr1 wr1 => ⟨ρ1, F1, ev, st1, w2, st2, hr1, sr.mono x1, e2, fun v2 ρ2 F2 H2 x2 hr2 wr2 => ?_⟩⟩
  exact hs F2 H2 v1 v2 x y z Q hr2.sub (rdS_ok hr2 (wr1.mono x2) e3) (rdS_ok hr2 wr2 e4) e5 (post.grow (x1.trans x2) hr2)
theorem se_op {op : Operator} {r : R2} {f : PyData → PyData → Option PyData} (ho : OpR X (binaryOp op) r) (hs : Snd2 X.K r f) (ha : PE X a (tI X.K ca)) (hb : PE X b (tI X.K cb)) : PE X (.BinOp a op b pos) (tI X.K (cD2 f ca cb)) :=
  (pe_op ho ha hb).weak fun _ _ _ h => two hs h
theorem se_ops {op : Operator} {r : R2} {f : PyData → PyData → Option PyData} (ho : OpR X (binaryOp op) r) (hs : Snd2s r f) (ha : PE X a (tI X.K ca)) (hb : PE X b (tI X.K cb)) : PE X (.BinOp a op b pos) (tI X.K (cD2s f ca cb)) :=
  (pe_op ho ha hb).weak fun _ _ _ h => two_s hs h
theorem se_cmp {op : CmpOp} {r : R2} {f : PyData → PyData → Option PyData} (ho : OpR X (compareOp op) r) (hs : Snd2 X.K r f) (ha : PE X a (tI X.K ca)) (hb : PE X b (tI X.K cb)) (hm : behindInMarks op b = false) : PE X (.Compare a [op] [b] pos) (tI X.K (cD2 f ca cb)) :=
  (pe_cmpR ho ha hb hm).weak fun _ _ _ h => two hs h
theorem se_ix {r : R2} {f : PyData → PyData → Option PyData} (ho : IxR X r) (hs : Snd2 X.K r f) (ha : PE X a (tI X.K ca)) (hb : PE X b (tI X.K cb)) (hp : PlainIx b := by exact fun _ _ => rfl) : PE X (.Subscript a b pos) (tI X.K (cD2 f ca cb)) :=
  (pe_ix ho ha hb hp).weak fun _ _ _ h => two hs h
theorem se_un {op : UnaryOp} {r : V → Hp → VK → Prop} {f : PyData → Option PyData} (ho : UnR X (unaryOp op) r) (hs : Snd1 X.K r f) (ha : PE X a (tI X.K ca)) : PE X (.UnaryOp op a pos) (tI X.K (cD1 f ca)) :=
  (pe_un ho ha).weak fun σ H Q ⟨ρ, F, ev, st, w, st', hr, sr, e, post⟩ => by
    simp only [cD1, Option.bind_eq_some_iff, Option.map_eq_some_iff] at e
    obtain ⟨⟨w1, st1⟩, e1, x, e3, z, e5, e6⟩ := e
    cases e6
    exact ⟨ρ, F, ev, st, w1, st1, hr, sr, e1, fun v1 ρ1 F1 H1 x1 hr1 wr1 => hs F1 H1 v1 x z Q hr1.sub (rd_ok hr1 wr1 e3) e5 (post.grow x1 hr1)⟩
/-! tests -/
theorem st_cmp {op : CmpOp} {r : R2} {f : PyData → PyData → Option PyData} (ho : OpR X (compareOp op) r) (hs : Snd2 X.K r f) (ha : PE X a (tI X.K ca)) (hb : PE X b (tI X.K cb)) (hm : behindInMarks op b = false) : PT X (.Compare a [op] [b] pos) (tT X.K (cB (cD2 f ca cb))) :=
  (pt_cmpR ho ha hb hm).weak fun σ H Q ⟨ρ, F, ev, st, w, st', hr, sr, e, post⟩ => by
    simp only [cB, Option.bind_eq_some_iff] at e
    obtain ⟨⟨w1, st1⟩, e1, e2⟩ := e
    refine two hs (Q := fun x H' => ∃ k, x = .bl k ∧ Q k H') ⟨ρ, F, ev, st, w1, st1, hr, sr, e1, fun v ρ' F' H' x h r => ?_⟩
    split at e2
    · rename_i k q
      cases e2
      cases q
      cases r
      exact ⟨_, rfl, post _ _ _ x h⟩
    · cases e2
theorem truth_ok {K : PySem.W.Frag} {F H : Hp} {v : V} {x : PyData} {t : Bool} (hs : Same F H) (r : Rdd K F H v x) (e : truth x = some t) : TruV K v H t := by
  cases x with
  | none => cases r.non; cases e; rfl
  | bool b => cases r.bl; cases e; rfl
  | int i => cases r.int; cases e; rfl
  | str z =>
    cases r.str
    simp only [truth] at e
    split at e
    · rename_i h
      cases e
      exact ⟨lim_le h, rfl⟩
    · cases e
  | list xs =>
    obtain ⟨a, vs, rfl, h, d⟩ := r.list hs
    cases e
    refine .inl ⟨vs, h, ?_⟩
    cases d <;> rfl
  | tuple xs =>
    obtain ⟨a, vs, rfl, h, _, d⟩ := r.tup hs
    cases e
    refine .inr (.inl ⟨vs, SqT.of h, ?_⟩)
    cases d <;> rfl
  | dict z => cases e
theorem st_tr (ha : PE X a (tI X.K ca)) (he : ∀ whole, isTrue a X.env whole = (do let v ← whole; standAt a.pos; holding [v] (truthy v)) := by exact fun _ => rfl) : PT X a (tT X.K (cTr ca)) :=
  (pt_truth ha he).weak fun σ H Q ⟨ρ, F, ev, st, w, st', hr, sr, e, post⟩ => by
    simp only [cTr, Option.bind_eq_some_iff, Option.map_eq_some_iff] at e
    obtain ⟨⟨w1, st1⟩, e1, x, e2, t, e3, e4⟩ := e
    cases e4
    exact ⟨ρ, F, ev, st, w1, st1, hr, sr, e1, fun v ρ' F' H' x h r => ⟨_, truth_ok h.sub (rd_ok h r e2) e3, post _ _ _ x h⟩⟩
theorem st_and1 (ha : PT X a (tT X.K ba)) : PW X (.BoolOp .And [a] pos) (tT X.K ba) := pw_and1 ha
theorem st_or1 (ha : PT X a (tT X.K ba)) : PW X (.BoolOp .Or [a] pos) (tT X.K ba) := pw_or1 ha
theorem st_and (ha : PT X a (tT X.K ba)) (hb : PW X (.BoolOp .And (b :: es) pos) (tT X.K bb)) : PW X (.BoolOp .And (a :: b :: es) pos) (tT X.K (bAnd ba bb)) :=
  (pw_and ha hb).weak fun σ H Q ⟨ρ, F, ev, st, w, st', hr, sr, e, post⟩ => by
    simp only [bAnd, Option.bind_eq_some_iff] at e
    obtain ⟨⟨k, st1⟩, e1, e2⟩ := e
    refine ⟨ρ, F, ev, st, k, st1, hr, sr, e1, fun ρ' F' H' x h => ?_⟩
    cases k with
    | true => exact ⟨ρ', F', ev, st1, w, st', h, sr.mono x, e2, fun ρ2 F2 H2 x2 h2 => post _ _ _ (x.trans x2) h2⟩
    | false =>
      cases e2
      exact post _ _ _ x h
theorem st_or (ha : PT X a (tT X.K ba)) (hb : PW X (.BoolOp .Or (b :: es) pos) (tT X.K bb)) : PW X (.BoolOp .Or (a :: b :: es) pos) (tT X.K (bOr ba bb)) :=
  (pw_or ha hb).weak fun σ H Q ⟨ρ, F, ev, st, w, st', hr, sr, e, post⟩ => by
    simp only [bOr, Option.bind_eq_some_iff] at e
    obtain ⟨⟨k, st1⟩, e1, e2⟩ := e
    refine ⟨ρ, F, ev, st, k, st1, hr, sr, e1, fun ρ' F' H' x h => ?_⟩
    cases k with
    | false => exact ⟨ρ', F', ev, st1, w, st', h, sr.mono x, e2, fun ρ2 F2 H2 x2 h2 => post _ _ _ (x.trans x2) h2⟩
    | true =>
      cases e2
      exact post _ _ _ x h
theorem st_not (ha : PT X a (tT X.K ba)) : PT X (.UnaryOp .Not a pos) (tT X.K (bNot ba)) :=
  (pt_not ha).weak fun σ H Q ⟨ρ, F, ev, st, w, st', hr, sr, e, post⟩ => by
    simp only [bNot, Option.map_eq_some_iff] at e
    obtain ⟨⟨k, st1⟩, e1, e2⟩ := e
    cases e2
    exact ⟨ρ, F, ev, st, k, st1, hr, sr, e1, fun ρ' F' H' x h => post _ _ _ x h⟩
theorem se_and (ha : PE X a (tI X.K ca)) (hb : PE X (.BoolOp .And (b :: es) pos) (tI X.K cb)) : PE X (.BoolOp .And (a :: b :: es) pos) (tI X.K (cAnd ca cb)) :=
  (pe_andT ha hb).weak fun σ H Q ⟨ρ, F, ev, st, w, st', hr, sr, e, post⟩ => by
    simp only [cAnd, Option.bind_eq_some_iff] at e
    obtain ⟨⟨w1, st1⟩, e1, x, e2, t, e3, e4⟩ := e
    refine ⟨ρ, F, ev, st, w1, st1, hr, sr, e1, fun v ρ' F' H' x h r => ⟨t, truth_ok h.sub (rd_ok h r e2) e3, ?_⟩⟩
    cases t with
    | true => exact iteT ⟨ρ', F', ev, st1, w, st', h, sr.mono x, e4, fun v2 ρ2 F2 H2 x2 h2 r2 => post _ _ _ _ (x.trans x2) h2 r2⟩
    | false =>
      cases e4
      exact iteF (post _ _ _ _ x h r)
theorem se_or (ha : PE X a (tI X.K ca)) (hb : PE X (.BoolOp .Or (b :: es) pos) (tI X.K cb)) : PE X (.BoolOp .Or (a :: b :: es) pos) (tI X.K (cOr ca cb)) :=
  (pe_orT ha hb).weak fun σ H Q ⟨ρ, F, ev, st, w, st', hr, sr, e, post⟩ => by
    simp only [cOr, Option.bind_eq_some_iff] at e
    obtain ⟨⟨w1, st1⟩, e1, x, e2, t, e3, e4⟩ := e
    refine ⟨ρ, F, ev, st, w1, st1, hr, sr, e1, fun v ρ' F' H' x h r => ⟨t, truth_ok h.sub (rd_ok h r e2) e3, ?_⟩⟩
    cases t with
    | false => exact iteF ⟨ρ', F', ev, st1, w, st', h, sr.mono x, e4, fun v2 ρ2 F2 H2 x2 h2 r2 => post _ _ _ _ (x.trans x2) h2 r2⟩
    | true =>
      cases e4
      exact iteT (post _ _ _ _ x h r)
theorem se_not (ha : PE X a (tI X.K ca)) : PE X (.UnaryOp .Not a pos) (tI X.K (cNot ca)) :=
  (pe_notT ha).weak fun σ H Q ⟨ρ, F, ev, st, w, st', hr, sr, e, post⟩ => by
    simp only [cNot, Option.bind_eq_some_iff, Option.map_eq_some_iff] at e
    obtain ⟨⟨w1, st1⟩, e1, x, e2, t, e3, e4⟩ := e
    cases e4
    exact ⟨ρ, F, ev, st, w1, st1, hr, sr, e1, fun v ρ' F' H' x h r => ⟨t, truth_ok h.sub (rd_ok h r e2) e3, post _ _ _ _ x h (.bl _)⟩⟩
theorem se_if (hc : PT X c (tT X.K ba)) (ha : PE X a (tI X.K ca)) (hb : PE X b (tI X.K cb)) : PE X (.IfExp c a b pos) (tI X.K (cIf ba ca cb)) :=
  (pe_ifExp hc ha hb).weak fun σ H Q ⟨ρ, F, ev, st, w, st', hr, sr, e, post⟩ => by
    simp only [cIf, Option.bind_eq_some_iff] at e
    obtain ⟨⟨k, st1⟩, e1, e2⟩ := e
    refine ⟨ρ, F, ev, st, k, st1, hr, sr, e1, fun ρ' F' H' x h => ?_⟩
    cases k with
    | true => exact ⟨ρ', F', ev, st1, w, st', h, sr.mono x, e2, fun v2 ρ2 F2 H2 x2 h2 r2 => post _ _ _ _ (x.trans x2) h2 r2⟩
    | false => exact ⟨ρ', F', ev, st1, w, st', h, sr.mono x, e2, fun v2 ρ2 F2 H2 x2 h2 r2 => post _ _ _ _ (x.trans x2) h2 r2⟩
theorem chain {r r' : R2} {f g : PyData → PyData → Option PyData} (hs : Snd2 X.K r f) (hs' : Snd2 X.K r' g) {σ : L2.St} {H : Hp} {Q : VK} (h : tI X.K (cChain f g ca cb cc) σ H Q) : tChain r r' (tI X.K ca) (tI X.K cb) (tI X.K cc) σ H Q := by
  obtain ⟨ρ, F, ev, st, w, st', hr, sr, e, post⟩ := h
  simp only [cChain, Option.bind_eq_some_iff] at e
  obtain ⟨⟨w1, st1⟩, e1, ⟨w2, st2⟩, e2, x, e3, y, e4, z, e5, e6⟩ := e
  refine ⟨ρ, F, ev, st, w1, st1, hr, sr, e1, fun v1 ρ1 F1 H1 x1 hr1 wr1 => ⟨ρ1, F1, ev, st1, w2, st2, hr1, sr.mono x1, e2, fun v2 ρ2 F2 H2 x2 hr2 wr2 => ?_⟩⟩
  refine hs F2 H2 v1 v2 x y z _ hr2.sub (rd_ok hr2 (wr1.mono x2) e3) (rd_ok hr2 wr2 e4) e5 fun v F' H' g d => ?_
  split at e6
  · cases d
    simp only [Option.bind_eq_some_iff, Option.map_eq_some_iff] at e6
    obtain ⟨⟨w3, st3⟩, e7, y', e8, u, e9, z', e10, e11⟩ := e6
    cases e11
    have x3 : Ext ρ2 F2 ρ2 F' := .of g
    refine ⟨true, rfl, iteT ⟨ρ2, F', ev, st2, w3, st3, hr2.grow g, (sr.mono (x1.trans x2)).mono x3, e7, fun v3 ρ3 F3 H3 x4 hr3 wr3 => ?_⟩⟩
    exact hs' F3 H3 v2 v3 y' u z' Q hr3.sub (rd_ok hr3 ((wr2.mono x3).mono x4) e8) (rd_ok hr3 wr3 e9) e10 (post.grow ((x1.trans x2).trans (x3.trans x4)) hr3)
  · cases d
    cases e6
    exact ⟨false, rfl, iteF (post _ ρ2 F' H' ((x1.trans x2).trans (.of g)) (hr2.grow g) (.bl _))⟩
  · cases e6
theorem se_chain {op op' : CmpOp} {r r' : R2} {f g : PyData → PyData → Option PyData} (ho : OpR X (compareOp op) r) (ho' : OpR X (compareOp op') r') (hs : Snd2 X.K r f) (hs' : Snd2 X.K r' g) (ha : PE X a (tI X.K ca)) (hb : PE X b (tI X.K cb)) (hc : PE X c (tI X.K cc))
    (hm : lastMarks [op, op'] [b, c] = false := by with_unfolding_all rfl) : PE X (.Compare a [op, op'] [b, c] pos) (tI X.K (cChain f g ca cb cc)) :=
  (pe_chain ho ho' ha hb hc hm).weak fun _ _ _ h => chain hs hs' h
theorem st_chain {op op' : CmpOp} {r r' : R2} {f g : PyData → PyData → Option PyData} (ho : OpR X (compareOp op) r) (ho' : OpR X (compareOp op') r') (hs : Snd2 X.K r f) (hs' : Snd2 X.K r' g) (ha : PE X a (tI X.K ca)) (hb : PE X b (tI X.K cb)) (hc : PE X c (tI X.K cc))
    (hm : lastMarks [op, op'] [b, c] = false := by with_unfolding_all rfl) : PT X (.Compare a [op, op'] [b, c] pos) (tT X.K (cB (cChain f g ca cb cc))) :=
  (pt_chain ho ho' ha hb hc hm).weak fun σ H Q ⟨ρ, F, ev, st, w, st', hr, sr, e, post⟩ => by
    simp only [cB, Option.bind_eq_some_iff] at e
    obtain ⟨⟨w1, st1⟩, e1, e2⟩ := e
    refine chain hs hs' (Q := fun x H' => ∃ k, x = .bl k ∧ Q k H') ⟨ρ, F, ev, st, w1, st1, hr, sr, e1, fun v ρ' F' H' x h r => ?_⟩
    split at e2
    · rename_i k q
      cases e2
      cases q
      cases r
      exact ⟨_, rfl, post _ _ _ x h⟩
    · cases e2
/-! arguments -/
theorem sa_nil : PA X [] (tA X.K cNil) := pa_nil.weak fun σ H Q ⟨ρ, F, ev, st, w, st', hr, sr, e, post⟩ => by
  cases e
  exact post [] ρ F H (.refl _ _) hr .nil
theorem sa_cons {r : SA} (ha : PE X e (tI X.K ca)) (hr : PA X es (tA X.K r)) (hs : starEach (e :: es) X.env = (false, eval e X.env) :: starEach es X.env := by rfl) : PA X (e :: es) (tA X.K (cCons ca r)) :=
  (pa_cons ha hr hs).weak fun σ H Q ⟨ρ, F, ev, st, w, st', hr, sr, e, post⟩ => by
    simp only [cCons, Option.bind_eq_some_iff, Option.map_eq_some_iff] at e
    obtain ⟨⟨w1, st1⟩, e1, ⟨ws, st2⟩, e2, e3⟩ := e
    cases e3
    exact ⟨ρ, F, ev, st, w1, st1, hr, sr, e1, fun v1 ρ1 F1 H1 x1 hr1 wr1 => ⟨ρ1, F1, ev, st1, ws, st2, hr1, sr.mono x1, e2, fun vs ρ2 F2 H2 x2 hr2 wr2 => post _ ρ2 F2 H2 (x1.trans x2) hr2 (.cons (wr1.mono x2) wr2)⟩⟩
theorem WRs.of_d {K : PySem.W.Frag} {ρ : List Addr} {F : Hp} : ∀ {vs : List V} {xs : List PyData}, DqA F vs xs → WRs K ρ F vs (xs.map U.d)
  | _, _, .nil => .nil
  | _, _, .cons a t => .cons a (WRs.of_d t)
theorem sa_star {r : SA} {p : Pos} (ha : PE X e (tI X.K ca)) (hr : PA X es (tA X.K r)) (hs : starEach (.Starred e p :: es) X.env = (true, eval e X.env) :: starEach es X.env := by rfl) : PA X (.Starred e p :: es) (tA X.K (cStar ca r)) :=
  (StX.pa_star ha hr hs).weak fun σ H Q ⟨ρ, F, ev, st, w, st', hr, sr, e, post⟩ => by
    simp only [cStar, Option.bind_eq_some_iff, Option.map_eq_some_iff] at e
    obtain ⟨⟨w1, st1⟩, e1, x, e2, xs, e3, ⟨ws, st2⟩, e4, e5⟩ := e
    cases e5
    refine ⟨ρ, F, ev, st, w1, st1, hr, sr, e1, fun v1 ρ1 F1 H1 x1 hr1 wr1 => ?_⟩
    have rr : Rdd X.K F1 H1 v1 x := rd_ok hr1 wr1 e2
    have go : ∀ (a : Addr) (vs : List V), v1 = .ref a → (SqT X.K H1 a vs ∨ SqL X.K H1 a vs) → DqA F1 vs xs → ∃ p xs_1, v1 = V.ref p ∧ (SqT X.K H1 p xs_1 ∨ SqL X.K H1 p xs_1) ∧ tA X.K r σ H1 fun ys H2 => Q (xs_1 ++ ys) H2 := fun a vs e6 hq d =>
      ⟨a, vs, e6, hq, ρ1, F1, ev, st1, ws, st2, hr1, sr.mono x1, e4, fun us ρ2 F2 H2 x2 hr2 wr2 => post _ ρ2 F2 H2 (x1.trans x2) hr2 ((WRs.of_d (d.mono x2.same)).append wr2)⟩
    cases x with
    | list ys =>
      cases e3
      obtain ⟨a, vs, h1, h2, h3⟩ := rr.list hr1.sub
      exact go a vs h1 (.inr h2) h3
    | tuple ys =>
      cases e3
      obtain ⟨a, vs, h1, h2, _, h3⟩ := rr.tup hr1.sub
      exact go a vs h1 (.inl (SqT.of h2)) h3
    | _ => cases e3
theorem se_tup {x1} (h : PA X es (tA X.K sa)) : PE X (.Tuple es x1 pos) (tI X.K (cTup sa)) :=
  (pe_tup h).weak fun σ H Q ⟨ρ, F, ev, st, w, st', hr, sr, e, post⟩ => by
    simp only [cTup, Option.bind_eq_some_iff] at e
    obtain ⟨⟨ws, st1⟩, e1, xs, e2, e3⟩ := e
    refine ⟨ρ, F, ev, st, ws, st1, hr, sr, e1, fun vs ρ' F' H' x h r => ?_⟩
    have d := allD_ok r e2
    split at e3
    · rename_i hl
      cases e3
      exact ⟨by rw [d.length]; exact lim_le hl, fun p np => (post.grow x h).tup h.sub d p np⟩
    · cases e3
theorem se_lst (h : PA X es (tA X.K sa)) : PE X (.List es pos) (tI X.K (cLst sa)) :=
  (pe_lst h).weak fun σ H Q ⟨ρ, F, ev, st, w, st', hr, sr, e, post⟩ => by
    simp only [cLst, Option.bind_eq_some_iff] at e
    obtain ⟨⟨ws, st1⟩, e1, xs, e2, e3⟩ := e
    refine ⟨ρ, F, ev, st, ws, st1, hr, sr, e1, fun vs ρ' F' H' x h r => ?_⟩
    have d := allD_ok r e2
    split at e3
    · rename_i hl
      cases e3
      exact ⟨by rw [d.length]; exact lim_le hl, fun p np => (post.grow x h).lst h.sub d p np⟩
    · cases e3
/-- a list that may change is laid in the store -/
theorem HR.push {ρ : List Addr} {F H : Hp} {st : Sto} {p : Addr} {vs : List V} {xs : List PyData} (h : HR ρ F H st) (n : H p = none) (d : DqA F vs xs) : HR (ρ ++ [p]) F (upd H p (.lst vs)) (st ++ [some xs]) := by
  have old : ∀ (k : Nat) (ys : List PyData), (st ++ [some xs])[k]? = some (some ys) → (k < st.length ∧ st[k]? = some (some ys)) ∨ (k = st.length ∧ ys = xs) := fun k ys e => by
    rw [List.getElem?_append] at e
    split at e
    · rename_i hl
      exact .inl ⟨hl, e⟩
    · rename_i hl
      by_cases hk : k = st.length
      · subst hk
        simp at e
        exact .inr ⟨rfl, e.symm⟩
      · have : 1 ≤ k - st.length := by omega
        rw [List.getElem?_eq_none (by simpa using this)] at e
        cases e
  have rold : ∀ (k : Nat) (a : Addr), k < st.length → (ρ ++ [p])[k]? = some a → ρ[k]? = some a := fun k a hl e => by
    rw [List.getElem?_append_left (by rw [h.len]; exact hl)] at e
    exact e
  have rnew : (ρ ++ [p])[st.length]? = some p := by
    rw [List.getElem?_append_right (by rw [h.len]; exact Nat.le_refl _), h.len]
    simp
  refine ⟨h.sub.trans (same_upd n), fun k ys e => ?_, fun k m a e1 e2 l1 l2 => ?_, by simp [h.len]⟩
  · rcases old k ys e with ⟨hl, e⟩ | ⟨rfl, rfl⟩
    · obtain ⟨a, ws, h1, h2, h3, h4⟩ := h.cell k ys e
      refine ⟨a, ws, ?_, ?_, h3, h4⟩
      · rw [List.getElem?_append_left (by rw [h.len]; exact hl)]
        exact h1
      · rw [upd_ne (ne_of_none h2 n)]
        exact h2
    · exact ⟨p, vs, rnew, upd_same, h.sub.free n, d⟩
  · obtain ⟨y1, l1⟩ := l1
    obtain ⟨y2, l2⟩ := l2
    have neq : ∀ (k : Nat) (ys : List PyData), k < st.length → st[k]? = some (some ys) → (ρ ++ [p])[k]? ≠ some p := fun k ys hl e q => by
      obtain ⟨a', ws, h1, h2, h3, h4⟩ := h.cell k ys e
      have := rold k p hl q
      rw [h1] at this
      cases this
      rw [n] at h2
      cases h2
    rcases old k y1 l1 with ⟨hl, q1⟩ | ⟨rfl, rfl⟩
    · rcases old m y2 l2 with ⟨hl2, q2⟩ | ⟨rfl, rfl⟩
      · exact h.inj k m a (rold k a hl e1) (rold m a hl2 e2) ⟨_, q1⟩ ⟨_, q2⟩
      · rw [rnew] at e2
        cases e2
        exact absurd e1 (neq k y1 hl q1)
    · rcases old m y2 l2 with ⟨hl2, q2⟩ | ⟨rfl, rfl⟩
      · rw [rnew] at e1
        cases e1
        exact absurd e2 (neq m y2 hl2 q2)
      · rfl
theorem Ext.push {ρ : List Addr} {F : Hp} (p : Addr) : Ext ρ F (ρ ++ [p]) F := ⟨fun n a h => by
  have hl : n < ρ.length := by
    rcases Nat.lt_or_ge n ρ.length with q | q
    · exact q
    · rw [List.getElem?_eq_none q] at h
      cases h
  rw [List.getElem?_append_left hl]
  exact h, Same.refl _⟩
theorem WR.pushed {K : PySem.W.Frag} {ρ : List Addr} {F H : Hp} {st : Sto} {p : Addr} (h : HR ρ F H st) : WR K (ρ ++ [p]) F (.ref p) (.l st.length) := ⟨p, by
  rw [List.getElem?_append_right (by rw [h.len]; exact Nat.le_refl _), h.len]
  simp, rfl⟩
theorem se_lstM (h : PA X es (tA X.K sa)) : PE X (.List es pos) (tI X.K (cLstM sa)) :=
  (pe_lst h).weak fun σ H Q ⟨ρ, F, ev, st, w, st', hr, sr, e, post⟩ => by
    simp only [cLstM, Option.bind_eq_some_iff] at e
    obtain ⟨⟨ws, st1⟩, e1, xs, e2, e3⟩ := e
    refine ⟨ρ, F, ev, st, ws, st1, hr, sr, e1, fun vs ρ' F' H' x h r => ?_⟩
    have d := allD_ok r e2
    split at e3
    · rename_i hl
      cases e3
      exact ⟨by rw [d.length]; exact lim_le hl, fun p np => post _ _ _ _ (x.trans (.push p)) (h.push np d) (.pushed h)⟩
    · cases e3
/-! a built-in called -/
theorem callN {r : List V → Hp → VK → Prop} {f : List PyData → Option PyData} (hs : SndN X.K r f) {σ : L2.St} {H : Hp} {Q : VK} (h : tI X.K (cCall f sa) σ H Q) : tCB r (tA X.K sa) σ H Q := by
  obtain ⟨ρ, F, ev, st, w, st', hr, sr, e, post⟩ := h
  simp only [cCall, Option.bind_eq_some_iff, Option.map_eq_some_iff] at e
  obtain ⟨⟨ws, st1⟩, e1, xs, e2, z, e3, e4⟩ := e
  cases e4
  exact ⟨ρ, F, ev, st, ws, st1, hr, sr, e1, fun vs ρ' F' H' x h r => hs F' H' vs xs z Q h.sub (rdAll_ok h r e2) e3 (post.grow x h)⟩
theorem se_callB {id : String} {r : List V → Hp → VK → Prop} {f : List PyData → Option PyData} {x : Str} {p : Pos} (hc : CallR X (.builtin id) r) (hs : SndN X.K r f) (hg : Gl X x) (hm : X.mg x = none) (hv : bootBuiltins x = some (.builtin id)) (ha : PA X (e :: es) (tA X.K sa)) (hn : x ≠ "__name__" := by decide) (hdb : (x == ("__debug__" : Str)) = false := by decide)
    (he : starEach (e :: es) X.env = (false, eval e X.env) :: starEach es X.env := by rfl) (hpl : (backTo pos (starEach es X.env)).any (·.1) = false := by rfl) : PE X (.Call (.Name x p) (e :: es) [] pos) (tI X.K (cCall f sa)) :=
  (pe_callB hc hg hm hv ha hn hdb he hpl).weak fun _ _ _ h => callN hs h
theorem se_callTy {id : String} {r : List V → Hp → VK → Prop} {f : List PyData → Option PyData} {x : Str} {p : Pos} (hc : CallR X (.type id) r) (hs : SndN X.K r f) (hg : Gl X x) (hm : X.mg x = none) (hv : bootBuiltins x = some (.type id)) (ha : PA X (e :: es) (tA X.K sa)) (hn : x ≠ "__name__" := by decide) (hdb : (x == ("__debug__" : Str)) = false := by decide)
    (he : starEach (e :: es) X.env = (false, eval e X.env) :: starEach es X.env := by rfl) (hpl : (backTo pos (starEach es X.env)).any (·.1) = false := by rfl) : PE X (.Call (.Name x p) (e :: es) [] pos) (tI X.K (cCall f sa)) :=
  (pe_callTy hc hg hm hv ha hn hdb he hpl).weak fun _ _ _ h => callN hs h
end
end Cm

set_option Elab.async false
set_option linter.all false
set_option maxRecDepth 100000
namespace Cm
open PySem PySem.Spec PyProof.Rows L2

/-! ### what a rule asks of the text alone, under short names -/
abbrev NotDbg (x : Str) : Prop := (x == ("__debug__" : Str)) = false
abbrev Bare1 (X : Cx) (e : Expr) (es : List Expr) : Prop := starEach (e :: es) X.env = (false, eval e X.env) :: starEach es X.env
abbrev NoStar (X : Cx) (es : List Expr) (pos : Pos) : Prop := (backTo pos (starEach es X.env)).any (·.1) = false
abbrev NoStarK (X : Cx) (es : List Expr) (kws : List Keyword) (pos : Pos) : Prop := ((backTo pos (starEach es X.env)).any (·.1) || (backToKw pos (keywordEach kws X.env)).any (·.1.isNone)) = false
abbrev Named (X : Cx) (kws : List Keyword) (pos : Pos) : Prop := (backToKw pos (keywordEach kws X.env)).all (·.1.isSome) = true
abbrev NamesAre (X : Cx) (kws : List Keyword) (pos : Pos) (ks : List Str) : Prop := (backToKw pos (keywordEach kws X.env)).filterMap (·.1) = ks
abbrev Few (X : Cx) (es : List Expr) (pos : Pos) : Prop := ((backTo pos (starEach es X.env)).all (fun x => !x.1) && (backToKw pos (keywordEach [] X.env)).all (fun x => x.1.isSome) && decide (es.length + ([] : List Keyword).length + (if ([] : List Keyword).isEmpty then 0 else 1) < 30)) = true
abbrev BareBase (X : Cx) (o : Expr) (name : Str) : Prop := attributeBase o name X.env (eval o X.env) = eval o X.env
abbrev Swaps (X : Cx) (t v : Expr) (xs : Option (List Str)) : Prop := swappedStores [t] v X.env = pure xs
abbrev NoSole (X : Cx) (t v : Expr) (pos : Pos) : Prop := swapsWithSole [t] v pos.line X.env = pure false
/-! ### statements -/
inductive Out where
  | nx (ev : Ev) (st : Sto)
  | rt (w : U) (st : Sto)
  | bk (ev : Ev) (st : Sto)
  | ct (ev : Ev) (st : Sto)
abbrev SS := Ev → Sto → Option Out
def OutOk (K : PySem.W.Frag) (ρ : List Addr) (F : Hp) (D : Ends) : Out → Prop
  | .nx ev st => ∀ σ' ρ' F' H', Ext ρ F ρ' F' → HR ρ' F' H' st → SR K ρ' F' ev σ' → D.nx σ' H'
  | .rt w st => ∀ v ρ' F' H', Ext ρ F ρ' F' → HR ρ' F' H' st → WR K ρ' F' v w → D.rt v H'
  | .bk ev st => ∀ σ' ρ' F' H', Ext ρ F ρ' F' → HR ρ' F' H' st → SR K ρ' F' ev σ' → D.bk σ' H'
  | .ct ev st => ∀ σ' ρ' F' H', Ext ρ F ρ' F' → HR ρ' F' H' st → SR K ρ' F' ev σ' → D.ct σ' H'
def tSS (K : PySem.W.Frag) (c : SS) : TS := fun D σ H => ∃ ρ F ev st o, HR ρ F H st ∧ SR K ρ F ev σ ∧ c ev st = some o ∧ OutOk K ρ F D o
theorem OutOk.mono {K : PySem.W.Frag} {ρ ρ' : List Addr} {F F' : Hp} {D : Ends} {o : Out} (h : OutOk K ρ F D o) (x : Ext ρ F ρ' F') : OutOk K ρ' F' D o := by
  cases o with
  | nx ev st => exact fun σ' ρ2 F2 H2 x2 hr sr => h σ' ρ2 F2 H2 (x.trans x2) hr sr
  | rt ev st => exact fun σ' ρ2 F2 H2 x2 hr sr => h σ' ρ2 F2 H2 (x.trans x2) hr sr
  | bk ev st => exact fun σ' ρ2 F2 H2 x2 hr sr => h σ' ρ2 F2 H2 (x.trans x2) hr sr
  | ct ev st => exact fun σ' ρ2 F2 H2 x2 hr sr => h σ' ρ2 F2 H2 (x.trans x2) hr sr

def cSkip : SS := fun ev st => some (.nx ev st)
def cSeq (a b : SS) : SS := fun ev st => (a ev st).bind fun o => match o with
  | .nx ev' st' => b ev' st'
  | o => some o
def cSet (i : Nat) (e : SE) : SS := fun ev st => (e ev st).map fun p => .nx (ev.set i (some p.1)) p.2
def cRet (e : SE) : SS := fun ev st => (e ev st).map fun p => .rt p.1 p.2
def cRetN : SS := fun _ st => some (.rt (.d .none) st)
def cIfS (c : SB) (a b : SS) : SS := fun ev st => (c ev st).bind fun p => if p.1 then a ev p.2 else b ev p.2
def cExpr (e : SE) : SS := fun ev st => (e ev st).map fun p => .nx ev p.2
def cFail : SS := fun _ _ => none
def cBrk : SS := fun ev st => some (.bk ev st)
def cCont : SS := fun ev st => some (.ct ev st)
def whileN (c : SB) (b : SS) : Nat → SS
  | 0, _, _ => none
  | n + 1, ev, st => (c ev st).bind fun p => if p.1 then (b ev p.2).bind fun o => match o with
      | .nx ev' st' => whileN c b n ev' st'
      | .ct ev' st' => whileN c b n ev' st'
      | .bk ev' st' => some (.nx ev' st')
      | .rt w st' => some (.rt w st')
    else some (.nx ev p.2)
def cWhile (c : SB) (b : SS) : SS := whileN c b lim
/-- the list of a slot is from here on data (nothing runs) -/
def freeze (st : Sto) (n : Nat) : Option (List PyData × Sto) := match st[n]? with
  | some (some xs) => some (xs, st.set n none)
  | _ => none
def cFreeze (i : Nat) (s : SS) : SS := fun ev st => match ev[i]? with
  | some (some (.l n)) => (freeze st n).bind fun p => s (ev.set i (some (.d (.list p.1)))) p.2
  | _ => none

theorem HR.freeze {ρ : List Addr} {F H : Hp} {st : Sto} {n : Nat} {xs : List PyData} (h : HR ρ F H st) (e : st[n]? = some (some xs)) :
    ∃ a vs, ρ[n]? = some a ∧ F a = none ∧ H a = some (.lst vs) ∧ DqA F vs xs ∧ HR ρ (upd F a (.lst vs)) H (st.set n none) := by
  obtain ⟨a, vs, h1, h2, h3, h4⟩ := h.cell n xs e
  refine ⟨a, vs, h1, h3, h2, h4, fun b o q => ?_, fun m ys q => ?_, fun m k b e1 e2 l1 l2 => ?_, by simp [h.len]⟩
  · by_cases hb : b = a
    · subst hb
      rw [upd_same] at q
      rw [h2]
      exact q
    · rw [upd_ne hb] at q
      exact h.sub _ _ q
  · have hm : n ≠ m := fun z => by
      subst z
      rw [List.getElem?_set] at q
      simp only [if_true] at q
      split at q <;> cases q
    rw [List.getElem?_set_ne hm] at q
    obtain ⟨b, ws, k1, k2, k3, k4⟩ := h.cell m ys q
    have hba : b ≠ a := fun z => by
      subst z
      exact hm (h.inj n m b h1 k1 ⟨_, e⟩ ⟨_, q⟩)
    exact ⟨b, ws, k1, k2, by rw [upd_ne hba]; exact k3, k4.mono (same_upd h3)⟩
  · have li : ∀ j : Nat, (∃ ys, (st.set n none)[j]? = some (some ys)) → ∃ ys, st[j]? = some (some ys) := fun j ⟨ys, q⟩ => by
      rw [List.getElem?_set] at q
      split at q
      · split at q <;> cases q
      · exact ⟨ys, q⟩
    exact h.inj m k b e1 e2 (li m l1) (li k l2)
theorem Ext.upd {ρ : List Addr} {F : Hp} {a : Addr} {o : HO} (n : F a = none) : Ext ρ F ρ (upd F a o) := ⟨fun _ _ h => h, same_upd n⟩
theorem HR.take {ρ : List Addr} {F H : Hp} {st : Sto} (h : HR ρ F H st) (n : Nat) : HR (ρ.take n) F H (st.take n) := by
  have g : ∀ (k : Nat) (o : Option (List PyData)), (st.take n)[k]? = some o → k < n ∧ st[k]? = some o := fun k o e => by
    rw [List.getElem?_take] at e
    split at e
    · rename_i hk
      exact ⟨hk, e⟩
    · cases e
  have g' : ∀ (k : Nat) (a : Addr), (ρ.take n)[k]? = some a → k < n ∧ ρ[k]? = some a := fun k o e => by
    rw [List.getElem?_take] at e
    split at e
    · rename_i hk
      exact ⟨hk, e⟩
    · cases e
  refine ⟨h.sub, fun k xs e => ?_, fun k m a e1 e2 ⟨y1, l1⟩ ⟨y2, l2⟩ => h.inj k m a (g' _ _ e1).2 (g' _ _ e2).2 ⟨y1, (g _ _ l1).2⟩ ⟨y2, (g _ _ l2).2⟩, by simp [h.len]⟩
  obtain ⟨hk, e⟩ := g k _ e
  obtain ⟨a, vs, h1, h2⟩ := h.cell k xs e
  refine ⟨a, vs, ?_, h2⟩
  rw [List.getElem?_take, if_pos hk]
  exact h1
theorem Ext.take {ρ ρ' : List Addr} {F F' : Hp} (x : Ext ρ F ρ' F') (n : Nat) (h : ρ.length ≤ n) : Ext ρ F (ρ'.take n) F' := ⟨fun k a e => by
  have hk : k < ρ.length := by
    rcases Nat.lt_or_ge k ρ.length with q | q
    · exact q
    · rw [List.getElem?_eq_none q] at e
      cases e
  rw [List.getElem?_take, if_pos (by omega)]
  exact x.pre k a e, x.same⟩

section
variable {X : Cx} {e c : Expr} {s : Stmt} {ss ts : List Stmt} {pos : Pos} {ce : SE} {cb : SB} {a b : SS}
theorem ss_nil : PSs X [] (tSS X.K cSkip) := pss_nil.weak fun D σ H ⟨ρ, F, ev, st, o, hr, sr, e, ok⟩ => by
  cases e
  exact ok σ ρ F H (.refl _ _) hr sr
theorem seq_ok {D : Ends} {σ : L2.St} {H : Hp} (h : tSS X.K (cSeq a b) D σ H) : tSeq (tSS X.K a) (tSS X.K b) D σ H := by
  obtain ⟨ρ, F, ev, st, o, hr, sr, e, ok⟩ := h
  simp only [cSeq, Option.bind_eq_some_iff] at e
  obtain ⟨o1, e1, e2⟩ := e
  refine ⟨ρ, F, ev, st, o1, hr, sr, e1, ?_⟩
  cases o1 with
  | nx ev' st' => exact fun σ' ρ' F' H' x hr' sr' => ⟨ρ', F', ev', st', o, hr', sr', e2, ok.mono x⟩
  | rt w st' => cases e2; exact ok
  | bk ev' st' => cases e2; exact ok
  | ct ev' st' => cases e2; exact ok
theorem ss_cons (h1 : PS X s (tSS X.K a)) (h2 : PSs X ss (tSS X.K b)) : PSs X (s :: ss) (tSS X.K (cSeq a b)) := (pss_cons h1 h2).weak fun _ _ _ h => seq_ok h
theorem ss_one (h1 : PS X s (tSS X.K a)) : PSs X [s] (tSS X.K a) := pss_one h1
theorem s_pass : PS X (.Pass pos) (tSS X.K cSkip) := ps_pass.weak fun D σ H ⟨ρ, F, ev, st, o, hr, sr, e, ok⟩ => by
  cases e
  exact ok σ ρ F H (.refl _ _) hr sr
theorem s_break : PS X (.Break pos) (tSS X.K cBrk) := ps_break.weak fun D σ H ⟨ρ, F, ev, st, o, hr, sr, e, ok⟩ => by
  cases e
  exact ok σ ρ F H (.refl _ _) hr sr
theorem s_continue : PS X (.Continue pos) (tSS X.K cCont) := ps_continue.weak fun D σ H ⟨ρ, F, ev, st, o, hr, sr, e, ok⟩ => by
  cases e
  exact ok σ ρ F H (.refl _ _) hr sr
theorem s_fail : PS X s (tSS X.K cFail) := ps_never.weak fun D σ H ⟨ρ, F, ev, st, o, hr, sr, e, ok⟩ => by cases e
theorem ss_fail : PSs X ss (tSS X.K cFail) := pss_never.weak fun D σ H ⟨ρ, F, ev, st, o, hr, sr, e, ok⟩ => by cases e
theorem set_ok {i : Nat} {D : Ends} {σ : L2.St} {H : Hp} (h : tSS X.K (cSet i ce) D σ H) : tAsg (tI X.K ce) (gName i) D σ H := by
  obtain ⟨ρ, F, ev, st, o, hr, sr, e, ok⟩ := h
  simp only [cSet, Option.map_eq_some_iff] at e
  obtain ⟨⟨w, st'⟩, e1, e2⟩ := e
  subst e2
  exact ⟨ρ, F, ev, st, w, st', hr, sr, e1, fun v ρ' F' H' x hr' wr => ok _ ρ' F' H' x hr' ((sr.mono x).set wr i)⟩
theorem s_set {i : Nat} {x : Str} {pos' : Pos} (hN : X.N.Nodup) (hi : X.N[i]? = some x) (hx : Loc X.env.scope x) (he : PE X e (tI X.K ce)) (hs : swapsWith e (some (.Name x pos')) pos.line X.env = pure false := by rfl) (hf : X.fn x = true ∨ X.env.scope.names.lookup x = some .local := by first | exact .inl rfl | exact .inr rfl | assumption) :
    PS X (.Assign [.Name x pos'] e pos) (tSS X.K (cSet i ce)) := (ps_set hN hi hx he hs hf).weak fun _ _ _ h => set_ok h
theorem s_ret (he : PE X e (tI X.K ce)) : PS X (.Return (some e) pos) (tSS X.K (cRet ce)) := (ps_ret he).weak fun D σ H ⟨ρ, F, ev, st, o, hr, sr, e, ok⟩ => by
  simp only [cRet, Option.map_eq_some_iff] at e
  obtain ⟨⟨w, st'⟩, e1, e2⟩ := e
  subst e2
  exact ⟨ρ, F, ev, st, w, st', hr, sr, e1, ok⟩
theorem s_retN : PS X (.Return none pos) (tSS X.K cRetN) := ps_retN.weak fun D σ H ⟨ρ, F, ev, st, o, hr, sr, e, ok⟩ => by
  cases e
  exact ok .non ρ F H (.refl _ _) hr .non
theorem s_expr (he : PE X e (tI X.K ce)) (hs : swapsWith e none pos.line X.env = pure false := by rfl) : PS X (.Expr e pos) (tSS X.K (cExpr ce)) := (ps_expr he hs).weak fun D σ H ⟨ρ, F, ev, st, o, hr, sr, e, ok⟩ => by
  simp only [cExpr, Option.map_eq_some_iff] at e
  obtain ⟨⟨w, st'⟩, e1, e2⟩ := e
  subst e2
  exact ⟨ρ, F, ev, st, w, st', hr, sr, e1, fun v ρ' F' H' x hr' wr => ok _ ρ' F' H' x hr' (sr.mono x)⟩
theorem s_if (hc : PT X c (tT X.K cb)) (ha : PSs X ss (tSS X.K a)) (hb : PSs X ts (tSS X.K b)) : PS X (.If c ss ts pos) (tSS X.K (cIfS cb a b)) := (ps_if hc ha hb).weak fun D σ H ⟨ρ, F, ev, st, o, hr, sr, e, ok⟩ => by
  simp only [cIfS, Option.bind_eq_some_iff] at e
  obtain ⟨⟨k, st1⟩, e1, e2⟩ := e
  refine ⟨ρ, F, ev, st, k, st1, hr, sr, e1, fun ρ' F' H' x h => ?_⟩
  cases k with
  | true => exact ⟨ρ', F', ev, st1, o, h, sr.mono x, e2, ok.mono x⟩
  | false => exact ⟨ρ', F', ev, st1, o, h, sr.mono x, e2, ok.mono x⟩
/-- what a loop's body has to reach -/
theorem OutOk.loop {K : PySem.W.Frag} {ρ : List Addr} {F : Hp} {D : Ends} {N : L2.St → Hp → Prop} {o o' : Out}
    (hn : ∀ ev st, (o = .nx ev st ∨ o = .ct ev st) → ∀ σ' ρ' F' H', Ext ρ F ρ' F' → HR ρ' F' H' st → SR K ρ' F' ev σ' → N σ' H')
    (hb : ∀ ev st, o = .bk ev st → o' = .nx ev st) (hr : ∀ w st, o = .rt w st → o' = .rt w st) (ok : OutOk K ρ F D o') : OutOk K ρ F { D with nx := N, ct := N, bk := D.nx } o := by
  cases o with
  | nx ev st => exact hn ev st (.inl rfl)
  | ct ev st => exact hn ev st (.inr rfl)
  | bk ev st => rw [hb ev st rfl] at ok; exact ok
  | rt ev st => rw [hr ev st rfl] at ok; exact ok
theorem s_while (hp : PassesOwn (model X.prog X.w) X.A X.env X.xe) (hc : PT X c (tT X.K cb)) (hb : PSs X ss (tSS X.K b)) : PS X (.While c ss [] pos) (tSS X.K (cWhile cb b)) := (ps_while hp hc hb).weak fun D σ H ⟨ρ, F, ev, st, o, hr, sr, e, ok⟩ => by
  refine ⟨fun k σ H => ∃ ρ1 F1 ev1 st1, Ext ρ F ρ1 F1 ∧ HR ρ1 F1 H st1 ∧ SR X.K ρ1 F1 ev1 σ ∧ whileN cb b k ev1 st1 = some o, ⟨lim, ρ, F, ev, st, .refl _ _, hr, sr, e⟩, ?_⟩
  rintro k σ1 H1 ⟨ρ1, F1, ev1, st1, x1, hr1, sr1, e1⟩
  cases k with
  | zero => cases e1
  | succ k =>
    simp only [whileN, Option.bind_eq_some_iff] at e1
    obtain ⟨⟨t, st2⟩, e2, e3⟩ := e1
    refine ⟨ρ1, F1, ev1, st1, t, st2, hr1, sr1, e2, fun ρ2 F2 H2 x2 hr2 => ?_⟩
    cases t with
    | false =>
      simp only [Bool.false_eq_true, if_false] at e3
      cases e3
      exact iteF (ok _ ρ2 F2 H2 (x1.trans x2) hr2 (sr1.mono x2))
    | true =>
      simp only [if_true, Option.bind_eq_some_iff] at e3
      obtain ⟨o1, e4, e5⟩ := e3
      refine iteT ⟨fun σ' H' => ∃ ρ1 F1 ev1 st1, Ext ρ F ρ1 F1 ∧ HR ρ1 F1 H' st1 ∧ SR X.K ρ1 F1 ev1 σ' ∧ whileN cb b k ev1 st1 = some o, fun σ' H' w => ⟨k, Nat.lt_succ_self _, w⟩, ρ2, F2, ev1, st2, o1, hr2, sr1.mono x2, e4, ?_⟩
      refine OutOk.loop (o' := o) (fun ev' st' q σ' ρ' F' H' x hr' sr' => ⟨ρ', F', ev', st', (x1.trans x2).trans x, hr', sr', ?_⟩) (fun ev' st' q => ?_) (fun w st' q => ?_) (ok.mono (x1.trans x2))
      · rcases q with q | q <;> (subst q; exact e5)
      · subst q; cases e5; rfl
      · subst q; cases e5; rfl
/-- nothing runs: a list of the store becomes data -/
theorem ss_freeze {i : Nat} (h : PSs X ss (tSS X.K a)) : PSs X ss (tSS X.K (cFreeze i a)) := h.weak fun D σ H ⟨ρ, F, ev, st, o, hr, sr, e, ok⟩ => by
  unfold cFreeze at e
  split at e
  · rename_i n q
    simp only [Option.bind_eq_some_iff] at e
    obtain ⟨⟨xs, st'⟩, e1, e2⟩ := e
    unfold freeze at e1
    split at e1
    · rename_i ys q2
      cases e1
      obtain ⟨v, e3, b, e4, e5⟩ := sr.get i _ q
      obtain ⟨a', vs, h1, h2, h3, h4, h5⟩ := hr.freeze q2
      rw [h1] at e4
      cases e4
      subst e5
      have x : Ext ρ F ρ (upd F b (.lst vs)) := Ext.upd h2
      have sr2 := (sr.mono x).set (v := .ref b) (w := .d (.list xs)) (.lst upd_same (h4.mono x.same)) i
      have es : σ.set i (some (.ref b)) = σ := by
        apply List.ext_getElem?
        intro j
        rw [List.getElem?_set]
        split
        · rename_i hj
          subst hj
          have hl : i < σ.length := by
            rcases Nat.lt_or_ge i σ.length with z | z
            · exact z
            · rw [List.getElem?_eq_none z] at e3
              cases e3
          rw [if_pos hl, e3]
        · rfl
      rw [es] at sr2
      exact ⟨ρ, _, _, _, o, h5, sr2, e2, ok.mono x⟩
    · cases e1
  · cases e
end

/-! ### targets -/
abbrev GT := PyData → Ev → Option Ev
/-- vs: the slots that it stores to are among these -/
def tG (K : PySem.W.Frag) (vs : List Nat) (g : GT) : TG := fun v σ H Q => ∃ ρ F ev x ev', Same F H ∧ SR K ρ F ev σ ∧ Dq F v x ∧ g x ev = some ev' ∧ ∀ σ', SR K ρ F ev' σ' → L2.wipe σ' vs = L2.wipe σ vs → Q σ' H
def tGs (K : PySem.W.Frag) (vs : List Nat) (g : List PyData → Ev → Option Ev) : TGs := fun us σ H Q => ∃ ρ F ev xs ev', Same F H ∧ SR K ρ F ev σ ∧ DqA F us xs ∧ g xs ev = some ev' ∧ ∀ σ', SR K ρ F ev' σ' → L2.wipe σ' vs = L2.wipe σ vs → Q σ' H
theorem wipe_in {σ : L2.St} {i : Nat} : ∀ {vs : List Nat}, i ∈ vs → i < σ.length → (L2.wipe σ vs)[i]? = some none
  | v :: vs, h, hl => by
    unfold L2.wipe
    by_cases hv : v = i
    · subst hv
      rw [List.getElem?_set_self (by rw [wipe_length]; exact hl)]
    · rw [List.getElem?_set_ne hv]
      exact wipe_in ((List.mem_cons.mp h).resolve_left fun z => hv z.symm) hl
theorem wipe_set {σ : L2.St} {i : Nat} {x : Option V} {vs : List Nat} (h : i ∈ vs) : L2.wipe (σ.set i x) vs = L2.wipe σ vs := by
  apply List.ext_getElem?
  intro j
  by_cases hj : j ∈ vs
  · by_cases hl : j < σ.length
    · rw [wipe_in hj (by simpa using hl), wipe_in hj hl]
    · rw [List.getElem?_eq_none (by rw [wipe_length, List.length_set]; omega), List.getElem?_eq_none (by rw [wipe_length]; omega)]
  · rw [wipe_out hj, wipe_out hj, List.getElem?_set_ne (show i ≠ j from fun z => by subst z; exact hj h)]
def gN (i : Nat) : GT := fun x ev => some (ev.set i (some (.d x)))
def gsNil : List PyData → Ev → Option Ev
  | [], ev => some ev
  | _, _ => none
def gsCons (g : GT) (r : List PyData → Ev → Option Ev) : List PyData → Ev → Option Ev
  | x :: xs, ev => (g x ev).bind fun ev' => r xs ev'
  | _, _ => none
def gT (g : List PyData → Ev → Option Ev) : GT := fun x ev => match x with
  | .tuple xs => g xs ev
  | _ => none
def cSetT (g : GT) (e : SE) : SS := fun ev st => (e ev st).bind fun p => match p.1 with
  | .d x => (g x ev).map fun ev' => .nx ev' p.2
  | _ => none
def cParN (is : List Nat) (a : SA) : SS := fun ev st => (a ev st).bind fun p => if p.1.length = is.length then some (.nx ((is.zip p.1).foldl (fun ev q => ev.set q.1 (some q.2)) ev) p.2) else none
section
variable {X : Cx} {e c tg : Expr} {es : List Expr} {pos : Pos} {ce : SE} {g : GT} {zs : List Nat}
theorem g_name {i : Nat} {x : Str} (hm : i ∈ zs) (hN : X.N.Nodup) (hi : X.N[i]? = some x) (hx : Loc X.env.scope x) (hf : X.fn x = true ∨ X.env.scope.names.lookup x = some .local := by first | exact .inl rfl | exact .inr rfl | assumption) : PG X (.Name x pos) (tG X.K zs (gN i)) :=
  (pg_name hN hi hx hf).weak fun v σ H Q ⟨ρ, F, ev, x, ev', hs, sr, d, e, q⟩ => by
    cases e
    exact q _ (sr.set (w := .d x) d i) (wipe_set hm)
theorem gs_nil : PGs X [] (tGs X.K zs gsNil) := ⟨fun pins s σ H vs us Q I r ⟨ρ, F, ev, xs, ev', hs, sr, d, e, q⟩ => pgs_nil.run pins s σ H vs us Q I r (by
  cases d with
  | nil => cases e; exact ⟨rfl, q _ sr rfl⟩
  | cons a b => cases e)⟩
theorem gs_cons {r : List PyData → Ev → Option Ev} (h1 : PG X e (tG X.K zs g)) (h2 : PGs X es (tGs X.K zs r)) (hs : (assignEach (e :: es) X.env).map (·.2) = assign e X.env :: (assignEach es X.env).map (·.2) := by rfl) : PGs X (e :: es) (tGs X.K zs (gsCons g r)) :=
  ⟨fun pins s σ H vs us Q I r ⟨ρ, F, ev, xs, ev', hs', sr, d, e, q⟩ => (pgs_cons h1 h2 hs).run pins s σ H vs us Q I r (by
    cases d with
    | nil => cases e
    | cons a b =>
      simp only [gsCons, Option.bind_eq_some_iff] at e
      obtain ⟨ev1, e1, e2⟩ := e
      exact ⟨_, _, rfl, ρ, F, ev, _, ev1, hs', sr, a, e1, fun σ' sr' w1 => ⟨ρ, F, ev1, _, ev', hs', sr', b, e2, fun σ2 sr2 w2 => q σ2 sr2 (w2.trans w1)⟩⟩)⟩
theorem gs_len {r : List PyData → Ev → Option Ev} {n : Nat} (h : ∀ xs ev ev', r xs ev = some ev' → xs.length = n) (g : GT) : ∀ xs ev ev', gsCons g r xs ev = some ev' → xs.length = n + 1
  | [], _, _, e => by cases e
  | x :: xs, ev, ev', e => by
    simp only [gsCons, Option.bind_eq_some_iff] at e
    obtain ⟨ev1, _, e2⟩ := e
    simp [h _ _ _ e2]
theorem gs_len0 : ∀ xs ev ev', gsNil xs ev = some ev' → xs.length = 0
  | [], _, _, _ => rfl
  | x :: xs, ev, ev', e => by cases e
theorem g_tup {k : Nat} {r : List PyData → Ev → Option Ev} {n : Nat} (hc : X.calm = true) (h : PGs X es (tGs X.K zs r)) (hl : ∀ xs ev ev', r xs ev = some ev' → xs.length = n)
    (hn : (assignEach es X.env).length = n := by rfl) (hst : (assignEach es X.env).findIdx? (·.1) = none := by rfl) : PG X (.Tuple es k pos) (tG X.K zs (gT r)) :=
  (pg_tup hc h hn hst).weak fun v σ H Q ⟨ρ, F, ev, x, ev', hs, sr, d, e, q⟩ => by
    cases d with
    | tup h a => exact ⟨_, _, rfl, SqT.of (hs _ _ h), by rw [a.length]; exact hl _ _ _ e, ρ, F, ev, _, ev', hs, sr, a, e, q⟩
    | _ => cases e
theorem s_setT (he : PE X e (tI X.K ce)) (hg : PG X tg (tG X.K zs g)) (hs : swapsWithSole [tg] e pos.line X.env = pure false := by rfl) (hw : swappedStores [tg] e X.env = pure none := by rfl)
    (h1 : (assignEach [tg] X.env).map (·.2) = [assign tg X.env] := by rfl) : PS X (.Assign [tg] e pos) (tSS X.K (cSetT g ce)) := (ps_asg he hg hs hw h1).weak fun D σ H ⟨ρ, F, ev, st, o, hr, sr, e, ok⟩ => by
  simp only [cSetT, Option.bind_eq_some_iff] at e
  obtain ⟨⟨w, st'⟩, e1, e2⟩ := e
  cases w with
  | d x =>
    simp only [Option.map_eq_some_iff] at e2
    obtain ⟨ev', e3, e4⟩ := e2
    subst e4
    exact ⟨ρ, F, ev, st, _, st', hr, sr, e1, fun v ρ' F' H' x hr' wr => ⟨ρ', F', ev, _, ev', hr'.sub, sr.mono x, wr, e3, fun σ' sr' _ => ok _ ρ' F' H' x hr' sr'⟩⟩
  | l n => cases e2
  | s n => cases e2
  | k n => cases e2
/-- a, b = x, y with two plain local names -/
theorem s_par {i j : Nat} {x y : Str} {a b : Expr} {sa : SA} {px py pt : Pos} {kt k2 pt2} (hc : X.calm = true) (hN : X.N.Nodup) (hi : X.N[i]? = some x) (hj : X.N[j]? = some y) (hij : i ≠ j)
    (hx : X.env.scope.names.lookup x = some .local) (hy : X.env.scope.names.lookup y = some .local) (ha : PA X [a, b] (tA X.K sa))
    (hw : Swaps X (.Tuple [.Name x px, .Name y py] kt pt) (.Tuple [a, b] k2 pt2) (some [x, y])) (hs : NoSole X (.Tuple [.Name x px, .Name y py] kt pt) (.Tuple [a, b] k2 pt2) pos := by rfl) :
    PS X (.Assign [.Tuple [.Name x px, .Name y py] kt pt] (.Tuple [a, b] k2 pt2) pos) (tSS X.K (cParN [i, j] sa)) := (ps_par hc hN hi hj hij hx hy ha hw hs).weak fun D σ H ⟨ρ, F, ev, st, o, hr, sr, e, ok⟩ => by
  simp only [cParN, Option.bind_eq_some_iff] at e
  obtain ⟨⟨ws, st'⟩, e1, e2⟩ := e
  split at e2
  · rename_i hl
    cases e2
    refine ⟨ρ, F, ev, st, ws, st', hr, sr, e1, fun vs ρ' F' H' x hr' wr => ?_⟩
    cases wr with
    | nil => cases hl
    | cons w1 t =>
      cases t with
      | nil => cases hl
      | cons w2 t =>
        cases t with
        | nil => exact ⟨_, _, rfl, ok _ ρ' F' H' x hr' (((sr.mono x).set w1 i).set w2 j)⟩
        | cons w3 t => simp at hl
  · cases e2
/-- a, b, .. = x, y, .. by the tuple (some name is a cell) -/
def gNames : List Nat → TGs
  | [] => gNil
  | i :: is => gCons (gName i) (gNames is)
theorem names_ok {K : PySem.W.Frag} {ρ : List Addr} {F : Hp} {H : Hp} {Q : L2.St → Hp → Prop} : ∀ {is : List Nat} {vs : List V} {ws : List U} {ev : Ev} {σ : L2.St}, SR K ρ F ev σ → WRs K ρ F vs ws → ws.length = is.length →
    (∀ σ', SR K ρ F ((is.zip ws).foldl (fun ev q => ev.set q.1 (some q.2)) ev) σ' → Q σ' H) → gNames is vs σ H Q
  | [], _, _, ev, σ, sr, .nil, _, q => ⟨rfl, q _ sr⟩
  | [], _, _, ev, σ, sr, .cons _ _, hl, q => by simp at hl
  | i :: is, _, _, ev, σ, sr, .nil, hl, q => by simp at hl
  | i :: is, _, _, ev, σ, sr, .cons w t, hl, q => ⟨_, _, rfl, names_ok (is := is) (sr.set w i) t (by simpa using hl) q⟩
theorem s_parT {es ts : List Expr} {is : List Nat} {sa : SA} {pt : Pos} {kt k2 pt2} (hc : X.calm = true) (hg : PGs X ts (gNames is)) (ha : PA X es (tA X.K sa)) (hl : is.length ≤ lim := by decide)
    (hn : (assignEach ts X.env).length = is.length := by rfl) (hst : (assignEach ts X.env).findIdx? (·.1) = none := by rfl)
    (hs : swapsWithSole [.Tuple ts kt pt] (.Tuple es k2 pt2) pos.line X.env = pure false := by rfl) (hw : swappedStores [.Tuple ts kt pt] (.Tuple es k2 pt2) X.env = pure none := by rfl)
    (h1 : (assignEach [.Tuple ts kt pt] X.env).map (·.2) = [assign (.Tuple ts kt pt) X.env] := by rfl) :
    PS X (.Assign [.Tuple ts kt pt] (.Tuple es k2 pt2) pos) (tSS X.K (cParN is sa)) := (ps_asg (pe_tup ha) (pg_tup hc hg hn hst) hs hw h1).weak fun D σ H ⟨ρ, F, ev, st, o, hr, sr, e, ok⟩ => by
  simp only [cParN, Option.bind_eq_some_iff] at e
  obtain ⟨⟨ws, st'⟩, e1, e2⟩ := e
  split at e2
  · rename_i hlw
    cases e2
    refine ⟨ρ, F, ev, st, ws, st', hr, sr, e1, fun vs ρ' F' H' x hr' wr => ⟨?_, fun p np => ⟨p, vs, rfl, SqT.of upd_same, ?_, ?_⟩⟩⟩
    · rw [wr.length, hlw]
      exact lim_le hl
    · rw [wr.length]
      exact hlw
    · have hr2 : HR ρ' F' (upd H' p (.tup vs)) st' := ⟨hr'.sub.trans (same_upd np), fun n xs e => by
        obtain ⟨a, us, k1, k2, k3, k4⟩ := hr'.cell n xs e
        exact ⟨a, us, k1, same_upd np _ _ k2, k3, k4⟩, hr'.inj, hr'.len⟩
      exact names_ok (sr.mono x) wr hlw fun σ' sr' => ok _ ρ' F' _ x hr2 sr'
  · cases e2
end

/-! ### what is walked -/
inductive Src where
  | fix (xs : List PyData)
  | cell (n : Nat)
abbrev SI := Ev → Sto → Option (Src × Sto)
/-- all that stood still stands, but dicts may have changed -/
def SamD (F F1 : Hp) : Prop := ∀ a o, F a = some o → (∀ ks, o ≠ .dK ks) → F1 a = some o
theorem sameD {F F1 : Hp} (h : Same F F1) : SamD F F1 := fun a o e _ => h a o e
theorem SamD.trans {F F1 F2 : Hp} (h : SamD F F1) (g : SamD F1 F2) : SamD F F2 := fun a o e n => g a o (h a o e n) n
theorem SamD.seq {K : PySem.W.Frag} {F F1 : Hp} {a : Addr} {xs : List V} (s : SamD F F1) : SqL K F a xs → SqL K F1 a xs
  | .inl (.inl q) => .inl (.inl (s a _ q fun _ z => nomatch z))
  | .inl (.inr ⟨o, q⟩) => .inl (.inr ⟨o, s a _ q fun _ z => nomatch z⟩)
  | .inr q => .inr q
mutual
theorem Dq.monoD {F F' : Hp} (e : SamD F F') : ∀ {v : V} {d : PyData}, Dq F v d → Dq F' v d
  | _, _, .non => .non
  | _, _, .bl b => .bl b
  | _, _, .int i => .int i
  | _, _, .str x => .str x
  | _, _, .lst h a => .lst (e _ _ h (fun _ q => nomatch q)) (DqA.monoD e a)
  | _, _, .tup h a => .tup (e _ _ h (fun _ q => nomatch q)) (DqA.monoD e a)
theorem DqA.monoD {F F' : Hp} (e : SamD F F') : ∀ {vs : List V} {ds : List PyData}, DqA F vs ds → DqA F' vs ds
  | _, _, .nil => .nil
  | _, _, .cons h t => .cons (Dq.monoD e h) (DqA.monoD e t)
end
/-- the walk gives the items one by one, whatever grows meanwhile -/
def Yld (F : Hp) (J : It) (xs : List PyData) : Prop := ∀ F1 H, SamD F F1 → Same F1 H →
  (∀ i d, xs[i]? = some d → J.go i H ∧ ∀ x H', J.yld i H x H' → ∃ F2, Grow F1 H F2 H' ∧ Dq F2 x d) ∧ J.stop xs.length H
def YldS (K : PySem.W.Frag) (ρ : List Addr) (F : Hp) (J : It) : Src → Prop
  | .fix xs => Yld F J xs
  | .cell n => ∃ a, ρ[n]? = some a ∧ J = Itl K a
def tIt (K : PySem.W.Frag) (c : SI) : TI := fun σ H R => ∃ ρ F ev st src st', HR ρ F H st ∧ SR K ρ F ev σ ∧ c ev st = some (src, st') ∧ ∀ J ρ' F' H', Ext ρ F ρ' F' → HR ρ' F' H' st' → YldS K ρ' F' J src → R J H'
def forL (g : GT) (b : SS) : List PyData → SS
  | [], ev, st => some (.nx ev st)
  | x :: xs, ev, st => (g x ev).bind fun ev1 => (b ev1 st).bind fun o => match o with
    | .nx ev' st' => forL g b xs ev' st'
    | .ct ev' st' => forL g b xs ev' st'
    | .bk ev' st' => some (.nx ev' st')
    | .rt w st' => some (.rt w st')
/-- over a list of the store, as it stands at each turn -/
def forC (g : GT) (b : SS) (n : Nat) : Nat → Nat → SS
  | 0, _, _, _ => none
  | k + 1, i, ev, st => match st[n]? with
    | some (some xs) => match xs[i]? with
      | none => some (.nx ev st)
      | some x => (g x ev).bind fun ev1 => (b ev1 st).bind fun o => match o with
        | .nx ev' st' => forC g b n k (i + 1) ev' st'
        | .ct ev' st' => forC g b n k (i + 1) ev' st'
        | .bk ev' st' => some (.nx ev' st')
        | .rt w st' => some (.rt w st')
    | _ => none
def cFor (it : SI) (g : GT) (b : SS) : SS := fun ev st => (it ev st).bind fun p => match p.1 with
  | .fix xs => forL g b xs ev p.2
  | .cell n => forC g b n lim 0 ev p.2
section
variable {X : Cx} {tg iter : Expr} {ss : List Stmt} {pos : Pos} {ci : SI} {g : GT} {b : SS} {zs : List Nat}
theorem for_ok {D : Ends} {σ : L2.St} {H : Hp} (h : tSS X.K (cFor ci g b) D σ H) : tFor (tIt X.K ci) (tG X.K zs g) (tSS X.K b) D σ H := by
  obtain ⟨ρ, F, ev, st, o, hr, sr, e, ok⟩ := h
  simp only [cFor, Option.bind_eq_some_iff] at e
  obtain ⟨⟨src, st'⟩, e1, e2⟩ := e
  refine ⟨ρ, F, ev, st, src, st', hr, sr, e1, fun J ρ' F' H' x hr' y => ?_⟩
  cases src with
  | fix xs =>
    refine ⟨fun i m σ H => m = xs.length - i ∧ i ≤ xs.length ∧ ∃ ρ1 F1 ev1 st1, Ext ρ' F' ρ1 F1 ∧ HR ρ1 F1 H st1 ∧ SR X.K ρ1 F1 ev1 σ ∧ forL g b (xs.drop i) ev1 st1 = some o, ⟨xs.length, rfl, Nat.zero_le _, ρ', F', ev, st', .refl _ _, hr', sr.mono x, e2⟩, ?_⟩
    rintro i m σ1 H1 ⟨rfl, hi, ρ1, F1, ev1, st1, x1, hr1, sr1, e3⟩
    obtain ⟨yg, ys⟩ := y F1 H1 (sameD x1.same) hr1.sub
    by_cases hlt : i < xs.length
    · rw [List.drop_eq_getElem_cons hlt] at e3
      simp only [forL, Option.bind_eq_some_iff] at e3
      obtain ⟨ev2, e4, o1, e5, e6⟩ := e3
      obtain ⟨go, yl⟩ := yg i xs[i] (List.getElem?_eq_getElem hlt)
      refine .inr ⟨go, fun σ H => ∃ ρ1 F1 ev1 st1, Ext ρ' F' ρ1 F1 ∧ HR ρ1 F1 H st1 ∧ SR X.K ρ1 F1 ev1 σ ∧ forL g b (xs.drop (i + 1)) ev1 st1 = some o, fun σ' H' w => ⟨xs.length - (i + 1), by omega, rfl, hlt, w⟩, fun v H2 yv => ?_⟩
      obtain ⟨F2, gr, d⟩ := yl v H2 yv
      have x2 : Ext ρ1 F1 ρ1 F2 := .of gr
      refine ⟨ρ1, F2, ev1, xs[i], ev2, gr.fh, sr1.mono x2, d, e4, fun σ3 sr3 _ => ⟨ρ1, F2, ev2, st1, o1, hr1.grow gr, sr3, e5, ?_⟩⟩
      refine OutOk.loop (o' := o) (fun ev' st'' q σ' ρ'' F'' H'' x' hr'' sr'' => ⟨ρ'', F'', ev', st'', (x1.trans x2).trans x', hr'', sr'', ?_⟩) (fun ev' st'' q => ?_) (fun w st'' q => ?_) (ok.mono ((x.trans x1).trans x2))
      · rcases q with q | q <;> (subst q; exact e6)
      · subst q; cases e6; rfl
      · subst q; cases e6; rfl
    · have hx : i = xs.length := by omega
      subst hx
      rw [List.drop_length] at e3
      cases e3
      exact .inl ⟨ys, ok _ ρ1 F1 H1 (x.trans x1) hr1 sr1⟩
  | cell n =>
    obtain ⟨a, ha, rfl⟩ := y
    refine ⟨fun i m σ H => ∃ ρ1 F1 ev1 st1, Ext ρ' F' ρ1 F1 ∧ HR ρ1 F1 H st1 ∧ SR X.K ρ1 F1 ev1 σ ∧ forC g b n m i ev1 st1 = some o, ⟨lim, ρ', F', ev, st', .refl _ _, hr', sr.mono x, e2⟩, ?_⟩
    rintro i m σ1 H1 ⟨ρ1, F1, ev1, st1, x1, hr1, sr1, e3⟩
    cases m with
    | zero => cases e3
    | succ m =>
      simp only [forC] at e3
      split at e3
      · rename_i xs q
        obtain ⟨a', vs, h1, h2, h3, h4⟩ := hr1.cell n xs q
        rw [x1.pre n a ha] at h1
        cases h1
        have hq : SqL X.K H1 a vs := SqL.of h2
        have fn : ∀ ys, SqL X.K H1 a ys → True := fun _ _ => trivial
        split at e3
        · rename_i q2
          cases e3
          refine .inl ⟨⟨vs, hq, ?_⟩, ok _ ρ1 F1 H1 (x.trans x1) hr1 sr1⟩
          rw [h4.length]
          exact List.getElem?_eq_none_iff.mp q2
        · rename_i d q2
          simp only [Option.bind_eq_some_iff] at e3
          obtain ⟨ev2, e4, o1, e5, e6⟩ := e3
          obtain ⟨v, hv, dv⟩ := h4.get' q2
          refine .inr ⟨⟨vs, v, hq, hv⟩, fun σ H => ∃ ρ1 F1 ev1 st1, Ext ρ' F' ρ1 F1 ∧ HR ρ1 F1 H st1 ∧ SR X.K ρ1 F1 ev1 σ ∧ forC g b n m (i + 1) ev1 st1 = some o, fun σ' H' w => ⟨m, Nat.lt_succ_self _, w⟩, fun v' H2 ⟨eH, yv⟩ => ?_⟩
          subst eH
          have ev' : v' = v := Option.some.inj ((yv vs hq).symm.trans hv)
          subst ev'
          refine ⟨ρ1, F1, ev1, d, ev2, hr1.sub, sr1, dv, e4, fun σ3 sr3 _ => ⟨ρ1, F1, ev2, st1, o1, hr1, sr3, e5, ?_⟩⟩
          refine OutOk.loop (o' := o) (fun ev' st'' q σ' ρ'' F'' H'' x' hr'' sr'' => ⟨ρ'', F'', ev', st'', x1.trans x', hr'', sr'', ?_⟩) (fun ev' st'' q => ?_) (fun w st'' q => ?_) (ok.mono (x.trans x1))
          · rcases q with q | q <;> (subst q; exact e6)
          · subst q; cases e6; rfl
          · subst q; cases e6; rfl
      · cases e3
theorem s_for (hp : PassesOwn (model X.prog X.w) X.A X.env X.xe) (hc : X.calm = true) (hi : PI X tg iter (tIt X.K ci)) (hg : PG X tg (tG X.K zs g)) (hb : PSs X ss (tSS X.K b))
    (hs : ∀ x, foldedSetIterable iter X.env x = pure x := by exact fun _ => rfl) : PS X (.For tg iter ss [] pos) (tSS X.K (cFor ci g b)) := (ps_for hp hc hi hg hb hs).weak fun _ _ _ h => for_ok h
end
/-! sources -/
def iSeq (a : SE) : SI := fun ev st => (a ev st).bind fun p => match p.1 with
  | .l n => match p.2[n]? with
    | some (some _) => some (.cell n, p.2)
    | _ => none
  | .d (.list xs) => some (.fix xs, p.2)
  | .d (.tuple xs) => some (.fix xs, p.2)
  | _ => none
theorem walk_yld {J : It} {n : Nat} {G : Hp → Prop} {Y : Nat → Hp → V → Hp → Prop} {F : Hp} {xs : List PyData} (w : Walk J n G Y) (hn : n = xs.length) (hG : ∀ F1 H, SamD F F1 → Same F1 H → G H)
    (hy : ∀ F1 H i d x H', SamD F F1 → Same F1 H → xs[i]? = some d → Y i H x H' → ∃ F2, Grow F1 H F2 H' ∧ Dq F2 x d) : Yld F J xs := fun F1 H s1 s2 => by
  subst hn
  have lt : ∀ i d, xs[i]? = some d → i < xs.length := fun i d e => by
    rcases Nat.lt_or_ge i xs.length with q | q
    · exact q
    · rw [List.getElem?_eq_none q] at e
      cases e
  exact ⟨fun i d e => ⟨w.goes i H (lt i d e) (hG F1 H s1 s2), fun x H' y => hy F1 H i d x H' s1 s2 e (w.yields i H x H' (lt i d e) (hG F1 H s1 s2) y)⟩, w.stops H (hG F1 H s1 s2)⟩
theorem yld_list {K : PySem.W.Frag} {F : Hp} {a : Addr} {vs : List V} {xs : List PyData} (h : ∀ F1 H, SamD F F1 → Same F1 H → SqL K H a vs) (d : DqA F vs xs) : Yld F (Itl K a) xs :=
  walk_yld (walk_list (xs := vs)) d.length h fun F1 H i x v H' s1 s2 e ⟨e1, e2⟩ => by
    subst e1
    obtain ⟨v', h1, h2⟩ := d.get' e
    rw [e2] at h1
    cases h1
    exact ⟨F1, .refl s2, h2.monoD s1⟩
theorem yld_tup {K : PySem.W.Frag} {F : Hp} {a : Addr} {vs : List V} {xs : List PyData} (h : F a = some (.tup vs)) (d : DqA F vs xs) : Yld F (Itt K a) xs :=
  walk_yld (walk_tup (xs := vs)) d.length (fun F1 H s1 s2 => SqT.of (s2 _ _ (s1 _ _ h fun _ q => nomatch q))) fun F1 H i x v H' s1 s2 e ⟨e1, e2⟩ => by
    subst e1
    obtain ⟨v', h1, h2⟩ := d.get' e
    rw [e2] at h1
    cases h1
    exact ⟨F1, .refl s2, h2.monoD s1⟩
section
variable {X : Cx} {tg e e1 e2 : Expr} {es : List Expr} {p pos : Pos} {ce : SE} {sa : SA}
theorem PI.or {u v : TI} {l : Expr} (h1 : PI X tg l u) (h2 : PI X tg l v) {w : TI} (h : ∀ σ H R, w σ H R → u σ H R ∨ v σ H R) : PI X tg l w := ⟨fun pins s σ H R I q => (h σ H R q).elim (fun z => h1.run pins s σ H R I z) fun z => h2.run pins s σ H R I z⟩
theorem i_seq (he : PE X e (tI X.K ce)) : PI X tg e (tIt X.K (iSeq ce)) := PI.or (pi_list he) (pi_tup he) fun σ H R ⟨ρ, F, ev, st, src, st', hr, sr, e, post⟩ => by
  simp only [iSeq, Option.bind_eq_some_iff] at e
  obtain ⟨⟨w, st1⟩, e1, e2⟩ := e
  split at e2
  · rename_i n q
    cases q
    split at e2
    · rename_i ys q2
      cases e2
      refine .inl ⟨ρ, F, ev, st, _, _, hr, sr, e1, fun v ρ' F' H' x hr' ⟨a, ha, hv⟩ => ⟨a, hv, ?_, post _ ρ' F' H' x hr' ⟨a, ha, rfl⟩⟩⟩
      obtain ⟨b, vs, k1, k2, _⟩ := hr'.cell n ys q2
      rw [ha] at k1
      cases k1
      exact ⟨vs, SqL.of k2⟩
    · cases e2
  · rename_i xs q
    cases q
    cases e2
    refine .inl ⟨ρ, F, ev, st, _, _, hr, sr, e1, fun v ρ' F' H' x hr' d => ?_⟩
    cases d with
    | lst h a => exact ⟨_, rfl, ⟨_, SqL.of (hr'.sub _ _ h)⟩, post _ ρ' F' H' x hr' (yld_list (fun F1 H s1 s2 => SqL.of (s2 _ _ (s1 _ _ h fun _ q => nomatch q))) a)⟩
  · rename_i xs q
    cases q
    cases e2
    refine .inr ⟨ρ, F, ev, st, _, _, hr, sr, e1, fun v ρ' F' H' x hr' d => ?_⟩
    cases d with
    | tup h a => exact ⟨_, rfl, ⟨_, SqT.of (hr'.sub _ _ h)⟩, post _ ρ' F' H' x hr' (yld_tup h a)⟩
  · cases e2
end
end Cm

set_option Elab.async false
set_option linter.all false
set_option maxRecDepth 100000
set_option maxHeartbeats 1000000
/-! enumerate(tuple) -/
namespace Cm
open PySem PySem.Spec PyProof.Rows L2
abbrev tupIt (t : Addr) : Obj := { cls := .type "tuple_iterator", data := .fields #[.ref t, .int 0 0] }
abbrev enumO (a : Addr) : Obj := { cls := .type "enumerate", data := .fields #[.none, .bool false, .ref a, rawInt 0, .none, .none] }
theorem enum_new_tup (l : Addr) (its : Array Value) : Meets (Builtin.«enumerate.__new__» ⟨[.type "enumerate", .ref l], []⟩)
    (fun _ R s => s.heap.IsTuple l its ∧ R (.ok (.ret (.ref (s.heap.push (tupIt l)).objs.size))) { s with heap := (s.heap.push (tupIt l)).push (enumO s.heap.objs.size) }) :=
  .of_wp fun prog w A R s hh => by
    obtain ⟨h0, g, dr, tk, os⟩ := s
    obtain ⟨ht, q⟩ := hh
    have hsub := sub_enumerate
    have hT : Heap.IsTuple (Shared.heap ⟨h0, g, dr, tk, os⟩) l its := ht
    wp_walk using wpAny_pyIter_tuple hT
    apply wpAny_stack_any
    intro st
    apply wpAny_pure
    split
    · rename_i c _ _ _ _ _
      by_cases hc : (c == Value.type "enumerate") = true
      all_goals
        first | rw [hc] | rw [Bool.eq_false_iff.mpr hc]
        wp_walk using wpAny_pyIter_tuple hT
        exact ⟨_, rfl, q⟩
    · wp_walk using wpAny_pyIter_tuple hT
      exact ⟨_, rfl, q⟩
theorem enum_call_tup {prog : Program} {w : World} {A : Around} {E : Value → Shared → Prop} {s : Shared} {l : Addr} {its : Array Value} {Q : Value → Shared → Prop} (ht : s.heap.IsTuple l its)
    (h : ∀ h', IsEnum h' (s.heap.objs.size + 1) s.heap.objs.size 0 .none → h'.IsTupleIter s.heap.objs.size l 0 → (∀ b o, s.heap.get? b = some o → h'.get? b = some o) →
      Q (.ref (s.heap.objs.size + 1)) { s with heap := h' }) : wpAny (model prog w) A (call (.type "enumerate") [.ref l]) Q E s := by
  have z : (s.heap.push (tupIt l)).objs.size = s.heap.objs.size + 1 := Heap.size_push ..
  have e1 : ((s.heap.push (tupIt l)).push (enumO s.heap.objs.size)).get? (s.heap.push (tupIt l)).objs.size = some (enumO s.heap.objs.size) := Heap.get?_push_size _ rfl
  have e2 : ((s.heap.push (tupIt l)).push (enumO s.heap.objs.size)).get? s.heap.objs.size = some (tupIt l) := Heap.get?_push_of_some _ (Heap.get?_push_size _ rfl)
  refine callType_new F.called_enumerate (by decide) (F.typeCall_enumerate_1 _) (F.newCall_enumerate_1 _) (fun o => F.args_object_init_2 o _) F.entry_enumerate_new (enum_new_tup l its) ⟨ht, ?_⟩
  rw [z] at e1
  show _ ∧ _
  rw [z]
  exact ⟨⟨_, e1, rfl⟩, h _ e1 ⟨_, e2, rfl, rfl⟩ fun b o q => Heap.get?_push_of_some _ (Heap.get?_push_of_some _ q)⟩
/-- the tuple at a, each item in a new pair behind its number -/
def ItE (K : PySem.W.Frag) (a : Addr) : It :=
  ⟨fun i H => ∃ (xs : List V) (x : V), H a = some (.tup xs) ∧ xs[i]? = some x, fun i H v H' => ∃ T x, v = .ref T ∧ H T = none ∧ H' = upd H T (.tup [.int (i : Nat), x]) ∧ ∀ xs, H a = some (.tup xs) → xs[i]? = some x, fun i H => ∃ xs : List V, H a = some (.tup xs) ∧ xs.length = i⟩
theorem turn_enumT {P : Program} {w : World} {K : PySem.W.Frag} {elts : List Expr} {kk : Nat} {tpos : Pos} (a e it : Addr) (hai : a ≠ it) (hae : e ≠ a) (hne : e ≠ it) :
    Turn P w K (.Tuple elts kk tpos) (ItE K a) [e, it] e (fun i h => (∃ old, IsEnum h e it ((i : Nat) : Int) old) ∧ h.IsTupleIter it a i) where
  mem := by simp
  obj := by
    rintro i h ⟨⟨old, atE⟩, ob, atI, _, dat⟩ c inC
    have cases2 : c = e ∨ c = it := by simpa using inC
    cases cases2 with
    | inl q => exact q ▸ ⟨_, atE, fun _ bad => nomatch bad⟩
    | inr q => exact q ▸ ⟨ob, atI, fun _ bad => nomatch dat.symm.trans bad⟩
  keep := by
    rintro i h g ⟨⟨old, atE⟩, walk⟩ same
    exact ⟨⟨old, same e (by simp) _ atE⟩, walk.at (same it (by simp))⟩
  item := by
    rintro X rfl rfl rfl calm i pins s σ H E inv away ⟨⟨old, atE⟩, walk⟩ ⟨xs, x, tupA, nth⟩
    obtain ⟨its, vals, isT, _⟩ := inv.tuple (SqT.of tupA)
    obtain ⟨v, nthV, rel⟩ := vals.get nth
    have quiet : X.A.in1.handled = none := inv.ok.hd calm
    have below : i < its.toArray.size := by
      have : i < its.length := (List.getElem?_eq_some_iff.mp nthV).1
      simpa using this
    have eLow := Heap.lt_size atE
    have iLow : it < s.heap.objs.size := let ⟨_, q, _⟩ := walk; Heap.lt_size q
    refine wpAny_pyNext_enum_itemD (Draws.tuple quiet it a hai its.toArray) atE ⟨walk, isT⟩ below hne (by simp [hne, hae]) ?_
    intro v' h1 tk nthV' made next tupNew _ rest
    obtain rfl : v = v' := by
      have two : its[i]? = some v' := by simpa using nthV'
      exact Option.some.inj (nthV.symm.trans two)
    refine ⟨_, rfl, wpAny_letOwnedTupleGo_enum (s := { s with heap := h1, toks := tk + 1 }) made ?_⟩
    intro h2 madeAgain but
    have pairAt : h2.get? s.heap.objs.size = some { cls := .type "tuple", data := .seq #[.int i tk, v] } := (but.2 _ (Nat.ne_of_gt eLow)).trans tupNew
    let pair : HO := .tup [.int (i : Nat), x]
    have pairOk : ObjOk X.prog X.w (upd H s.heap.objs.size pair) h2 s.heap.objs.size pair := ⟨(by decide : 2 ≤ sizeLine), _, .cons ⟨tk, rfl⟩ (.cons rel .nil), _, pairAt, rfl, _, rfl⟩
    have stands : ∀ c o, c ∉ [e, it] → s.heap.get? c = some o → h2.get? c = some o := by
      intro c o out old
      have ne : c ≠ e ∧ c ≠ it := by simpa using out
      exact (but.2 c ne.1).trans (rest c o ne.1 ne.2 old)
    have inv2 : Inv X pins σ (upd H s.heap.objs.size pair) { s with heap := h2, toks := tk + 1 } := inv.turnedNew (ch := [e, it]) stands away (Nat.le_refl _) pairOk
    refine ⟨.ref s.heap.objs.size, _, inv2, rfl, ⟨_, x, rfl, inv.fresh, rfl, ?_⟩, ⟨⟨v, ?_⟩, next.1.at fun _ q => (but.2 it hne.symm).trans q⟩, ?_⟩
    · intro ys tupA'
      cases tupA.symm.trans tupA'
      exact nth
    · have up : ((i + 1 : Nat) : Int) = (i : Int) + 1 := by omega
      exact up ▸ madeAgain
    · intro c inC
      have low : c < s.heap.objs.size := by
        have cases2 : c = e ∨ c = it := by simpa using inC
        exact cases2.elim (fun q => q ▸ eLow) (fun q => q ▸ iLow)
      exact (upd_ne (Nat.ne_of_lt low)).trans (away c inC).1
  done := by
    rintro X rfl rfl rfl calm i pins s σ H E inv away ⟨⟨old, atE⟩, walk⟩ ⟨xs, tupA, len⟩
    obtain ⟨its, vals, isT, _⟩ := inv.tuple (SqT.of tupA)
    have quiet : X.A.in1.handled = none := inv.ok.hd calm
    have size : its.toArray.size = i := by
      have := vals.length
      simp
      omega
    have ⟨g0, g1, _, g3, g4, g5⟩ := away it (by simp)
    refine wpAny_pyNext_enum_endD (Draws.tuple quiet it a hai its.toArray) atE ⟨size ▸ walk, isT⟩ ?_
    intro h1 but
    exact ⟨rfl, inv.turned (t' := s.toks) but g0 g1 g3 g4 g5⟩
  self := by
    rintro A i s Q E ⟨⟨_, atE⟩, _⟩ go
    exact wpAny_pyIter_enum atE go
def iEnumT (ta : TA) (K : PySem.W.Frag) : TI := fun σ H R => ta σ H fun vs H1 => ∃ a xs, vs = [.ref a] ∧ H1 a = some (.tup xs) ∧ R (ItE K a) H1
theorem pi_enumT {X : Cx} {e : Expr} {ta : TA} {p pos tpos : Pos} {elts : List Expr} {kk : Nat} (hg : Gl X "enumerate") (hm : X.mg "enumerate" = none) (ha : PA X [e] ta) (hs : starEach [e] X.env = [(false, eval e X.env)] := by rfl) :
    PI X (.Tuple elts kk tpos) (.Call (.Name "enumerate" p) [e] [] pos) (iEnumT ta X.K) := by
  constructor
  intro pins s σ H R inv asked
  have args := ha.run pos pins s σ H _ inv asked
  refine Call_ ?_
  refine ld_blt inv hg hm boot_enumerate ?_
  refine PyProof.Rows.callWith_type1 (thn args ?_) hs rfl
  rintro us g ⟨_, H1, inv1, rel, a, xs, rfl, tupA, go⟩
  obtain ⟨its, _, isT, _⟩ := inv1.tuple (SqT.of tupA)
  rw [Vals.ref1 rel]
  refine enum_call_tup (its := its.toArray) isT ?_
  intro h1 madeE madeI stands
  apply wpAny_pyIter_enum madeE
  have aLow : a < g.heap.objs.size := isT.lt
  have inv2 := inv1.kept (t' := g.toks) stands
  have turn := turn_enumT (P := X.prog) (w := X.w) (K := X.K) (elts := elts) (kk := kk) (tpos := tpos) a (g.heap.objs.size + 1) g.heap.objs.size (Nat.ne_of_lt aLow) (Nat.ne_of_gt (Nat.lt_succ_of_lt aLow)) (Nat.succ_ne_self _)
  refine ⟨_, _, _, _, H1, rfl, inv2, turn, ⟨⟨.none, madeE⟩, madeI⟩, ?_, go⟩
  intro c inC
  have high : g.heap.objs.size ≤ c := by
    have cases2 : c = g.heap.objs.size + 1 ∨ c = g.heap.objs.size := by simpa using inC
    exact cases2.elim (fun q => q ▸ Nat.le_succ _) (fun q => q ▸ Nat.le_refl _)
  exact inv1.fpOk high (inv1.hok.fresh high)
end Cm

set_option Elab.async false
set_option linter.all false
set_option maxRecDepth 100000
namespace Cm
open PySem PySem.Spec PyProof.Rows L2

/-! ### more that is walked -/
def rangeD (lo : Int) (n : Nat) : List PyData := (List.range n).map fun k => .int (lo + (k : Nat))
def big (i : Int) : Bool := decide (-4611686018427387904 ≤ i ∧ i < 4611686018427387904)
def iRange1 (a : SA) : SI := fun ev st => (a ev st).bind fun p => match p.1 with
  | [.d (.int j)] => if big j then some (.fix (rangeD 0 j.toNat), p.2) else none
  | _ => none
def iRange2 (a : SA) : SI := fun ev st => (a ev st).bind fun p => match p.1 with
  | [.d (.int i), .d (.int j)] => if big i && big j then some (.fix (rangeD i (j - i).toNat), p.2) else none
  | _ => none
def rangeC (lo c : Int) (n : Nat) : List PyData := (List.range n).map fun k => .int (lo + (k : Nat) * c)
/-- range(i, j, c): n turns, as RgC says -/
def iRange3 (a : SA) : SI := fun ev st => (a ev st).bind fun p => match p.1 with
  | [.d (.int i), .d (.int j), .d (.int c)] => if c ≠ 0 ∧ c.natAbs < 1073741824 ∧ Builtin.Range.small i j c = true ∧ 0 ≤ Builtin.Range.rangeSize i j c then some (.fix (rangeC i c (Builtin.Range.rangeSize i j c).toNat), p.2) else none
  | _ => none
def iZip2 (a : SA) : SI := fun ev st => (a ev st).bind fun p => match p.1 with
  | [.d (.list xs), .d (.list ys)] => some (.fix (List.zipWith (fun x y => .tuple [x, y]) xs ys), p.2)
  | [.d (.tuple xs), .d (.tuple ys)] => some (.fix (List.zipWith (fun x y => .tuple [x, y]) xs ys), p.2)
  | _ => none
def enumD (i : Nat) : List PyData → List PyData
  | [] => []
  | x :: xs => .tuple [.int (i : Nat), x] :: enumD (i + 1) xs
def iEnum1 (a : SA) : SI := fun ev st => (a ev st).bind fun p => match p.1 with
  | [.d (.list xs)] => some (.fix (enumD 0 xs), p.2)
  | [.d (.tuple xs)] => some (.fix (enumD 0 xs), p.2)
  | [.s ns] => some (.fix (enumD 0 (ns.map .int)), p.2)
  | _ => none
theorem enumD_get : ∀ (xs : List PyData) (i k : Nat), (enumD k xs)[i]? = (xs[i]?).map fun x => .tuple [.int ((k + i : Nat) : Int), x]
  | [], i, k => by simp [enumD]
  | x :: xs, 0, k => by simp [enumD]
  | x :: xs, i + 1, k => by
    simp only [enumD, List.getElem?_cons_succ]
    rw [enumD_get xs i (k + 1)]
    congr 1
    funext y
    rw [show k + 1 + i = k + (i + 1) by omega]
theorem enumD_length : ∀ (xs : List PyData) (k : Nat), (enumD k xs).length = xs.length
  | [], _ => rfl
  | x :: xs, k => by simp [enumD, enumD_length xs (k + 1)]
theorem yld_range {F : Hp} {lo : Int} {n : Nat} : Yld F (Itr lo n) (rangeD lo n) :=
  walk_yld walk_range (by simp [rangeD]) (fun _ _ _ _ => trivial) fun F1 H i d x H' s1 s2 e ⟨e1, e2⟩ => by
    subst e1 e2
    have : d = .int (lo + (i : Nat)) := by
      simp only [rangeD, List.getElem?_map, Option.map_eq_some_iff] at e
      obtain ⟨k, e3, e4⟩ := e
      have := List.getElem?_range (n := n) (i := i) (by
        rcases Nat.lt_or_ge i n with q | q
        · exact q
        · rw [List.getElem?_eq_none (by simpa using q)] at e3
          cases e3)
      rw [this] at e3
      cases e3
      exact e4.symm
    subst this
    exact ⟨F1, .refl s2, .int _⟩
theorem yld_rangeC {F : Hp} {lo c : Int} {n : Nat} : Yld F (Itc lo c n) (rangeC lo c n) :=
  walk_yld walk_rangeC (by simp [rangeC]) (fun _ _ _ _ => trivial) fun F1 H i d x H' s1 s2 e ⟨e1, e2⟩ => by
    subst e1 e2
    have : d = .int (lo + (i : Nat) * c) := by
      simp only [rangeC, List.getElem?_map, Option.map_eq_some_iff] at e
      obtain ⟨k, e3, e4⟩ := e
      have := List.getElem?_range (n := n) (i := i) (by
        rcases Nat.lt_or_ge i n with q | q
        · exact q
        · rw [List.getElem?_eq_none (by simpa using q)] at e3
          cases e3)
      rw [this] at e3
      cases e3
      exact e4.symm
    subst this
    exact ⟨F1, .refl s2, .int _⟩
/-- a walk that makes pairs -/
theorem yld_pair {J : It} {n : Nat} {G : Hp → Prop} {f g : Nat → Option V} {F : Hp} {xs : List PyData} (w : Walk J n G (YPair f g)) (hn : n = xs.length) (hG : ∀ F1 H, SamD F F1 → Same F1 H → G H)
    (hy : ∀ i d x y, xs[i]? = some d → f i = some x → g i = some y → ∃ a b, d = .tuple [a, b] ∧ Dq F x a ∧ Dq F y b) : Yld F J xs :=
  walk_yld w hn hG fun F1 H i d v H' s1 s2 e ⟨T, x, y, e1, e2, e3, e4, e5⟩ => by
    subst e1 e3
    obtain ⟨a, b, rfl, h1, h2⟩ := hy i d x y e e4 e5
    have nT : F1 T = none := s2.free e2
    have s3 : SamD F (upd F1 T (.tup [x, y])) := fun a o h n => same_upd nT _ _ (s1 a o h n)
    exact ⟨upd F1 T (.tup [x, y]), .new s2 e2, .tup upd_same (.cons (h1.monoD s3) (.cons (h2.monoD s3) .nil))⟩
theorem walk_zipT {K : PySem.W.Frag} {a b : Addr} {xs ys : List V} {n : Nat} (hn : n = min xs.length ys.length) : Walk (RZ.ItzT K a b) n (fun H => SqT K H a xs ∧ SqT K H b ys) (YPair (fun i => xs[i]?) (fun i => ys[i]?)) := by
  subst hn
  refine ⟨fun i H hi q => ?_, fun H q => ⟨xs, ys, q.1, q.2, by omega⟩, fun i H v H' _ q ⟨T, x, z, t1, t2, t3, px, pz⟩ => ⟨T, x, z, t1, t2, t3, px xs q.1, pz ys q.2⟩⟩
  obtain ⟨lx, ly⟩ := Nat.lt_min.mp hi
  exact ⟨xs, ys, _, _, q.1, q.2, List.getElem?_eq_getElem lx, List.getElem?_eq_getElem ly⟩
theorem walk_enumT {K : PySem.W.Frag} {a : Addr} {xs : List V} : Walk (ItE K a) xs.length (fun H => H a = some (.tup xs)) (YPair (fun i => some (.int (i : Nat))) (fun i => xs[i]?)) :=
  ⟨fun _ _ hi q => ⟨xs, _, q, List.getElem?_eq_getElem hi⟩, fun _ q => ⟨xs, q, rfl⟩, fun i _ _ _ _ q ⟨T, x, t1, t2, t3, px⟩ => ⟨T, .int (i : Nat), x, t1, t2, t3, rfl, px xs q⟩⟩
theorem zipWith_get {xs ys : List PyData} {i : Nat} {d : PyData} (e : (List.zipWith (fun x y => PyData.tuple [x, y]) xs ys)[i]? = some d) : ∃ a b, xs[i]? = some a ∧ ys[i]? = some b ∧ d = .tuple [a, b] := by
  rw [List.getElem?_zipWith] at e
  split at e
  · rename_i a b h1 h2
    cases e
    exact ⟨a, b, h1, h2, rfl⟩
  · cases e
section
variable {X : Cx} {tg e e1 e2 e3 : Expr} {es elts : List Expr} {p pos tpos : Pos} {kk : Nat} {ce : SE} {sa : SA}
theorem i_range1 (hg : Gl X "range") (hm : X.mg "range" = none) (ha : PA X [e] (tA X.K sa)) (hs : starEach [e] X.env = [(false, eval e X.env)] := by rfl) : PI X tg (.Call (.Name "range" p) [e] [] pos) (tIt X.K (iRange1 sa)) :=
  L2.PI.weak (pi_range1 hg hm ha hs) fun σ H R ⟨ρ, F, ev, st, src, st', hr, sr, e, post⟩ => by
    simp only [iRange1, Option.bind_eq_some_iff] at e
    obtain ⟨⟨ws, st1⟩, e1, e2⟩ := e
    refine ⟨ρ, F, ev, st, ws, st1, hr, sr, e1, fun vs ρ' F' H' x hr' wr => ?_⟩
    split at e2
    · rename_i j q
      cases q
      split at e2
      · rename_i hb
        cases e2
        have hb' := of_decide_eq_true hb
        cases wr with
        | cons w1 t =>
          cases w1
          cases t
          exact ⟨j, rfl, by omega, by omega, post _ ρ' F' H' x hr' yld_range⟩
      · cases e2
    · cases e2
theorem i_range2 (hg : Gl X "range") (hm : X.mg "range" = none) (ha : PA X [e1, e2] (tA X.K sa)) (hs : starEach [e1, e2] X.env = [(false, eval e1 X.env), (false, eval e2 X.env)] := by rfl) (hs2 : starEach [e2] X.env = [(false, eval e2 X.env)] := by rfl) : PI X tg (.Call (.Name "range" p) [e1, e2] [] pos) (tIt X.K (iRange2 sa)) :=
  L2.PI.weak (pi_range2 hg hm ha hs hs2) fun σ H R ⟨ρ, F, ev, st, src, st', hr, sr, e, post⟩ => by
    simp only [iRange2, Option.bind_eq_some_iff] at e
    obtain ⟨⟨ws, st1⟩, e1, e2⟩ := e
    refine ⟨ρ, F, ev, st, ws, st1, hr, sr, e1, fun vs ρ' F' H' x hr' wr => ?_⟩
    split at e2
    · rename_i i j q
      cases q
      split at e2
      · rename_i hb
        cases e2
        rw [Bool.and_eq_true] at hb
        have h1 := of_decide_eq_true hb.1
        have h2 := of_decide_eq_true hb.2
        cases wr with
        | cons w1 t =>
          cases w1
          cases t with
          | cons w2 t =>
            cases w2
            cases t
            exact ⟨i, j, rfl, ⟨by omega, by omega, by omega, by omega⟩, post _ ρ' F' H' x hr' yld_range⟩
      · cases e2
    · cases e2
theorem i_range3 (hg : Gl X "range") (hm : X.mg "range" = none) (ha : PA X [e1, e2, e3] (tA X.K sa)) (hs : starEach [e1, e2, e3] X.env = (false, eval e1 X.env) :: starEach [e2, e3] X.env := by rfl) (hpl : (backTo pos (starEach [e2, e3] X.env)).any (·.1) = false := by rfl) : PI X tg (.Call (.Name "range" p) [e1, e2, e3] [] pos) (tIt X.K (iRange3 sa)) :=
  L2.PI.weak (pi_range3 hg hm ha hs hpl) fun σ H R ⟨ρ, F, ev, st, src, st', hr, sr, e, post⟩ => by
    simp only [iRange3, Option.bind_eq_some_iff] at e
    obtain ⟨⟨ws, st1⟩, e1, e2⟩ := e
    refine ⟨ρ, F, ev, st, ws, st1, hr, sr, e1, fun vs ρ' F' H' x hr' wr => ?_⟩
    split at e2
    · rename_i i j c q
      cases q
      split at e2
      · rename_i hb
        cases e2
        cases wr with
        | cons w1 t =>
          cases w1
          cases t with
          | cons w2 t =>
            cases w2
            cases t with
            | cons w3 t =>
              cases w3
              cases t
              exact ⟨i, j, c, _, rfl, ⟨hb.1, hb.2.1, hb.2.2.1, by have := hb.2.2.2; omega⟩, post _ ρ' F' H' x hr' yld_rangeC⟩
      · cases e2
    · cases e2
theorem i_zip (hg : Gl X "zip") (hm : X.mg "zip" = none) (ha : PA X [e1, e2] (tA X.K sa)) (hs : starEach [e1, e2] X.env = (false, eval e1 X.env) :: starEach [e2] X.env := by rfl) (hpl : (backTo pos (starEach [e2] X.env)).any (·.1) = false := by rfl) :
    PI X (.Tuple elts kk tpos) (.Call (.Name "zip" p) [e1, e2] [] pos) (tIt X.K (iZip2 sa)) :=
  L2.PI.weak (RZ.pi_zipA hg hm ha hs hpl) fun σ H R ⟨ρ, F, ev, st, src, st', hr, sr, e, post⟩ => by
    simp only [iZip2, Option.bind_eq_some_iff] at e
    obtain ⟨⟨ws, st1⟩, e1, e2⟩ := e
    refine ⟨ρ, F, ev, st, ws, st1, hr, sr, e1, fun vs ρ' F' H' x hr' wr => ?_⟩
    split at e2
    · rename_i xs ys q
      cases q
      cases e2
      cases wr with
      | cons w1 t =>
        cases t with
        | cons w2 t =>
          cases t
          cases w1 with
          | lst h1 a1 =>
            cases w2 with
            | lst h2 a2 =>
              refine ⟨_, _, _, _, rfl, .inl ⟨SqL.of (hr'.sub _ _ h1), SqL.of (hr'.sub _ _ h2), post _ ρ' F' H' x hr' ?_⟩⟩
              refine yld_pair (walk_zip rfl) (by simp [a1.length, a2.length]) (fun F1 H s1 s2 => ⟨SqL.of (s2 _ _ (s1 _ _ h1 fun _ q => nomatch q)), SqL.of (s2 _ _ (s1 _ _ h2 fun _ q => nomatch q))⟩) fun i d u v e e' e'' => ?_
              obtain ⟨a, b, k1, k2, k3⟩ := zipWith_get e
              obtain ⟨u', k4, k5⟩ := a1.get' k1
              obtain ⟨v', k6, k7⟩ := a2.get' k2
              rw [e'] at k4
              rw [e''] at k6
              cases k4
              cases k6
              exact ⟨a, b, k3, k5, k7⟩
    · rename_i xs ys q
      cases q
      cases e2
      cases wr with
      | cons w1 t =>
        cases t with
        | cons w2 t =>
          cases t
          cases w1 with
          | tup h1 a1 =>
            cases w2 with
            | tup h2 a2 =>
              refine ⟨_, _, _, _, rfl, .inr ⟨SqT.of (hr'.sub _ _ h1), SqT.of (hr'.sub _ _ h2), post _ ρ' F' H' x hr' ?_⟩⟩
              refine yld_pair (walk_zipT rfl) (by simp [a1.length, a2.length]) (fun F1 H s1 s2 => ⟨SqT.of (s2 _ _ (s1 _ _ h1 fun _ q => nomatch q)), SqT.of (s2 _ _ (s1 _ _ h2 fun _ q => nomatch q))⟩) fun i d u v e e' e'' => ?_
              obtain ⟨a, b, k1, k2, k3⟩ := zipWith_get e
              obtain ⟨u', k4, k5⟩ := a1.get' k1
              obtain ⟨v', k6, k7⟩ := a2.get' k2
              rw [e'] at k4
              rw [e''] at k6
              cases k4
              cases k6
              exact ⟨a, b, k3, k5, k7⟩
    · cases e2
theorem i_enum (hg : Gl X "enumerate") (hm : X.mg "enumerate" = none) (ha : PA X [e] (tA X.K sa)) (hs : starEach [e] X.env = [(false, eval e X.env)] := by rfl) :
    PI X (.Tuple elts kk tpos) (.Call (.Name "enumerate" p) [e] [] pos) (tIt X.K (iEnum1 sa)) :=
  PI.or (pi_enum hg hm ha hs) (pi_enumT hg hm ha hs) fun σ H R ⟨ρ, F, ev, st, src, st', hr, sr, e, post⟩ => by
    simp only [iEnum1, Option.bind_eq_some_iff] at e
    obtain ⟨⟨ws, st1⟩, e1, e2⟩ := e
    have lst : ∀ {F' : Hp} {a : Addr} {vs : List V} {xs : List PyData}, (∀ F1 H, SamD F' F1 → Same F1 H → SqL X.K H a vs) → DqA F' vs xs → Yld F' (Ite X.K a) (enumD 0 xs) := fun hq d =>
      yld_pair walk_enum (by rw [enumD_length, d.length]) hq fun i z u v e e' e'' => by
        rw [enumD_get] at e
        obtain ⟨y, k1, k2⟩ := Option.map_eq_some_iff.mp e
        obtain ⟨v', k3, k4⟩ := d.get' k1
        rw [e''] at k3
        cases k3
        cases e'
        subst k2
        refine ⟨_, _, rfl, ?_, k4⟩
        rw [Nat.zero_add]
        exact .int _
    split at e2
    · rename_i xs q
      cases q
      cases e2
      refine .inl ⟨ρ, F, ev, st, _, _, hr, sr, e1, fun vs ρ' F' H' x hr' wr => ?_⟩
      cases wr with
      | cons w1 t =>
        cases t
        cases w1 with
        | lst h a => exact ⟨_, _, rfl, SqL.of (hr'.sub _ _ h), post _ ρ' F' H' x hr' (lst (fun F1 H s1 s2 => SqL.of (s2 _ _ (s1 _ _ h fun _ q => nomatch q))) a)⟩
    · rename_i xs q
      cases q
      cases e2
      refine .inr ⟨ρ, F, ev, st, _, _, hr, sr, e1, fun vs ρ' F' H' x hr' wr => ?_⟩
      cases wr with
      | cons w1 t =>
        cases t
        cases w1 with
        | tup h a =>
          refine ⟨_, _, rfl, hr'.sub _ _ h, post _ ρ' F' H' x hr' ?_⟩
          refine yld_pair walk_enumT (by rw [enumD_length, a.length]) (fun F1 H s1 s2 => s2 _ _ (s1 _ _ h fun _ q => nomatch q)) fun i z u v e e' e'' => ?_
          rw [enumD_get] at e
          obtain ⟨y, k1, k2⟩ := Option.map_eq_some_iff.mp e
          obtain ⟨v', k3, k4⟩ := a.get' k1
          rw [e''] at k3
          cases k3
          cases e'
          subst k2
          refine ⟨_, _, rfl, ?_, k4⟩
          rw [Nat.zero_add]
          exact .int _
    · rename_i ns q
      cases q
      cases e2
      refine .inl ⟨ρ, F, ev, st, _, _, hr, sr, e1, fun vs ρ' F' H' x hr' wr => ?_⟩
      cases wr with
      | cons w1 t =>
        cases t
        obtain ⟨a, h1, h2⟩ := w1
        have sq : ∀ F1 H, SamD F' F1 → Same F1 H → SqL X.K H a (ns.map V.int) := fun F1 H s1 s2 => s2.seq (SamD.seq s1 h2)
        exact ⟨a, _, by rw [h1], sq F' H' (sameD (Same.refl _)) hr'.sub, post _ ρ' F' H' x hr' (lst sq DqA.ints)⟩
    · cases e2
end
end Cm

set_option Elab.async false
set_option linter.all false
set_option maxRecDepth 100000
namespace Cm
open PySem PySem.Spec PyProof.Rows L2

/-! ### a list of the store is written -/
theorem HR.write {ρ : List Addr} {F H : Hp} {st : Sto} {n : Nat} {a : Addr} {xs ys : List PyData} {vs : List V} (h : HR ρ F H st) (e : st[n]? = some (some xs)) (ha : ρ[n]? = some a) (d : DqA F vs ys) :
    HR ρ F (upd H a (.lst vs)) (st.set n (some ys)) := by
  obtain ⟨a', us, h1, h2, h3, h4⟩ := h.cell n xs e
  rw [ha] at h1
  cases h1
  have hn : n < st.length := by
    rcases Nat.lt_or_ge n st.length with q | q
    · exact q
    · rw [List.getElem?_eq_none q] at e
      cases e
  have li : ∀ j : Nat, (∃ zs, (st.set n (some ys))[j]? = some (some zs)) → ∃ zs, st[j]? = some (some zs) := fun j ⟨zs, q⟩ => by
    by_cases hj : n = j
    · subst hj
      exact ⟨_, e⟩
    · rw [List.getElem?_set_ne hj] at q
      exact ⟨zs, q⟩
  refine ⟨fun b o q => ?_, fun m zs q => ?_, fun m k b e1 e2 l1 l2 => h.inj m k b e1 e2 (li m l1) (li k l2), by simp [h.len]⟩
  · have hb : b ≠ a := fun z => by
      subst z
      rw [h3] at q
      cases q
    rw [upd_ne hb]
    exact h.sub _ _ q
  · by_cases hm : n = m
    · subst hm
      rw [List.getElem?_set_self hn] at q
      cases q
      exact ⟨a, vs, ha, upd_same, h3, d⟩
    · rw [List.getElem?_set_ne hm] at q
      obtain ⟨b, ws, k1, k2, k3, k4⟩ := h.cell m zs q
      have hb : b ≠ a := fun z => by
        subst z
        exact hm (h.inj n m b ha k1 ⟨_, e⟩ ⟨_, q⟩)
      exact ⟨b, ws, k1, by rw [upd_ne hb]; exact k2, k3, k4⟩
theorem take_set {α : Type} (l : List α) (n : Nat) (x : α) (h : n < l.length) : (l.set n x).take (n + 1) = l.take n ++ [x] := by
  rw [List.take_add_one, List.getElem?_set_self h, List.take_set_of_le (Nat.le_refl _)]
  rfl
theorem lt_of_get {α : Type} {l : List α} {n : Nat} {x : α} (e : l[n]? = some x) : n < l.length := by
  rcases Nat.lt_or_ge n l.length with q | q
  · exact q
  · rw [List.getElem?_eq_none q] at e
    cases e
theorem take_get {α : Type} {l : List α} {n : Nat} {x : α} (e : l[n]? = some x) : l.take (n + 1) = l.take n ++ [x] := by
  rw [List.take_add_one, e]
  rfl

/-! ### comprehensions -/
def lcL (g : GT) (tt : SB) (te : SE) (ev : Ev) : List PyData → Sto → List PyData → Option (List PyData × Sto)
  | [], st, acc => some (acc, st)
  | x :: xs, st, acc => (g x ev).bind fun ev1 => (tt ev1 (st ++ [some acc])).bind fun p =>
    if p.1 then (te ev1 p.2).bind fun q => match q.1, q.2[st.length]? with
      | .d y, some (some acc') => if acc'.length < lim then lcL g tt te ev xs (q.2.take st.length) (acc' ++ [y]) else none
      | _, _ => none
    else match p.2[st.length]? with
      | some (some acc') => lcL g tt te ev xs (p.2.take st.length) acc'
      | _ => none
def lcC (g : GT) (tt : SB) (te : SE) (ev : Ev) (n : Nat) : Nat → Nat → Sto → List PyData → Option (List PyData × Sto)
  | 0, _, _, _ => none
  | k + 1, i, st, acc => match (st ++ [some acc])[n]? with
    | some (some xs) => match xs[i]? with
      | none => some (acc, st)
      | some x => (g x ev).bind fun ev1 => (tt ev1 (st ++ [some acc])).bind fun p =>
        if p.1 then (te ev1 p.2).bind fun q => match q.1, q.2[st.length]? with
          | .d y, some (some acc') => if acc'.length < lim then lcC g tt te ev n k (i + 1) (q.2.take st.length) (acc' ++ [y]) else none
          | _, _ => none
        else match p.2[st.length]? with
          | some (some acc') => lcC g tt te ev n k (i + 1) (p.2.take st.length) acc'
          | _ => none
    | _ => none
def lcR (it : SI) (g : GT) (tt : SB) (te : SE) (vs : List Nat) (ev : Ev) (st : Sto) : Option (List PyData × Sto) := (it ev st).bind fun p => match p.1 with
  | .fix xs => lcL g tt te (wipeE ev vs) xs p.2 []
  | .cell n => lcC g tt te (wipeE ev vs) n lim 0 p.2 []
def cLc (it : SI) (g : GT) (tt : SB) (te : SE) (vs : List Nat) : SE := fun ev st => (lcR it g tt te vs ev st).map fun p => (.d (.list p.1), p.2)
def cLcM (it : SI) (g : GT) (tt : SB) (te : SE) (vs : List Nat) : SE := fun ev st => (lcR it g tt te vs ev st).map fun p => (.l p.2.length, p.2 ++ [some p.1])
def bYes : SB := fun _ st => some (true, st)
section
variable {X : Cx} {e c : Expr}
theorem ts_nil : PTs X [] (tT X.K bYes) := pts_nil.weak fun σ H Q ⟨ρ, F, ev, st, w, st', hr, sr, e, post⟩ => by
  cases e
  exact post ρ F H (.refl _ _) hr
theorem ts_one {b : SB} (h : PT X c (tT X.K b)) : PTs X [c] (tT X.K b) := pts_one h
end
/-- the new list's place stays while a turn runs; what a turn leaves is cut back -/
theorem HR.lcNext {ρ ρ1 : List Addr} {F F1 H1 : Hp} {st st1 : Sto} {D : Addr} {acc acc' : List PyData} (hl : ρ.length = st.length) (x : Ext (ρ ++ [D]) F ρ1 F1) (h : HR ρ1 F1 H1 st1) (e : st1[st.length]? = some (some acc')) :
    ρ1[st.length]? = some D ∧ ∃ vs, H1 D = some (.lst vs) ∧ DqA F1 vs acc' := by
  have hD : ρ1[st.length]? = some D := x.pre _ _ (by
    rw [List.getElem?_append_right (by omega), hl]
    simp)
  obtain ⟨a, vs, h1, h2, h3, h4⟩ := h.cell _ _ e
  rw [hD] at h1
  cases h1
  exact ⟨hD, vs, h2, h4⟩
theorem Ext.unpush {ρ ρ1 : List Addr} {F F1 : Hp} {D : Addr} (x : Ext (ρ ++ [D]) F ρ1 F1) : Ext ρ F (ρ1.take ρ.length) F1 := ((Ext.push D).trans x).take _ (Nat.le_refl _)
theorem length_take_of {α : Type} {l : List α} {n : Nat} {x : α} (e : l[n]? = some x) : (l.take n).length = n := by
  rw [List.length_take]
  have := lt_of_get e
  omega
section
variable {ci : SI} {g : GT} {ct : SB} {ce : SE} {vs : List Nat}
/-- one turn of a comprehension -/
theorem lc_turn {K : PySem.W.Frag} {σ : L2.St} {ev ev1 : Ev} {ρ : List Addr} {F H : Hp} {st : Sto} {D : Addr} {acc : List PyData} {x : PyData} {v : V} {Nx : Hp → Prop} {R : List PyData → Sto → Prop}
    (hl : ρ.length = st.length) (hr : HR (ρ ++ [D]) F H (st ++ [some acc])) (sr : SR K ρ F (wipeE ev vs) (L2.wipe σ vs)) (d : Dq F v x) (e1 : g x (wipeE ev vs) = some ev1)
    {p : Bool × Sto} (e2 : ct ev1 (st ++ [some acc]) = some p)
    (e3 : if p.1 then ∃ q y acc', ce ev1 p.2 = some q ∧ q.1 = .d y ∧ q.2[st.length]? = some (some acc') ∧ acc'.length < lim ∧ R (acc' ++ [y]) (q.2.take st.length) else ∃ acc', p.2[st.length]? = some (some acc') ∧ R acc' (p.2.take st.length))
    (nx : ∀ ρ1 F1 H1 st1 acc1, Ext ρ F ρ1 F1 → ρ1.length = st1.length → HR (ρ1 ++ [D]) F1 H1 (st1 ++ [some acc1]) → R acc1 st1 → Nx H1) :
    tG K vs g v (L2.wipe σ vs) H fun σ2 H2 => L2.wipe σ2 vs = L2.wipe σ vs ∧ tT K ct σ2 H2 fun b H3 => if b = true then tI K ce σ2 H3 fun y H4 => ∃ acc, H4 D = some (.lst acc) ∧ acc.length < sizeLine ∧ Nx (upd H4 D (.lst (acc ++ [y]))) else Nx H3 := by
  have hwipe : ∀ τ : L2.St, L2.wipe (L2.wipe τ vs) vs = L2.wipe τ vs := fun τ => by
    apply List.ext_getElem?
    intro j
    by_cases hj : j ∈ vs
    · by_cases hlj : j < τ.length
      · rw [wipe_in hj (by rw [wipe_length]; exact hlj), wipe_in hj hlj]
      · rw [List.getElem?_eq_none (by rw [wipe_length, wipe_length]; omega), List.getElem?_eq_none (by rw [wipe_length]; omega)]
    · rw [wipe_out hj]
  refine ⟨ρ, F, _, x, ev1, hr.sub, sr, d, e1, fun σ2 sr2 w2 => ⟨w2.trans (hwipe σ), ?_⟩⟩
  have xp : Ext ρ F (ρ ++ [D]) F := .push D
  refine ⟨ρ ++ [D], F, ev1, st ++ [some acc], p.1, p.2, hr, sr2.mono xp, e2, fun ρ3 F3 H3 x3 hr3 => ?_⟩
  cases hb : p.1 with
  | false =>
    rw [hb] at e3
    simp only [Bool.false_eq_true, if_false] at e3 ⊢
    obtain ⟨acc', e4, r⟩ := e3
    obtain ⟨hD, us, h1, h2⟩ := HR.lcNext (acc := acc) hl x3 hr3 e4
    refine nx (ρ3.take st.length) F3 H3 (p.2.take st.length) acc' (by rw [← hl]; exact x3.unpush) ?_ ?_ r
    · rw [length_take_of hD, length_take_of e4]
    · rw [← take_get hD, ← take_get e4]
      exact hr3.take _
  | true =>
    rw [hb] at e3
    simp only [if_true] at e3 ⊢
    obtain ⟨q, y, acc', e4, e5, e6, e7, r⟩ := e3
    obtain ⟨w, st4⟩ := q
    simp only at e5 e6 r
    subst e5
    refine ⟨ρ3, F3, ev1, p.2, .d y, st4, hr3, (sr2.mono xp).mono x3, e4, fun vy ρ4 F4 H4 x4 hr4 wy => ?_⟩
    obtain ⟨hD, us, h1, h2⟩ := HR.lcNext (acc := acc) hl (x3.trans x4) hr4 e6
    refine ⟨us, h1, ?_, ?_⟩
    · rw [h2.length]
      exact Nat.lt_of_lt_of_le e7 (lim_le (Nat.le_refl _))
    · refine nx (ρ4.take st.length) F4 _ (st4.take st.length) (acc' ++ [y]) (by rw [← hl]; exact (x3.trans x4).unpush) ?_ ?_ r
      · rw [length_take_of hD, length_take_of e6]
      · have hw := hr4.write (ys := acc' ++ [y]) (vs := us ++ [vy]) e6 hD (h2.append (.cons wy .nil))
        have := hw.take (st.length + 1)
        rw [take_get hD, take_set _ _ _ (lt_of_get e6)] at this
        exact this
theorem lc_ok {K : PySem.W.Frag} {σ : L2.St} {H : Hp} {Q : VK} {ρ : List Addr} {F : Hp} {ev : Ev} {st : Sto} {r : List PyData × Sto} (hr : HR ρ F H st) (sr : SR K ρ F ev σ) (e : lcR ci g ct ce vs ev st = some r)
    (fin : ∀ D ρ' F' H', Ext ρ F ρ' F' → ρ'.length = r.2.length → HR (ρ' ++ [D]) F' H' (r.2 ++ [some r.1]) → Q (.ref D) H') : tLc (tIt K ci) (tG K vs g) (tT K ct) (tI K ce) vs σ H Q := by
  simp only [lcR, Option.bind_eq_some_iff] at e
  obtain ⟨⟨src, st1⟩, e1, e2⟩ := e
  refine ⟨ρ, F, ev, st, src, st1, hr, sr, e1, fun J ρ1 F1 H1 x1 hr1 y D nD => ?_⟩
  have srw : ∀ {ρ2 : List Addr} {F2 : Hp}, Ext ρ1 F1 ρ2 F2 → SR K ρ2 F2 (wipeE ev vs) (L2.wipe σ vs) := fun x2 => (((sr.mono x1).mono x2).wipe vs)
  cases src with
  | fix xs =>
    refine ⟨fun i m H => m = xs.length - i ∧ i ≤ xs.length ∧ ∃ ρ2 F2 st2 acc, Ext ρ1 F1 ρ2 F2 ∧ ρ2.length = st2.length ∧ HR (ρ2 ++ [D]) F2 H (st2 ++ [some acc]) ∧ lcL g ct ce (wipeE ev vs) (xs.drop i) st2 acc = some r,
      ⟨xs.length, rfl, Nat.zero_le _, ρ1, F1, st1, [], .refl _ _, hr1.len, hr1.push nD .nil, e2⟩, ?_⟩
    rintro i m H2 ⟨rfl, hi, ρ2, F2, st2, acc, x2, hl2, hr2, e3⟩
    obtain ⟨yg, ys⟩ := y F2 H2 (sameD x2.same) hr2.sub
    by_cases hlt : i < xs.length
    · rw [List.drop_eq_getElem_cons hlt] at e3
      simp only [lcL, Option.bind_eq_some_iff] at e3
      obtain ⟨ev1, e4, p, e5, e6⟩ := e3
      obtain ⟨go, yl⟩ := yg i xs[i] (List.getElem?_eq_getElem hlt)
      refine .inr ⟨go, fun H => ∃ ρ2 F2 st2 acc, Ext ρ1 F1 ρ2 F2 ∧ ρ2.length = st2.length ∧ HR (ρ2 ++ [D]) F2 H (st2 ++ [some acc]) ∧ lcL g ct ce (wipeE ev vs) (xs.drop (i + 1)) st2 acc = some r, fun H' w => ⟨xs.length - (i + 1), by omega, rfl, hlt, w⟩, fun v H3 yv => ?_⟩
      obtain ⟨F3, gr, d⟩ := yl v H3 yv
      have x3 : Ext ρ2 F2 ρ2 F3 := .of gr
      refine lc_turn (R := fun acc st => lcL g ct ce (wipeE ev vs) (xs.drop (i + 1)) st acc = some r) hl2 (hr2.grow gr) (srw (x2.trans x3)) d e4 e5 ?_ fun ρ4 F4 H4 st4 acc4 x4 hl4 hr4 e7 => ⟨ρ4, F4, st4, acc4, (x2.trans x3).trans x4, hl4, hr4, e7⟩
      split at e6
      · rename_i hp
        rw [if_pos hp]
        simp only [Option.bind_eq_some_iff] at e6
        obtain ⟨q, e7, e8⟩ := e6
        split at e8
        · rename_i y acc' k1 k2
          split at e8
          · rename_i hlm
            exact ⟨q, y, acc', e7, k1, k2, hlm, e8⟩
          · cases e8
        · cases e8
      · rename_i hp
        rw [if_neg hp]
        split at e6
        · rename_i acc' k2
          exact ⟨acc', k2, e6⟩
        · cases e6
    · have hx : i = xs.length := by omega
      subst hx
      rw [List.drop_length] at e3
      cases e3
      exact .inl ⟨ys, fin D ρ2 F2 H2 (x1.trans x2) hl2 hr2⟩
  | cell n =>
    obtain ⟨a, ha, rfl⟩ := y
    refine ⟨fun i m H => ∃ ρ2 F2 st2 acc, Ext ρ1 F1 ρ2 F2 ∧ ρ2.length = st2.length ∧ HR (ρ2 ++ [D]) F2 H (st2 ++ [some acc]) ∧ lcC g ct ce (wipeE ev vs) n m i st2 acc = some r,
      ⟨lim, ρ1, F1, st1, [], .refl _ _, hr1.len, hr1.push nD .nil, e2⟩, ?_⟩
    rintro i m H2 ⟨ρ2, F2, st2, acc, x2, hl2, hr2, e3⟩
    cases m with
    | zero => cases e3
    | succ m =>
      simp only [lcC] at e3
      split at e3
      · rename_i xs q
        obtain ⟨a', us, h1, h2, h3, h4⟩ := hr2.cell n xs q
        rw [((x2.trans (.push D)).pre n a ha)] at h1
        cases h1
        have hq : SqL K H2 a us := SqL.of h2
        split at e3
        · rename_i q2
          cases e3
          refine .inl ⟨⟨us, hq, ?_⟩, fin D ρ2 F2 H2 (x1.trans x2) hl2 hr2⟩
          rw [h4.length]
          exact List.getElem?_eq_none_iff.mp q2
        · rename_i d q2
          simp only [Option.bind_eq_some_iff] at e3
          obtain ⟨ev1, e4, p, e5, e6⟩ := e3
          obtain ⟨v, hv, dv⟩ := h4.get' q2
          refine .inr ⟨⟨us, v, hq, hv⟩, fun H => ∃ ρ2 F2 st2 acc, Ext ρ1 F1 ρ2 F2 ∧ ρ2.length = st2.length ∧ HR (ρ2 ++ [D]) F2 H (st2 ++ [some acc]) ∧ lcC g ct ce (wipeE ev vs) n m (i + 1) st2 acc = some r, fun H' w => ⟨m, Nat.lt_succ_self _, w⟩, fun v' H3 ⟨eH, yv⟩ => ?_⟩
          subst eH
          have ev' : v' = v := Option.some.inj ((yv us hq).symm.trans hv)
          subst ev'
          refine lc_turn (R := fun acc st => lcC g ct ce (wipeE ev vs) n m (i + 1) st acc = some r) hl2 hr2 (srw x2) dv e4 e5 ?_ fun ρ4 F4 H4 st4 acc4 x4 hl4 hr4 e7 => ⟨ρ4, F4, st4, acc4, x2.trans x4, hl4, hr4, e7⟩
          split at e6
          · rename_i hp
            rw [if_pos hp]
            simp only [Option.bind_eq_some_iff] at e6
            obtain ⟨q, e7, e8⟩ := e6
            split at e8
            · rename_i y acc' k1 k2
              split at e8
              · rename_i hlm
                exact ⟨q, y, acc', e7, k1, k2, hlm, e8⟩
              · cases e8
            · cases e8
          · rename_i hp
            rw [if_neg hp]
            split at e6
            · rename_i acc' k2
              exact ⟨acc', k2, e6⟩
            · cases e6
      · cases e3
theorem lcD_ok {K : PySem.W.Frag} {σ : L2.St} {H : Hp} {Q : VK} (h : tI K (cLc ci g ct ce vs) σ H Q) : tLc (tIt K ci) (tG K vs g) (tT K ct) (tI K ce) vs σ H Q := by
  obtain ⟨ρ, F, ev, st, w, st', hr, sr, e, post⟩ := h
  simp only [cLc, Option.map_eq_some_iff] at e
  obtain ⟨⟨xs, st1⟩, e1, e2⟩ := e
  cases e2
  refine lc_ok hr sr e1 fun D ρ' F' H' x hl hr' => ?_
  replace hl : ρ'.length = st1.length := hl
  have e3 : (st1 ++ [some xs])[st1.length]? = some (some xs) := by simp
  obtain ⟨a, vs, h1, h2, h3, h4, h5⟩ := hr'.freeze e3
  have ha : a = D := by
    rw [List.getElem?_append_right (by omega), hl] at h1
    simpa using h1.symm
  subst ha
  have t := h5.take st1.length
  have e4 : (ρ' ++ [a]).take st1.length = ρ' := by rw [List.take_append_of_le_length (by omega), List.take_of_length_le (by omega)]
  have e5 : ((st1 ++ [some xs]).set st1.length none).take st1.length = st1 := by
    rw [List.take_set_of_le (Nat.le_refl _), List.take_append_of_le_length (Nat.le_refl _), List.take_length]
  rw [e4, e5] at t
  exact post _ ρ' _ H' (x.trans (.upd h2)) t (.lst upd_same (h4.mono (same_upd h2)))
theorem lcM_ok {K : PySem.W.Frag} {σ : L2.St} {H : Hp} {Q : VK} (h : tI K (cLcM ci g ct ce vs) σ H Q) : tLc (tIt K ci) (tG K vs g) (tT K ct) (tI K ce) vs σ H Q := by
  obtain ⟨ρ, F, ev, st, w, st', hr, sr, e, post⟩ := h
  simp only [cLcM, Option.map_eq_some_iff] at e
  obtain ⟨⟨xs, st1⟩, e1, e2⟩ := e
  cases e2
  refine lc_ok hr sr e1 fun D ρ' F' H' x hl hr' => ?_
  replace hl : ρ'.length = st1.length := hl
  exact post _ _ _ H' (x.trans (.push D)) hr' ⟨D, by
    show (ρ' ++ [D])[st1.length]? = some D
    rw [List.getElem?_append_right (by omega), hl]
    simp, rfl⟩
end
section
variable {X : Cx} {elt tg iter : Expr} {ifs : List Expr} {scope : Scope} {own : List (Str × Nat)} {pos : Pos} {ci : SI} {g : GT} {ct : SB} {ce : SE}
theorem se_lc (hc : X.calm = true) (hN : X.N.Nodup) (hi : PI X tg iter (tIt X.K ci)) (ok : BlkOk X.N X.env.scope scope own)
    (hg : ∀ (s : Shared) (H : Hp) (C : Addr) (cl : List (Str × Addr)) (fp : List Addr), PG (X.blk s H scope (compEnvC scope cl C X.env) fp) tg (tG X.K (own.map (·.2)) g)) (ht : ∀ (s : Shared) (H : Hp) (C : Addr) (cl : List (Str × Addr)) (fp : List Addr), PTs (X.blk s H scope (compEnvC scope cl C X.env) fp) ifs (tT X.K ct))
    (he : ∀ (s : Shared) (H : Hp) (C : Addr) (cl : List (Str × Addr)) (fp : List Addr), PE (X.blk s H scope (compEnvC scope cl C X.env) fp) elt (tI X.K ce)) (hs : ∀ x, foldedSetIterable iter X.env x = pure x := by exact fun _ => rfl) :
    PE X (.ListComp elt [⟨tg, iter, ifs, 0⟩] scope pos) (tI X.K (cLc ci g ct ce (own.map (·.2)))) := (pe_lc hc hN hi ok hg ht he hs).weak fun _ _ _ h => lcD_ok h
theorem se_lcM (hc : X.calm = true) (hN : X.N.Nodup) (hi : PI X tg iter (tIt X.K ci)) (ok : BlkOk X.N X.env.scope scope own)
    (hg : ∀ (s : Shared) (H : Hp) (C : Addr) (cl : List (Str × Addr)) (fp : List Addr), PG (X.blk s H scope (compEnvC scope cl C X.env) fp) tg (tG X.K (own.map (·.2)) g)) (ht : ∀ (s : Shared) (H : Hp) (C : Addr) (cl : List (Str × Addr)) (fp : List Addr), PTs (X.blk s H scope (compEnvC scope cl C X.env) fp) ifs (tT X.K ct))
    (he : ∀ (s : Shared) (H : Hp) (C : Addr) (cl : List (Str × Addr)) (fp : List Addr), PE (X.blk s H scope (compEnvC scope cl C X.env) fp) elt (tI X.K ce)) (hs : ∀ x, foldedSetIterable iter X.env x = pure x := by exact fun _ => rfl) :
    PE X (.ListComp elt [⟨tg, iter, ifs, 0⟩] scope pos) (tI X.K (cLcM ci g ct ce (own.map (·.2)))) := (pe_lc hc hN hi ok hg ht he hs).weak fun _ _ _ h => lcM_ok h
theorem asg_lc {i : Nat} {c : SE} {t : TE} (h : ∀ σ H Q, tI X.K c σ H Q → t σ H Q) {D : Ends} {σ : L2.St} {H : Hp} (q : tSS X.K (cSet i c) D σ H) : tAsg t (gName i) D σ H := h σ H _ (set_ok q)
theorem s_setLc {i : Nat} {y : Str} {py spos : Pos} (hc : X.calm = true) (hN : X.N.Nodup) (hy : X.N[i]? = some y) (hyl : X.env.scope.names.lookup y = some .local)
    (hsw : swapsWith (.ListComp elt [⟨tg, iter, ifs, 0⟩] scope pos) (some (.Name y py)) spos.line X.env = pure true) (hi : PI X tg iter (tIt X.K ci)) (ok : BlkOk X.N X.env.scope scope own)
    (hg : ∀ (s : Shared) (H : Hp) (C : Addr) (cl : List (Str × Addr)) (fp : List Addr), PG (X.blk s H scope (compEnvC scope cl C X.env) fp) tg (tG X.K (own.map (·.2)) g)) (ht : ∀ (s : Shared) (H : Hp) (C : Addr) (cl : List (Str × Addr)) (fp : List Addr), PTs (X.blk s H scope (compEnvC scope cl C X.env) fp) ifs (tT X.K ct))
    (he : ∀ (s : Shared) (H : Hp) (C : Addr) (cl : List (Str × Addr)) (fp : List Addr), PE (X.blk s H scope (compEnvC scope cl C X.env) fp) elt (tI X.K ce)) (hs : ∀ x, foldedSetIterable iter X.env x = pure x := by exact fun _ => rfl) :
    PS X (.Assign [.Name y py] (.ListComp elt [⟨tg, iter, ifs, 0⟩] scope pos) spos) (tSS X.K (cSet i (cLc ci g ct ce (own.map (·.2))))) := (ps_setLc hc hN hy hyl hsw hi ok hg ht he hs).weak fun _ _ _ h => asg_lc (fun _ _ _ z => lcD_ok z) h
theorem s_setLcM {i : Nat} {y : Str} {py spos : Pos} (hc : X.calm = true) (hN : X.N.Nodup) (hy : X.N[i]? = some y) (hyl : X.env.scope.names.lookup y = some .local)
    (hsw : swapsWith (.ListComp elt [⟨tg, iter, ifs, 0⟩] scope pos) (some (.Name y py)) spos.line X.env = pure true) (hi : PI X tg iter (tIt X.K ci)) (ok : BlkOk X.N X.env.scope scope own)
    (hg : ∀ (s : Shared) (H : Hp) (C : Addr) (cl : List (Str × Addr)) (fp : List Addr), PG (X.blk s H scope (compEnvC scope cl C X.env) fp) tg (tG X.K (own.map (·.2)) g)) (ht : ∀ (s : Shared) (H : Hp) (C : Addr) (cl : List (Str × Addr)) (fp : List Addr), PTs (X.blk s H scope (compEnvC scope cl C X.env) fp) ifs (tT X.K ct))
    (he : ∀ (s : Shared) (H : Hp) (C : Addr) (cl : List (Str × Addr)) (fp : List Addr), PE (X.blk s H scope (compEnvC scope cl C X.env) fp) elt (tI X.K ce)) (hs : ∀ x, foldedSetIterable iter X.env x = pure x := by exact fun _ => rfl) :
    PS X (.Assign [.Name y py] (.ListComp elt [⟨tg, iter, ifs, 0⟩] scope pos) spos) (tSS X.K (cSet i (cLcM ci g ct ce (own.map (·.2))))) := (ps_setLc hc hN hy hyl hsw hi ok hg ht he hs).weak fun _ _ _ h => asg_lc (fun _ _ _ z => lcM_ok z) h
end
end Cm

set_option Elab.async false
set_option linter.all false
set_option maxRecDepth 100000
namespace Cm
open PySem PySem.Spec PyProof.Rows L2

/-! ### methods that change a list of the store -/
abbrev MF := List PyData → List PyData → Option (PyData × List PyData)
def cM (f : MF) (o : SE) (a : SA) : SE := fun ev st => (o ev st).bind fun p => match p.1 with
  | .l n => match p.2[n]? with
    | some (some _) => (a ev p.2).bind fun q => (allD q.1).bind fun ds => match q.2[n]? with
      | some (some xs) => (f xs ds).bind fun r => if r.2.length ≤ lim then some (.d r.1, q.2.set n (some r.2)) else none
      | _ => none
    | _ => none
  | _ => none
def SndM (r : V → List V → Hp → VK → Prop) (f : MF) : Prop := ∀ F H l vs xs us ds z ys Q, Same F H → H l = some (.lst vs) → DqA F vs xs → DqA F us ds → f xs ds = some (z, ys) → ys.length ≤ lim →
  (∀ v vs', Dq F v z → DqA F vs' ys → Q v (upd H l (.lst vs'))) → r (.ref l) us H Q
section
variable {X : Cx} {o e : Expr} {es : List Expr} {co : SE} {sa : SA} {name : Str} {apos cpos : Pos} {id : String} {r : V → List V → Hp → VK → Prop} {f : MF}
theorem meth_ok {K : PySem.W.Frag} (hs : SndM r f) {σ : L2.St} {H : Hp} {Q : VK} (h : tI K (cM f co sa) σ H Q) : tBM K "list" r (tI K co) (tA K sa) σ H Q := by
  obtain ⟨ρ, F, ev, st, w, st', hr, sr, e, post⟩ := h
  simp only [cM, Option.bind_eq_some_iff] at e
  obtain ⟨⟨w1, st1⟩, e1, e2⟩ := e
  refine ⟨ρ, F, ev, st, w1, st1, hr, sr, e1, fun v1 ρ1 F1 H1 x1 hr1 wr1 => ?_⟩
  split at e2
  · rename_i n q
    cases q
    split at e2
    · rename_i xs0 q0
      simp only [Option.bind_eq_some_iff] at e2
      obtain ⟨⟨ws, st2⟩, e3, ds, e4, e5⟩ := e2
      obtain ⟨a, ha, rfl⟩ := wr1
      refine ⟨?_, ρ1, F1, ev, st1, ws, st2, hr1, sr.mono x1, e3, fun us ρ2 F2 H2 x2 hr2 wr2 => ?_⟩
      · obtain ⟨a', vs, k1, k2, _⟩ := hr1.cell n xs0 q0
        rw [ha] at k1
        cases k1
        exact .inl ⟨rfl, vs, SqL.of k2⟩
      · split at e5
        · rename_i xs q1
          simp only [Option.bind_eq_some_iff] at e5
          obtain ⟨⟨z, ys⟩, e6, e7⟩ := e5
          split at e7
          · rename_i hl
            cases e7
            obtain ⟨a', vs, k1, k2, k3, k4⟩ := hr2.cell n xs q1
            rw [x2.pre n a ha] at k1
            cases k1
            refine hs F2 H2 a vs xs us ds z ys Q hr2.sub k2 k4 (allD_ok wr2 e4) e6 hl fun v vs' d1 d2 => ?_
            exact post v ρ2 F2 _ (x1.trans x2) (hr2.write q1 (x2.pre n a ha) d2) d1
          · cases e7
        · cases e5
    · cases e2
  · cases e2
theorem meth0_ok {K : PySem.W.Frag} (hs : SndM r f) {σ : L2.St} {H : Hp} {Q : VK} (h : tI K (cM f co cNil) σ H Q) : tBM0 K "list" r (tI K co) σ H Q := by
  obtain ⟨ρ, F, ev, st, w1, st1, hr, sr, e1, k⟩ := meth_ok (K := K) hs h
  refine ⟨ρ, F, ev, st, w1, st1, hr, sr, e1, fun v1 ρ1 F1 H1 x1 hr1 wr1 => ?_⟩
  obtain ⟨ty, ρ2, F2, ev2, st2, ws, st3, h2, s2, e2, k2⟩ := k v1 ρ1 F1 H1 x1 hr1 wr1
  cases e2
  exact ⟨ty, k2 [] ρ2 F2 H1 (.refl _ _) h2 .nil⟩
theorem se_meth (pa : PlainAttrs "list") (slot : Slot "list" name id) (hty : typeOf (.builtin id) = pure (.type "method_descriptor")) (hm : MtR X id r) (hs : SndM r f) (ho : PE X o (tI X.K co)) (ha : PA X (e :: es) (tA X.K sa))
    (hbase : BareBase X o name := by rfl) (hfew : Few X (e :: es) cpos := by rfl) (hline : (apos.endLine == cpos.line) = true := by rfl) (hst : Bare1 X e es := by rfl) (hplain : NoStar X es cpos := by rfl) :
    PE X (.Call (.Attribute o name apos) (e :: es) [] cpos) (tI X.K (cM f co sa)) := (pe_bm pa slot hty hm ho ha hbase hfew hline hst hplain).weak fun _ _ _ h => meth_ok hs h
theorem se_meth0 (pa : PlainAttrs "list") (slot : Slot "list" name id) (hty : typeOf (.builtin id) = pure (.type "method_descriptor")) (hm : MtR X id r) (hs : SndM r f) (ho : PE X o (tI X.K co))
    (hbase : BareBase X o name := by rfl) (hline : (apos.endLine == cpos.line) = true := by rfl) :
    PE X (.Call (.Attribute o name apos) [] [] cpos) (tI X.K (cM f co cNil)) := (pe_bm0 pa slot hty hm ho hbase hline).weak fun _ _ _ h => meth0_ok hs h
end
def mAppend : MF := fun xs ds => match ds with
  | [y] => if xs.length < lim then some (.none, xs ++ [y]) else none
  | _ => none
def mExtend : MF := fun xs ds => match ds with
  | [.list ys] => if xs.length + ys.length ≤ lim then some (.none, xs ++ ys) else none
  | _ => none
def mPop : MF := fun xs ds => match ds with
  | [] => (xs[xs.length - 1]?).map fun y => (y, xs.dropLast)
  | _ => none
def mPopAt : MF := fun xs ds => match ds with
  | [.int i] => if 0 ≤ i ∧ i < xs.length then (xs[i.toNat]?).map fun y => (y, xs.eraseIdx i.toNat) else none
  | _ => none
def mInsert : MF := fun xs ds => match ds with
  | [.int i, y] => if 0 ≤ i ∧ i ≤ xs.length ∧ xs.length < lim then some (.none, xs.take i.toNat ++ y :: xs.drop i.toNat) else none
  | _ => none
theorem snd_append : SndM rAppend mAppend := fun F H l vs xs us ds z ys Q hs h d d2 e hl q => by
  unfold mAppend at e
  split at e
  · rename_i y
    split at e
    · rename_i hlm
      cases e
      cases d2 with
      | cons a t =>
        cases t
        exact ⟨l, vs, _, rfl, rfl, h, by rw [d.length]; exact Nat.lt_of_lt_of_le hlm (lim_le (Nat.le_refl _)), q _ _ .non (d.append (.cons a .nil))⟩
    · cases e
  · cases e
theorem snd_extend : SndM rExtend mExtend := fun F H l vs xs us ds z ys Q hs h d d2 e hl q => by
  unfold mExtend at e
  split at e
  · rename_i y
    split at e
    · rename_i hlm
      cases e
      cases d2 with
      | cons a t =>
        cases t
        cases a with
        | lst h2 d3 => exact ⟨l, _, vs, _, rfl, rfl, h, hs _ _ h2, by rw [d.length, d3.length]; exact lim_le hlm, q _ _ .non (d.append d3)⟩
    · cases e
  · cases e
theorem snd_pop : SndM rPop mPop := fun F H l vs xs us ds z ys Q hs h d d2 e hl q => by
  unfold mPop at e
  split at e
  · simp only [Option.map_eq_some_iff] at e
    obtain ⟨y, e1, e2⟩ := e
    cases e2
    cases d2
    obtain ⟨v, k1, k2⟩ := d.get' e1
    exact ⟨l, vs, v, rfl, rfl, h, by rw [d.length]; exact k1, q _ _ k2 d.dropLast⟩
  · cases e
theorem snd_popAt : SndM rPopAt mPopAt := fun F H l vs xs us ds z ys Q hs h d d2 e hl q => by
  unfold mPopAt at e
  split at e
  · rename_i i
    split at e
    · rename_i hi
      simp only [Option.map_eq_some_iff] at e
      obtain ⟨y, e1, e2⟩ := e
      cases e2
      cases d2 with
      | cons a t =>
        cases t
        cases a
        obtain ⟨v, k1, k2⟩ := d.get' e1
        have hi2 : ixN vs.length i = some i.toNat := by
          unfold ixN
          rw [if_pos hi.1, d.length, if_pos hi.2]
        have hsz : xs.length ≤ lim + 1 := by
          rw [List.length_eraseIdx] at hl
          split at hl <;> omega
        have e2 : (lim : Int) = 1000000 := by decide
        exact ⟨l, vs, i, i.toNat, v, rfl, rfl, h, by omega, by omega, (ixN_seq hi2).1, k1, q _ _ k2 (d.eraseIdx _)⟩
    · cases e
  · cases e
def rInsert : V → List V → Hp → VK → Prop := fun x vs H Q => ∃ (l : Addr) (xs : List V) (i : Int) (y : V), x = .ref l ∧ vs = [.int i, y] ∧ H l = some (.lst xs) ∧ xs.length < sizeLine ∧ 0 ≤ i ∧ i < 2 ^ 63 ∧
    Q .non (upd H l (.lst (xs.take i.toNat ++ [y] ++ xs.drop i.toNat)))
theorem mt_ins {X : Cx} : MtR X "list.insert" rInsert := mt_insert
theorem snd_insert : SndM rInsert mInsert := fun F H l vs xs us ds z ys Q hs h d d2 e hl q => by
  unfold mInsert at e
  split at e
  · rename_i i y
    split at e
    · rename_i hi
      cases e
      cases d2 with
      | cons a t =>
        cases t with
        | cons b t =>
          cases t
          cases a
          have e2 : (lim : Int) = 1000000 := by decide
          refine ⟨l, vs, i, _, rfl, rfl, h, ?_, hi.1, by omega, q _ _ .non ?_⟩
          · rw [d.length]
            exact Nat.lt_of_lt_of_le hi.2.2 (lim_le (Nat.le_refl _))
          · rw [List.append_assoc]
            exact (d.take _).append ((DqA.cons b .nil).append (d.drop _))
    · cases e
  · cases e
/-! o[i] = e at a list of the store -/
def cSetIx (o i e : SE) : SS := fun ev st => (e ev st).bind fun p => match p.1 with
  | .d y => (o ev p.2).bind fun q => match q.1 with
    | .l n => (i ev q.2).bind fun t => match t.1, t.2[n]? with
      | .d (.int k), some (some xs) => (ixN xs.length k).map fun j => .nx ev (t.2.set n (some (xs.set j y)))
      | _, _ => none
    | _ => none
  | _ => none
section
variable {X : Cx} {o i e : Expr} {co ci ce : SE} {pos p2 : Pos}
theorem s_setIx (he : PE X e (tI X.K ce)) (ho : PE X o (tI X.K co)) (hi : PE X i (tI X.K ci))
    (ha : ∀ v, assign (.Subscript o i p2) X.env v = (holding [v] (eval o X.env) >>= fun u => holding [v, u] (eval i X.env) >>= fun j => standAt p2 >>= fun _ => holding [v, u, j] (setItem u j v) >>= fun _ => release [v, u, j] []) := by exact fun _ => rfl)
    (hs : swapsWithSole [.Subscript o i p2] e pos.line X.env = pure false := by rfl) (hw : swappedStores [.Subscript o i p2] e X.env = pure none := by rfl)
    (h1 : (assignEach [.Subscript o i p2] X.env).map (·.2) = [assign (.Subscript o i p2) X.env] := by rfl) : PS X (.Assign [.Subscript o i p2] e pos) (tSS X.K (cSetIx co ci ce)) :=
  (ps_asg he (pg_sub ho hi set_list ha) hs hw h1).weak fun D σ H ⟨ρ, F, ev, st, out, hr, sr, e, ok⟩ => by
    simp only [cSetIx, Option.bind_eq_some_iff] at e
    obtain ⟨⟨w1, st1⟩, e1, e2⟩ := e
    refine ⟨ρ, F, ev, st, w1, st1, hr, sr, e1, fun v1 ρ1 F1 H1 x1 hr1 wr1 => ?_⟩
    split at e2
    · rename_i y q
      cases q
      simp only [Option.bind_eq_some_iff] at e2
      obtain ⟨⟨w2, st2⟩, e3, e4⟩ := e2
      refine ⟨ρ1, F1, ev, st1, w2, st2, hr1, sr.mono x1, e3, fun v2 ρ2 F2 H2 x2 hr2 wr2 => ?_⟩
      split at e4
      · rename_i n q
        cases q
        simp only [Option.bind_eq_some_iff] at e4
        obtain ⟨⟨w3, st3⟩, e5, e6⟩ := e4
        refine ⟨ρ2, F2, ev, st2, w3, st3, hr2, (sr.mono x1).mono x2, e5, fun v3 ρ3 F3 H3 x3 hr3 wr3 => ?_⟩
        split at e6
        · rename_i k xs q1 q2
          cases q1
          simp only [Option.map_eq_some_iff] at e6
          obtain ⟨j, e7, e8⟩ := e6
          subst e8
          obtain ⟨a, ha, rfl⟩ := wr2
          obtain ⟨a', vs, k1, k2, k3, k4⟩ := hr3.cell n xs q2
          rw [x3.pre n a ha] at k1
          cases k1
          cases wr3
          refine ⟨a, vs, k, j, rfl, rfl, k2, by rw [k4.length]; exact e7, ?_⟩
          have dy : Dq F3 v1 y := ((show Dq F1 v1 y from wr1).mono x2.same).mono x3.same
          exact ok _ ρ3 F3 _ ((x1.trans x2).trans x3) (hr3.write q2 (x3.pre n a ha) (k4.set dy j)) (((sr.mono x1).mono x2).mono x3)
        · cases e6
      · cases e4
    · cases e2
end
/-! x op= e -/
def cAug (i : Nat) (f : PyData → PyData → Option PyData) (e : SE) : SS := fun ev st => match ev[i]? with
  | some (some (.d x)) => (e ev st).bind fun p => (rd p.2 p.1).bind fun y => (f x y).map fun z => .nx (ev.set i (some (.d z))) p.2
  | _ => none
theorem s_aug {X : Cx} {e : Expr} {ce : SE} {i : Nat} {x : Str} {op : Operator} {ti : TIp} {f : PyData → PyData → Option PyData} {pos pos' : Pos} (hN : X.N.Nodup) (hi : X.N[i]? = some x) (hx : Loc X.env.scope x) (he : PE X e (tI X.K ce)) (ho : PIp X op ti) (hs : Snd2 X.K ti f)
    (hf : X.fn x = true ∨ X.env.scope.names.lookup x = some .local := by first | exact .inl rfl | exact .inr rfl | assumption) : PS X (.AugAssign (.Name x pos') op e pos) (tSS X.K (cAug i f ce)) :=
  (ps_aug hN hi hx he ho hf).weak fun D σ H ⟨ρ, F, ev, st, out, hr, sr, e, ok⟩ => by
    unfold cAug at e
    split at e
    · rename_i x q
      simp only [Option.bind_eq_some_iff, Option.map_eq_some_iff] at e
      obtain ⟨⟨w1, st1⟩, e1, y, e2, z, e3, e4⟩ := e
      subst e4
      obtain ⟨v, k1, k2⟩ := sr.get i _ q
      refine ⟨v, k1, ρ, F, ev, st, w1, st1, hr, sr, e1, fun v1 ρ1 F1 H1 x1 hr1 wr1 => ?_⟩
      refine hs F1 H1 v v1 x y z _ hr1.sub (.inl ((show Dq F v x from k2).mono x1.same)) (rd_ok hr1 wr1 e2) e3 fun v2 F2 H2 g d => ?_
      exact ok _ ρ1 F2 H2 (x1.trans (.of g)) (hr1.grow g) (((sr.mono x1).mono (.of g)).set (w := .d z) d i)
    · cases e
/-! ### defs -/
abbrev FS := List U → Sto → Option (U × Sto)
def leave (n : Nat) (w : U) (st : Sto) : Option (U × Sto) := match w with
  | .d x => some (.d x, st.take n)
  | .s ns => some (.s ns, st.take n)
  | .k kd => some (.k kd, st.take n)
  | .l k => if k < n then some (.l k, st.take n) else match st[k]? with
    | some (some xs) => some (.d (.list xs), st.take n)
    | _ => none
/-- a def by its body: its own lists are gone behind it, a list of its own that it returns is data -/
def defS (N : Nat) (b : SS) : FS := fun ws st => (b (ws.map some ++ List.replicate (N - ws.length) none) st).bind fun o => match o with
  | .rt w st' => leave st.length w st'
  | .nx _ st' => some (.d .none, st'.take st.length)
  | _ => none
def spF (K : PySem.W.Frag) (f : FS) (n : Nat) : Sp := fun vs H Q _ => ∃ ρ F ws st w st', HR ρ F H st ∧ WRs K ρ F vs ws ∧ ws.length = n ∧ f ws st = some (w, st') ∧ Post K ρ F w st' Q
def cDef (n : Nat) (f : FS) (a : SA) : SE := fun ev st => (a ev st).bind fun p => if p.1.length = n then f p.1 p.2 else none
theorem leave_ok {K : PySem.W.Frag} {ρ ρ' : List Addr} {F F' H' : Hp} {st st' st2 : Sto} {v : V} {w w2 : U} {Q : VK} (hl : ρ.length = st.length) (x : Ext ρ F ρ' F') (h : HR ρ' F' H' st') (r : WR K ρ' F' v w) (e : leave st.length w st' = some (w2, st2)) (post : Post K ρ F w2 st2 Q) : Q v H' := by
  have xt : Ext ρ F (ρ'.take st.length) F' := by
    rw [← hl]
    exact x.take _ (Nat.le_refl _)
  cases w with
  | d y =>
    cases e
    exact post v _ F' H' xt (h.take _) r
  | s ns =>
    cases e
    exact post v _ F' H' xt (h.take _) r
  | k kd =>
    cases e
    exact post v _ F' H' xt (h.take _) r
  | l k =>
    simp only [leave] at e
    split at e
    · rename_i hk
      cases e
      obtain ⟨a, h1, h2⟩ := r
      refine post v _ F' H' xt (h.take _) ⟨a, ?_, h2⟩
      rw [List.getElem?_take, if_pos hk]
      exact h1
    · rename_i hk
      split at e
      · rename_i xs q
        cases e
        obtain ⟨a, h1, rfl⟩ := r
        obtain ⟨a', vs, k1, k2, k3, k4, k5⟩ := h.freeze q
        rw [h1] at k1
        cases k1
        have t := k5.take st.length
        rw [List.take_set_of_le (by omega)] at t
        exact post _ _ _ H' (xt.trans (.upd k2)) t (.lst upd_same (k4.mono (same_upd k2)))
      · cases e
section
variable {P : Program} {w : World} {K : PySem.W.Frag} {mg : Str → Option Value} {base : Heap}
theorem SR.start {ρ : List Addr} {F : Hp} {vs : List V} {ws : List U} {N : List Str} (h : WRs K ρ F vs ws) : SR K ρ F (ws.map some ++ List.replicate (N.length - ws.length) Option.none) (L2.start N vs) := by
  have hl := h.length
  refine ⟨by simp [L2.start, hl], fun i w e => ?_⟩
  have g : ∀ {vs : List V} {ws : List U} (i : Nat) (w : U), WRs K ρ F vs ws → ws[i]? = some w → ∃ v, vs[i]? = some v ∧ WR K ρ F v w := by
    intro vs ws i w h
    induction h generalizing i with
    | nil => intro e; simp at e
    | cons a t ih =>
      intro e
      cases i with
      | zero =>
        simp only [List.getElem?_cons_zero, Option.some.injEq] at e
        subst e
        exact ⟨_, rfl, a⟩
      | succ i =>
        rw [List.getElem?_cons_succ] at e ⊢
        exact ih i e
  by_cases hi : i < ws.length
  · rw [List.getElem?_append_left (by simpa using hi), List.getElem?_map] at e
    obtain ⟨u, e1, e2⟩ := Option.map_eq_some_iff.mp e
    cases e2
    obtain ⟨v, k1, k2⟩ := g i w h e1
    refine ⟨v, ?_, k2⟩
    unfold L2.start
    rw [List.getElem?_append_left (by rw [List.length_map, hl]; exact hi), List.getElem?_map, k1]
    rfl
  · rw [List.getElem?_append_right (by simp; omega)] at e
    have := List.mem_of_getElem? e
    rw [List.mem_replicate] at this
    cases this.2
/-- THE RULE for a def -/
theorem def_ok {x qual : Str} {st : Stmt} {f : Addr} {fd : FuncData} {N ps : List Str} {k : Nat} {b : SS} (F : Fun K x qual st f fd) (S : FnScope N ps (defScope st))
    (h : ∀ (cdv : Value) (A : Around) (outer : List Env) (s : Shared) (H : Hp) (E : XK), Room k (A.deeper (envOfC qual (defScope st) s.heap.objs.size f cdv)) → PSs (cxOf CX0 P w K mg base N qual (defScope st) f cdv A outer s H E).nox (defBody st) (tSS K b)) :
    FnOk P w K mg base CX0 (k + 1) f fd ps (spF K (defS N.length b) ps.length) := by
  refine F.ok S (fun vs H Q E ⟨ρ, F, ws, st, w, st', hr, wr, hl, e, post⟩ => by rw [wr.length, hl]) fun cdv A outer s H vs Q E hrm hsp => ⟨tSS K b, h cdv A outer s H E hrm, ?_⟩
  obtain ⟨ρ, F, ws, st, w, st', hr, wr, hl, e, post⟩ := hsp
  simp only [defS, Option.bind_eq_some_iff] at e
  obtain ⟨o, e1, e2⟩ := e
  refine ⟨ρ, F, _, st, o, hr, SR.start wr, e1, ?_⟩
  cases o with
  | rt w1 st1 => exact fun v ρ' F' H' x hr' r => leave_ok hr.len x hr' r e2 post
  | nx ev1 st1 =>
    cases e2
    exact fun σ' ρ' F' H' x hr' _ => post .non _ F' H' (by rw [← hr.len]; exact x.take _ (Nat.le_refl _)) (hr'.take _) .non
  | bk ev1 st1 => cases e2
  | ct ev1 st1 => cases e2
end
section
variable {X : Cx} {k : Nat} {f : Addr} {fd : FuncData} {ps : List Str} {fs : FS} {x : Str} {e : Expr} {es : List Expr} {sa : SA} {p pos : Pos}
theorem defc_ok {E : XK} {σ : L2.St} {H : Hp} {Q : VK} (h : tI X.K (cDef ps.length fs sa) σ H Q) : tCall (spF X.K fs ps.length) [] E (tA X.K sa) σ H Q := by
  obtain ⟨ρ, F, ev, st, w, st', hr, sr, e, post⟩ := h
  simp only [cDef, Option.bind_eq_some_iff] at e
  obtain ⟨⟨ws, st1⟩, e1, e2⟩ := e
  split at e2
  · rename_i hl
    refine ⟨ρ, F, ev, st, ws, st1, hr, sr, e1, fun vs ρ' F' H' x hr' wr => ⟨ρ', F', ws, st1, w, st', hr', by rw [List.append_nil]; exact wr, hl, e2, fun v ρ2 F2 H2 x2 h2 r2 => post v ρ2 F2 H2 (x.trans x2) h2 r2⟩⟩
  · cases e2
theorem se_def (F : FnOk X.prog X.w X.K X.mg X.base CX0 k f fd ps (spF X.K fs ps.length)) (hr : Room k X.A) (hg : Gl X x) (hm : X.mg x = some (.ref f)) (hk : PySem.W.keepIn X.K (.ref f) = true) (hb : Binds X.K fd ps []) (ha : PA X (e :: es) (tA X.K sa))
    (hdb : NotDbg x := by decide) (he : Bare1 X e es := by rfl) (hpl : NoStar X es pos := by rfl) :
    PE X (.Call (.Name x p) (e :: es) [] pos) (tI X.K (cDef ps.length fs sa)) := (pe_call F hr hg hm hk hb .nil pass0 ha hdb he hpl).weak fun _ _ _ h => defc_ok h
theorem se_def0 (F : FnOk X.prog X.w X.K X.mg X.base CX0 k f fd ps (spF X.K fs ps.length)) (hr : Room k X.A) (hg : Gl X x) (hm : X.mg x = some (.ref f)) (hk : PySem.W.keepIn X.K (.ref f) = true) (hb : Binds X.K fd ps [])
    (hdb : NotDbg x := by decide) :
    PE X (.Call (.Name x p) [] [] pos) (tI X.K (cDef ps.length fs cNil)) := (pe_call0 F hr hg hm hk hb .nil pass0 hdb).weak fun σ H Q h => by
  obtain ⟨ρ, F, ev, st, ws, st1, hr, sr, e, k⟩ := defc_ok (E := E0) h
  cases e
  exact k [] ρ F H (.refl _ _) hr .nil
end
end Cm

set_option Elab.async false
set_option linter.all false
set_option maxRecDepth 100000
namespace Cm
open PySem PySem.Spec PyProof.Rows L2

/-! ### operators -/
def fAdd : PyData → PyData → Option PyData
  | .int a, .int b => some (.int (a + b))
  | .list a, .list b => if a.length + b.length ≤ lim then some (.list (a ++ b)) else none
  | .tuple a, .tuple b => if a.length + b.length ≤ lim then some (.tuple (a ++ b)) else none
  | .str a, .str b => if a.length + b.length ≤ lim then some (.str (a ++ b)) else none
  | _, _ => none
def fSub : PyData → PyData → Option PyData
  | .int a, .int b => some (.int (a - b))
  | _, _ => none
def p64 : Int := 18446744073709551616
def mulOk (a b : Int) : Bool := decide ((-p64 < a ∧ a < p64) ∨ (-p64 < b ∧ b < p64) ∨ a.natAbs.log2 + b.natAbs.log2 < 1000000)
def fMul : PyData → PyData → Option PyData
  | .int a, .int b => if mulOk a b then some (.int (a * b)) else none
  | .list a, .int b => if b < 1000000 ∧ -1000000 < b ∧ a.length * b.toNat ≤ lim then some (.list (List.replicate b.toNat a).flatten) else none
  | .tuple a, .int b => if 2 ≤ b ∧ b ≤ 1000 ∧ 0 < a.length ∧ a.length ≤ 1000 then some (.tuple (List.replicate b.toNat a).flatten) else none
  | _, _ => none
def fMod : PyData → PyData → Option PyData
  | .int a, .int b => if 0 < b then some (.int (a % b)) else none
  | _, _ => none
def fDiv : PyData → PyData → Option PyData
  | .int a, .int b => if 0 < b ∧ b.natAbs.log2 < 9000 then some (.int (a / b)) else none
  | _, _ => none
def fPow : PyData → PyData → Option PyData
  | .int a, .int b => if 0 ≤ b ∧ b ≤ 1000000 ∧ a.natAbs < 18446744073709551616 then some (.int (a ^ b.toNat)) else none
  | _, _ => none
def fNeg : PyData → Option PyData
  | .int a => some (.int (-a))
  | _ => none
def asInts : List PyData → Option (List Int)
  | [] => some []
  | .int i :: r => (asInts r).map (i :: ·)
  | _ :: _ => none
def asBools : List PyData → Option (List Bool)
  | [] => some []
  | .bool i :: r => (asBools r).map (i :: ·)
  | _ :: _ => none
def asPairs : List PyData → Option (List (Int × Int))
  | [] => some []
  | .tuple [.int i, .int j] :: r => (asPairs r).map ((i, j) :: ·)
  | _ :: _ => none
theorem asInts_eq : ∀ {xs : List PyData} {ns : List Int}, asInts xs = some ns → xs = ns.map .int
  | [], _, e => by cases e; rfl
  | .int i :: r, _, e => by
    simp only [asInts, Option.map_eq_some_iff] at e
    obtain ⟨ns, e1, rfl⟩ := e
    rw [asInts_eq e1]
    rfl
  | .none :: _, _, e => by cases e
  | .bool _ :: _, _, e => by cases e
  | .str _ :: _, _, e => by cases e
  | .list _ :: _, _, e => by cases e
  | .tuple _ :: _, _, e => by cases e
  | .dict _ :: _, _, e => by cases e
theorem asBools_eq : ∀ {xs : List PyData} {ns : List Bool}, asBools xs = some ns → xs = ns.map .bool
  | [], _, e => by cases e; rfl
  | .bool i :: r, _, e => by
    simp only [asBools, Option.map_eq_some_iff] at e
    obtain ⟨ns, e1, rfl⟩ := e
    rw [asBools_eq e1]
    rfl
  | .none :: _, _, e => by cases e
  | .int _ :: _, _, e => by cases e
  | .str _ :: _, _, e => by cases e
  | .list _ :: _, _, e => by cases e
  | .tuple _ :: _, _, e => by cases e
  | .dict _ :: _, _, e => by cases e
@[simp] theorem asInts_map : ∀ ns : List Int, asInts (ns.map .int) = some ns
  | [] => rfl
  | n :: ns => by simp [asInts, asInts_map ns]
@[simp] theorem asBools_map : ∀ ns : List Bool, asBools (ns.map .bool) = some ns
  | [] => rfl
  | n :: ns => by simp [asBools, asBools_map ns]
def pairD (p : Int × Int) : PyData := .tuple [.int p.1, .int p.2]
theorem asPairs_eq : ∀ {xs : List PyData} {ns : List (Int × Int)}, asPairs xs = some ns → xs = ns.map pairD
  | [], _, e => by cases e; rfl
  | x :: r, _, e => by
    unfold asPairs at e
    split at e
    · rename_i h
      cases h
    · rename_i i j r' h
      cases h
      simp only [Option.map_eq_some_iff] at e
      obtain ⟨ns, e1, rfl⟩ := e
      rw [asPairs_eq e1]
      rfl
    · cases e
@[simp] theorem asPairs_map : ∀ ns : List (Int × Int), asPairs (ns.map pairD) = some ns
  | [] => rfl
  | n :: ns => by simp [asPairs, pairD]; exact asPairs_map ns
def fLt : PyData → PyData → Option PyData
  | .int a, .int b => some (.bool (decide (a < b)))
  | .tuple a, .tuple b => (asInts a).bind fun ns => (asInts b).map fun ms => .bool (HT.lexLt ns ms)
  | _, _ => none
def fLe : PyData → PyData → Option PyData
  | .int a, .int b => some (.bool (decide (a ≤ b)))
  | _, _ => none
def fGt : PyData → PyData → Option PyData
  | .int a, .int b => some (.bool (decide (b < a)))
  | _, _ => none
def fGe : PyData → PyData → Option PyData
  | .int a, .int b => some (.bool (decide (b ≤ a)))
  | _, _ => none
def fEq (x y : PyData) : Option PyData := if SeqAt.shaped x && SeqAt.shaped y then some (.bool (PyData.eqv x y)) else none
def fNe (x y : PyData) : Option PyData := if SeqAt.shaped x && SeqAt.shaped y then some (.bool (!PyData.eqv x y)) else none
def isNone : PyData → Bool
  | .none => true
  | _ => false
def fIs : PyData → PyData → Option PyData
  | x, .none => some (.bool (isNone x))
  | .bool a, .bool b => some (.bool (decide (a = b)))
  | _, _ => none
def fIsNot : PyData → PyData → Option PyData
  | x, .none => some (.bool (!isNone x))
  | .bool a, .bool b => some (.bool (!decide (a = b)))
  | _, _ => none
def flatD : PyData → Bool
  | .none => true
  | .bool _ => true
  | .int _ => true
  | .str _ => true
  | _ => false
def hasD (ds : List PyData) (x : PyData) : Bool := ds.any fun z => PyData.eqv z x
def fIn (x : PyData) : PyData → Option PyData
  | .list ds => if SeqAt.shaped x && SeqAt.shaped (.list ds) then some (.bool (hasD ds x)) else none
  | .tuple ds => if flatD x && ds.all flatD then some (.bool (hasD ds x)) else none
  | _ => none
def fNotIn (x : PyData) : PyData → Option PyData
  | .list ds => if SeqAt.shaped x && SeqAt.shaped (.list ds) then some (.bool (!hasD ds x)) else none
  | .tuple ds => if flatD x && ds.all flatD then some (.bool (!hasD ds x)) else none
  | _ => none
def fIx : PyData → PyData → Option PyData
  | .list xs, .int i => atI xs i
  | .tuple xs, .int i => atI xs i
  | .str z, .int i => if z.length ≤ lim then (atI z.cps.toList i).map fun c => .str ⟨#[c]⟩ else none
  | _, _ => none
/-! sound -/
abbrev rAdd (K : PySem.W.Frag) : R2 := fun x y H Q => rI0 (fun i j => .int (i + j)) x y H Q ∨ (rCat x y H Q ∨ (rCatA K x y H Q ∨ (∃ i j, x = .str i ∧ y = .str j ∧ i.length + j.length ≤ sizeLine ∧ Q (.str (i ++ j)) H)))
theorem op_addA {X : Cx} : OpR X (binaryOp .Add) (rAdd X.K) := op_add.or (op_cat.or (op_catA.or op_add_str))
theorem snd_add {K : PySem.W.Frag} : Snd2s (rAdd K) fAdd := fun F H v u x y z Q hs rx ry e q => by
  unfold fAdd at e
  split at e
  · cases e
    cases (rx.rdd (K := K)).int
    cases (ry.rdd (K := K)).int
    exact .inl ⟨_, _, rfl, rfl, q.now hs (.int _)⟩
  · split at e
    · rename_i hl
      cases e
      obtain ⟨a, vs, rfl, h1, d1⟩ := rx.list hs
      obtain ⟨b, us, rfl, h2, d2⟩ := ry.list hs
      exact .inr (.inl ⟨a, b, vs, us, rfl, rfl, h1, h2, by rw [d1.length, d2.length]; exact lim_le hl, fun p np => q.lst hs (d1.append d2) p np⟩)
    · cases e
  · split at e
    · rename_i hl
      cases e
      obtain ⟨a, vs, rfl, h1, f1, d1⟩ := (rx.rdd (K := K)).tup hs
      obtain ⟨b, us, rfl, h2, f2, d2⟩ := (ry.rdd (K := K)).tup hs
      refine .inr (.inr (.inl ⟨a, b, vs, us, rfl, rfl, SqT.of h1, SqT.of h2, by rw [d1.length, d2.length]; exact lim_le hl, fun e => ?_, fun _ e => ?_, fun _ _ p np => q.tup hs (d1.append d2) p np⟩))
      · subst e
        cases d1
        exact q.now hs (.tup f2 d2)
      · subst e
        cases d2
        rw [List.append_nil] at q
        exact q.now hs (.tup f1 d1)
    · cases e
  · split at e
    · rename_i hl
      cases e
      cases (rx.rdd (K := K)).str
      cases (ry.rdd (K := K)).str
      exact .inr (.inr (.inr ⟨_, _, rfl, rfl, lim_le hl, q.now hs (.str _)⟩))
    · cases e
  · cases e
theorem snd_sub {K : PySem.W.Frag} : Snd2 K (rI0 fun i j => .int (i - j)) fSub := fun F H v u x y z Q hs rx ry e q => by
  unfold fSub at e
  split at e
  · cases e
    cases rx.int
    cases ry.int
    exact ⟨_, _, rfl, rfl, q.now hs (.int _)⟩
  · cases e
abbrev rMul (K : PySem.W.Frag) : R2 := fun x y H Q => rI CMul (fun i j => .int (i * j)) x y H Q ∨ (rI CMulW (fun i j => .int (i * j)) x y H Q ∨ (rRep x y H Q ∨ rRepT K x y H Q))
theorem op_mulA {X : Cx} : OpR X (binaryOp .Mult) (rMul X.K) := op_mul.or (op_mulW.or (op_rep.or op_repT))
theorem snd_mul {K : PySem.W.Frag} : Snd2s (rMul K) fMul := fun F H v u x y z Q hs rx ry e q => by
  unfold fMul at e
  split at e
  · rename_i a b
    split at e
    · rename_i hm
      cases e
      cases (rx.rdd (K := [])).int
      cases (ry.rdd (K := [])).int
      have hm' := of_decide_eq_true hm
      have ep : p64 = 2 ^ 64 := by decide
      rcases hm' with h | h | h
      · rw [ep] at h
        exact .inl ⟨_, _, rfl, rfl, .inl h, q.now hs (.int _)⟩
      · rw [ep] at h
        exact .inl ⟨_, _, rfl, rfl, .inr h, q.now hs (.int _)⟩
      · exact .inr (.inl ⟨_, _, rfl, rfl, h, q.now hs (.int _)⟩)
    · cases e
  · rename_i a b
    split at e
    · rename_i hm
      cases e
      cases (ry.rdd (K := [])).int
      obtain ⟨l, vs, rfl, h1, d1⟩ := rx.list hs
      refine .inr (.inr (.inl ⟨l, b, vs, rfl, rfl, h1, by omega, by omega, ?_, fun p np => q.lst hs (d1.rep _) p np⟩))
      rw [d1.length]
      exact lim_le hm.2.2
    · cases e
  · rename_i a b
    split at e
    · rename_i hm
      cases e
      cases (ry.rdd (K := K)).int
      obtain ⟨l, vs, rfl, h1, f1, d1⟩ := (rx.rdd (K := K)).tup hs
      have hl := d1.length
      refine .inr (.inr (.inr ⟨l, b, vs, rfl, rfl, SqT.of h1, ?_, hm.1, hm.2.1, by omega, fun p np => q.tup hs (d1.rep _) p np⟩))
      intro h0
      rw [h0] at hl
      simp at hl
      omega
    · cases e
  · cases e
theorem snd_mod {K : PySem.W.Frag} : Snd2 K (rI (fun _ j => 0 < j) fun i j => .int (i % j)) fMod := fun F H v u x y z Q hs rx ry e q => by
  unfold fMod at e
  split at e
  · split at e
    · rename_i h
      cases e
      cases rx.int
      cases ry.int
      exact ⟨_, _, rfl, rfl, h, q.now hs (.int _)⟩
    · cases e
  · cases e
theorem snd_div {K : PySem.W.Frag} : Snd2 K (rI CDivW fun i j => .int (i / j)) fDiv := fun F H v u x y z Q hs rx ry e q => by
  unfold fDiv at e
  split at e
  · split at e
    · rename_i h
      cases e
      cases rx.int
      cases ry.int
      exact ⟨_, _, rfl, rfl, h, q.now hs (.int _)⟩
    · cases e
  · cases e
theorem snd_pow {K : PySem.W.Frag} : Snd2 K (rI CPow fun i j => .int (i ^ j.toNat)) fPow := fun F H v u x y z Q hs rx ry e q => by
  unfold fPow at e
  split at e
  · split at e
    · rename_i h
      cases e
      cases rx.int
      cases ry.int
      exact ⟨_, _, rfl, rfl, ⟨h.1, h.2.1, by omega⟩, q.now hs (.int _)⟩
    · cases e
  · cases e
theorem snd_neg {K : PySem.W.Frag} : Snd1 K (rU fun i => .int (-i)) fNeg := fun F H v x z Q hs rx e q => by
  unfold fNeg at e
  split at e
  · cases e
    cases rx.int
    exact ⟨_, rfl, q.now hs (.int _)⟩
  · cases e
abbrev rLt (K : PySem.W.Frag) : R2 := fun x y H Q => rI0 (fun i j => .bl (decide (i < j))) x y H Q ∨ rLtT K x y H Q
theorem op_ltA {X : Cx} {k : Nat} (hr : Room k X.A) : OpR X (compareOp .Lt) (rLt X.K) := op_lt.or (op_ltT hr.units0)
theorem snd_lt {K : PySem.W.Frag} : Snd2 K (rLt K) fLt := fun F H v u x y z Q hs rx ry e q => by
  unfold fLt at e
  split at e
  · cases e
    cases rx.int
    cases ry.int
    exact .inl ⟨_, _, rfl, rfl, q.now hs (.bl _)⟩
  · simp only [Option.bind_eq_some_iff, Option.map_eq_some_iff] at e
    obtain ⟨ns, e1, ms, e2, rfl⟩ := e
    obtain ⟨a, vs, rfl, h1, _, d1⟩ := rx.tup hs
    obtain ⟨b, us, rfl, h2, _, d2⟩ := ry.tup hs
    rw [asInts_eq e1] at d1
    rw [asInts_eq e2] at d2
    rw [d1.of_ints] at h1
    rw [d2.of_ints] at h2
    exact .inr ⟨a, b, ns, ms, rfl, rfl, SqT.of h1, SqT.of h2, q.now hs (.bl _)⟩
  · cases e
theorem snd_le {K : PySem.W.Frag} : Snd2 K (rI0 fun i j => .bl (decide (i ≤ j))) fLe := fun F H v u x y z Q hs rx ry e q => by
  unfold fLe at e
  split at e
  · cases e
    cases rx.int
    cases ry.int
    exact ⟨_, _, rfl, rfl, q.now hs (.bl _)⟩
  · cases e
theorem snd_gt {K : PySem.W.Frag} : Snd2 K (rI0 fun i j => .bl (decide (j < i))) fGt := fun F H v u x y z Q hs rx ry e q => by
  unfold fGt at e
  split at e
  · cases e
    cases rx.int
    cases ry.int
    exact ⟨_, _, rfl, rfl, q.now hs (.bl _)⟩
  · cases e
theorem snd_ge {K : PySem.W.Frag} : Snd2 K (rI0 fun i j => .bl (decide (j ≤ i))) fGe := fun F H v u x y z Q hs rx ry e q => by
  unfold fGe at e
  split at e
  · cases e
    cases rx.int
    cases ry.int
    exact ⟨_, _, rfl, rfl, q.now hs (.bl _)⟩
  · cases e
theorem snd_eq {K : PySem.W.Frag} : Snd2 K (rEqD K) fEq := fun F H v u x y z Q hs rx ry e q => by
  unfold fEq at e
  split at e
  · rename_i h
    cases e
    rw [Bool.and_eq_true] at h
    exact ⟨x, y, rx.dp hs, ry.dp hs, h.1, h.2, q.now hs (.bl _)⟩
  · cases e
theorem snd_ne {K : PySem.W.Frag} : Snd2 K (rNeD K) fNe := fun F H v u x y z Q hs rx ry e q => by
  unfold fNe at e
  split at e
  · rename_i h
    cases e
    rw [Bool.and_eq_true] at h
    exact ⟨x, y, rx.dp hs, ry.dp hs, h.1, h.2, q.now hs (.bl _)⟩
  · cases e
theorem isNone_ok {K : PySem.W.Frag} {F H : Hp} {v : V} {x : PyData} (hs : Same F H) (r : Rdd K F H v x) : decide (v = .non) = isNone x := by
  cases x with
  | none => cases r.non; rfl
  | bool b => cases r.bl; rfl
  | int b => cases r.int; rfl
  | str b => cases r.str; rfl
  | list xs => obtain ⟨a, vs, rfl, _⟩ := r.list hs; rfl
  | tuple xs => obtain ⟨a, vs, rfl, _⟩ := r.tup hs; rfl
  | dict z => exact r.nodict.elim
abbrev rIs : R2 := fun x y H Q => (y = .non ∧ Q (.bl (decide (x = .non))) H) ∨ rIsB x y H Q
abbrev rIsNot : R2 := fun x y H Q => (y = .non ∧ Q (.bl (!decide (x = .non))) H) ∨ rNotB x y H Q
theorem op_isA {X : Cx} : OpR X (compareOp .Is) rIs := op_isN.or op_isBl
theorem op_notA {X : Cx} : OpR X (compareOp .IsNot) rIsNot := op_notN.or op_notBl
theorem snd_is {K : PySem.W.Frag} : Snd2 K rIs fIs := fun F H v u x y z Q hs rx ry e q => by
  unfold fIs at e
  split at e
  · cases e
    cases ry.non
    rw [← isNone_ok hs rx] at q
    exact .inl ⟨rfl, q.now hs (.bl _)⟩
  · cases e
    cases rx.bl
    cases ry.bl
    exact .inr ⟨_, _, rfl, rfl, q.now hs (.bl _)⟩
  · cases e
theorem snd_isnot {K : PySem.W.Frag} : Snd2 K rIsNot fIsNot := fun F H v u x y z Q hs rx ry e q => by
  unfold fIsNot at e
  split at e
  · cases e
    cases ry.non
    rw [← isNone_ok hs rx] at q
    exact .inl ⟨rfl, q.now hs (.bl _)⟩
  · cases e
    cases rx.bl
    cases ry.bl
    exact .inr ⟨_, _, rfl, rfl, q.now hs (.bl _)⟩
  · cases e
theorem flat_ok {K : PySem.W.Frag} {F H : Hp} {v : V} {x : PyData} (hs : Same F H) (r : Rdd K F H v x) (f : flatD x = true) : flatV v = true ∧ ∀ (u : V) (y : PyData), Dq F u y → flatD y = true → eqV u v = PyData.eqv y x := by
  have flat2 : ∀ {u : V} {y : PyData}, Dq F u y → flatD y = true → (y = .none ∧ u = .non) ∨ (∃ b, y = .bool b ∧ u = .bl b) ∨ (∃ b, y = .int b ∧ u = .int b) ∨ ∃ b, y = .str b ∧ u = .str b := fun d f => by
    cases d with
    | non => exact .inl ⟨rfl, rfl⟩
    | bl b => exact .inr (.inl ⟨b, rfl, rfl⟩)
    | int b => exact .inr (.inr (.inl ⟨b, rfl, rfl⟩))
    | str b => exact .inr (.inr (.inr ⟨b, rfl, rfl⟩))
    | lst h a => cases f
    | tup h a => cases f
  cases x with
  | none =>
    cases r.non
    refine ⟨rfl, fun u y d f2 => ?_⟩
    rcases flat2 d f2 with ⟨rfl, rfl⟩ | ⟨b, rfl, rfl⟩ | ⟨b, rfl, rfl⟩ | ⟨b, rfl, rfl⟩ <;> simp [eqV, PyData.eqv]
  | bool c =>
    cases r.bl
    refine ⟨rfl, fun u y d f2 => ?_⟩
    rcases flat2 d f2 with ⟨rfl, rfl⟩ | ⟨b, rfl, rfl⟩ | ⟨b, rfl, rfl⟩ | ⟨b, rfl, rfl⟩ <;> simp [eqV, PyData.eqv]
  | int c =>
    cases r.int
    refine ⟨rfl, fun u y d f2 => ?_⟩
    rcases flat2 d f2 with ⟨rfl, rfl⟩ | ⟨b, rfl, rfl⟩ | ⟨b, rfl, rfl⟩ | ⟨b, rfl, rfl⟩ <;> simp [eqV, PyData.eqv]
  | str c =>
    cases r.str
    refine ⟨rfl, fun u y d f2 => ?_⟩
    rcases flat2 d f2 with ⟨rfl, rfl⟩ | ⟨b, rfl, rfl⟩ | ⟨b, rfl, rfl⟩ | ⟨b, rfl, rfl⟩ <;> simp [eqV, PyData.eqv]
  | list xs => cases f
  | tuple xs => cases f
  | dict z => cases f
theorem in_flat {F : Hp} {v : V} {x : PyData} (h : ∀ (u : V) (y : PyData), Dq F u y → flatD y = true → eqV u v = PyData.eqv y x) : ∀ {vs : List V} {ds : List PyData}, DqA F vs ds → ds.all flatD = true → inV v vs = hasD ds x
  | _, _, .nil, _ => rfl
  | _, _, .cons a t, f => by
    simp only [List.all_cons, Bool.and_eq_true] at f
    have ih := in_flat h t f.2
    simp only [inV, hasD, List.any_cons] at ih ⊢
    rw [ih, h _ _ a f.1]
theorem all_flat {F : Hp} : ∀ {vs : List V} {ds : List PyData}, DqA F vs ds → ds.all flatD = true → vs.all flatV = true
  | _, _, .nil, _ => rfl
  | _, _, .cons a t, f => by
    simp only [List.all_cons, Bool.and_eq_true] at f ⊢
    refine ⟨?_, all_flat t f.2⟩
    cases a with
    | lst h a => cases f.1
    | tup h a => cases f.1
    | _ => rfl
abbrev rInA (K : PySem.W.Frag) : R2 := fun x y H Q => rInD K x y H Q ∨ rIn K false x y H Q
abbrev rNotInA (K : PySem.W.Frag) : R2 := fun x y H Q => rNotInD K x y H Q ∨ rIn K true x y H Q
theorem op_inA {X : Cx} {k : Nat} (hr : Room k X.A) : OpR X (compareOp .In) (rInA X.K) := (op_inD (by have := hr.un; omega)).or op_in_seq
theorem op_notInA {X : Cx} {k : Nat} (hr : Room k X.A) : OpR X (compareOp .NotIn) (rNotInA X.K) := (op_notInD (by have := hr.un; omega)).or op_notIn_seq
theorem snd_in {K : PySem.W.Frag} : Snd2 K (rInA K) fIn := fun F H v u x y z Q hs rx ry e q => by
  unfold fIn at e
  split at e
  · split at e
    · rename_i h
      cases e
      rw [Bool.and_eq_true] at h
      exact .inl ⟨x, _, rx.dp hs, ry.dp hs, h.1, h.2, q.now hs (.bl _)⟩
    · cases e
  · split at e
    · rename_i h
      cases e
      rw [Bool.and_eq_true] at h
      obtain ⟨f1, f2⟩ := flat_ok hs rx h.1
      obtain ⟨a, vs, rfl, h1, _, d1⟩ := ry.tup hs
      rw [← in_flat f2 d1 h.2] at q
      exact .inr ⟨a, vs, rfl, .inr (SqT.of h1), f1, all_flat d1 h.2, q.now hs (.bl _)⟩
    · cases e
  · cases e
theorem snd_notIn {K : PySem.W.Frag} : Snd2 K (rNotInA K) fNotIn := fun F H v u x y z Q hs rx ry e q => by
  unfold fNotIn at e
  split at e
  · split at e
    · rename_i h
      cases e
      rw [Bool.and_eq_true] at h
      exact .inl ⟨x, _, rx.dp hs, ry.dp hs, h.1, h.2, q.now hs (.bl _)⟩
    · cases e
  · split at e
    · rename_i h
      cases e
      rw [Bool.and_eq_true] at h
      obtain ⟨f1, f2⟩ := flat_ok hs rx h.1
      obtain ⟨a, vs, rfl, h1, _, d1⟩ := ry.tup hs
      rw [← in_flat f2 d1 h.2] at q
      exact .inr ⟨a, vs, rfl, .inr (SqT.of h1), f1, all_flat d1 h.2, q.now hs (.bl _)⟩
    · cases e
  · cases e
theorem atI_ok {F : Hp} {vs : List V} {ds : List PyData} {i : Int} {d : PyData} (h : DqA F vs ds) (e : atI ds i = some d) : ∃ v, atI vs i = some v ∧ Dq F v d := by
  unfold atI at e ⊢
  rw [h.length]
  obtain ⟨j, e1, e2⟩ := Option.bind_eq_some_iff.mp e
  rw [e1]
  exact h.get' e2
theorem snd_ix {K : PySem.W.Frag} : Snd2 K (rIx K) fIx := fun F H v u x y z Q hs rx ry e q => by
  unfold fIx at e
  split at e
  · cases ry.int
    obtain ⟨a, vs, rfl, h1, d1⟩ := rx.list hs
    obtain ⟨w, k1, k2⟩ := atI_ok d1 e
    exact .inl ⟨a, vs, _, w, rfl, rfl, h1, k1, q.now hs k2⟩
  · cases ry.int
    obtain ⟨a, vs, rfl, h1, _, d1⟩ := rx.tup hs
    obtain ⟨w, k1, k2⟩ := atI_ok d1 e
    exact .inr (.inl ⟨a, vs, _, w, rfl, rfl, SqT.of h1, k1, q.now hs k2⟩)
  · split at e
    · rename_i h
      cases ry.int
      cases rx.str
      obtain ⟨c, e1, rfl⟩ := Option.map_eq_some_iff.mp e
      exact .inr (.inr ⟨_, _, c, rfl, rfl, lim_le h, e1, q.now hs (.str _)⟩)
    · cases e
  · cases e
end Cm

set_option Elab.async false
set_option linter.all false
set_option maxRecDepth 100000
namespace Cm
open PySem PySem.Spec PyProof.Rows L2

/-! ### tuples of ints: sum, min, max, sorted, at the library's level -/
section
variable {prog : Program} {w : World} {A : Around} {s : Shared} {E Q : Value → Shared → Prop}
variable {l : Addr} {its : List Value} {ns : List Int}
theorem intsAre_get : ∀ {us : List Value} {ns : List Int} {i : Nat} {v : Value}, IntsAre us ns → us[i]? = some v → ∃ t, v = .int (ns.getD i 0) t
  | _, _, i, v, .nil, e => by simp at e
  | _, _, 0, v, .cons n t r, e => by
    simp only [List.getElem?_cons_zero, Option.some.injEq] at e
    exact ⟨t, by rw [← e]; rfl⟩
  | _, _, i + 1, v, .cons n t r, e => by
    rw [List.getElem?_cons_succ] at e
    obtain ⟨t', h⟩ := intsAre_get r e
    exact ⟨t', by rw [h]; rfl⟩
theorem preSum_getD (ns : List Int) : ∀ k : Nat, k ≤ ns.length → preSum (fun i => ns.getD i 0) k = (ns.take k).sum
  | 0, _ => by simp [preSum]
  | k + 1, h => by
    have e : ns[k]? = some (ns[k]'(by omega)) := List.getElem?_eq_getElem (by omega)
    have e2 : ns.getD k 0 = ns[k]'(by omega) := by
      simp [List.getD_eq_getElem?_getD, e]
    rw [preSum, preSum_getD ns k (by omega), e2, take_get e, List.sum_append]
    simp
/-- what stood before stands -/
def Stands (g h : Heap) : Prop := ∀ c ob, g.get? c = some ob → h.get? c = some ob
theorem sum_tup (hh : A.handled = none) (hl : s.heap.IsTuple l its.toArray) (hi : IntsAre its ns)
    (h : ∀ (g : Heap) (k u : Nat), Stands s.heap g → Q (.int ns.sum u) { s with heap := g, toks := k }) : wpAny (model prog w) A (call (.builtin "sum") [.ref l]) Q E s := by
  have hlt : l < s.heap.objs.size := by
    obtain ⟨_, e, _⟩ := hl
    exact Heap.lt_size e
  refine call_sum_walkG (wpAny_pyIter_tuple hl ?_)
  have hlen : its.length = ns.length := by
    have := (vals_of_ints hi).length
    simpa using this.symm
  refine ⟨_, _, _, _, _, _, fun i => ns.getD i 0, rfl, Walks.tuple (A := A.in1) hh s.heap.objs.size l (Nat.ne_of_lt hlt) its.toArray, ⟨⟨_, Heap.get?_push_size _ rfl, rfl, rfl⟩, hl.push _⟩, fun b hb => ?_, fun i v hv => ?_, fun h' tk t' hk => ?_⟩
  · have grown : ∀ ob, (s.heap.push ob).objs.size = s.heap.objs.size + 1 := fun ob => Heap.size_push ..
    have one : b = s.heap.objs.size ∨ b = l := by simpa using hb
    refine (grown _).symm ▸ one.elim (fun q => q ▸ Nat.lt_succ_self _) (fun q => q ▸ Nat.lt_succ_of_lt hlt)
  · exact intsAre_get hi (by simpa using hv)
  · rw [show its.toArray.size = ns.length by simpa using hlen, preSum_getD ns _ (Nat.le_refl _), List.take_length]
    refine h h' tk t' fun b o e => hk b o (fun z => ?_) (Heap.get?_push_of_some _ e)
    have z' : b = s.heap.objs.size := by simpa using z
    subst z'
    exact absurd (Heap.lt_size e) (Nat.lt_irrefl _)
end
section
variable {X : Cx}
abbrev rSumT (K : PySem.W.Frag) : List V → Hp → VK → Prop := fun vs H Q => ∃ (a : Addr) (ns : List Int), vs = [V.ref a] ∧ SqT K H a (ns.map V.int) ∧ Q (.int ns.sum) H
theorem cr_sumT (hc : X.calm = true) : CallR X (.builtin "sum") (rSumT X.K) := by
  intro pins s σ H vs us Q I r h
  obtain ⟨a, ns, rfl, hq, q⟩ := h
  obtain ⟨its, rv, hl, hz⟩ := I.tuple hq
  rw [Vals.ref1 r]
  exact sum_tup (I.ok.hd hc) (show s.heap.IsTuple a its.toArray from hl) rv.ints fun h' tk t' hk => ⟨.int _, H, I.kept hk, ⟨_, rfl⟩, q⟩
/-- z is ns, put in order -/
def InOrder (z ns : List Int) : Prop := z.Perm ns ∧ z.Pairwise (· ≤ ·)
abbrev rSortedT (K : PySem.W.Frag) : List V → Hp → VK → Prop := fun vs H Q => ∃ (a : Addr) (ns : List Int), vs = [V.ref a] ∧ SqT K H a (ns.map V.int) ∧
  ∀ (z : List Int) (p : Addr), InOrder z ns → H p = none → Q (.ref p) (upd H p (.lst (z.map V.int)))
theorem cr_sortedT : CallR X (.builtin "sorted") (rSortedT X.K) := by
  intro pins s σ H vs us Q I r h
  obtain ⟨a, ns, rfl, hq, q⟩ := h
  obtain ⟨its, rv, ⟨o, ho, hc, k, hd⟩, hz⟩ := I.tuple hq
  have hi := rv.ints
  have hz2 : its.length ≤ sizeLine := by
    rw [← rv.length]
    exact hz
  rw [Vals.ref1 r]
  apply Calls.call_function_entry kind_sorted plain_sorted entry_sorted (args_sorted1 _)
  simp only [Builtin.«sorted»]
  apply wpAny_bind (m := checkCount "sorted" 1 1 _)
  apply wpAny_pure
  refine wpAny_bind (wpAny_collect_seq a (.inr rfl) ho hc hd (fun h1 k1 => ?_) (by simpa using hz2))
  have e0 : its.toArray.toList = its := by simp
  rw [e0]
  have I1 : Inv X pins σ H { s with heap := h1 } := I.kept (t' := s.toks) k1
  refine wpAny_bind (wpAny_newList ?_ hz2)
  have hoL : (h1.push (seqObj "list" its.toArray 0)).get? h1.objs.size = some (seqObj "list" its.toArray 0) := Heap.get?_push_size _ rfl
  refine wpAny_bind (wpAny_holding (wpAny_call_entry slot_list_sort ⟨_, hoL, rfl⟩ entry_list_sort (SrtO.list_sort_ord SrtO.swo_int hoL hz2 (fun h2 => SrtO.ints_sortable hi h2) fun out hs hb => ⟨_, rfl, ?_⟩) (args_list_sort _)))
  obtain ⟨a1, a2, a3⟩ := SrtO.ints_out hi hs hb
  obtain ⟨n, hn⟩ := sortedHeap_at (out := out.toArray) hoL
  have old : ∀ b u, h1.get? b = some u → (sortedHeap (h1.push (seqObj "list" its.toArray 0)) h1.objs.size its out.toArray).get? b = some u := fun b u e => by
    have hb : b < h1.objs.size := Heap.lt_size e
    rw [sortedHeap_old (Nat.ne_of_lt hb) (by rw [Heap.size_push]; exact Nat.lt_succ_of_lt hb)]
    exact Heap.get?_push_of_some _ e
  refine wpAny_pure ⟨_, rfl, .ref h1.objs.size, upd H h1.objs.size (.lst ((out.map SrtO.iv).map V.int)), ?_, rfl, q _ _ ⟨a2, a3⟩ (I1.hok.fresh (Nat.le_refl _))⟩
  refine I1.laid (t' := s.toks) old (Nat.le_refl _) ⟨?_, out, n, vals_of_ints a1, hn⟩
  rw [List.length_map, a2.length_eq]
  rw [List.length_map] at hz
  exact hz
end
end Cm

set_option Elab.async false
set_option linter.all false
set_option maxRecDepth 100000
namespace Cm
open PySem PySem.Spec PyProof.Rows L2

/-! ### built-in functions -/
def minI : List Int → Option Int
  | [] => none
  | x :: xs => some (xs.foldl (fun a y => if y < a then y else a) x)
def maxI : List Int → Option Int
  | [] => none
  | x :: xs => some (xs.foldl (fun a y => if a < y then y else a) x)
theorem ite_le {z x : Int} : (if z < x then z else x) ≤ x ∧ (if z < x then z else x) ≤ z := by
  split <;> omega
theorem ite_ge {z x : Int} : x ≤ (if x < z then z else x) ∧ z ≤ (if x < z then z else x) := by
  split <;> omega
theorem foldmin_mem : ∀ (xs : List Int) (x : Int), (xs.foldl (fun a y => if y < a then y else a) x ∈ x :: xs) ∧ ∀ y ∈ x :: xs, xs.foldl (fun a y => if y < a then y else a) x ≤ y
  | [], x => by simp
  | z :: zs, x => by
    obtain ⟨h1, h2⟩ := foldmin_mem zs (if z < x then z else x)
    simp only [List.foldl_cons, List.mem_cons] at h1 h2 ⊢
    refine ⟨?_, fun y hy => ?_⟩
    · rcases h1 with h | h
      · rw [h]
        split
        · exact .inr (.inl rfl)
        · exact .inl rfl
      · exact .inr (.inr h)
    · have h0 := h2 _ (.inl rfl)
      rcases hy with rfl | rfl | hy
      · exact Int.le_trans h0 ite_le.1
      · exact Int.le_trans h0 ite_le.2
      · exact h2 y (.inr hy)
theorem foldmax_mem : ∀ (xs : List Int) (x : Int), (xs.foldl (fun a y => if a < y then y else a) x ∈ x :: xs) ∧ ∀ y ∈ x :: xs, y ≤ xs.foldl (fun a y => if a < y then y else a) x
  | [], x => by simp
  | z :: zs, x => by
    obtain ⟨h1, h2⟩ := foldmax_mem zs (if x < z then z else x)
    simp only [List.foldl_cons, List.mem_cons] at h1 h2 ⊢
    refine ⟨?_, fun y hy => ?_⟩
    · rcases h1 with h | h
      · rw [h]
        split
        · exact .inr (.inl rfl)
        · exact .inl rfl
      · exact .inr (.inr h)
    · have h0 := h2 _ (.inl rfl)
      rcases hy with rfl | rfl | hy
      · exact Int.le_trans ite_ge.1 h0
      · exact Int.le_trans ite_ge.2 h0
      · exact h2 y (.inr hy)
theorem minI_spec {ns : List Int} {m : Int} (e : minI ns = some m) : m ∈ ns ∧ ∀ y ∈ ns, m ≤ y := by
  cases ns with
  | nil => cases e
  | cons x xs =>
    cases e
    exact foldmin_mem xs x
theorem maxI_spec {ns : List Int} {m : Int} (e : maxI ns = some m) : m ∈ ns ∧ ∀ y ∈ ns, y ≤ m := by
  cases ns with
  | nil => cases e
  | cons x xs =>
    cases e
    exact foldmax_mem xs x
theorem minD_ints : ∀ (xs : List Int) (x : Int), PySem.W.minD (.int x) (xs.map .int) = .int (xs.foldl (fun a y => if y < a then y else a) x)
  | [], x => rfl
  | z :: zs, x => by
    show PySem.W.minD (if PySem.W.dataLt (.int z) (.int x) then .int z else .int x) (zs.map .int) = _
    rw [PySem.W.dataLt_int, List.foldl_cons, ← minD_ints zs]
    by_cases h : z < x <;> simp [h]
theorem maxD_ints : ∀ (xs : List Int) (x : Int), PySem.W.maxD (.int x) (xs.map .int) = .int (xs.foldl (fun a y => if a < y then y else a) x)
  | [], x => rfl
  | z :: zs, x => by
    show PySem.W.maxD (if PySem.W.dataLt (.int x) (.int z) then .int z else .int x) (zs.map .int) = _
    rw [PySem.W.dataLt_int, List.foldl_cons, ← maxD_ints zs]
    by_cases h : x < z <;> simp [h]
theorem alike_of_ints (ns : List Int) : PySem.W.AlikeAll (ns.map .int) := by
  refine ⟨fun x hx y hy => ?_, fun x hx => ?_⟩
  · obtain ⟨a, _, rfl⟩ := List.mem_map.mp hx
    obtain ⟨b, _, rfl⟩ := List.mem_map.mp hy
    simp [PySem.W.alike]
  · obtain ⟨a, _, rfl⟩ := List.mem_map.mp hx
    intro z
    cases z
theorem readsAll_ints {h : Heap} : ∀ {us : List Value} {ns : List Int}, IntsAre us ns → ∃ as, ReadsAll h us (ns.map .int) as
  | _, _, .nil => ⟨[], .nil⟩
  | _, _, .cons n t r => by
    obtain ⟨as, q⟩ := readsAll_ints (h := h) r
    exact ⟨_, .cons (.int n t) q⟩
theorem depth_of_ints : ∀ ns : List Int, PyData.depthAll (ns.map .int) = 0
  | [] => rfl
  | n :: ns => by
    rw [List.map_cons, PyData.depthAll, PyData.depth, depth_of_ints ns]
    rfl
section
variable {X : Cx} {k : Nat}
abbrev rMinT (K : PySem.W.Frag) : List V → Hp → VK → Prop := fun vs H Q => ∃ (a : Addr) (ns : List Int) (m : Int), vs = [V.ref a] ∧ SqT K H a (ns.map V.int) ∧ minI ns = some m ∧ Q (.int m) H
abbrev rMaxT (K : PySem.W.Frag) : List V → Hp → VK → Prop := fun vs H Q => ∃ (a : Addr) (ns : List Int) (m : Int), vs = [V.ref a] ∧ SqT K H a (ns.map V.int) ∧ maxI ns = some m ∧ Q (.int m) H
theorem cr_minT (hc : X.calm = true) (hr : Room k X.A) : CallR X (.builtin "min") (rMinT X.K) := by
  intro pins s σ H vs us Q I r h
  obtain ⟨a, ns, m, rfl, hq, em, q⟩ := h
  obtain ⟨its, rv, hl, hz⟩ := I.tuple hq
  rw [Vals.ref1 r]
  cases ns with
  | nil => cases em
  | cons x xs =>
    cases em
    obtain ⟨as, ra⟩ := readsAll_ints (h := s.heap) rv.ints
    refine PySem.W.min_tuple_data (vs := its.toArray) (x := .int x) (xs := xs.map .int) (as := as) (I.ok.hd hc) (show s.heap.IsTuple a its.toArray from hl) (by simpa using ra) (alike_of_ints (x :: xs)) ?_ fun i v h' tk bs hv rd hk => ?_
    · have := hr.un
      have e := depth_of_ints (x :: xs)
      rw [List.map_cons] at e
      rw [e]
      omega
    · rw [minD_ints] at rd
      cases rd
      exact ⟨.int _, H, I.kept hk, ⟨_, rfl⟩, q⟩
theorem cr_maxT (hc : X.calm = true) (hr : Room k X.A) : CallR X (.builtin "max") (rMaxT X.K) := by
  intro pins s σ H vs us Q I r h
  obtain ⟨a, ns, m, rfl, hq, em, q⟩ := h
  obtain ⟨its, rv, hl, hz⟩ := I.tuple hq
  rw [Vals.ref1 r]
  cases ns with
  | nil => cases em
  | cons x xs =>
    cases em
    obtain ⟨as, ra⟩ := readsAll_ints (h := s.heap) rv.ints
    refine PySem.W.max_tuple_data (vs := its.toArray) (x := .int x) (xs := xs.map .int) (as := as) (I.ok.hd hc) (show s.heap.IsTuple a its.toArray from hl) (by simpa using ra) (alike_of_ints (x :: xs)) ?_ fun i v h' tk bs hv rd hk => ?_
    · have := hr.un
      have e := depth_of_ints (x :: xs)
      rw [List.map_cons] at e
      rw [e]
      omega
    · rw [maxD_ints] at rd
      cases rd
      exact ⟨.int _, H, I.kept hk, ⟨_, rfl⟩, q⟩
end
def fLen : List PyData → Option PyData
  | [.list xs] => some (.int xs.length)
  | [.tuple xs] => some (.int xs.length)
  | [.str z] => if z.length ≤ lim then some (.int z.length) else none
  | _ => none
def fAbs : List PyData → Option PyData
  | [.int i] => some (.int (if i < 0 then -i else i))
  | _ => none
def fMax : List PyData → Option PyData
  | [.int i, .int j] => some (.int (if j > i then j else i))
  | [.list xs] => (asInts xs).bind fun ns => (maxI ns).map .int
  | [.tuple xs] => (asInts xs).bind fun ns => (maxI ns).map .int
  | _ => none
def fMin : List PyData → Option PyData
  | [.int i, .int j] => some (.int (if j < i then j else i))
  | [.list xs] => (asInts xs).bind fun ns => (minI ns).map .int
  | [.tuple xs] => (asInts xs).bind fun ns => (minI ns).map .int
  | _ => none
def fInt : List PyData → Option PyData
  | [.int i] => some (.int i)
  | [.bool b] => some (.int (if b then 1 else 0))
  | _ => none
def fTuple : List PyData → Option PyData
  | [.list xs] => some (.tuple xs)
  | [.tuple xs] => some (.tuple xs)
  | _ => none
def fList : List PyData → Option PyData
  | [.list xs] => some (.list xs)
  | [.tuple xs] => some (.list xs)
  | _ => none
def fSum : List PyData → Option PyData
  | [.list xs] => (asInts xs).map fun ns => .int ns.sum
  | [.tuple xs] => (asInts xs).map fun ns => .int ns.sum
  | _ => none
def fAll : List PyData → Option PyData
  | [.list xs] => (asBools xs).map fun bs => .bool (bs.all id)
  | _ => none
def fAny : List PyData → Option PyData
  | [.list xs] => (asBools xs).map fun bs => .bool (bs.any id)
  | _ => none
/-! sorting by putting in: the kernel can run it -/
section
variable {α : Type} (le : α → α → Bool)
def putIn (x : α) : List α → List α
  | [] => [x]
  | y :: ys => if le x y then x :: y :: ys else y :: putIn x ys
def sortBy : List α → List α
  | [] => []
  | x :: xs => putIn le x (sortBy xs)
end
theorem putIn_perm {α : Type} (le : α → α → Bool) (x : α) : ∀ ys : List α, (putIn le x ys).Perm (x :: ys)
  | [] => List.Perm.refl _
  | y :: ys => by
    rw [putIn]
    split
    · exact List.Perm.refl _
    · exact ((putIn_perm le x ys).cons y).trans (List.Perm.swap x y ys)
theorem sortBy_perm {α : Type} (le : α → α → Bool) : ∀ xs : List α, (sortBy le xs).Perm xs
  | [] => List.Perm.refl _
  | x :: xs => (putIn_perm le x _).trans ((sortBy_perm le xs).cons x)
theorem putIn_sorted {α : Type} {le : α → α → Bool} (tr : ∀ a b c, le a b = true → le b c = true → le a c = true) (to : ∀ a b, (le a b || le b a) = true) (x : α) : ∀ {ys : List α}, ys.Pairwise (fun a b => le a b = true) → (putIn le x ys).Pairwise (fun a b => le a b = true)
  | [], _ => by simp [putIn]
  | y :: ys, h => by
    have h' := List.pairwise_cons.mp h
    rw [putIn]
    split
    · rename_i c
      refine List.Pairwise.cons (fun z hz => ?_) h
      rcases List.mem_cons.mp hz with rfl | hz
      · exact c
      · exact tr _ _ _ c (h'.1 z hz)
    · rename_i c
      refine List.Pairwise.cons (fun z hz => ?_) (putIn_sorted tr to x h'.2)
      rcases List.mem_cons.mp ((putIn_perm le x ys).mem_iff.mp hz) with rfl | hz
      · have := to z y
        rcases Bool.or_eq_true_iff.mp this with q | q
        · exact absurd q c
        · exact q
      · exact h'.1 z hz
theorem sortBy_sorted {α : Type} {le : α → α → Bool} (tr : ∀ a b c, le a b = true → le b c = true → le a c = true) (to : ∀ a b, (le a b || le b a) = true) : ∀ xs : List α, (sortBy le xs).Pairwise (fun a b => le a b = true)
  | [] => List.Pairwise.nil
  | x :: xs => putIn_sorted tr to x (sortBy_sorted tr to xs)
def sortI (ns : List Int) : List Int := sortBy (fun a b => decide (a ≤ b)) ns
def leP (p q : Int × Int) : Bool := !SrtO.lexB q p
def sortP (ps : List (Int × Int)) : List (Int × Int) := sortBy leP ps
def fSorted : List PyData → Option PyData
  | [.list xs] => match asInts xs with
    | some ns => some (.list ((sortI ns).map .int))
    | none => (asPairs xs).map fun ps => .list ((sortP ps).map pairD)
  | [.tuple xs] => (asInts xs).map fun ns => .list ((sortI ns).map .int)
  | _ => none
theorem sortI_perm (ns : List Int) : (sortI ns).Perm ns := sortBy_perm _ _
theorem sortI_sorted (ns : List Int) : (sortI ns).Pairwise (· ≤ ·) := by
  have := sortBy_sorted (le := fun a b : Int => decide (a ≤ b)) (fun a b c h1 h2 => by
    have h1 := of_decide_eq_true h1
    have h2 := of_decide_eq_true h2
    exact decide_eq_true (by omega)) (fun a b => by
    by_cases h : a ≤ b
    · simp [h]
    · have : b ≤ a := by omega
      simp [this]) ns
  exact this.imp fun h => of_decide_eq_true h
theorem sortI_uniq {ns ms : List Int} (p : ms.Perm ns) (s : ms.Pairwise (· ≤ ·)) : ms = sortI ns :=
  (p.trans (sortI_perm ns).symm).eq_of_pairwise (fun a b _ _ h1 h2 => by omega) s (sortI_sorted ns)
theorem leP_iff {p q : Int × Int} : leP p q = true ↔ p.1 < q.1 ∨ (p.1 = q.1 ∧ p.2 ≤ q.2) := by
  unfold leP
  rw [Bool.not_eq_true', SrtO.lexB_no]
  omega
theorem sortP_perm (ns : List (Int × Int)) : (sortP ns).Perm ns := sortBy_perm _ _
theorem sortP_sorted (ns : List (Int × Int)) : (sortP ns).Pairwise (fun p q => leP p q = true) :=
  sortBy_sorted (le := leP) (fun a b c h1 h2 => by
    rw [leP_iff] at h1 h2 ⊢
    omega) (fun a b => by
    rw [Bool.or_eq_true, leP_iff, leP_iff]
    omega) ns
theorem sortP_uniq {ns ms : List (Int × Int)} (p : ms.Perm ns) (s : ms.Pairwise (fun p q => leP p q = true)) : ms = sortP ns :=
  (p.trans (sortP_perm ns).symm).eq_of_pairwise (fun a b _ _ h1 h2 => by
    rw [leP_iff] at h1 h2
    apply Prod.ext <;> omega) s (sortP_sorted ns)
theorem RdA.one {K : PySem.W.Frag} {F H : Hp} {vs : List V} {x : PyData} (h : RdA K F H vs [x]) : ∃ v, vs = [v] ∧ Rdd K F H v x := by
  cases h with
  | cons a t =>
    cases t
    exact ⟨_, rfl, a⟩
theorem RdA.two {K : PySem.W.Frag} {F H : Hp} {vs : List V} {x y : PyData} (h : RdA K F H vs [x, y]) : ∃ v u, vs = [v, u] ∧ Rdd K F H v x ∧ Rdd K F H u y := by
  cases h with
  | cons a t =>
    obtain ⟨u, rfl, b⟩ := t.one
    exact ⟨_, u, rfl, a, b⟩
section
variable {X : Cx} {k : Nat}
abbrev rLen (K : PySem.W.Frag) : List V → Hp → VK → Prop := fun xs H Q => (∃ p ys, xs = [.ref p] ∧ (SqL K H p ys ∨ SqT K H p ys) ∧ Q (.int ys.length) H) ∨ ∃ z, xs = [.str z] ∧ z.length ≤ sizeLine ∧ Q (.int z.length) H
theorem call_lenA : CallR X (.builtin "len") (rLen X.K) := call_len_seq.or call_len_str
theorem snd_len {K : PySem.W.Frag} : SndN K (rLen K) fLen := fun F H vs xs z Q hs r e q => by
  unfold fLen at e
  split at e
  · cases e
    obtain ⟨v, rfl, r0⟩ := r.one
    obtain ⟨a, us, rfl, h, d⟩ := r0.list hs
    rw [← d.length] at q
    exact .inl ⟨a, us, rfl, .inl h, q.now hs (.int _)⟩
  · cases e
    obtain ⟨v, rfl, r0⟩ := r.one
    obtain ⟨a, us, rfl, h, _, d⟩ := r0.tup hs
    rw [← d.length] at q
    exact .inl ⟨a, us, rfl, .inr (SqT.of h), q.now hs (.int _)⟩
  · split at e
    · rename_i hl
      cases e
      obtain ⟨v, rfl, r0⟩ := r.one
      cases r0.str
      exact .inr ⟨_, rfl, lim_le hl, q.now hs (.int _)⟩
    · cases e
  · cases e
abbrev rAbs : List V → Hp → VK → Prop := fun xs H Q => ∃ i, xs = [.int i] ∧ Q (.int (if i < 0 then -i else i)) H
theorem snd_abs {K : PySem.W.Frag} : SndN K rAbs fAbs := fun F H vs xs z Q hs r e q => by
  unfold fAbs at e
  split at e
  · cases e
    obtain ⟨v, rfl, r0⟩ := r.one
    cases r0.int
    exact ⟨_, rfl, q.now hs (.int _)⟩
  · cases e
abbrev rMaxA (K : PySem.W.Frag) : List V → Hp → VK → Prop := fun xs H Q => (∃ i j, xs = [.int i, .int j] ∧ Q (.int (if j > i then j else i)) H) ∨ (rMax K xs H Q ∨ rMaxT K xs H Q)
theorem call_maxA (hc : X.calm = true) (hr : Room k X.A) : CallR X (.builtin "max") (rMaxA X.K) := (call_max2 hc).or ((cr_max hc).or (cr_maxT hc hr))
theorem snd_max {K : PySem.W.Frag} : SndN K (rMaxA K) fMax := fun F H vs xs z Q hs r e q => by
  unfold fMax at e
  split at e
  · cases e
    obtain ⟨v, u, rfl, r1, r2⟩ := r.two
    cases r1.int
    cases r2.int
    exact .inl ⟨_, _, rfl, q.now hs (.int _)⟩
  · simp only [Option.bind_eq_some_iff, Option.map_eq_some_iff] at e
    obtain ⟨ns, e1, m, e2, rfl⟩ := e
    obtain ⟨v, rfl, r0⟩ := r.one
    obtain ⟨a, us, rfl, h, d⟩ := r0.list hs
    rw [asInts_eq e1] at d
    rw [d.of_ints] at h
    obtain ⟨h1, h2⟩ := maxI_spec e2
    refine .inr (.inl ⟨a, ns, rfl, h, List.length_pos_of_mem h1, fun m' k1 k2 => ?_⟩)
    have : m' = m := Int.le_antisymm (h2 m' k1) (k2 m h1)
    subst this
    exact q.now hs (.int _)
  · simp only [Option.bind_eq_some_iff, Option.map_eq_some_iff] at e
    obtain ⟨ns, e1, m, e2, rfl⟩ := e
    obtain ⟨v, rfl, r0⟩ := r.one
    obtain ⟨a, us, rfl, h, _, d⟩ := r0.tup hs
    rw [asInts_eq e1] at d
    rw [d.of_ints] at h
    exact .inr (.inr ⟨a, ns, m, rfl, SqT.of h, e2, q.now hs (.int _)⟩)
  · cases e
abbrev rMinA (K : PySem.W.Frag) : List V → Hp → VK → Prop := fun xs H Q => (∃ i j, xs = [.int i, .int j] ∧ Q (.int (if j < i then j else i)) H) ∨ (rMin K xs H Q ∨ rMinT K xs H Q)
theorem call_minA (hc : X.calm = true) (hr : Room k X.A) : CallR X (.builtin "min") (rMinA X.K) := (call_min2 hc).or ((cr_min hc).or (cr_minT hc hr))
theorem snd_min {K : PySem.W.Frag} : SndN K (rMinA K) fMin := fun F H vs xs z Q hs r e q => by
  unfold fMin at e
  split at e
  · cases e
    obtain ⟨v, u, rfl, r1, r2⟩ := r.two
    cases r1.int
    cases r2.int
    exact .inl ⟨_, _, rfl, q.now hs (.int _)⟩
  · simp only [Option.bind_eq_some_iff, Option.map_eq_some_iff] at e
    obtain ⟨ns, e1, m, e2, rfl⟩ := e
    obtain ⟨v, rfl, r0⟩ := r.one
    obtain ⟨a, us, rfl, h, d⟩ := r0.list hs
    rw [asInts_eq e1] at d
    rw [d.of_ints] at h
    obtain ⟨h1, h2⟩ := minI_spec e2
    refine .inr (.inl ⟨a, ns, rfl, h, List.length_pos_of_mem h1, fun m' k1 k2 => ?_⟩)
    have : m' = m := Int.le_antisymm (k2 m h1) (h2 m' k1)
    subst this
    exact q.now hs (.int _)
  · simp only [Option.bind_eq_some_iff, Option.map_eq_some_iff] at e
    obtain ⟨ns, e1, m, e2, rfl⟩ := e
    obtain ⟨v, rfl, r0⟩ := r.one
    obtain ⟨a, us, rfl, h, _, d⟩ := r0.tup hs
    rw [asInts_eq e1] at d
    rw [d.of_ints] at h
    exact .inr (.inr ⟨a, ns, m, rfl, SqT.of h, e2, q.now hs (.int _)⟩)
  · cases e
abbrev rInt : List V → Hp → VK → Prop := fun xs H Q => (∃ i, xs = [.int i] ∧ Q (.int i) H) ∨ ∃ k, xs = [.bl k] ∧ Q (.int (if k then 1 else 0)) H
theorem snd_int {K : PySem.W.Frag} : SndN K rInt fInt := fun F H vs xs z Q hs r e q => by
  unfold fInt at e
  split at e
  · cases e
    obtain ⟨v, rfl, r0⟩ := r.one
    cases r0.int
    exact .inl ⟨_, rfl, q.now hs (.int _)⟩
  · cases e
    obtain ⟨v, rfl, r0⟩ := r.one
    cases r0.bl
    exact .inr ⟨_, rfl, q.now hs (.int _)⟩
  · cases e
abbrev rTuple (K : PySem.W.Frag) : List V → Hp → VK → Prop := fun xs H Q => ∃ p ys, xs = [.ref p] ∧ ((SqL K H p ys ∧ ∀ l, H l = none → Q (.ref l) (upd H l (.tup ys))) ∨ (SqT K H p ys ∧ Q (.ref p) H))
theorem snd_tuple {K : PySem.W.Frag} : SndN K (rTuple K) fTuple := fun F H vs xs z Q hs r e q => by
  unfold fTuple at e
  split at e
  · cases e
    obtain ⟨v, rfl, r0⟩ := r.one
    obtain ⟨a, us, rfl, h, d⟩ := r0.list hs
    exact ⟨a, us, rfl, .inl ⟨h, fun p np => q.tup hs d p np⟩⟩
  · cases e
    obtain ⟨v, rfl, r0⟩ := r.one
    obtain ⟨a, us, rfl, h, hf, d⟩ := r0.tup hs
    exact ⟨a, us, rfl, .inr ⟨SqT.of h, q.now hs (.tup hf d)⟩⟩
  · cases e
abbrev rList (K : PySem.W.Frag) : List V → Hp → VK → Prop := fun xs H Q => ∃ p ys, xs = [.ref p] ∧ (SqL K H p ys ∨ SqT K H p ys) ∧ ∀ l, H l = none → Q (.ref l) (upd H l (.lst ys))
theorem list_src {K : PySem.W.Frag} {F H : Hp} {vs : List V} {x : PyData} {xs : List PyData} (hs : Same F H) (r : RdA K F H vs [x]) (e : x = .list xs ∨ x = .tuple xs) : ∃ a us, vs = [.ref a] ∧ (SqL K H a us ∨ SqT K H a us) ∧ DqA F us xs := by
  obtain ⟨v, rfl, r0⟩ := r.one
  rcases e with rfl | rfl
  · obtain ⟨a, us, rfl, h, d⟩ := r0.list hs
    exact ⟨a, us, rfl, .inl h, d⟩
  · obtain ⟨a, us, rfl, h, _, d⟩ := r0.tup hs
    exact ⟨a, us, rfl, .inr (SqT.of h), d⟩
theorem snd_list {K : PySem.W.Frag} : SndN K (rList K) fList := fun F H vs xs z Q hs r e q => by
  unfold fList at e
  split at e
  · cases e
    obtain ⟨a, us, rfl, h, d⟩ := list_src hs r (.inl rfl)
    exact ⟨a, us, rfl, h, fun p np => q.lst hs d p np⟩
  · cases e
    obtain ⟨a, us, rfl, h, d⟩ := list_src hs r (.inr rfl)
    exact ⟨a, us, rfl, h, fun p np => q.lst hs d p np⟩
  · cases e
/-- list(x) as a list of the store -/
def cListM (a : SA) : SE := fun ev st => (a ev st).bind fun p => (rdAll p.2 p.1).bind fun xs => match xs with
  | [.list ys] => some (.l p.2.length, p.2 ++ [some ys])
  | [.tuple ys] => some (.l p.2.length, p.2 ++ [some ys])
  | _ => none
theorem se_listM {e : Expr} {es : List Expr} {sa : SA} {p pos : Pos} (hg : Gl X "list") (hm : X.mg "list" = none) (ha : PA X (e :: es) (tA X.K sa))
    (he : starEach (e :: es) X.env = (false, eval e X.env) :: starEach es X.env := by rfl) (hpl : (backTo pos (starEach es X.env)).any (·.1) = false := by rfl) : PE X (.Call (.Name "list" p) (e :: es) [] pos) (tI X.K (cListM sa)) :=
  (pe_callTy call_list_of hg hm PyProof.Rows.boot_list ha (by decide) (by decide) he hpl).weak fun σ H Q ⟨ρ, F, ev, st, w, st', hr, sr, e, post⟩ => by
    simp only [cListM, Option.bind_eq_some_iff] at e
    obtain ⟨⟨ws, st1⟩, e1, xs, e2, e3⟩ := e
    refine ⟨ρ, F, ev, st, ws, st1, hr, sr, e1, fun vs ρ' F' H' x h r => ?_⟩
    have rr := rdAll_ok (K := X.K) h r e2
    split at e3
    · cases e3
      obtain ⟨a, us, rfl, k1, d⟩ := list_src h.sub rr (.inl rfl)
      exact ⟨a, us, rfl, k1, fun p np => post _ _ _ _ (x.trans (.push p)) (h.push np d) (.pushed h)⟩
    · cases e3
      obtain ⟨a, us, rfl, k1, d⟩ := list_src h.sub rr (.inr rfl)
      exact ⟨a, us, rfl, k1, fun p np => post _ _ _ _ (x.trans (.push p)) (h.push np d) (.pushed h)⟩
    · cases e3
abbrev rSumA (K : PySem.W.Frag) : List V → Hp → VK → Prop := fun xs H Q => rSum K xs H Q ∨ rSumT K xs H Q
theorem call_sumA (hc : X.calm = true) : CallR X (.builtin "sum") (rSumA X.K) := (cr_sum hc).or (cr_sumT hc)
theorem snd_sum {K : PySem.W.Frag} : SndN K (rSumA K) fSum := fun F H vs xs z Q hs r e q => by
  unfold fSum at e
  split at e
  · obtain ⟨ns, e1, rfl⟩ := Option.map_eq_some_iff.mp e
    obtain ⟨v, rfl, r0⟩ := r.one
    obtain ⟨a, us, rfl, h, d⟩ := r0.list hs
    rw [asInts_eq e1] at d
    rw [d.of_ints] at h
    exact .inl ⟨a, ns, rfl, h, q.now hs (.int _)⟩
  · obtain ⟨ns, e1, rfl⟩ := Option.map_eq_some_iff.mp e
    obtain ⟨v, rfl, r0⟩ := r.one
    obtain ⟨a, us, rfl, h, _, d⟩ := r0.tup hs
    rw [asInts_eq e1] at d
    rw [d.of_ints] at h
    exact .inr ⟨a, ns, rfl, SqT.of h, q.now hs (.int _)⟩
  · cases e
theorem snd_all {K : PySem.W.Frag} : SndN K (rAll K) fAll := fun F H vs xs z Q hs r e q => by
  unfold fAll at e
  split at e
  · obtain ⟨bs, e1, rfl⟩ := Option.map_eq_some_iff.mp e
    obtain ⟨v, rfl, r0⟩ := r.one
    obtain ⟨a, us, rfl, h, d⟩ := r0.list hs
    rw [asBools_eq e1] at d
    rw [d.of_bools] at h
    exact ⟨a, bs, rfl, h, q.now hs (.bl _)⟩
  · cases e
theorem snd_any {K : PySem.W.Frag} : SndN K (rAny K) fAny := fun F H vs xs z Q hs r e q => by
  unfold fAny at e
  split at e
  · obtain ⟨bs, e1, rfl⟩ := Option.map_eq_some_iff.mp e
    obtain ⟨v, rfl, r0⟩ := r.one
    obtain ⟨a, us, rfl, h, d⟩ := r0.list hs
    rw [asBools_eq e1] at d
    rw [d.of_bools] at h
    exact ⟨a, bs, rfl, h, q.now hs (.bl _)⟩
  · cases e
abbrev rSortedA (K : PySem.W.Frag) : List V → Hp → VK → Prop := fun xs H Q => rSortedI K xs H Q ∨ (rSortedPO K xs H Q ∨ rSortedT K xs H Q)
theorem call_sortedA : CallR X (.builtin "sorted") (rSortedA X.K) := cr_sortedI.or (cr_sortedPO.or cr_sortedT)
/-- the pair that stands at a value -/
def pairAt (H : Hp) : V → Int × Int
  | .ref t => match H t with
    | some (.tup [.int a, .int b]) => (a, b)
    | _ => (0, 0)
  | _ => (0, 0)
theorem pairs_at {F H : Hp} (hs : Same F H) : ∀ {vs : List V} {ps : List (Int × Int)}, DqA F vs (ps.map pairD) → vs.map (pairAt H) = ps ∧ ∀ x ∈ vs, ∃ t, x = V.ref t ∧ H t = some (.tup [.int (pairAt H x).1, .int (pairAt H x).2]) ∧ Dq F x (pairD (pairAt H x))
  | _, [], .nil => ⟨rfl, fun x h => by cases h⟩
  | _, p :: ps, .cons (.tup h (.cons (.int _) (.cons (.int _) .nil))) t => by
    obtain ⟨h1, h2⟩ := pairs_at hs t
    have e : ∀ a, F a = some (.tup [.int p.1, .int p.2]) → pairAt H (.ref a) = p := fun a q => by
      simp only [pairAt, hs _ _ q]
    refine ⟨by rw [List.map_cons, h1, e _ h], fun x hx => ?_⟩
    rcases List.mem_cons.mp hx with rfl | hx
    · rw [e _ h]
      exact ⟨_, rfl, hs _ _ h, .tup h (.cons (.int _) (.cons (.int _) .nil))⟩
    · exact h2 x hx
theorem dqa_of {F : Hp} (g : V → PyData) : ∀ {vs : List V}, (∀ x ∈ vs, Dq F x (g x)) → DqA F vs (vs.map g)
  | [], _ => .nil
  | v :: vs, h => .cons (h v List.mem_cons_self) (dqa_of g fun x hx => h x (List.mem_cons_of_mem _ hx))
theorem snd_sorted {K : PySem.W.Frag} : SndN K (rSortedA K) fSorted := fun F H vs xs z Q hs r e q => by
  unfold fSorted at e
  split at e
  · split at e
    · rename_i ns e1
      cases e
      obtain ⟨v, rfl, r0⟩ := r.one
      obtain ⟨a, us, rfl, h, d⟩ := r0.list hs
      rw [asInts_eq e1] at d
      rw [d.of_ints] at h
      refine .inl ⟨a, ns, rfl, h, fun ns' p k1 k2 np => ?_⟩
      rw [← sortI_uniq k1 k2] at q
      exact q.lst hs DqA.ints p np
    · obtain ⟨ps, e1, rfl⟩ := Option.map_eq_some_iff.mp e
      obtain ⟨v, rfl, r0⟩ := r.one
      obtain ⟨a, us, rfl, h, d⟩ := r0.list hs
      rw [asPairs_eq e1] at d
      obtain ⟨h1, h2⟩ := pairs_at hs d
      refine .inr (.inl ⟨a, us, pairAt H, rfl, h, fun x hx => ?_, fun ys p k1 k2 np => ?_⟩)
      · obtain ⟨t, e2, e3, _⟩ := h2 x hx
        exact ⟨t, e2, e3⟩
      · have pm : ys.Perm us := k2.perm
        have ey : ys.map (pairAt H) = sortP ps := by
          refine sortP_uniq ?_ ?_
          · rw [← h1]
            exact pm.map _
          · rw [List.pairwise_map]
            exact k1.imp fun {a b} (z : ltP (pairAt H) b a = false) => by
              show (!SrtO.lexB (pairAt H b) (pairAt H a)) = true
              rw [show SrtO.lexB (pairAt H b) (pairAt H a) = false from z]
              rfl
        have dy : DqA F ys (ys.map fun y => pairD (pairAt H y)) := dqa_of _ fun x hx => by
          obtain ⟨t, _, _, e4⟩ := h2 x (pm.mem_iff.mp hx)
          exact e4
        have e5 : (ys.map fun y => pairD (pairAt H y)) = (sortP ps).map pairD := by
          rw [← ey, List.map_map]
          rfl
        rw [e5] at dy
        exact q.lst hs dy p np
  · obtain ⟨ns, e1, rfl⟩ := Option.map_eq_some_iff.mp e
    obtain ⟨v, rfl, r0⟩ := r.one
    obtain ⟨a, us, rfl, h, _, d⟩ := r0.tup hs
    rw [asInts_eq e1] at d
    rw [d.of_ints] at h
    refine .inr (.inr ⟨a, ns, rfl, SqT.of h, fun z p k np => ?_⟩)
    rw [← sortI_uniq k.1 k.2] at q
    exact q.lst hs DqA.ints p np
  · cases e
end
end Cm

set_option Elab.async false
set_option linter.all false
set_option maxRecDepth 100000
namespace Cm
open PySem PySem.Spec PyProof.Rows L2

/-! ### slices -/
def cutD (xs : List PyData) (lo hi : Option Int) : List PyData := (xs.drop (HT.sIx xs.length 0 lo)).take (HT.sIx xs.length xs.length hi - HT.sIx xs.length 0 lo)
abbrev SO := Ev → Sto → Option (Option Int × Sto)
def oNone : SO := fun _ st => some (none, st)
def oSome (a : SE) : SO := fun ev st => (a ev st).bind fun p => match p.1 with
  | .d (.int i) => some (some i, p.2)
  | _ => none
def tO (K : PySem.W.Frag) (c : SO) : TO := fun σ H Q => ∃ ρ F ev st i st', HR ρ F H st ∧ SR K ρ F ev σ ∧ c ev st = some (i, st') ∧ ∀ ρ' F' H', Ext ρ F ρ' F' → HR ρ' F' H' st' → Q i H'
def fSl (x : PyData) (lo hi : Option Int) : Option PyData := match x with
  | .list xs => some (.list (cutD xs lo hi))
  | .tuple xs => some (.tuple (cutD xs lo hi))
  | .str z => if z.length ≤ lim then some (.str (cutS z lo hi)) else none
  | _ => none
def cSl (a : SE) (lo hi : SO) : SE := fun ev st => (a ev st).bind fun p => (lo ev p.2).bind fun q => (hi ev q.2).bind fun r => (rd r.2 p.1).bind fun x => (fSl x q.1 r.1).map fun z => (.d z, r.2)
theorem DqA.cut {F : Hp} {vs : List V} {xs : List PyData} (h : DqA F vs xs) (lo hi : Option Int) : DqA F (cutV vs lo hi) (cutD xs lo hi) := by
  unfold cutV cutD
  rw [h.length]
  exact (h.drop _).take _
theorem cutD_whole {xs : List PyData} {lo hi : Option Int} (h : HT.sIx xs.length 0 lo = 0 ∧ HT.sIx xs.length xs.length hi = xs.length) : cutD xs lo hi = xs := by
  unfold cutD
  rw [h.1, h.2]
  simp
section
variable {X : Cx} {e : Expr} {lo hi : Option Expr} {ca : SE} {cl ch : SO} {p2 pos : Pos}
theorem so_none : PO X none (tO X.K oNone) := ⟨fun pins s σ H Q I ⟨ρ, F, ev, st, i, st', hr, sr, e, post⟩ => po_none.run pins s σ H Q I (by
  cases e
  exact post ρ F H (.refl _ _) hr)⟩
theorem so_some (h : PE X e (tI X.K ca)) : PO X (some e) (tO X.K (oSome ca)) := ⟨fun pins s σ H Q I ⟨ρ, F, ev, st, i, st', hr, sr, e, post⟩ => (po_some h).run pins s σ H Q I (by
  simp only [oSome, Option.bind_eq_some_iff] at e
  obtain ⟨⟨w, st1⟩, e1, e2⟩ := e
  refine ⟨ρ, F, ev, st, w, st1, hr, sr, e1, fun v ρ' F' H' x h r => ?_⟩
  split at e2
  · rename_i k q
    cases q
    cases e2
    cases r
    exact ⟨_, rfl, post _ _ _ x h⟩
  · cases e2)⟩
abbrev rSl (K : PySem.W.Frag) : V → Option Int → Option Int → Hp → VK → Prop := fun x lo hi H Q => rSlL K x lo hi H Q ∨ (rSlA K x lo hi H Q ∨ rSlS x lo hi H Q)
theorem sl_any : SlR X (rSl X.K) := sl_list.or (sl_tupA.or sl_str)
theorem se_sl (ha : PE X e (tI X.K ca)) (hl : PO X lo (tO X.K cl)) (hh : PO X hi (tO X.K ch)) : PE X (.Subscript e (.Slice lo hi none p2) pos) (tI X.K (cSl ca cl ch)) :=
  (pe_slice sl_any ha hl hh).weak fun σ H Q ⟨ρ, F, ev, st, w, st', hr, sr, e, post⟩ => by
    simp only [cSl, Option.bind_eq_some_iff, Option.map_eq_some_iff] at e
    obtain ⟨⟨w1, st1⟩, e1, ⟨i, st2⟩, e2, ⟨j, st3⟩, e3, x, e4, z, e5, e6⟩ := e
    cases e6
    refine ⟨ρ, F, ev, st, w1, st1, hr, sr, e1, fun v1 ρ1 F1 H1 x1 hr1 wr1 => ⟨ρ1, F1, ev, st1, i, st2, hr1, sr.mono x1, e2, fun ρ2 F2 H2 x2 hr2 => ⟨ρ2, F2, ev, st2, j, st3, hr2, (sr.mono x1).mono x2, e3, fun ρ3 F3 H3 x3 hr3 => ?_⟩⟩⟩
    have rr : Rdd X.K F3 H3 v1 x := rd_ok hr3 ((wr1.mono x2).mono x3) e4
    have q : Rep F3 H3 z Q := post.grow ((x1.trans x2).trans x3) hr3
    have hs := hr3.sub
    cases x with
    | list xs =>
      cases e5
      obtain ⟨a, vs, rfl, h, d⟩ := rr.list hs
      exact .inl ⟨a, vs, rfl, h, fun p np => q.lst hs (d.cut _ _) p np⟩
    | tuple xs =>
      cases e5
      obtain ⟨a, vs, rfl, h, hf, d⟩ := rr.tup hs
      refine .inr (.inl ⟨a, vs, rfl, SqT.of h, fun hw => ?_, fun _ p np => q.tup hs (d.cut _ _) p np⟩)
      rw [d.length] at hw
      rw [cutD_whole hw] at q
      exact q.now hs (.tup hf d)
    | str z =>
      simp only [fSl] at e5
      split at e5
      · rename_i hlm
        cases e5
        cases rr.str
        exact .inr (.inr ⟨_, rfl, lim_le hlm, q.now hs (.str _)⟩)
      · cases e5
    | _ => cases e5
end
/-! ### isinstance -/
def tyD : PyData → Option String
  | .none => some "NoneType"
  | .bool _ => some "bool"
  | .int _ => some "int"
  | .str _ => some "str"
  | .list _ => some "list"
  | .tuple _ => some "tuple"
  | .dict _ => none
def isaT (t T : String) : Bool := t == T || (t == "bool" && T == "int")
def known (T : String) : Bool := T == "int" || T == "bool" || T == "str" || T == "list" || T == "tuple"
theorem kitB_ok {x : PyData} {t T : String} (ht : tyD x = some t) (hT : known T = true) : kitB t T = some (isaT t T) := by
  have h1 : t = "NoneType" ∨ t = "bool" ∨ t = "int" ∨ t = "str" ∨ t = "list" ∨ t = "tuple" := by
    cases x <;> simp only [tyD, Option.some.injEq, reduceCtorEq] at ht <;> simp [← ht]
  have h2 : T = "int" ∨ T = "bool" ∨ T = "str" ∨ T = "list" ∨ T = "tuple" := by simpa [known, or_assoc] using hT
  rcases h1 with rfl | rfl | rfl | rfl | rfl | rfl <;> rcases h2 with rfl | rfl | rfl | rfl | rfl <;> decide +kernel
def cIsi (Ts : List String) (a : SE) : SE := fun ev st => (a ev st).bind fun p => (rd p.2 p.1).bind fun x => (tyD x).bind fun t => if Ts.all known then some (.d (.bool (Ts.any (isaT t))), p.2) else none
theorem tyX_of {K : PySem.W.Frag} {ρ : List Addr} {F H : Hp} {st : Sto} {v : V} {w : U} {x : PyData} {t : String} (h : HR ρ F H st) (r : WR K ρ F v w) (e : rd st w = some x) (et : tyD x = some t) : TyX K H v (.type t) := by
  cases w with
  | d y =>
    cases e
    cases (show Dq F v x from r) with
    | non => cases et; exact .base .non
    | bl b => cases et; exact .base (.bl b)
    | int b => cases et; exact .base (.int b)
    | str b => cases et; exact .base (.str b)
    | lst q a => cases et; exact .base (.lst (h.sub _ _ q))
    | tup q a => cases et; exact .base (.tup (h.sub _ _ q))
  | l n =>
    simp only [rd] at e
    split at e
    · rename_i xs q
      cases e
      cases et
      obtain ⟨a, vs, h1, h2, h3, h4⟩ := h.cell n xs q
      obtain ⟨b, h5, rfl⟩ := r
      rw [h1] at h5
      cases h5
      exact .base (.lst h2)
    · cases e
  | s ns =>
    cases e
    cases et
    obtain ⟨a, rfl, h2⟩ := r
    rcases h2 with (z | ⟨o, z⟩) | ⟨o, its, n, k1, k2, _⟩
    · exact .base (.lst (h.sub _ _ z))
    · exact .base (.frz (h.sub _ _ z))
    · exact .kList k1 k2
  | k kd => cases e
section
variable {X : Cx} {a : Expr} {ca : SE} {p p1 p2 pos : Pos}
theorem se_isi {T : Str} {t : String} (hg : Gl X "isinstance") (hm : X.mg "isinstance" = none) (hgT : Gl X T) (hmT : X.mg T = none) (hv : bootBuiltins T = some (.type t)) (hk : known t = true) (ha : PE X a (tI X.K ca)) (hn : T ≠ "__name__" := by decide) (hd : (T == ("__debug__" : Str)) = false := by decide)
    (hst : starEach [a, .Name T p2] X.env = (false, eval a X.env) :: starEach [.Name T p2] X.env := by rfl) (hpl : (backTo pos (starEach [.Name T p2] X.env)).any (·.1) = false := by rfl) :
    PE X (.Call (.Name "isinstance" p) [a, .Name T p2] [] pos) (tI X.K (cIsi [t] ca)) :=
  (pe_callB call_isi hg hm PyProof.Rows.boot_isinstance (pa_cons ha (pa_cons (pe_bltn (v := .ty t) hgT hmT hv rfl hn hd) pa_nil) hst) (by decide) (by decide) hst hpl).weak fun σ H Q ⟨ρ, F, ev, st, w, st', hr, sr, e, post⟩ => by
    simp only [cIsi, Option.bind_eq_some_iff] at e
    obtain ⟨⟨w1, st1⟩, e1, x, e2, ty, e3, e4⟩ := e
    refine ⟨ρ, F, ev, st, w1, st1, hr, sr, e1, fun v ρ' F' H' x1 h r => ?_⟩
    split at e4
    · cases e4
      have kb := kitB_ok e3 hk
      have q := post (.bl (isaT ty t)) ρ' F' H' x1 h (by
        show Dq F' _ _
        have : ([t].any (isaT ty)) = isaT ty t := by simp
        rw [this]
        exact .bl _)
      exact ⟨v, .ty t, .type ty, .type t, isaT ty t, rfl, .ty t, tyX_of h r e2 e3, kit_ty kb, q⟩
    · cases e4
theorem se_isi2 {T1 T2 : Str} {t1 t2 : String} {k : Nat} {q1 q2 : Pos} (hg : Gl X "isinstance") (hm : X.mg "isinstance" = none) (hgT : Gl X T1) (hmT : X.mg T1 = none) (hv : bootBuiltins T1 = some (.type t1)) (hk : known t1 = true)
    (hgT2 : Gl X T2) (hmT2 : X.mg T2 = none) (hv2 : bootBuiltins T2 = some (.type t2)) (hk2 : known t2 = true) (ha : PE X a (tI X.K ca)) (hn : T1 ≠ "__name__" := by decide) (hd : (T1 == ("__debug__" : Str)) = false := by decide) (hn2 : T2 ≠ "__name__" := by decide) (hd2 : (T2 == ("__debug__" : Str)) = false := by decide)
    (hst : starEach [a, .Tuple [.Name T1 q1, .Name T2 q2] k p2] X.env = (false, eval a X.env) :: starEach [.Tuple [.Name T1 q1, .Name T2 q2] k p2] X.env := by rfl) (hpl : (backTo pos (starEach [.Tuple [.Name T1 q1, .Name T2 q2] k p2] X.env)).any (·.1) = false := by rfl) :
    PE X (.Call (.Name "isinstance" p) [a, .Tuple [.Name T1 q1, .Name T2 q2] k p2] [] pos) (tI X.K (cIsi [t1, t2] ca)) :=
  (pe_callB call_isiT hg hm PyProof.Rows.boot_isinstance (pa_cons ha (pa_cons (pe_tup (pa_cons (pe_bltn (v := .ty t1) hgT hmT hv rfl hn hd) (pa_cons (pe_bltn (v := .ty t2) hgT2 hmT2 hv2 rfl hn2 hd2) pa_nil))) pa_nil) hst) (by decide) (by decide) hst hpl).weak fun σ H Q ⟨ρ, F, ev, st, w, st', hr, sr, e, post⟩ => by
    simp only [cIsi, Option.bind_eq_some_iff] at e
    obtain ⟨⟨w1, st1⟩, e1, x, e2, ty, e3, e4⟩ := e
    refine ⟨ρ, F, ev, st, w1, st1, hr, sr, e1, fun v ρ' F' H' x1 h r => ⟨by show 2 ≤ sizeLine; decide, fun tp np => ?_⟩⟩
    split at e4
    · cases e4
      have hr2 : HR ρ' F' (upd H' tp (.tup [.ty t1, .ty t2])) st1 := ⟨h.sub.trans (same_upd np), fun n xs e => by
        obtain ⟨b, us, k1, k2, k3, k4⟩ := h.cell n xs e
        exact ⟨b, us, k1, same_upd np _ _ k2, k3, k4⟩, h.inj, h.len⟩
      have b1 := kitB_ok e3 hk
      have b2 := kitB_ok e3 hk2
      have q := post (.bl ([t1, t2].any (isaT ty))) ρ' F' _ x1 hr2 (.bl _)
      refine ⟨v, tp, [.ty t1, .ty t2], .type ty, [.type t1, .type t2], [t1, t2].any (isaT ty), rfl, upd_same, .cons (.ty t1) (.cons (.ty t2) .nil), tyX_of hr2 r e2 e3, ?_, q⟩
      refine kitAny_cons (kit_ty b1) (fun f => kitAny_cons (kit_ty b2) (fun f2 => ?_) fun f2 => ?_) fun f => ?_
      · simp [f, f2, kitAny_nil]
      · simp [f, f2]
      · simp [f]
    · cases e4
end
/-! ### calls with keywords -/
def pick {α : Type} (ix : List Nat) (l : List α) : List α := ix.filterMap fun i => l[i]?
def cDefK (n m k : Nat) (ix : List Nat) (f : FS) (a b : SA) : SE := fun ev st => (a ev st).bind fun p => (b ev p.2).bind fun q => if p.1.length = m ∧ q.1.length = k ∧ (pick ix (p.1 ++ q.1)).length = n then f (pick ix (p.1 ++ q.1)) q.2 else none
theorem Vals.pick {vs : List V} {us : List Value} (h : Vals vs us) : ∀ ix : List Nat, Vals (Cm.pick ix vs) (Cm.pick ix us)
  | [] => .nil
  | i :: ix => by
    have ih := Vals.pick h ix
    unfold Cm.pick
    rw [List.filterMap_cons, List.filterMap_cons]
    cases e : vs[i]? with
    | none =>
      have e2 : us[i]? = none := L2.Vals.none_of h e
      rw [e2]
      exact ih
    | some v =>
      obtain ⟨u, e2, r⟩ := L2.Vals.get h e
      rw [e2]
      exact .cons r ih
theorem WRs.get {K : PySem.W.Frag} {ρ : List Addr} {F : Hp} : ∀ {vs : List V} {ws : List U} {i : Nat} {v : V}, WRs K ρ F vs ws → vs[i]? = some v → ∃ w, ws[i]? = some w ∧ WR K ρ F v w
  | _, _, _, _, .nil, e => by simp at e
  | _, _, 0, _, .cons a _, e => by
    simp only [List.getElem?_cons_zero, Option.some.injEq] at e
    subst e
    exact ⟨_, rfl, a⟩
  | _, _, i + 1, _, .cons _ t, e => by
    rw [List.getElem?_cons_succ] at e ⊢
    exact WRs.get t e
theorem WRs.pick {K : PySem.W.Frag} {ρ : List Addr} {F : Hp} {vs : List V} {ws : List U} (h : WRs K ρ F vs ws) : ∀ ix : List Nat, WRs K ρ F (Cm.pick ix vs) (Cm.pick ix ws)
  | [] => .nil
  | i :: ix => by
    have ih := WRs.pick h ix
    unfold Cm.pick
    rw [List.filterMap_cons, List.filterMap_cons]
    cases e : vs[i]? with
    | none =>
      have e2 : ws[i]? = none := List.getElem?_eq_none_iff.mpr (by rw [← h.length]; exact List.getElem?_eq_none_iff.mp e)
      rw [e2]
      exact ih
    | some v =>
      obtain ⟨u, e2, r⟩ := WRs.get h e
      rw [e2]
      exact .cons r ih
section
variable {X : Cx} {k n : Nat} {f : Addr} {fd : FuncData} {ps ks : List Str} {fs : FS} {x : Str} {e : Expr} {es : List Expr} {kws : List Keyword} {sa sb : SA} {p pos kpos : Pos} {nm : Option Str} {ce : SE} {ix : List Nat}
theorem sk_nil : PK X [] (tA X.K cNil) := ⟨fun pos pins s σ H Q I ⟨ρ, F, ev, st, w, st', hr, sr, e, post⟩ => pk_nil.run pos pins s σ H Q I (by
  cases e
  exact post [] ρ F H (.refl _ _) hr .nil)⟩
theorem sk_cons (ha : PE X e (tI X.K ce)) (hr : PK X kws (tA X.K sb)) : PK X (⟨nm, e, kpos⟩ :: kws) (tA X.K (cCons ce sb)) := ⟨fun pos pins s σ H Q I ⟨ρ, F, ev, st, w, st', hr', sr, e, post⟩ => (pk_cons ha hr).run pos pins s σ H Q I (by
  simp only [cCons, Option.bind_eq_some_iff, Option.map_eq_some_iff] at e
  obtain ⟨⟨w1, st1⟩, e1, ⟨ws, st2⟩, e2, e3⟩ := e
  cases e3
  exact ⟨ρ, F, ev, st, w1, st1, hr', sr, e1, fun v1 ρ1 F1 H1 x1 hr1 wr1 => ⟨ρ1, F1, ev, st1, ws, st2, hr1, sr.mono x1, e2, fun vs ρ2 F2 H2 x2 hr2 wr2 => post _ ρ2 F2 H2 (x1.trans x2) hr2 (.cons (wr1.mono x2) wr2)⟩⟩)⟩
theorem kw_ok {E : XK} {σ : L2.St} {H : Hp} {Q : VK} {m j : Nat} (h : tI X.K (cDefK ps.length m j ix fs sa sb) σ H Q) : tCallN m j (spF X.K fs ps.length) (fun us ws => pick ix (us ++ ws)) E (tA X.K sa) (tA X.K sb) σ H Q := by
  obtain ⟨ρ, F, ev, st, w, st', hr, sr, e, post⟩ := h
  simp only [cDefK, Option.bind_eq_some_iff] at e
  obtain ⟨⟨ws, st1⟩, e1, ⟨zs, st2⟩, e2, e3⟩ := e
  split at e3
  · rename_i hl
    refine ⟨ρ, F, ev, st, ws, st1, hr, sr, e1, fun vs ρ1 F1 H1 x1 hr1 wr1 => ⟨ρ1, F1, ev, st1, zs, st2, hr1, sr.mono x1, e2, fun us ρ2 F2 H2 x2 hr2 wr2 => ?_⟩⟩
    have wr : WRs X.K ρ2 F2 (vs ++ us) (ws ++ zs) := (wr1.mono x2).append wr2
    exact ⟨by rw [wr1.length]; exact hl.1, by rw [wr2.length]; exact hl.2.1, ρ2, F2, _, st2, w, st', hr2, wr.pick ix, hl.2.2, e3, fun v ρ3 F3 H3 x3 h3 r3 => post v ρ3 F3 H3 ((x1.trans x2).trans x3) h3 r3⟩
  · cases e3
theorem se_defK (F : FnOk X.prog X.w X.K X.mg X.base CX0 k f fd ps (spF X.K fs ps.length)) (hr : Room k X.A) (hg : Gl X x) (hm : X.mg x = some (.ref f)) (hk : PySem.W.keepIn X.K (.ref f) = true) (hb : KBn X.K fd ps n ks (fun us ws => pick ix (us ++ ws)) (fun us ws => pick ix (us ++ ws)))
    (ha : PA X (e :: es) (tA X.K sa)) (hkw : PK X kws (tA X.K sb)) (hall : Named X kws pos := by rfl) (hks : NamesAre X kws pos ks := by rfl)
    (hdb : NotDbg x := by decide) (he : Bare1 X e es := by rfl)
    (hpl : NoStarK X (e :: es) kws pos := by rfl) :
    PE X (.Call (.Name x p) (e :: es) kws pos) (tI X.K (cDefK ps.length n ks.length ix fs sa sb)) := (pe_callN F hr hg hm hk hb pass0 ha hkw hall hks hdb he hpl).weak fun _ _ _ h => kw_ok h
theorem se_defK0 (F : FnOk X.prog X.w X.K X.mg X.base CX0 k f fd ps (spF X.K fs ps.length)) (hr : Room k X.A) (hg : Gl X x) (hm : X.mg x = some (.ref f)) (hk : PySem.W.keepIn X.K (.ref f) = true) (hb : KBn X.K fd ps 0 ks (fun us ws => pick ix (us ++ ws)) (fun us ws => pick ix (us ++ ws)))
    (hkw : PK X kws (tA X.K sb)) (hall : Named X kws pos := by rfl) (hks : NamesAre X kws pos ks := by rfl)
    (hdb : NotDbg x := by decide)
    (hpl : NoStarK X [] kws pos := by rfl) :
    PE X (.Call (.Name x p) [] kws pos) (tI X.K (cDefK ps.length 0 ks.length ix fs cNil sb)) := by
  constructor
  intro pins s σ H Q I h
  obtain ⟨ρ, F0, ev, st, ws, st1, hr0, sr0, e0, kk⟩ := kw_ok (E := E0) h
  cases e0
  refine wpAny_Call_Name_kw (ld_glob I hg hm (PySem.W.callWith_KW0 (h₀ := X.base) I.ok.mod.kin hk hall (thn (hkw.run pos pins s σ H _ I (kk [] ρ F0 H (.refl _ _) hr0 .nil)) fun zs s2 ⟨us, H2, I2, rz, l1, l2, q2⟩ => ⟨I2.kIn, ?_⟩) hpl) hdb)
  rw [show _ = ks from hks]
  exact run_fnN F hr hb pass0 I2 .nil rz l1 l2 q2
end
end Cm

set_option Elab.async false
set_option linter.all false
set_option maxRecDepth 100000
namespace Cm
open PySem PySem.Spec PyProof.Rows L2

/-! ### a def that hands back a list of its own, to be changed by the caller -/
def leaveO (n : Nat) (w : U) (st : Sto) : Option (U × Sto) := match w with
  | .l k => if k < n then none else match st[k]? with
    | some (some xs) => some (.l n, st.take n ++ [some xs])
    | _ => none
  | _ => none
def defSO (N : Nat) (b : SS) : FS := fun ws st => (b (ws.map some ++ List.replicate (N - ws.length) none) st).bind fun o => match o with
  | .rt w st' => leaveO st.length w st'
  | _ => none
theorem HR.moved {ρ : List Addr} {F H : Hp} {st : Sto} {n k : Nat} {xs : List PyData} {a : Addr} (h : HR ρ F H st) (hk : n ≤ k) (e : st[k]? = some (some xs)) (ha : ρ[k]? = some a) : HR (ρ.take n ++ [a]) F H (st.take n ++ [some xs]) := by
  have lk := lt_of_get e
  have l1 : (st.take n).length = n := by
    rw [List.length_take]
    omega
  have l2 : (ρ.take n).length = n := by
    rw [List.length_take, h.len]
    omega
  have sp : ∀ (m : Nat) (ys : List PyData), (st.take n ++ [some xs])[m]? = some (some ys) → (m < n ∧ st[m]? = some (some ys)) ∨ (m = n ∧ ys = xs) := fun m ys q => by
    rw [List.getElem?_append] at q
    split at q
    · rename_i hm
      rw [l1] at hm
      rw [List.getElem?_take, if_pos hm] at q
      exact .inl ⟨hm, q⟩
    · rename_i hm
      rw [l1] at hm q
      by_cases hmn : m = n
      · subst hmn
        simp at q
        exact .inr ⟨rfl, q.symm⟩
      · rw [List.getElem?_eq_none (by simp; omega)] at q
        cases q
  have r1 : ∀ (m : Nat) (b : Addr), m < n → (ρ.take n ++ [a])[m]? = some b → ρ[m]? = some b := fun m b hm q => by
    rw [List.getElem?_append_left (by omega), List.getElem?_take, if_pos hm] at q
    exact q
  have r2 : (ρ.take n ++ [a])[n]? = some a := by
    rw [List.getElem?_append_right (by omega), l2]
    simp
  refine ⟨h.sub, fun m ys q => ?_, fun m j b e1 e2 ⟨y1, q1⟩ ⟨y2, q2⟩ => ?_, by simp [l1, l2]⟩
  · rcases sp m ys q with ⟨hm, q⟩ | ⟨rfl, rfl⟩
    · obtain ⟨b, vs, k1, k2, k3, k4⟩ := h.cell m ys q
      refine ⟨b, vs, ?_, k2, k3, k4⟩
      rw [List.getElem?_append_left (by omega), List.getElem?_take, if_pos hm]
      exact k1
    · obtain ⟨b, vs, k1, k2, k3, k4⟩ := h.cell k ys e
      rw [ha] at k1
      cases k1
      exact ⟨a, vs, r2, k2, k3, k4⟩
  · rcases sp m y1 q1 with ⟨hm, p1⟩ | ⟨hm, _⟩
    · rcases sp j y2 q2 with ⟨hj, p2⟩ | ⟨hj, _⟩
      · exact h.inj m j b (r1 m b hm e1) (r1 j b hj e2) ⟨_, p1⟩ ⟨_, p2⟩
      · rw [hj, r2] at e2
        cases e2
        have := h.inj m k a (r1 m a hm e1) ha ⟨_, p1⟩ ⟨_, e⟩
        omega
    · rcases sp j y2 q2 with ⟨hj, p2⟩ | ⟨hj, _⟩
      · rw [hm, r2] at e1
        cases e1
        have := h.inj j k a (r1 j a hj e2) ha ⟨_, p2⟩ ⟨_, e⟩
        omega
      · omega
theorem leaveO_ok {K : PySem.W.Frag} {ρ ρ' : List Addr} {F F' H' : Hp} {st st' st2 : Sto} {v : V} {w w2 : U} {Q : VK} (hl : ρ.length = st.length) (x : Ext ρ F ρ' F') (h : HR ρ' F' H' st') (r : WR K ρ' F' v w) (e : leaveO st.length w st' = some (w2, st2)) (post : Post K ρ F w2 st2 Q) : Q v H' := by
  cases w with
  | d y => cases e
  | s ns => cases e
  | k kd => cases e
  | l k =>
    simp only [leaveO] at e
    split at e
    · cases e
    · rename_i hk
      split at e
      · rename_i xs q
        cases e
        obtain ⟨a, h1, rfl⟩ := r
        have xt : Ext ρ F (ρ'.take st.length) F' := by
          rw [← hl]
          exact x.take _ (Nat.le_refl _)
        have lk := lt_of_get q
        have lr := h.len
        refine post _ _ F' H' (xt.trans (.push a)) (h.moved (Nat.le_of_not_lt hk) q h1) ⟨a, ?_, rfl⟩
        rw [List.getElem?_append_right (by rw [List.length_take]; omega), List.length_take]
        rw [show st.length - min st.length ρ'.length = 0 by omega]
        rfl
      · cases e
section
variable {P : Program} {w : World} {K : PySem.W.Frag} {mg : Str → Option Value} {base : Heap}
abbrev FnP (K : PySem.W.Frag) (x : Str) (st : Stmt) : Addr → FuncData → Prop := FunD K x x (defArgs st) (defBody st) (defScope st) [] []
/-- THE RULE for a def, its frame's end told by lv -/
theorem def_any {x : Str} {st : Stmt} {f : Addr} {fd : FuncData} {N ps : List Str} {k : Nat} {b : SS} {g : FS} (F : FnP K x st f fd) (S : FnScope N ps (defScope st))
    (hg : ∀ {ρ F H st ws w st' Q} {vs : List V}, HR ρ F H st → WRs K ρ F vs ws → g ws st = some (w, st') → Post K ρ F w st' Q → ∃ o, b (ws.map some ++ List.replicate (N.length - ws.length) none) st = some o ∧ OutOk K ρ F { nx := fun _ H' => Q .non H', rt := Q } o)
    (h : ∀ (cdv : Value) (A : Around) (outer : List Env) (s : Shared) (H : Hp) (E : XK), Room k (A.deeper (envOfC x (defScope st) s.heap.objs.size f cdv)) → PSs (cxOf CX0 P w K mg base N x (defScope st) f cdv A outer s H E).nox (defBody st) (tSS K b)) :
    FnOk P w K mg base CX0 (k + 1) f fd ps (spF K g ps.length) := by
  refine F.ok S (fun vs H Q E ⟨ρ, F, ws, st, w, st', hr, wr, hl, e, post⟩ => by rw [wr.length, hl]) fun cdv A outer s H vs Q E hrm hsp => ⟨tSS K b, PSs.nox (h cdv A outer s H E hrm), ?_⟩
  obtain ⟨ρ, F, ws, st, w, st', hr, wr, hl, e, post⟩ := hsp
  obtain ⟨o, e1, ok⟩ := hg hr wr e post
  exact ⟨ρ, F, _, st, o, hr, SR.start wr, e1, ok⟩
theorem def_okD {x : Str} {st : Stmt} {f : Addr} {fd : FuncData} {N ps : List Str} {k : Nat} {b : SS} (F : FnP K x st f fd) (S : FnScope N ps (defScope st))
    (h : ∀ (cdv : Value) (A : Around) (outer : List Env) (s : Shared) (H : Hp) (E : XK), Room k (A.deeper (envOfC x (defScope st) s.heap.objs.size f cdv)) → PSs (cxOf CX0 P w K mg base N x (defScope st) f cdv A outer s H E).nox (defBody st) (tSS K b)) :
    FnOk P w K mg base CX0 (k + 1) f fd ps (spF K (defS N.length b) ps.length) :=
  def_any F S (fun {ρ F H st ws w st' Q vs} hr wr e post => by
    simp only [defS, Option.bind_eq_some_iff] at e
    obtain ⟨o, e1, e2⟩ := e
    refine ⟨o, e1, ?_⟩
    cases o with
    | rt w1 st1 => exact fun v ρ' F' H' x hr' r => leave_ok hr.len x hr' r e2 post
    | nx ev1 st1 =>
      cases e2
      exact fun σ' ρ' F' H' x hr' _ => post .non _ F' H' (by rw [← hr.len]; exact x.take _ (Nat.le_refl _)) (hr'.take _) .non
    | bk ev1 st1 => cases e2
    | ct ev1 st1 => cases e2) h
theorem def_okO {x : Str} {st : Stmt} {f : Addr} {fd : FuncData} {N ps : List Str} {k : Nat} {b : SS} (F : FnP K x st f fd) (S : FnScope N ps (defScope st))
    (h : ∀ (cdv : Value) (A : Around) (outer : List Env) (s : Shared) (H : Hp) (E : XK), Room k (A.deeper (envOfC x (defScope st) s.heap.objs.size f cdv)) → PSs (cxOf CX0 P w K mg base N x (defScope st) f cdv A outer s H E).nox (defBody st) (tSS K b)) :
    FnOk P w K mg base CX0 (k + 1) f fd ps (spF K (defSO N.length b) ps.length) :=
  def_any F S (fun {ρ F H st ws w st' Q vs} hr wr e post => by
    simp only [defSO, Option.bind_eq_some_iff] at e
    obtain ⟨o, e1, e2⟩ := e
    refine ⟨o, e1, ?_⟩
    cases o with
    | rt w1 st1 => exact fun v ρ' F' H' x hr' r => leaveO_ok hr.len x hr' r e2 post
    | nx ev1 st1 => cases e2
    | bk ev1 st1 => cases e2
    | ct ev1 st1 => cases e2) h
/-- a def of which nothing is said -/
def fNo : FS := fun _ _ => none
theorem def_none {f : Addr} {fd : FuncData} {ps : List Str} {k n : Nat} : FnOk P w K mg base CX0 k f fd ps (spF K fNo n) :=
  { len := fun vs H Q E ⟨ρ, F, ws, st, w, st', hr, wr, hl, e, post⟩ => nomatch e
    run := fun A outer s H args us vs Q E _ _ _ _ ⟨ρ, F, ws, st, w, st', hr, wr, hl, e, post⟩ => nomatch e }
end
theorem kbn_mkD {K : PySem.W.Frag} {x : Str} {st : Stmt} {f : Addr} {fd : FuncData} {ps ks : List Str} {n : Nat} (ix : List Nat) (F : FnP K x st f fd)
    (h : ∀ (kV doc pm : Value) (an : Option Addr) (cdv ct : Value) (us ws : List Value), us.length = n → ws.length = ks.length → bindArgs (PySem.W.fnOf x x (defArgs st) (defBody st) (defScope st) .none kV doc pm an cdv ct) ⟨us, ks.zip ws⟩ = pure (ps.zip (pick ix (us ++ ws)))) :
    KBn K fd ps n ks (fun us ws => pick ix (us ++ ws)) (fun us ws => pick ix (us ++ ws)) := by
  obtain ⟨oc, od, dV, kV, doc, pm, an, cdv, ct, osl, rfl, lk, hcd, hdf, _⟩ := F.ex
  have e : dV = .none := by
    rcases hdf with ⟨_, e⟩ | ⟨e, _⟩
    · exact e
    · exact absurd rfl e
  subst e
  exact ⟨fun s us ws _ h1 h2 => .of_eq (h kV doc pm an cdv ct us ws h1 h2), fun r1 r2 => Vals.pick (L2.Vals.append r1 r2) ix⟩
/-! ### the law itself -/
theorem Only.same {H : Hp} : Same H H := Same.refl _
/-- what the end asks of the law's promise -/
theorem law_end {K : PySem.W.Frag} {g : FS} {H : Hp} {a : Addr} {ns : List Int} (hS : SqL K H a (ns.map V.int)) {st : Sto} (e : g [.s ns] [] = some (.d (.bool true), st)) : spF K g 1 [.ref a] H (fun v _ => v = .bl true) fun _ _ _ => False := by
  refine ⟨[], H, [.s ns], [], _, st, ⟨Same.refl _, fun n xs e => by simp at e, fun n m a e => by simp at e, rfl⟩, .cons ⟨a, rfl, hS⟩ .nil, rfl, e, fun v ρ' F' H' x h r => ?_⟩
  cases r
  rfl
/-- the def of name d.name does g at every world in which the module stands -/
abbrev Serves (P : Program) (YP : World → Heap → Prop) (d : DefRec) (k : Nat) (x : Str) (g : FS) : Prop :=
  ∀ (w : World) (mg : Str → Option Value) (fa : Addr) (hp : Heap), YP w hp → hp.Ns mainGlobals mg → mg d.name = some (.ref fa) →
    ∃ (K : PySem.W.Frag) (fd : FuncData), K.In hp ∧ (∀ (s : Shared) (u : Value), BindsTo s fd ⟨[u], []⟩ [(x, u)]) ∧
      ∀ base : Heap, K.In base → base.Ns mainGlobals mg → FnOk P w K mg base CX0 k fa fd [x] (spF K g 1)
abbrev Ends (q : Program) (loose : List Str) (XP : (Str → Option Value) → Heap → Prop) (YP : World → Heap → Prop) (l : PySem.W.OpenLaw) (d : DefRec) : Prop :=
  PySem.W.WalkO q loose XP YP l.row.toRowW d [] fun g ws => PySem.call g ws
/-- the end of a law's proof, with the script's bits told -/
theorem walk_cm {l : PySem.W.OpenLaw} {n k : Nat} {q : Program} {loose : List Str} {XP : (Str → Option Value) → Heap → Prop} {YP : World → Heap → Prop} {d : DefRec} {x : Str} {g : FS} (hn : l.most = some n) (hn2 : n ≤ sizeLine) (hdf : d.params.defaults = []) (hr : Room k callerA)
    (F : Serves l.prog YP d k x g) (law : ∀ ns : List Int, ns.length ≤ n → (∀ z ∈ ns, Builtin.Int.intBits z ≤ 1048576) → ∃ st, g [.s ns] [] = some (.d (.bool true), st)) : Ends q loose XP YP l d := by
  refine Att.attach_callB hn hdf fun w _ _ mg _ fa _ _ _ _ _ _ ns G Y _ _ _ hmg hobj hints hlen hbits hg => ?_
  obtain ⟨K, fd, KX, hb, hF⟩ := F w mg fa _ Y G.T.g hmg
  obtain ⟨st, e⟩ := law ns hlen hbits
  exact law_call KX G.T.g G.T.b G.T.builtins G.T.nolimit hg hobj hints (Nat.le_trans hlen hn2) hr hF hb (fun H _ hS => law_end hS e) fun H e s' z => z
end Cm

set_option Elab.async false
set_option linter.all false
set_option maxRecDepth 100000
namespace Cm
open PySem PySem.Spec PyProof.Rows L2
/-- a def of the text that may be called, worth g at level k -/
structure Cal (P : Program) (w : World) (K : PySem.W.Frag) (mg : Str → Option Value) (base : Heap) (k : Nat) (x : Str) (st : Stmt) (ps : List Str) (g : FS) : Prop where
  ex : ∃ (a : Addr) (fd : FuncData), FnOk P w K mg base CX0 k a fd ps (spF K g ps.length) ∧ mg x = some (.ref a) ∧ FnP K x st a fd ∧ Binds K fd ps []
/-- where a def stands -/
def At (K : PySem.W.Frag) (mg : Str → Option Value) (x : Str) (st : Stmt) : Prop := ∃ (a : Addr) (fd : FuncData), FnP K x st a fd ∧ mg x = some (.ref a)
section
variable {P : Program} {w : World} {K : PySem.W.Frag} {mg : Str → Option Value} {base : Heap} {x : Str} {st : Stmt} {N ps : List Str} {k : Nat} {b : SS}
theorem Cal.of {g : FS} (h : At K mg x st) (ok : ∀ a fd, FnP K x st a fd → mg x = some (.ref a) → FnOk P w K mg base CX0 k a fd ps (spF K g ps.length))
    (hb : ∀ (kV doc pm : Value) (an : Option Addr) (cdv ct : Value) (us : List Value), us.length = ps.length → bindArgs (PySem.W.fnOf x x (defArgs st) (defBody st) (defScope st) .none kV doc pm an cdv ct) ⟨us, []⟩ = pure (ps.zip us)) : Cal P w K mg base k x st ps g := by
  obtain ⟨a, fd, F, hm⟩ := h
  exact ⟨a, fd, ok a fd F hm, hm, F, FunD.bindsN F hb⟩
end
theorem Cal.pick {P : Program} {w : World} {K : PySem.W.Frag} {mg : Str → Option Value} {base : Heap} {x : Str} {st : Stmt} {ps : List Str} {k : Nat} {g : FS} {a : Addr} {fd : FuncData} (c : Cal P w K mg base k x st ps g) (F : FnP K x st a fd) (hm : mg x = some (.ref a)) :
    FnOk P w K mg base CX0 k a fd ps (spF K g ps.length) := by
  obtain ⟨a2, fd2, ok, hm2, F2, _⟩ := c.ex
  rw [hm] at hm2
  injection hm2 with hm2
  injection hm2 with hm2
  subst hm2
  obtain ⟨_, _, _, _, _, _, _, _, _, _, _, l1, _⟩ := F.ex
  obtain ⟨_, _, _, _, _, _, _, _, _, _, _, l2, _⟩ := F2.ex
  rw [l1] at l2
  injection l2 with l2
  injection l2 with _ _ l2 _
  injection l2 with l2
  subst l2
  exact ok
section
variable {X : Cx} {k n : Nat} {ps ks : List Str} {fs : FS} {x : Str} {st : Stmt} {e : Expr} {es : List Expr} {kws : List Keyword} {sa sb : SA} {p pos : Pos}
theorem se_cal (c : Cal X.prog X.w X.K X.mg X.base k x st ps fs) (hr : Room k X.A) (hg : Gl X x) (ha : PA X (e :: es) (tA X.K sa))
    (hdb : NotDbg x := by decide) (he : Bare1 X e es := by rfl) (hpl : NoStar X es pos := by rfl) :
    PE X (.Call (.Name x p) (e :: es) [] pos) (tI X.K (cDef ps.length fs sa)) := by
  obtain ⟨a, fd, F, hm, G, hb⟩ := c.ex
  exact se_def F hr hg hm G.kp hb ha hdb he hpl
theorem se_cal0 (c : Cal X.prog X.w X.K X.mg X.base k x st ps fs) (hr : Room k X.A) (hg : Gl X x) (hdb : NotDbg x := by decide) :
    PE X (.Call (.Name x p) [] [] pos) (tI X.K (cDef ps.length fs cNil)) := by
  obtain ⟨a, fd, F, hm, G, hb⟩ := c.ex
  exact se_def0 F hr hg hm G.kp hb hdb
theorem se_calK (ix : List Nat) (c : Cal X.prog X.w X.K X.mg X.base k x st ps fs) (hr : Room k X.A) (hg : Gl X x)
    (hb : ∀ (kV doc pm : Value) (an : Option Addr) (cdv ct : Value) (us ws : List Value), us.length = n → ws.length = ks.length → bindArgs (PySem.W.fnOf x x (defArgs st) (defBody st) (defScope st) .none kV doc pm an cdv ct) ⟨us, ks.zip ws⟩ = pure (ps.zip (pick ix (us ++ ws))))
    (ha : PA X (e :: es) (tA X.K sa)) (hkw : PK X kws (tA X.K sb)) (hall : Named X kws pos := by rfl) (hks : NamesAre X kws pos ks := by rfl)
    (hdb : NotDbg x := by decide) (he : Bare1 X e es := by rfl)
    (hpl : NoStarK X (e :: es) kws pos := by rfl) :
    PE X (.Call (.Name x p) (e :: es) kws pos) (tI X.K (cDefK ps.length n ks.length ix fs sa sb)) := by
  obtain ⟨a, fd, F, hm, G, _⟩ := c.ex
  exact se_defK F hr hg hm G.kp (kbn_mkD ix G hb) ha hkw hall hks hdb he hpl
theorem se_calK0 (ix : List Nat) (c : Cal X.prog X.w X.K X.mg X.base k x st ps fs) (hr : Room k X.A) (hg : Gl X x)
    (hb : ∀ (kV doc pm : Value) (an : Option Addr) (cdv ct : Value) (us ws : List Value), us.length = 0 → ws.length = ks.length → bindArgs (PySem.W.fnOf x x (defArgs st) (defBody st) (defScope st) .none kV doc pm an cdv ct) ⟨us, ks.zip ws⟩ = pure (ps.zip (pick ix (us ++ ws))))
    (hkw : PK X kws (tA X.K sb)) (hall : Named X kws pos := by rfl) (hks : NamesAre X kws pos ks := by rfl)
    (hdb : NotDbg x := by decide)
    (hpl : NoStarK X [] kws pos := by rfl) :
    PE X (.Call (.Name x p) [] kws pos) (tI X.K (cDefK ps.length 0 ks.length ix fs cNil sb)) := by
  obtain ⟨a, fd, F, hm, G, _⟩ := c.ex
  exact se_defK0 F hr hg hm G.kp (kbn_mkD ix G hb) hkw hall hks hdb hpl
end
def fAddI : PyData → PyData → Option PyData
  | .int a, .int b => some (.int (a + b))
  | _, _ => none
theorem snd_ipadd {K : PySem.W.Frag} : Snd2 K (ipI fun i j => i + j) fAddI := fun F H v u x y z Q hs rx ry e q => by
  unfold fAddI at e
  split at e
  · cases e
    cases rx.int
    cases ry.int
    exact ⟨_, _, rfl, rfl, q.now hs (.int _)⟩
  · cases e
theorem snd_ipsub {K : PySem.W.Frag} : Snd2 K (ipI fun i j => i - j) fSub := fun F H v u x y z Q hs rx ry e q => by
  unfold fSub at e
  split at e
  · cases e
    cases rx.int
    cases ry.int
    exact ⟨_, _, rfl, rfl, q.now hs (.int _)⟩
  · cases e
end Cm

set_option Elab.async false
set_option linter.all false
set_option maxRecDepth 100000
namespace Cm
open PySem PySem.Spec PyProof.Rows L2
abbrev VS := U × Sto
def var1 (st : Sto) : Option (Option U) → Option VS
  | some (some w) => some (w, st)
  | _ => none
@[simp] theorem var1_s (st : Sto) (w : U) : var1 st (some (some w)) = some (w, st) := rfl
@[simp] theorem cVar_ap (i : Nat) (ev : Ev) (st : Sto) : cVar i ev st = var1 st ev[i]? := rfl
@[simp] theorem cD_ap (x : PyData) (ev : Ev) (st : Sto) : cD x ev st = some (.d x, st) := rfl
def toD (st : Sto) : Option PyData → Option VS
  | some z => some (.d z, st)
  | none => none
@[simp] theorem toD_s (st : Sto) (z : PyData) : toD st (some z) = some (.d z, st) := rfl
theorem toD_eq (st : Sto) (x : Option PyData) : (x.map fun z => ((.d z : U), st)) = toD st x := by cases x <;> rfl
def d1a (f : PyData → Option PyData) : VS → Option VS := fun p => toD p.2 ((rd p.2 p.1).bind f)
@[simp] theorem d1a_ap (f : PyData → Option PyData) (u : U) (s : Sto) : d1a f (u, s) = toD s ((rd s u).bind f) := rfl
@[simp] theorem cD1_ap (f : PyData → Option PyData) (a : SE) (ev : Ev) (st : Sto) : cD1 f a ev st = (a ev st).bind (d1a f) := by
  unfold cD1 d1a
  congr; funext p
  cases rd p.2 p.1 with
  | none => rfl
  | some x => exact toD_eq _ _
def d2c (f : PyData → PyData → Option PyData) (y : Option PyData) (x : PyData) : Option PyData := y.bind (f x)
@[simp] theorem d2c_s (f : PyData → PyData → Option PyData) (y x : PyData) : d2c f (some y) x = f x y := rfl
def d2b (f : PyData → PyData → Option PyData) (u : U) : VS → Option VS := fun q => toD q.2 ((rd q.2 u).bind (d2c f (rd q.2 q.1)))
@[simp] theorem d2b_ap (f : PyData → PyData → Option PyData) (u v : U) (s : Sto) : d2b f u (v, s) = toD s ((rd s u).bind (d2c f (rd s v))) := rfl
def d2a (f : PyData → PyData → Option PyData) (b : SE) (ev : Ev) : VS → Option VS := fun p => (b ev p.2).bind (d2b f p.1)
@[simp] theorem d2a_ap (f : PyData → PyData → Option PyData) (b : SE) (ev : Ev) (u : U) (s : Sto) : d2a f b ev (u, s) = (b ev s).bind (d2b f u) := rfl
@[simp] theorem cD2_ap (f : PyData → PyData → Option PyData) (a b : SE) (ev : Ev) (st : Sto) : cD2 f a b ev st = (a ev st).bind (d2a f b ev) := by
  unfold cD2 d2a d2b d2c
  congr; funext p; congr; funext q
  cases rd q.2 p.1 with
  | none => rfl
  | some x => cases rd q.2 q.1 with
    | none => rfl
    | some y => exact toD_eq _ _
def d2sb (f : PyData → PyData → Option PyData) (u : U) : VS → Option VS := fun q => toD q.2 ((rdS q.2 u).bind (d2c f (rdS q.2 q.1)))
@[simp] theorem d2sb_ap (f : PyData → PyData → Option PyData) (u v : U) (s : Sto) : d2sb f u (v, s) = toD s ((rdS s u).bind (d2c f (rdS s v))) := rfl
def d2sa (f : PyData → PyData → Option PyData) (b : SE) (ev : Ev) : VS → Option VS := fun p => (b ev p.2).bind (d2sb f p.1)
@[simp] theorem d2sa_ap (f : PyData → PyData → Option PyData) (b : SE) (ev : Ev) (u : U) (s : Sto) : d2sa f b ev (u, s) = (b ev s).bind (d2sb f u) := rfl
@[simp] theorem cD2s_ap (f : PyData → PyData → Option PyData) (a b : SE) (ev : Ev) (st : Sto) : cD2s f a b ev st = (a ev st).bind (d2sa f b ev) := by
  unfold cD2s d2sa d2sb d2c
  congr; funext p; congr; funext q
  cases rdS q.2 p.1 with
  | none => rfl
  | some x => cases rdS q.2 q.1 with
    | none => rfl
    | some y => exact toD_eq _ _
@[simp] theorem cNil_ap (ev : Ev) (st : Sto) : cNil ev st = some ([], st) := rfl
def cons1 (u : U) : List U × Sto → List U × Sto := fun q => (u :: q.1, q.2)
@[simp] theorem cons1_ap (u : U) (us : List U) (s : Sto) : cons1 u (us, s) = (u :: us, s) := rfl
def consa (r : SA) (ev : Ev) : VS → Option (List U × Sto) := fun p => (r ev p.2).map (cons1 p.1)
@[simp] theorem consa_ap (r : SA) (ev : Ev) (u : U) (s : Sto) : consa r ev (u, s) = (r ev s).map (cons1 u) := rfl
@[simp] theorem cCons_ap (a : SE) (r : SA) (ev : Ev) (st : Sto) : cCons a r ev st = (a ev st).bind (consa r ev) := rfl
def app1 (xs : List PyData) : List U × Sto → List U × Sto := fun q => (xs.map U.d ++ q.1, q.2)
@[simp] theorem app1_ap (xs : List PyData) (us : List U) (s : Sto) : app1 xs (us, s) = (xs.map U.d ++ us, s) := rfl
def starb (r : SA) (ev : Ev) (s : Sto) : List PyData → Option (List U × Sto) := fun xs => (r ev s).map (app1 xs)
@[simp] theorem starb_ap (r : SA) (ev : Ev) (s : Sto) (xs : List PyData) : starb r ev s xs = (r ev s).map (app1 xs) := rfl
def stara (r : SA) (ev : Ev) : VS → Option (List U × Sto) := fun p => ((rd p.2 p.1).bind items).bind (starb r ev p.2)
@[simp] theorem stara_ap (r : SA) (ev : Ev) (u : U) (s : Sto) : stara r ev (u, s) = ((rd s u).bind items).bind (starb r ev s) := rfl
@[simp] theorem cStar_ap (a : SE) (r : SA) (ev : Ev) (st : Sto) : cStar a r ev st = (a ev st).bind (stara r ev) := by
  unfold cStar stara
  congr; funext p
  cases rd p.2 p.1 <;> rfl
def lsta (s : Sto) : List PyData → Option VS := fun xs => if xs.length ≤ lim then some (.d (.list xs), s) else none
@[simp] theorem lsta_ap (s : Sto) (xs : List PyData) : lsta s xs = if xs.length ≤ lim then some (.d (.list xs), s) else none := rfl
def tupa (s : Sto) : List PyData → Option VS := fun xs => if xs.length ≤ lim then some (.d (.tuple xs), s) else none
@[simp] theorem tupa_ap (s : Sto) (xs : List PyData) : tupa s xs = if xs.length ≤ lim then some (.d (.tuple xs), s) else none := rfl
def lstMa (s : Sto) : List PyData → Option VS := fun xs => if xs.length ≤ lim then some (.l s.length, s ++ [some xs]) else none
@[simp] theorem lstMa_ap (s : Sto) (xs : List PyData) : lstMa s xs = if xs.length ≤ lim then some (.l s.length, s ++ [some xs]) else none := rfl
def lstb (k : Sto → List PyData → Option VS) : List U × Sto → Option VS := fun p => (allD p.1).bind (k p.2)
@[simp] theorem lstb_ap (k : Sto → List PyData → Option VS) (us : List U) (s : Sto) : lstb k (us, s) = (allD us).bind (k s) := rfl
@[simp] theorem cLst_ap (a : SA) (ev : Ev) (st : Sto) : cLst a ev st = (a ev st).bind (lstb lsta) := rfl
@[simp] theorem cTup_ap (a : SA) (ev : Ev) (st : Sto) : cTup a ev st = (a ev st).bind (lstb tupa) := rfl
@[simp] theorem cLstM_ap (a : SA) (ev : Ev) (st : Sto) : cLstM a ev st = (a ev st).bind (lstb lstMa) := rfl
def calla (f : List PyData → Option PyData) : List U × Sto → Option VS := fun p => toD p.2 ((rdAll p.2 p.1).bind f)
@[simp] theorem calla_ap (f : List PyData → Option PyData) (us : List U) (s : Sto) : calla f (us, s) = toD s ((rdAll s us).bind f) := rfl
@[simp] theorem cCall_ap (f : List PyData → Option PyData) (a : SA) (ev : Ev) (st : Sto) : cCall f a ev st = (a ev st).bind (calla f) := by
  unfold cCall calla
  congr; funext p
  cases rdAll p.2 p.1 with
  | none => rfl
  | some x => exact toD_eq _ _
def toB (st : Sto) : Option Bool → Option (Bool × Sto)
  | some z => some (z, st)
  | none => none
@[simp] theorem toB_s (st : Sto) (z : Bool) : toB st (some z) = some (z, st) := rfl
def tra : VS → Option (Bool × Sto) := fun p => toB p.2 ((rd p.2 p.1).bind truth)
@[simp] theorem tra_ap (u : U) (s : Sto) : tra (u, s) = toB s ((rd s u).bind truth) := rfl
@[simp] theorem cTr_ap (a : SE) (ev : Ev) (st : Sto) : cTr a ev st = (a ev st).bind tra := by
  unfold cTr tra
  congr; funext p
  cases rd p.2 p.1 with
  | none => rfl
  | some x =>
    show (truth x).map _ = toB p.2 (truth x)
    cases truth x <;> rfl
def ba : VS → Option (Bool × Sto) := fun p => match p.1 with
  | .d (.bool b) => some (b, p.2)
  | _ => none
@[simp] theorem ba_ap (b : Bool) (s : Sto) : ba (.d (.bool b), s) = some (b, s) := rfl
@[simp] theorem cB_ap (a : SE) (ev : Ev) (st : Sto) : cB a ev st = (a ev st).bind ba := rfl
def anda (b : SB) (ev : Ev) : Bool × Sto → Option (Bool × Sto) := fun p => if p.1 then b ev p.2 else some (false, p.2)
@[simp] theorem anda_ap (b : SB) (ev : Ev) (t : Bool) (s : Sto) : anda b ev (t, s) = if t then b ev s else some (false, s) := rfl
@[simp] theorem bAnd_ap (a b : SB) (ev : Ev) (st : Sto) : bAnd a b ev st = (a ev st).bind (anda b ev) := rfl
def ora (b : SB) (ev : Ev) : Bool × Sto → Option (Bool × Sto) := fun p => if p.1 then some (true, p.2) else b ev p.2
@[simp] theorem ora_ap (b : SB) (ev : Ev) (t : Bool) (s : Sto) : ora b ev (t, s) = if t then some (true, s) else b ev s := rfl
@[simp] theorem bOr_ap (a b : SB) (ev : Ev) (st : Sto) : bOr a b ev st = (a ev st).bind (ora b ev) := rfl
def nota : Bool × Sto → Bool × Sto := fun p => (!p.1, p.2)
@[simp] theorem nota_ap (t : Bool) (s : Sto) : nota (t, s) = (!t, s) := rfl
@[simp] theorem bNot_ap (a : SB) (ev : Ev) (st : Sto) : bNot a ev st = (a ev st).map nota := rfl
def andEb (b : SE) (ev : Ev) (p : VS) : Bool → Option VS := fun t => if t then b ev p.2 else some p
@[simp] theorem andEb_ap (b : SE) (ev : Ev) (u : U) (s : Sto) (t : Bool) : andEb b ev (u, s) t = if t then b ev s else some (u, s) := rfl
def andEa (b : SE) (ev : Ev) : VS → Option VS := fun p => ((rd p.2 p.1).bind truth).bind (andEb b ev p)
@[simp] theorem andEa_ap (b : SE) (ev : Ev) (u : U) (s : Sto) : andEa b ev (u, s) = ((rd s u).bind truth).bind (andEb b ev (u, s)) := rfl
@[simp] theorem cAnd_ap (a b : SE) (ev : Ev) (st : Sto) : cAnd a b ev st = (a ev st).bind (andEa b ev) := by
  unfold cAnd andEa
  congr; funext p
  cases rd p.2 p.1 <;> rfl
def orEb (b : SE) (ev : Ev) (p : VS) : Bool → Option VS := fun t => if t then some p else b ev p.2
@[simp] theorem orEb_ap (b : SE) (ev : Ev) (u : U) (s : Sto) (t : Bool) : orEb b ev (u, s) t = if t then some (u, s) else b ev s := rfl
def orEa (b : SE) (ev : Ev) : VS → Option VS := fun p => ((rd p.2 p.1).bind truth).bind (orEb b ev p)
@[simp] theorem orEa_ap (b : SE) (ev : Ev) (u : U) (s : Sto) : orEa b ev (u, s) = ((rd s u).bind truth).bind (orEb b ev (u, s)) := rfl
@[simp] theorem cOr_ap (a b : SE) (ev : Ev) (st : Sto) : cOr a b ev st = (a ev st).bind (orEa b ev) := by
  unfold cOr orEa
  congr; funext p
  cases rd p.2 p.1 <;> rfl
def notEb (s : Sto) : Bool → VS := fun t => (.d (.bool !t), s)
@[simp] theorem notEb_ap (s : Sto) (t : Bool) : notEb s t = (.d (.bool !t), s) := rfl
def notEa : VS → Option VS := fun p => ((rd p.2 p.1).bind truth).map (notEb p.2)
@[simp] theorem notEa_ap (u : U) (s : Sto) : notEa (u, s) = ((rd s u).bind truth).map (notEb s) := rfl
@[simp] theorem cNot_ap (a : SE) (ev : Ev) (st : Sto) : cNot a ev st = (a ev st).bind notEa := by
  unfold cNot notEa
  congr; funext p
  cases rd p.2 p.1 <;> rfl
def ifa {β : Type} (a b : Ev → Sto → Option β) (ev : Ev) : Bool × Sto → Option β := fun p => if p.1 then a ev p.2 else b ev p.2
@[simp] theorem ifa_ap {β : Type} (a b : Ev → Sto → Option β) (ev : Ev) (t : Bool) (s : Sto) : ifa a b ev (t, s) = if t then a ev s else b ev s := rfl
@[simp] theorem cIf_ap (c : SB) (a b : SE) (ev : Ev) (st : Sto) : cIf c a b ev st = (c ev st).bind (ifa a b ev) := rfl
@[simp] theorem cIfS_ap (c : SB) (a b : SS) (ev : Ev) (st : Sto) : cIfS c a b ev st = (c ev st).bind (ifa a b ev) := rfl
@[simp] theorem cSkip_ap (ev : Ev) (st : Sto) : cSkip ev st = some (.nx ev st) := rfl
def seqa (b : SS) : Out → Option Out
  | .nx ev' st' => b ev' st'
  | o => some o
@[simp] theorem seqa_nx (b : SS) (ev : Ev) (st : Sto) : seqa b (.nx ev st) = b ev st := rfl
@[simp] theorem seqa_rt (b : SS) (w : U) (st : Sto) : seqa b (.rt w st) = some (.rt w st) := rfl
@[simp] theorem seqa_bk (b : SS) (w : Ev) (st : Sto) : seqa b (.bk w st) = some (.bk w st) := rfl
@[simp] theorem seqa_ct (b : SS) (w : Ev) (st : Sto) : seqa b (.ct w st) = some (.ct w st) := rfl
@[simp] theorem cSeq_ap (a b : SS) (ev : Ev) (st : Sto) : cSeq a b ev st = (a ev st).bind (seqa b) := by
  unfold cSeq
  congr
def seta (i : Nat) (ev : Ev) : VS → Out := fun p => .nx (ev.set i (some p.1)) p.2
@[simp] theorem seta_ap (i : Nat) (ev : Ev) (u : U) (s : Sto) : seta i ev (u, s) = .nx (ev.set i (some u)) s := rfl
@[simp] theorem cSet_ap (i : Nat) (e : SE) (ev : Ev) (st : Sto) : cSet i e ev st = (e ev st).map (seta i ev) := rfl
def reta : VS → Out := fun p => .rt p.1 p.2
@[simp] theorem reta_ap (u : U) (s : Sto) : reta (u, s) = .rt u s := rfl
@[simp] theorem cRet_ap (e : SE) (ev : Ev) (st : Sto) : cRet e ev st = (e ev st).map reta := rfl
@[simp] theorem cRetN_ap (ev : Ev) (st : Sto) : cRetN ev st = some (.rt (.d .none) st) := rfl
def expra (ev : Ev) : VS → Out := fun p => .nx ev p.2
@[simp] theorem expra_ap (ev : Ev) (u : U) (s : Sto) : expra ev (u, s) = .nx ev s := rfl
@[simp] theorem cExpr_ap (e : SE) (ev : Ev) (st : Sto) : cExpr e ev st = (e ev st).map (expra ev) := rfl
@[simp] theorem cFail_ap (ev : Ev) (st : Sto) : cFail ev st = none := rfl
@[simp] theorem cBrk_ap (ev : Ev) (st : Sto) : cBrk ev st = some (.bk ev st) := rfl
@[simp] theorem cCont_ap (ev : Ev) (st : Sto) : cCont ev st = some (.ct ev st) := rfl
def nxa (s : Sto) : Ev → Out := fun ev => .nx ev s
@[simp] theorem nxa_ap (s : Sto) (ev : Ev) : nxa s ev = .nx ev s := rfl
def setTa (g : GT) (ev : Ev) : VS → Option Out := fun p => match p.1 with
  | .d x => (g x ev).map (nxa p.2)
  | _ => none
@[simp] theorem setTa_ap (g : GT) (ev : Ev) (x : PyData) (s : Sto) : setTa g ev (.d x, s) = (g x ev).map (nxa s) := rfl
@[simp] theorem cSetT_ap (g : GT) (e : SE) (ev : Ev) (st : Sto) : cSetT g e ev st = (e ev st).bind (setTa g ev) := rfl
def para (is : List Nat) (ev : Ev) : List U × Sto → Option Out := fun p => if p.1.length = is.length then some (.nx ((is.zip p.1).foldl (fun ev q => ev.set q.1 (some q.2)) ev) p.2) else none
@[simp] theorem para_ap (is : List Nat) (ev : Ev) (us : List U) (s : Sto) : para is ev (us, s) = if us.length = is.length then some (.nx ((is.zip us).foldl (fun ev q => ev.set q.1 (some q.2)) ev) s) else none := rfl
@[simp] theorem cParN_ap (is : List Nat) (a : SA) (ev : Ev) (st : Sto) : cParN is a ev st = (a ev st).bind (para is ev) := rfl
def fora (g : GT) (b : SS) (ev : Ev) : Src × Sto → Option Out
  | (.fix xs, s) => forL g b xs ev s
  | (.cell n, s) => forC g b n lim 0 ev s
@[simp] theorem fora_f (g : GT) (b : SS) (ev : Ev) (xs : List PyData) (s : Sto) : fora g b ev (.fix xs, s) = forL g b xs ev s := rfl
@[simp] theorem fora_c (g : GT) (b : SS) (ev : Ev) (n : Nat) (s : Sto) : fora g b ev (.cell n, s) = forC g b n lim 0 ev s := rfl
@[simp] theorem cFor_ap (it : SI) (g : GT) (b : SS) (ev : Ev) (st : Sto) : cFor it g b ev st = (it ev st).bind (fora g b ev) := by
  unfold cFor
  congr; funext p
  obtain ⟨q, s⟩ := p
  cases q <;> rfl
def cella (n : Nat) (s : Sto) : Option (Option (List PyData)) → Option (Src × Sto)
  | some (some _) => some (.cell n, s)
  | _ => none
@[simp] theorem cella_s (n : Nat) (s : Sto) (xs : List PyData) : cella n s (some (some xs)) = some (.cell n, s) := rfl
def iseqa : VS → Option (Src × Sto)
  | (.l n, s) => cella n s s[n]?
  | (.d (.list xs), s) => some (.fix xs, s)
  | (.d (.tuple xs), s) => some (.fix xs, s)
  | _ => none
@[simp] theorem iseqa_c (n : Nat) (s : Sto) : iseqa (.l n, s) = cella n s s[n]? := rfl
@[simp] theorem iseqa_l (xs : List PyData) (s : Sto) : iseqa (.d (.list xs), s) = some (.fix xs, s) := rfl
@[simp] theorem iseqa_t (xs : List PyData) (s : Sto) : iseqa (.d (.tuple xs), s) = some (.fix xs, s) := rfl
@[simp] theorem iSeq_ap (a : SE) (ev : Ev) (st : Sto) : iSeq a ev st = (a ev st).bind iseqa := by
  unfold iSeq
  congr; funext p
  obtain ⟨q, s⟩ := p
  rcases q with x | n | ns | kd
  · cases x <;> rfl
  · rfl
  · rfl
  · rfl
def r1a : List U × Sto → Option (Src × Sto) := fun p => match p.1 with
  | [.d (.int j)] => if big j then some (.fix (rangeD 0 j.toNat), p.2) else none
  | _ => none
@[simp] theorem r1a_ap (j : Int) (s : Sto) : r1a ([.d (.int j)], s) = if big j then some (.fix (rangeD 0 j.toNat), s) else none := rfl
@[simp] theorem iRange1_ap (a : SA) (ev : Ev) (st : Sto) : iRange1 a ev st = (a ev st).bind r1a := rfl
def r2a : List U × Sto → Option (Src × Sto) := fun p => match p.1 with
  | [.d (.int i), .d (.int j)] => if big i && big j then some (.fix (rangeD i (j - i).toNat), p.2) else none
  | _ => none
@[simp] theorem r2a_ap (i j : Int) (s : Sto) : r2a ([.d (.int i), .d (.int j)], s) = if big i && big j then some (.fix (rangeD i (j - i).toNat), s) else none := rfl
@[simp] theorem iRange2_ap (a : SA) (ev : Ev) (st : Sto) : iRange2 a ev st = (a ev st).bind r2a := rfl
def zipD (xs ys : List PyData) : List PyData := List.zipWith (fun x y => .tuple [x, y]) xs ys
def zipa : List U × Sto → Option (Src × Sto) := fun p => match p.1 with
  | [.d (.list xs), .d (.list ys)] => some (.fix (zipD xs ys), p.2)
  | [.d (.tuple xs), .d (.tuple ys)] => some (.fix (zipD xs ys), p.2)
  | _ => none
@[simp] theorem zipa_l (xs ys : List PyData) (s : Sto) : zipa ([.d (.list xs), .d (.list ys)], s) = some (.fix (zipD xs ys), s) := rfl
@[simp] theorem zipa_t (xs ys : List PyData) (s : Sto) : zipa ([.d (.tuple xs), .d (.tuple ys)], s) = some (.fix (zipD xs ys), s) := rfl
@[simp] theorem iZip2_ap (a : SA) (ev : Ev) (st : Sto) : iZip2 a ev st = (a ev st).bind zipa := rfl
def enuma : List U × Sto → Option (Src × Sto) := fun p => match p.1 with
  | [.d (.list xs)] => some (.fix (enumD 0 xs), p.2)
  | [.d (.tuple xs)] => some (.fix (enumD 0 xs), p.2)
  | [.s ns] => some (.fix (enumD 0 (ns.map .int)), p.2)
  | _ => none
@[simp] theorem enuma_l (xs : List PyData) (s : Sto) : enuma ([.d (.list xs)], s) = some (.fix (enumD 0 xs), s) := rfl
@[simp] theorem enuma_t (xs : List PyData) (s : Sto) : enuma ([.d (.tuple xs)], s) = some (.fix (enumD 0 xs), s) := rfl
@[simp] theorem enuma_s (ns : List Int) (s : Sto) : enuma ([.s ns], s) = some (.fix (enumD 0 (ns.map .int)), s) := rfl
@[simp] theorem iEnum1_ap (a : SA) (ev : Ev) (st : Sto) : iEnum1 a ev st = (a ev st).bind enuma := rfl
def lca (g : GT) (tt : SB) (te : SE) (ev : Ev) : Src × Sto → Option (List PyData × Sto)
  | (.fix xs, s) => lcL g tt te ev xs s []
  | (.cell n, s) => lcC g tt te ev n lim 0 s []
@[simp] theorem lca_f (g : GT) (tt : SB) (te : SE) (ev : Ev) (xs : List PyData) (s : Sto) : lca g tt te ev (.fix xs, s) = lcL g tt te ev xs s [] := rfl
@[simp] theorem lca_c (g : GT) (tt : SB) (te : SE) (ev : Ev) (n : Nat) (s : Sto) : lca g tt te ev (.cell n, s) = lcC g tt te ev n lim 0 s [] := rfl
theorem lcR_ap (it : SI) (g : GT) (tt : SB) (te : SE) (vs : List Nat) (ev : Ev) (st : Sto) : lcR it g tt te vs ev st = (it ev st).bind (lca g tt te (wipeE ev vs)) := by
  unfold lcR
  congr; funext p
  obtain ⟨q, s⟩ := p
  cases q <;> rfl
def lcb : List PyData × Sto → VS := fun p => (.d (.list p.1), p.2)
@[simp] theorem lcb_ap (xs : List PyData) (s : Sto) : lcb (xs, s) = (.d (.list xs), s) := rfl
def lcMb : List PyData × Sto → VS := fun p => (.l p.2.length, p.2 ++ [some p.1])
@[simp] theorem lcMb_ap (xs : List PyData) (s : Sto) : lcMb (xs, s) = (.l s.length, s ++ [some xs]) := rfl
@[simp] theorem cLc_ap (it : SI) (g : GT) (tt : SB) (te : SE) (vs : List Nat) (ev : Ev) (st : Sto) : cLc it g tt te vs ev st = ((it ev st).bind (lca g tt te (wipeE ev vs))).map lcb := by
  rw [← lcR_ap]; rfl
@[simp] theorem cLcM_ap (it : SI) (g : GT) (tt : SB) (te : SE) (vs : List Nat) (ev : Ev) (st : Sto) : cLcM it g tt te vs ev st = ((it ev st).bind (lca g tt te (wipeE ev vs))).map lcMb := by
  rw [← lcR_ap]; rfl
@[simp] theorem bYes_ap (ev : Ev) (st : Sto) : bYes ev st = some (true, st) := rfl
def md (n : Nat) (s : Sto) : PyData × List PyData → Option VS := fun r => if r.2.length ≤ lim then some (.d r.1, s.set n (some r.2)) else none
@[simp] theorem md_ap (n : Nat) (s : Sto) (z : PyData) (ys : List PyData) : md n s (z, ys) = if ys.length ≤ lim then some (.d z, s.set n (some ys)) else none := rfl
def mc (f : MF) (n : Nat) (s : Sto) (ds : List PyData) : Option (Option (List PyData)) → Option VS
  | some (some xs) => (f xs ds).bind (md n s)
  | _ => none
@[simp] theorem mc_s (f : MF) (n : Nat) (s : Sto) (ds xs : List PyData) : mc f n s ds (some (some xs)) = (f xs ds).bind (md n s) := rfl
def mb2 (f : MF) (n : Nat) (s : Sto) : List PyData → Option VS := fun ds => mc f n s ds s[n]?
@[simp] theorem mb2_ap (f : MF) (n : Nat) (s : Sto) (ds : List PyData) : mb2 f n s ds = mc f n s ds s[n]? := rfl
def mb1 (f : MF) (n : Nat) : List U × Sto → Option VS := fun q => (allD q.1).bind (mb2 f n q.2)
@[simp] theorem mb1_ap (f : MF) (n : Nat) (us : List U) (s : Sto) : mb1 f n (us, s) = (allD us).bind (mb2 f n s) := rfl
def mb (f : MF) (n : Nat) (a : SA) (ev : Ev) (s : Sto) : Option (Option (List PyData)) → Option VS
  | some (some _) => (a ev s).bind (mb1 f n)
  | _ => none
@[simp] theorem mb_s (f : MF) (n : Nat) (a : SA) (ev : Ev) (s : Sto) (xs : List PyData) : mb f n a ev s (some (some xs)) = (a ev s).bind (mb1 f n) := rfl
def ma (f : MF) (a : SA) (ev : Ev) : VS → Option VS
  | (.l n, s) => mb f n a ev s s[n]?
  | _ => none
@[simp] theorem ma_l (f : MF) (a : SA) (ev : Ev) (n : Nat) (s : Sto) : ma f a ev (.l n, s) = mb f n a ev s s[n]? := rfl
@[simp] theorem cM_ap (f : MF) (o : SE) (a : SA) (ev : Ev) (st : Sto) : cM f o a ev st = (o ev st).bind (ma f a ev) := by
  unfold cM
  congr; funext p
  obtain ⟨q, s⟩ := p
  rcases q with x | n | ns | kd
  · rfl
  · show (match s[n]? with
      | some (some _) => _
      | _ => none) = mb f n a ev s s[n]?
    rcases s[n]? with _ | _ | xs
    · rfl
    · rfl
    · show (a ev s).bind _ = (a ev s).bind _
      congr
  · rfl
  · rfl
def sixd (ev : Ev) (n : Nat) (s : Sto) (xs : List PyData) (y : PyData) : Nat → Out := fun j => .nx ev (s.set n (some (xs.set j y)))
@[simp] theorem sixd_ap (ev : Ev) (n : Nat) (s : Sto) (xs : List PyData) (y : PyData) (j : Nat) : sixd ev n s xs y j = .nx ev (s.set n (some (xs.set j y))) := rfl
def sixc (ev : Ev) (n : Nat) (s : Sto) (y : PyData) (k : Int) : Option (Option (List PyData)) → Option Out
  | some (some xs) => (ixN xs.length k).map (sixd ev n s xs y)
  | _ => none
@[simp] theorem sixc_s (ev : Ev) (n : Nat) (s : Sto) (y : PyData) (k : Int) (xs : List PyData) : sixc ev n s y k (some (some xs)) = (ixN xs.length k).map (sixd ev n s xs y) := rfl
def sixb2 (ev : Ev) (n : Nat) (y : PyData) : VS → Option Out
  | (.d (.int k), s) => sixc ev n s y k s[n]?
  | _ => none
@[simp] theorem sixb2_i (ev : Ev) (n : Nat) (y : PyData) (k : Int) (s : Sto) : sixb2 ev n y (.d (.int k), s) = sixc ev n s y k s[n]? := rfl
def sixb (i : SE) (ev : Ev) (y : PyData) : VS → Option Out
  | (.l n, s) => (i ev s).bind (sixb2 ev n y)
  | _ => none
@[simp] theorem sixb_l (i : SE) (ev : Ev) (y : PyData) (n : Nat) (s : Sto) : sixb i ev y (.l n, s) = (i ev s).bind (sixb2 ev n y) := rfl
def sixa (o i : SE) (ev : Ev) : VS → Option Out
  | (.d y, s) => (o ev s).bind (sixb i ev y)
  | _ => none
@[simp] theorem sixa_d (o i : SE) (ev : Ev) (y : PyData) (s : Sto) : sixa o i ev (.d y, s) = (o ev s).bind (sixb i ev y) := rfl
@[simp] theorem cSetIx_ap (o i e : SE) (ev : Ev) (st : Sto) : cSetIx o i e ev st = (e ev st).bind (sixa o i ev) := by
  unfold cSetIx
  congr; funext p
  obtain ⟨q, s⟩ := p
  rcases q with y | n | ns | kd
  · show (o ev s).bind _ = (o ev s).bind _
    congr; funext p
    obtain ⟨q, s⟩ := p
    rcases q with y | n | ns | kd
    · rfl
    · show (i ev s).bind _ = (i ev s).bind _
      congr; funext p
      obtain ⟨q, s⟩ := p
      rcases q with y | n | ns | kd
      · cases y with
        | int k =>
          show (match (U.d (.int k)), s[n]? with
            | .d (.int k), some (some xs) => _
            | _, _ => none) = sixc ev n s _ k s[n]?
          rcases s[n]? with _ | _ | xs <;> rfl
        | _ => rfl
      · rfl
      · rfl
      · rfl
    · rfl
    · rfl
  · rfl
  · rfl
  · rfl
def augc (f : PyData → PyData → Option PyData) (x : PyData) : VS → Option VS := fun p => toD p.2 ((rd p.2 p.1).bind (f x))
@[simp] theorem augc_ap (f : PyData → PyData → Option PyData) (x : PyData) (u : U) (s : Sto) : augc f x (u, s) = toD s ((rd s u).bind (f x)) := rfl
def auga (i : Nat) (f : PyData → PyData → Option PyData) (e : SE) (ev : Ev) (st : Sto) : Option (Option U) → Option Out
  | some (some (.d x)) => ((e ev st).bind (augc f x)).map (seta i ev)
  | _ => none
@[simp] theorem auga_s (i : Nat) (f : PyData → PyData → Option PyData) (e : SE) (ev : Ev) (st : Sto) (x : PyData) : auga i f e ev st (some (some (.d x))) = ((e ev st).bind (augc f x)).map (seta i ev) := rfl
@[simp] theorem cAug_ap (i : Nat) (f : PyData → PyData → Option PyData) (e : SE) (ev : Ev) (st : Sto) : cAug i f e ev st = auga i f e ev st ev[i]? := by
  unfold cAug
  rcases ev[i]? with _ | _ | w
  · rfl
  · rfl
  · rcases w with x | n | ns | kd
    · show (e ev st).bind _ = ((e ev st).bind _).map _
      cases e ev st with
      | none => rfl
      | some p =>
        show (rd p.2 p.1).bind _ = (toD p.2 ((rd p.2 p.1).bind (f x))).map _
        cases rd p.2 p.1 with
        | none => rfl
        | some y =>
          show (f x y).map _ = (toD p.2 (f x y)).map _
          cases f x y <;> rfl
    · rfl
    · rfl
    · rfl
def defa (n : Nat) (f : FS) : List U × Sto → Option VS := fun p => if p.1.length = n then f p.1 p.2 else none
@[simp] theorem defa_ap (n : Nat) (f : FS) (us : List U) (s : Sto) : defa n f (us, s) = if us.length = n then f us s else none := rfl
@[simp] theorem cDef_ap (n : Nat) (f : FS) (a : SA) (ev : Ev) (st : Sto) : cDef n f a ev st = (a ev st).bind (defa n f) := rfl
def defKb (n m k : Nat) (ix : List Nat) (f : FS) (us : List U) : List U × Sto → Option VS := fun q => if us.length = m ∧ q.1.length = k ∧ (pick ix (us ++ q.1)).length = n then f (pick ix (us ++ q.1)) q.2 else none
@[simp] theorem defKb_ap (n m k : Nat) (ix : List Nat) (f : FS) (us vs : List U) (s : Sto) : defKb n m k ix f us (vs, s) = if us.length = m ∧ vs.length = k ∧ (pick ix (us ++ vs)).length = n then f (pick ix (us ++ vs)) s else none := rfl
def defKa (n m k : Nat) (ix : List Nat) (f : FS) (b : SA) (ev : Ev) : List U × Sto → Option VS := fun p => (b ev p.2).bind (defKb n m k ix f p.1)
@[simp] theorem defKa_ap (n m k : Nat) (ix : List Nat) (f : FS) (b : SA) (ev : Ev) (us : List U) (s : Sto) : defKa n m k ix f b ev (us, s) = (b ev s).bind (defKb n m k ix f us) := rfl
@[simp] theorem cDefK_ap (n m k : Nat) (ix : List Nat) (f : FS) (a b : SA) (ev : Ev) (st : Sto) : cDefK n m k ix f a b ev st = (a ev st).bind (defKa n m k ix f b ev) := rfl
def listMb (s : Sto) : List PyData → Option VS
  | [.list ys] => some (.l s.length, s ++ [some ys])
  | [.tuple ys] => some (.l s.length, s ++ [some ys])
  | _ => none
@[simp] theorem listMb_l (s : Sto) (ys : List PyData) : listMb s [.list ys] = some (.l s.length, s ++ [some ys]) := rfl
@[simp] theorem listMb_t (s : Sto) (ys : List PyData) : listMb s [.tuple ys] = some (.l s.length, s ++ [some ys]) := rfl
def listMa : List U × Sto → Option VS := fun p => (rdAll p.2 p.1).bind (listMb p.2)
@[simp] theorem listMa_ap (us : List U) (s : Sto) : listMa (us, s) = (rdAll s us).bind (listMb s) := rfl
@[simp] theorem cListM_ap (a : SA) (ev : Ev) (st : Sto) : cListM a ev st = (a ev st).bind listMa := rfl
@[simp] theorem oNone_ap (ev : Ev) (st : Sto) : oNone ev st = some (none, st) := rfl
def osa : VS → Option (Option Int × Sto) := fun p => match p.1 with
  | .d (.int i) => some (some i, p.2)
  | _ => none
@[simp] theorem osa_ap (i : Int) (s : Sto) : osa (.d (.int i), s) = some (some i, s) := rfl
@[simp] theorem oSome_ap (a : SE) (ev : Ev) (st : Sto) : oSome a ev st = (a ev st).bind osa := rfl
def slc (lo hi : Option Int) (x : PyData) : Option PyData := fSl x lo hi
@[simp] theorem slc_ap (lo hi : Option Int) (x : PyData) : slc lo hi x = fSl x lo hi := rfl
def slb (u : U) (lo : Option Int) : Option Int × Sto → Option VS := fun r => toD r.2 ((rd r.2 u).bind (slc lo r.1))
@[simp] theorem slb_ap (u : U) (lo hi : Option Int) (s : Sto) : slb u lo (hi, s) = toD s ((rd s u).bind (slc lo hi)) := rfl
def sla2 (u : U) (hi : SO) (ev : Ev) : Option Int × Sto → Option VS := fun q => (hi ev q.2).bind (slb u q.1)
@[simp] theorem sla2_ap (u : U) (hi : SO) (ev : Ev) (lo : Option Int) (s : Sto) : sla2 u hi ev (lo, s) = (hi ev s).bind (slb u lo) := rfl
def sla (lo hi : SO) (ev : Ev) : VS → Option VS := fun p => (lo ev p.2).bind (sla2 p.1 hi ev)
@[simp] theorem sla_ap (lo hi : SO) (ev : Ev) (u : U) (s : Sto) : sla lo hi ev (u, s) = (lo ev s).bind (sla2 u hi ev) := rfl
@[simp] theorem cSl_ap (a : SE) (lo hi : SO) (ev : Ev) (st : Sto) : cSl a lo hi ev st = (a ev st).bind (sla lo hi ev) := by
  unfold cSl sla sla2 slb slc
  congr; funext p; congr; funext q; congr; funext r
  cases rd r.2 p.1 with
  | none => rfl
  | some x => exact toD_eq _ _
def isib (Ts : List String) (t : String) : Option PyData := if Ts.all known then some (.bool (Ts.any (isaT t))) else none
@[simp] theorem isib_ap (Ts : List String) (t : String) : isib Ts t = if Ts.all known then some (.bool (Ts.any (isaT t))) else none := rfl
def isia (Ts : List String) : VS → Option VS := fun p => toD p.2 (((rd p.2 p.1).bind tyD).bind (isib Ts))
@[simp] theorem isia_ap (Ts : List String) (u : U) (s : Sto) : isia Ts (u, s) = toD s (((rd s u).bind tyD).bind (isib Ts)) := rfl
@[simp] theorem cIsi_ap (Ts : List String) (a : SE) (ev : Ev) (st : Sto) : cIsi Ts a ev st = (a ev st).bind (isia Ts) := by
  unfold cIsi isia isib
  congr; funext p
  cases rd p.2 p.1 with
  | none => rfl
  | some x =>
    simp only [Option.bind_some]
    cases tyD x with
    | none => rfl
    | some t =>
      simp only [Option.bind_some]
      cases Ts.all known <;> rfl
@[simp] theorem fAdd_i (a b : Int) : fAdd (.int a) (.int b) = some (.int (a + b)) := rfl
@[simp] theorem fAdd_l (a b : List PyData) : fAdd (.list a) (.list b) = if a.length + b.length ≤ lim then some (.list (a ++ b)) else none := rfl
@[simp] theorem fAdd_t (a b : List PyData) : fAdd (.tuple a) (.tuple b) = if a.length + b.length ≤ lim then some (.tuple (a ++ b)) else none := rfl
@[simp] theorem fAddI_i (a b : Int) : fAddI (.int a) (.int b) = some (.int (a + b)) := rfl
@[simp] theorem fSub_i (a b : Int) : fSub (.int a) (.int b) = some (.int (a - b)) := rfl
@[simp] theorem fMul_i (a b : Int) : fMul (.int a) (.int b) = if mulOk a b then some (.int (a * b)) else none := rfl
@[simp] theorem fMod_i (a b : Int) : fMod (.int a) (.int b) = if 0 < b then some (.int (a % b)) else none := rfl
@[simp] theorem fDiv_i (a b : Int) : fDiv (.int a) (.int b) = if 0 < b ∧ b.natAbs.log2 < 9000 then some (.int (a / b)) else none := rfl
@[simp] theorem fNeg_i (a : Int) : fNeg (.int a) = some (.int (-a)) := rfl
@[simp] theorem fLt_i (a b : Int) : fLt (.int a) (.int b) = some (.bool (decide (a < b))) := rfl
@[simp] theorem fLe_i (a b : Int) : fLe (.int a) (.int b) = some (.bool (decide (a ≤ b))) := rfl
@[simp] theorem fGt_i (a b : Int) : fGt (.int a) (.int b) = some (.bool (decide (b < a))) := rfl
@[simp] theorem fGe_i (a b : Int) : fGe (.int a) (.int b) = some (.bool (decide (b ≤ a))) := rfl
@[simp] theorem fIs_n (x : PyData) : fIs x .none = some (.bool (isNone x)) := by cases x <;> rfl
@[simp] theorem fIsNot_n (x : PyData) : fIsNot x .none = some (.bool (!isNone x)) := by cases x <;> rfl
@[simp] theorem fLen_l (xs : List PyData) : fLen [.list xs] = some (.int xs.length) := rfl
@[simp] theorem fLen_t (xs : List PyData) : fLen [.tuple xs] = some (.int xs.length) := rfl
@[simp] theorem fAbs_i (i : Int) : fAbs [.int i] = some (.int (if i < 0 then -i else i)) := rfl
@[simp] theorem fMax_ii (i j : Int) : fMax [.int i, .int j] = some (.int (if j > i then j else i)) := rfl
@[simp] theorem fMax_l (xs : List PyData) : fMax [.list xs] = (asInts xs).bind fun ns => (maxI ns).map .int := rfl
@[simp] theorem fMax_t (xs : List PyData) : fMax [.tuple xs] = (asInts xs).bind fun ns => (maxI ns).map .int := rfl
@[simp] theorem fMin_ii (i j : Int) : fMin [.int i, .int j] = some (.int (if j < i then j else i)) := rfl
@[simp] theorem fMin_l (xs : List PyData) : fMin [.list xs] = (asInts xs).bind fun ns => (minI ns).map .int := rfl
@[simp] theorem fMin_t (xs : List PyData) : fMin [.tuple xs] = (asInts xs).bind fun ns => (minI ns).map .int := rfl
@[simp] theorem fInt_i (i : Int) : fInt [.int i] = some (.int i) := rfl
@[simp] theorem fInt_b (b : Bool) : fInt [.bool b] = some (.int (if b then 1 else 0)) := rfl
@[simp] theorem fTuple_l (xs : List PyData) : fTuple [.list xs] = some (.tuple xs) := rfl
@[simp] theorem fTuple_t (xs : List PyData) : fTuple [.tuple xs] = some (.tuple xs) := rfl
@[simp] theorem fList_l (xs : List PyData) : fList [.list xs] = some (.list xs) := rfl
@[simp] theorem fList_t (xs : List PyData) : fList [.tuple xs] = some (.list xs) := rfl
@[simp] theorem fSum_l (xs : List PyData) : fSum [.list xs] = (asInts xs).map fun ns => .int ns.sum := rfl
@[simp] theorem fSum_t (xs : List PyData) : fSum [.tuple xs] = (asInts xs).map fun ns => .int ns.sum := rfl
@[simp] theorem fAll_l (xs : List PyData) : fAll [.list xs] = (asBools xs).map fun bs => .bool (bs.all id) := rfl
@[simp] theorem fAny_l (xs : List PyData) : fAny [.list xs] = (asBools xs).map fun bs => .bool (bs.any id) := rfl
@[simp] theorem rdAll_nil (st : Sto) : rdAll st [] = some [] := rfl
def rdcb (x : PyData) (xs : List PyData) : List PyData := x :: xs
@[simp] theorem rdcb_ap (x : PyData) (xs : List PyData) : rdcb x xs = x :: xs := rfl
def rdc (r : Option (List PyData)) (x : PyData) : Option (List PyData) := r.map (rdcb x)
@[simp] theorem rdc_s (r : List PyData) (x : PyData) : rdc (some r) x = some (x :: r) := rfl
@[simp] theorem rdAll_cons (st : Sto) (w : U) (ws : List U) : rdAll st (w :: ws) = (rd st w).bind (rdc (rdAll st ws)) := rfl
@[simp] theorem allD_nil : allD [] = some [] := rfl
@[simp] theorem allD_cons (x : PyData) (ws : List U) : allD (.d x :: ws) = (allD ws).map (rdcb x) := rfl
@[simp] theorem allD_app (xs : List PyData) (ws : List U) : allD (xs.map U.d ++ ws) = (allD ws).map fun ys => xs ++ ys := by
  induction xs with
  | nil => simp
  | cons x xs ih => simp [ih, Function.comp_def]
@[simp] theorem items_l (xs : List PyData) : items (.list xs) = some xs := rfl
@[simp] theorem items_t (xs : List PyData) : items (.tuple xs) = some xs := rfl
@[simp] theorem truth_n : truth .none = some false := rfl
@[simp] theorem truth_b (b : Bool) : truth (.bool b) = some b := rfl
@[simp] theorem truth_i (i : Int) : truth (.int i) = some (i != 0) := rfl
@[simp] theorem truth_l (xs : List PyData) : truth (.list xs) = some (!xs.isEmpty) := rfl
@[simp] theorem truth_t (xs : List PyData) : truth (.tuple xs) = some (!xs.isEmpty) := rfl
def rda : Option (Option (List PyData)) → Option PyData
  | some (some xs) => some (.list xs)
  | _ => none
@[simp] theorem rda_s (xs : List PyData) : rda (some (some xs)) = some (.list xs) := rfl
@[simp] theorem rd_l (st : Sto) (n : Nat) : rd st (.l n) = rda st[n]? := rfl
@[simp] theorem rd_s (st : Sto) (ns : List Int) : rd st (.s ns) = some (.list (ns.map .int)) := rfl
@[simp] theorem rdS_l (st : Sto) (n : Nat) : rdS st (.l n) = rda st[n]? := rfl
def outa (n : Nat) : Out → Option VS
  | .rt w st' => leave n w st'
  | .nx _ st' => some (.d .none, st'.take n)
  | _ => none
@[simp] theorem outa_rt (n : Nat) (w : U) (s : Sto) : outa n (.rt w s) = leave n w s := rfl
@[simp] theorem outa_nx (n : Nat) (w : Ev) (s : Sto) : outa n (.nx w s) = some (.d .none, s.take n) := rfl
theorem defS_ap (N : Nat) (b : SS) (ws : List U) (st : Sto) : defS N b ws st = (b (ws.map some ++ List.replicate (N - ws.length) none) st).bind (outa st.length) := by
  unfold defS
  congr
def outO (n : Nat) : Out → Option VS
  | .rt w st' => leaveO n w st'
  | _ => none
@[simp] theorem outO_rt (n : Nat) (w : U) (s : Sto) : outO n (.rt w s) = leaveO n w s := rfl
theorem defSO_ap (N : Nat) (b : SS) (ws : List U) (st : Sto) : defSO N b ws st = (b (ws.map some ++ List.replicate (N - ws.length) none) st).bind (outO st.length) := by
  unfold defSO
  congr
@[simp] theorem leave_d (n : Nat) (x : PyData) (st : Sto) : leave n (.d x) st = some (.d x, st.take n) := rfl
@[simp] theorem leave_s (n : Nat) (x : List Int) (st : Sto) : leave n (.s x) st = some (.s x, st.take n) := rfl
def leaveb (n : Nat) (s : Sto) : Option (Option (List PyData)) → Option VS
  | some (some xs) => some (.d (.list xs), s.take n)
  | _ => none
@[simp] theorem leaveb_s (n : Nat) (s : Sto) (xs : List PyData) : leaveb n s (some (some xs)) = some (.d (.list xs), s.take n) := rfl
@[simp] theorem leave_l (n k : Nat) (st : Sto) : leave n (.l k) st = if k < n then some (.l k, st.take n) else leaveb n st st[k]? := rfl
def leaveOb (n : Nat) (s : Sto) : Option (Option (List PyData)) → Option VS
  | some (some xs) => some (.l n, s.take n ++ [some xs])
  | _ => none
@[simp] theorem leaveOb_s (n : Nat) (s : Sto) (xs : List PyData) : leaveOb n s (some (some xs)) = some (.l n, s.take n ++ [some xs]) := rfl
@[simp] theorem leaveO_l (n k : Nat) (st : Sto) : leaveO n (.l k) st = if k < n then none else leaveOb n st st[k]? := rfl
@[simp] theorem gN_ap (i : Nat) (x : PyData) (ev : Ev) : gN i x ev = some (ev.set i (some (.d x))) := rfl
@[simp] theorem gsNil_ap (ev : Ev) : gsNil [] ev = some ev := rfl
@[simp] theorem gsCons_ap (g : GT) (r : List PyData → Ev → Option Ev) (x : PyData) (xs : List PyData) (ev : Ev) : gsCons g r (x :: xs) ev = (g x ev).bind (r xs) := rfl
@[simp] theorem gT_ap (g : List PyData → Ev → Option Ev) (xs : List PyData) (ev : Ev) : gT g (.tuple xs) ev = g xs ev := rfl
@[simp] theorem mAppend_ap (xs : List PyData) (y : PyData) : mAppend xs [y] = if xs.length < lim then some (.none, xs ++ [y]) else none := rfl
@[simp] theorem mExtend_ap (xs ys : List PyData) : mExtend xs [.list ys] = if xs.length + ys.length ≤ lim then some (.none, xs ++ ys) else none := rfl
@[simp] theorem wipeE_nil (ev : Ev) : wipeE ev [] = ev := rfl
@[simp] theorem wipeE_cons (ev : Ev) (v : Nat) (vs : List Nat) : wipeE ev (v :: vs) = (wipeE ev vs).set v none := rfl
@[simp] theorem fSl_l (xs : List PyData) (lo hi : Option Int) : fSl (.list xs) lo hi = some (.list (cutD xs lo hi)) := rfl
@[simp] theorem fSl_t (xs : List PyData) (lo hi : Option Int) : fSl (.tuple xs) lo hi = some (.tuple (cutD xs lo hi)) := rfl
@[simp] theorem tyD_n : tyD .none = some "NoneType" := rfl
@[simp] theorem tyD_b (b : Bool) : tyD (.bool b) = some "bool" := rfl
@[simp] theorem tyD_i (b : Int) : tyD (.int b) = some "int" := rfl
@[simp] theorem tyD_s (b : Str) : tyD (.str b) = some "str" := rfl
@[simp] theorem tyD_l (b : List PyData) : tyD (.list b) = some "list" := rfl
@[simp] theorem tyD_t (b : List PyData) : tyD (.tuple b) = some "tuple" := rfl
/-- a store: what was there, and behind it what this call has laid down -/
def ex (st L : Sto) : Sto := st ++ L
theorem ex_nil (st : Sto) : st = ex st [] := (List.append_nil st).symm
@[simp] theorem ex_len (st L : Sto) : (ex st L).length = st.length + L.length := List.length_append
@[simp] theorem ex_put (st L : Sto) (x : Option (List PyData)) : ex st L ++ [x] = ex st (L ++ [x]) := by simp [ex]
@[simp high] theorem ex_get0 (st L : Sto) : (ex st L)[st.length]? = L[0]? := by
  unfold ex
  rw [List.getElem?_append_right (Nat.le_refl _), Nat.sub_self]
@[simp high] theorem ex_get (st L : Sto) (k : Nat) : (ex st L)[st.length + k]? = L[k]? := by
  unfold ex
  rw [List.getElem?_append_right (Nat.le_add_right _ _), Nat.add_sub_cancel_left]
@[simp high] theorem ex_get0s (st L : Sto) (b : Nat) (x : Option (List PyData)) : (ex (st.set b x) L)[st.length]? = L[0]? := by
  have := ex_get0 (st.set b x) L
  rwa [List.length_set] at this
@[simp high] theorem ex_gets (st L : Sto) (k b : Nat) (x : Option (List PyData)) : (ex (st.set b x) L)[st.length + k]? = L[k]? := by
  have := ex_get (st.set b x) L k
  rwa [List.length_set] at this
@[simp] theorem ex_set0 (st L : Sto) (y : Option (List PyData)) : (ex st L).set st.length y = ex st (L.set 0 y) := by simp [ex, List.set_append]
@[simp] theorem ex_set (st L : Sto) (k : Nat) (y : Option (List PyData)) : (ex st L).set (st.length + k) y = ex st (L.set k y) := by simp [ex, List.set_append]
@[simp] theorem ex_set0s (st L : Sto) (b : Nat) (x y : Option (List PyData)) : (ex (st.set b x) L).set st.length y = ex (st.set b x) (L.set 0 y) := by
  have := ex_set0 (st.set b x) L y
  rwa [List.length_set] at this
@[simp] theorem ex_sets (st L : Sto) (k b : Nat) (x y : Option (List PyData)) : (ex (st.set b x) L).set (st.length + k) y = ex (st.set b x) (L.set k y) := by
  have := ex_set (st.set b x) L k y
  rwa [List.length_set] at this
@[simp] theorem ex_take0 (st L : Sto) : (ex st L).take st.length = st := by simp [ex]
@[simp] theorem ex_take (st L : Sto) (k : Nat) : (ex st L).take (st.length + k) = ex st (L.take k) := by
  unfold ex
  rw [List.take_append, List.take_of_length_le (Nat.le_add_right _ _), Nat.add_sub_cancel_left]
@[simp] theorem ex_take0s (st L : Sto) (b : Nat) (x : Option (List PyData)) : (ex (st.set b x) L).take st.length = st.set b x := by
  have := ex_take0 (st.set b x) L
  rwa [List.length_set] at this
@[simp] theorem ex_takes (st L : Sto) (k b : Nat) (x : Option (List PyData)) : (ex (st.set b x) L).take (st.length + k) = ex (st.set b x) (L.take k) := by
  have := ex_take (st.set b x) L k
  rwa [List.length_set] at this
theorem ex_box {st L : Sto} {b : Nat} (h : b < st.length) (x : Option (List PyData)) : (ex (st.set b x) L)[b]? = some x := by
  simp [ex, List.getElem?_append, h]
theorem ex_setb {st L : Sto} {b : Nat} (h : b < st.length) (x y : Option (List PyData)) : (ex (st.set b x) L).set b y = ex (st.set b y) L := by
  simp [ex, List.set_append, h]
theorem ex_self {st : Sto} {b : Nat} {x : Option (List PyData)} (h : st[b]? = some x) : st.set b x = st := by
  obtain ⟨hb, e⟩ := List.getElem?_eq_some_iff.mp h
  rw [← e]
  simp
/-- loops -/
theorem forL_ind {g : GT} {b : SS} (P : List PyData → Ev → Sto → Prop)
    (h : ∀ x xs ev st, P (x :: xs) ev st → ∃ ev1 ev2 st2, g x ev = some ev1 ∧ b ev1 st = some (.nx ev2 st2) ∧ P xs ev2 st2) :
    ∀ (xs : List PyData) (ev : Ev) (st : Sto), P xs ev st → ∃ ev' st', forL g b xs ev st = some (.nx ev' st') ∧ P [] ev' st'
  | [], ev, st, p => ⟨ev, st, rfl, p⟩
  | x :: xs, ev, st, p => by
    obtain ⟨ev1, ev2, st2, e1, e2, p2⟩ := h x xs ev st p
    obtain ⟨ev', st', e3, p3⟩ := forL_ind P h xs ev2 st2 p2
    exact ⟨ev', st', by simp [forL, e1, e2, e3], p3⟩
theorem lcL_ind {g : GT} {tt : SB} {te : SE} {ev : Ev} (P : List PyData → Sto → List PyData → Prop)
    (h : ∀ x xs st acc, P (x :: xs) st acc → ∃ ev1 p, g x ev = some ev1 ∧ tt ev1 (ex st [some acc]) = some p ∧ ((p.1 = false ∧ ∃ st2, p.2 = ex st2 [some acc] ∧ st2.length = st.length ∧ P xs st2 acc) ∨
      (p.1 = true ∧ ∃ y st2, te ev1 p.2 = some (.d y, ex st2 [some acc]) ∧ st2.length = st.length ∧ acc.length < lim ∧ P xs st2 (acc ++ [y])))) :
    ∀ (xs : List PyData) (st : Sto) (acc : List PyData), P xs st acc → ∃ st' acc', lcL g tt te ev xs st acc = some (acc', st') ∧ P [] st' acc'
  | [], st, acc, p => ⟨st, acc, rfl, p⟩
  | x :: xs, st, acc, p => by
    obtain ⟨ev1, q, e1, e2, c⟩ := h x xs st acc p
    have e2' : tt ev1 (st ++ [some acc]) = some q := e2
    rcases c with ⟨t, st2, e3, hl, p2⟩ | ⟨t, y, st2, e3, hl, ha, p2⟩
    · obtain ⟨st', acc', e4, p4⟩ := lcL_ind P h xs st2 acc p2
      refine ⟨st', acc', ?_, p4⟩
      have g1 : (ex st2 [some acc])[st.length]? = some (some acc) := by rw [← hl, ex_get0]; rfl
      have g2 : (ex st2 [some acc]).take st.length = st2 := by rw [← hl]; simp
      simp [lcL, e1, e2', t, e3, g1, g2, e4]
    · obtain ⟨st', acc', e4, p4⟩ := lcL_ind P h xs st2 (acc ++ [y]) p2
      refine ⟨st', acc', ?_, p4⟩
      have g1 : (ex st2 [some acc])[st.length]? = some (some acc) := by rw [← hl, ex_get0]; rfl
      have g2 : (ex st2 [some acc]).take st.length = st2 := by rw [← hl]; simp
      simp [lcL, e1, e2', t, e3, g1, g2, e4, ha]
/-- a comprehension that reads alone -/
theorem lcL_pure {g : GT} {tt : SB} {te : SE} {ev : Ev} (c : PyData → Bool) (f : PyData → PyData) (st : Sto) :
    ∀ (xs : List PyData) (acc : List PyData), (∀ x ∈ xs, ∀ acc, ∃ ev1, g x ev = some ev1 ∧ tt ev1 (ex st [some acc]) = some (c x, ex st [some acc]) ∧ (c x = true → te ev1 (ex st [some acc]) = some (.d (f x), ex st [some acc]))) →
    acc.length + xs.length ≤ lim → lcL g tt te ev xs st acc = some (acc ++ (xs.filter c).map f, st)
  | [], acc, _, _ => by simp [lcL]
  | x :: xs, acc, h, hl => by
    obtain ⟨ev1, e1, e2, e3⟩ := h x List.mem_cons_self acc
    have e2' : tt ev1 (st ++ [some acc]) = some (c x, ex st [some acc]) := e2
    have g1 : (ex st [some acc])[st.length]? = some (some acc) := by rw [ex_get0]; rfl
    have g2 : (ex st [some acc]).take st.length = st := by simp
    simp only [List.length_cons] at hl
    by_cases t : c x = true
    · have := lcL_pure c f st xs (acc ++ [f x]) (fun y hy => h y (List.mem_cons_of_mem _ hy)) (by simp; omega)
      have ha : acc.length < lim := by omega
      simp [lcL, e1, e2', t, e3 t, g1, g2, ha, this]
    · have := lcL_pure c f st xs acc (fun y hy => h y (List.mem_cons_of_mem _ hy)) (by omega)
      have t' : c x = false := by simpa using t
      simp [lcL, e1, e2', t', g1, g2, this]
@[simp] theorem shaped_int (i : Int) : SeqAt.shaped (.int i) = true := rfl
@[simp] theorem shaped_bool (i : Bool) : SeqAt.shaped (.bool i) = true := rfl
@[simp] theorem shaped_none : SeqAt.shaped .none = true := rfl
@[simp] theorem fEq_int (i j : Int) : fEq (.int i) (.int j) = some (.bool (i == j)) := rfl
@[simp] theorem fNe_int (i j : Int) : fNe (.int i) (.int j) = some (.bool (!(i == j))) := rfl
@[simp] theorem fEq_bool (i j : Bool) : fEq (.bool i) (.bool j) = some (.bool (i == j)) := rfl
@[simp] theorem fNe_bool (i j : Bool) : fNe (.bool i) (.bool j) = some (.bool (!(i == j))) := rfl
@[simp] theorem fIx_list (xs : List PyData) (k : Nat) (h : k < xs.length) : fIx (.list xs) (.int (k : Int)) = some xs[k] := by
  simp [fIx, atI, ixN, h]
@[simp] theorem fIx_tuple (xs : List PyData) (k : Nat) (h : k < xs.length) : fIx (.tuple xs) (.int (k : Int)) = some xs[k] := by
  simp [fIx, atI, ixN, h]
@[simp] theorem big_of {i : Int} (h1 : -4611686018427387904 ≤ i) (h2 : i < 4611686018427387904) : big i = true := by simp [big, h1, h2]
theorem mul_small {a b : Int} (h1 : -18446744073709551616 < b) (h2 : b < 18446744073709551616) : mulOk a b = true := by
  simp [mulOk, p64, h1, h2]
theorem mul_smallL {a b : Int} (h1 : -18446744073709551616 < a) (h2 : a < 18446744073709551616) : mulOk a b = true := by
  simp [mulOk, p64, h1, h2]
/-- a loop over states that are told apart from where the store lies -/
theorem forL_abs {T S : Type} {g : GT} {b : SS} (Θ : T → Prop) (evOf : T → S → Ev) (stOf : T → S → Sto) (P : List PyData → S → Prop)
    (h : ∀ x xs s, P (x :: xs) s → ∃ s', P xs s' ∧ ∀ θ, Θ θ → ∃ ev1, g x (evOf θ s) = some ev1 ∧ b ev1 (stOf θ s) = some (.nx (evOf θ s') (stOf θ s'))) :
    ∀ (xs : List PyData) (s : S), P xs s → ∃ s', P [] s' ∧ ∀ θ, Θ θ → forL g b xs (evOf θ s) (stOf θ s) = some (.nx (evOf θ s') (stOf θ s'))
  | [], s, p => ⟨s, p, fun θ _ => rfl⟩
  | x :: xs, s, p => by
    obtain ⟨s1, p1, e1⟩ := h x xs s p
    obtain ⟨s2, p2, e2⟩ := forL_abs Θ evOf stOf P h xs s1 p1
    refine ⟨s2, p2, fun θ t => ?_⟩
    obtain ⟨ev1, a1, a2⟩ := e1 θ t
    simp [forL, a1, a2, e2 θ t]
theorem lcL_abs {T S : Type} {g : GT} {te : SE} (Θ : T → Prop) (evOf : T → Ev) (stOf : T → S → Sto) (hl : ∀ θ s s', (stOf θ s).length = (stOf θ s').length) (P : List PyData → S → List PyData → Prop)
    (h : ∀ x xs s acc, P (x :: xs) s acc → ∃ y s', P xs s' (acc ++ [y]) ∧ acc.length < lim ∧ ∀ θ, Θ θ → ∃ ev1, g x (evOf θ) = some ev1 ∧ te ev1 (ex (stOf θ s) [some acc]) = some (.d y, ex (stOf θ s') [some acc])) :
    ∀ (xs : List PyData) (s : S) (acc : List PyData), P xs s acc → ∃ s' acc', P [] s' acc' ∧ ∀ θ, Θ θ → lcL g bYes te (evOf θ) xs (stOf θ s) acc = some (acc', stOf θ s')
  | [], s, acc, p => ⟨s, acc, p, fun θ _ => rfl⟩
  | x :: xs, s, acc, p => by
    obtain ⟨y, s1, p1, ha, e1⟩ := h x xs s acc p
    obtain ⟨s2, acc2, p2, e2⟩ := lcL_abs Θ evOf stOf hl P h xs s1 (acc ++ [y]) p1
    refine ⟨s2, acc2, p2, fun θ t => ?_⟩
    obtain ⟨ev1, a1, a2⟩ := e1 θ t
    have a2' : te ev1 (stOf θ s ++ [some acc]) = some (.d y, ex (stOf θ s1) [some acc]) := a2
    have g1 : (ex (stOf θ s1) [some acc])[(stOf θ s).length]? = some (some acc) := by rw [hl θ s s1, ex_get0]; rfl
    have g2 : (ex (stOf θ s1) [some acc]).take (stOf θ s).length = stOf θ s1 := by rw [hl θ s s1]; simp
    simp [lcL, bYes, a1, a2', g1, g2, ha, e2 θ t]
@[simp] theorem rangeD_len (a : Int) (n : Nat) : (rangeD a n).length = n := by simp [rangeD]
theorem rangeD_mem {a : Int} {n : Nat} {x : PyData} : x ∈ rangeD a n ↔ ∃ k : Nat, k < n ∧ x = .int (a + k) := by
  unfold rangeD
  simp only [List.mem_map, List.mem_range]
  constructor
  · rintro ⟨k, h, e⟩; exact ⟨k, h, e.symm⟩
  · rintro ⟨k, h, e⟩; exact ⟨k, h, e.symm⟩
@[simp] theorem fPow_i (a b : Int) : fPow (.int a) (.int b) = if 0 ≤ b ∧ b ≤ 1000000 ∧ a.natAbs < 18446744073709551616 then some (.int (a ^ b.toNat)) else none := rfl
@[simp] theorem lim_eq : lim = 1000000 := rfl
end Cm

set_option Elab.async false
set_option linter.all false
set_option maxRecDepth 100000
set_option maxHeartbeats 1000000
/-! more rules: list + list to be changed, three plain names, slices from behind -/
namespace Cm
open PySem PySem.Spec PyProof.Rows L2
def cAddM (a b : SE) : SE := fun ev st => (a ev st).bind fun p => (b ev p.2).bind fun q => (rdS q.2 p.1).bind fun x => (rdS q.2 q.1).bind fun y => match x, y with
  | .list xs, .list ys => if xs.length + ys.length ≤ lim then some (.l q.2.length, q.2 ++ [some (xs ++ ys)]) else none
  | _, _ => none
def cSlM (a : SE) (lo hi : SO) : SE := fun ev st => (a ev st).bind fun p => (lo ev p.2).bind fun q => (hi ev q.2).bind fun r => (rd r.2 p.1).bind fun x => match x with
  | .list xs => some (.l r.2.length, r.2 ++ [some (cutD xs q.1 r.1)])
  | _ => none
def fRev : PyData → Option PyData
  | .list xs => some (.list xs.reverse)
  | _ => none
def cRevM (a : SE) : SE := fun ev st => (a ev st).bind fun p => (rd p.2 p.1).bind fun x => match x with
  | .list xs => some (.l p.2.length, p.2 ++ [some xs.reverse])
  | _ => none
section
variable {X : Cx} {a b : Expr} {ca cb : SE} {pos : Pos}
theorem se_addM (ha : PE X a (tI X.K ca)) (hb : PE X b (tI X.K cb)) : PE X (.BinOp a .Add b pos) (tI X.K (cAddM ca cb)) :=
  (pe_op op_cat ha hb).weak fun σ H Q ⟨ρ, F, ev, st, w, st', hr, sr, e, post⟩ => by
    simp only [cAddM, Option.bind_eq_some_iff] at e
    obtain ⟨⟨w1, st1⟩, e1, ⟨w2, st2⟩, e2, x, e3, y, e4, e5⟩ := e
    refine ⟨ρ, F, ev, st, w1, st1, hr, sr, e1, fun v1 ρ1 F1 H1 x1 hr1 wr1 => ⟨ρ1, F1, ev, st1, w2, st2, hr1, sr.mono x1, e2, fun v2 ρ2 F2 H2 x2 hr2 wr2 => ?_⟩⟩
    have rx := rdS_ok hr2 (wr1.mono x2) e3
    have ry := rdS_ok hr2 wr2 e4
    split at e5
    · split at e5
      · rename_i hl
        cases e5
        obtain ⟨a, vs, rfl, h1, d1⟩ := rx.list hr2.sub
        obtain ⟨b, us, rfl, h2, d2⟩ := ry.list hr2.sub
        exact ⟨a, b, vs, us, rfl, rfl, h1, h2, by rw [d1.length, d2.length]; exact lim_le hl, fun p np => post _ _ _ _ ((x1.trans x2).trans (.push p)) (hr2.push np (d1.append d2)) (.pushed hr2)⟩
      · cases e5
    · cases e5
theorem se_slM {lo hi : Option Expr} {cl ch : SO} {p2 : Pos} (ha : PE X a (tI X.K ca)) (hl : PO X lo (tO X.K cl)) (hh : PO X hi (tO X.K ch)) : PE X (.Subscript a (.Slice lo hi none p2) pos) (tI X.K (cSlM ca cl ch)) :=
  (pe_slice sl_list ha hl hh).weak fun σ H Q ⟨ρ, F, ev, st, w, st', hr, sr, e, post⟩ => by
    simp only [cSlM, Option.bind_eq_some_iff] at e
    obtain ⟨⟨w1, st1⟩, e1, ⟨i, st2⟩, e2, ⟨j, st3⟩, e3, x, e4, e5⟩ := e
    refine ⟨ρ, F, ev, st, w1, st1, hr, sr, e1, fun v1 ρ1 F1 H1 x1 hr1 wr1 => ⟨ρ1, F1, ev, st1, i, st2, hr1, sr.mono x1, e2, fun ρ2 F2 H2 x2 hr2 => ⟨ρ2, F2, ev, st2, j, st3, hr2, (sr.mono x1).mono x2, e3, fun ρ3 F3 H3 x3 hr3 => ?_⟩⟩⟩
    have rr : Rdd X.K F3 H3 v1 x := rd_ok hr3 ((wr1.mono x2).mono x3) e4
    split at e5
    · cases e5
      obtain ⟨a, vs, rfl, h, d⟩ := rr.list hr3.sub
      exact ⟨a, vs, rfl, h, fun p np => post _ _ _ _ (((x1.trans x2).trans x3).trans (.push p)) (hr3.push np (d.cut _ _)) (.pushed hr3)⟩
    · cases e5
theorem se_rev {k : Nat} {p1 p2 p3 : Pos} (ha : PE X a (tI X.K ca)) : PE X (.Subscript a (.Slice none none (some (.UnaryOp .USub (.Constant (.int 1) k p1) p2)) p3) pos) (tI X.K (cD1 fRev ca)) :=
  (pe_revL ha).weak fun σ H Q ⟨ρ, F, ev, st, w, st', hr, sr, e, post⟩ => by
    simp only [cD1, Option.bind_eq_some_iff, Option.map_eq_some_iff] at e
    obtain ⟨⟨w1, st1⟩, e1, x, e3, z, e5, e6⟩ := e
    cases e6
    refine ⟨ρ, F, ev, st, w1, st1, hr, sr, e1, fun v1 ρ1 F1 H1 x1 hr1 wr1 => ?_⟩
    have rr : Rdd X.K F1 H1 v1 x := rd_ok hr1 wr1 e3
    have q : Rep F1 H1 z Q := post.grow x1 hr1
    unfold fRev at e5
    split at e5
    · cases e5
      obtain ⟨a, vs, rfl, h, d⟩ := rr.list hr1.sub
      exact ⟨a, vs, rfl, h, fun p np => q.lst hr1.sub d.reverse p np⟩
    · cases e5
theorem se_revM {k : Nat} {p1 p2 p3 : Pos} (ha : PE X a (tI X.K ca)) : PE X (.Subscript a (.Slice none none (some (.UnaryOp .USub (.Constant (.int 1) k p1) p2)) p3) pos) (tI X.K (cRevM ca)) :=
  (pe_revL ha).weak fun σ H Q ⟨ρ, F, ev, st, w, st', hr, sr, e, post⟩ => by
    simp only [cRevM, Option.bind_eq_some_iff] at e
    obtain ⟨⟨w1, st1⟩, e1, x, e3, e5⟩ := e
    refine ⟨ρ, F, ev, st, w1, st1, hr, sr, e1, fun v1 ρ1 F1 H1 x1 hr1 wr1 => ?_⟩
    have rr : Rdd X.K F1 H1 v1 x := rd_ok hr1 wr1 e3
    split at e5
    · cases e5
      obtain ⟨a, vs, rfl, h, d⟩ := rr.list hr1.sub
      exact ⟨a, vs, rfl, h, fun p np => post _ _ _ _ (x1.trans (.push p)) (hr1.push np d.reverse) (.pushed hr1)⟩
    · cases e5
theorem s_par3 {i j l : Nat} {x y z : Str} {a b c : Expr} {sa : SA} {px py pz pt : Pos} {kt k2 pt2} (hc : X.calm = true) (hN : X.N.Nodup) (hi : X.N[i]? = some x) (hj : X.N[j]? = some y) (hl : X.N[l]? = some z) (hij : i ≠ j) (hil : i ≠ l) (hjl : j ≠ l)
    (hx : X.env.scope.names.lookup x = some .local) (hy : X.env.scope.names.lookup y = some .local) (hz : X.env.scope.names.lookup z = some .local) (ha : PA X [a, b, c] (tA X.K sa))
    (hw : Swaps X (.Tuple [.Name x px, .Name y py, .Name z pz] kt pt) (.Tuple [a, b, c] k2 pt2) (some [x, y, z])) (hs : NoSole X (.Tuple [.Name x px, .Name y py, .Name z pz] kt pt) (.Tuple [a, b, c] k2 pt2) pos := by rfl) :
    PS X (.Assign [.Tuple [.Name x px, .Name y py, .Name z pz] kt pt] (.Tuple [a, b, c] k2 pt2) pos) (tSS X.K (cParN [i, j, l] sa)) := (ps_par3 hc hN hi hj hl hij hil hjl hx hy hz ha hw hs).weak fun D σ H ⟨ρ, F, ev, st, o, hr, sr, e, ok⟩ => by
  simp only [cParN, Option.bind_eq_some_iff] at e
  obtain ⟨⟨ws, st'⟩, e1, e2⟩ := e
  split at e2
  · rename_i hlw
    cases e2
    refine ⟨ρ, F, ev, st, ws, st', hr, sr, e1, fun vs ρ' F' H' x hr' wr => ?_⟩
    cases wr with
    | nil => cases hlw
    | cons w1 t =>
      cases t with
      | nil => cases hlw
      | cons w2 t =>
        cases t with
        | nil => cases hlw
        | cons w3 t =>
          cases t with
          | nil => exact ⟨_, _, _, rfl, ok _ ρ' F' H' x hr' ((((sr.mono x).set w1 i).set w2 j).set w3 l)⟩
          | cons w4 t => simp at hlw
  · cases e2
end
def addMc (s : Sto) : PyData → PyData → Option VS
  | .list xs, .list ys => if xs.length + ys.length ≤ lim then some (.l s.length, s ++ [some (xs ++ ys)]) else none
  | _, _ => none
@[simp] theorem addMc_l (s : Sto) (xs ys : List PyData) : addMc s (.list xs) (.list ys) = if xs.length + ys.length ≤ lim then some (.l s.length, s ++ [some (xs ++ ys)]) else none := rfl
def addMd (s : Sto) (y : Option PyData) (x : PyData) : Option VS := y.bind (addMc s x)
@[simp] theorem addMd_s (s : Sto) (y x : PyData) : addMd s (some y) x = addMc s x y := rfl
def addMb (u : U) : VS → Option VS := fun q => (rdS q.2 u).bind (addMd q.2 (rdS q.2 q.1))
@[simp] theorem addMb_ap (u v : U) (s : Sto) : addMb u (v, s) = (rdS s u).bind (addMd s (rdS s v)) := rfl
def addMa (b : SE) (ev : Ev) : VS → Option VS := fun p => (b ev p.2).bind (addMb p.1)
@[simp] theorem addMa_ap (b : SE) (ev : Ev) (u : U) (s : Sto) : addMa b ev (u, s) = (b ev s).bind (addMb u) := rfl
@[simp] theorem cAddM_ap (a b : SE) (ev : Ev) (st : Sto) : cAddM a b ev st = (a ev st).bind (addMa b ev) := by
  unfold cAddM addMa addMb addMd
  congr
def revMb (s : Sto) : PyData → Option VS
  | .list xs => some (.l s.length, s ++ [some xs.reverse])
  | _ => none
@[simp] theorem revMb_l (s : Sto) (xs : List PyData) : revMb s (.list xs) = some (.l s.length, s ++ [some xs.reverse]) := rfl
def revMa : VS → Option VS := fun p => (rd p.2 p.1).bind (revMb p.2)
@[simp] theorem revMa_ap (u : U) (s : Sto) : revMa (u, s) = (rd s u).bind (revMb s) := rfl
@[simp] theorem cRevM_ap (a : SE) (ev : Ev) (st : Sto) : cRevM a ev st = (a ev st).bind revMa := by
  unfold cRevM revMa
  congr
@[simp] theorem fRev_l (xs : List PyData) : fRev (.list xs) = some (.list xs.reverse) := rfl
def slMc (s : Sto) (lo hi : Option Int) : PyData → Option VS
  | .list xs => some (.l s.length, s ++ [some (cutD xs lo hi)])
  | _ => none
@[simp] theorem slMc_l (s : Sto) (lo hi : Option Int) (xs : List PyData) : slMc s lo hi (.list xs) = some (.l s.length, s ++ [some (cutD xs lo hi)]) := rfl
def slMb (u : U) (lo : Option Int) : Option Int × Sto → Option VS := fun r => (rd r.2 u).bind (slMc r.2 lo r.1)
@[simp] theorem slMb_ap (u : U) (lo hi : Option Int) (s : Sto) : slMb u lo (hi, s) = (rd s u).bind (slMc s lo hi) := rfl
def slMa2 (u : U) (hi : SO) (ev : Ev) : Option Int × Sto → Option VS := fun q => (hi ev q.2).bind (slMb u q.1)
@[simp] theorem slMa2_ap (u : U) (hi : SO) (ev : Ev) (lo : Option Int) (s : Sto) : slMa2 u hi ev (lo, s) = (hi ev s).bind (slMb u lo) := rfl
def slMa (lo hi : SO) (ev : Ev) : VS → Option VS := fun p => (lo ev p.2).bind (slMa2 p.1 hi ev)
@[simp] theorem slMa_ap (lo hi : SO) (ev : Ev) (u : U) (s : Sto) : slMa lo hi ev (u, s) = (lo ev s).bind (slMa2 u hi ev) := rfl
@[simp] theorem cSlM_ap (a : SE) (lo hi : SO) (ev : Ev) (st : Sto) : cSlM a lo hi ev st = (a ev st).bind (slMa lo hi ev) := by
  unfold cSlM slMa slMa2 slMb
  congr
def frzb (i : Nat) (s : SS) (ev : Ev) (st : Sto) (n : Nat) : Option (Option (List PyData)) → Option Out
  | some (some xs) => s (ev.set i (some (.d (.list xs)))) (st.set n none)
  | _ => none
@[simp] theorem frzb_s (i : Nat) (s : SS) (ev : Ev) (st : Sto) (n : Nat) (xs : List PyData) : frzb i s ev st n (some (some xs)) = s (ev.set i (some (.d (.list xs)))) (st.set n none) := rfl
def frza (i : Nat) (s : SS) (ev : Ev) (st : Sto) : Option (Option U) → Option Out
  | some (some (.l n)) => frzb i s ev st n st[n]?
  | _ => none
@[simp] theorem frza_s (i : Nat) (s : SS) (ev : Ev) (st : Sto) (n : Nat) : frza i s ev st (some (some (.l n))) = frzb i s ev st n st[n]? := rfl
@[simp] theorem cFreeze_ap (i : Nat) (s : SS) (ev : Ev) (st : Sto) : cFreeze i s ev st = frza i s ev st ev[i]? := by
  unfold cFreeze
  rcases ev[i]? with _ | _ | w
  · rfl
  · rfl
  · rcases w with x | n | ns | kd
    · rfl
    · show (freeze st n).bind _ = frzb i s ev st n st[n]?
      unfold freeze
      rcases st[n]? with _ | _ | xs <;> rfl
    · rfl
    · rfl
def chc (g : PyData → PyData → Option PyData) (c : SE) (ev : Ev) (q : VS) : PyData → Option VS
  | .bool true => (c ev q.2).bind (d2b g q.1)
  | .bool false => some (.d (.bool false), q.2)
  | _ => none
@[simp] theorem chc_b (g : PyData → PyData → Option PyData) (c : SE) (ev : Ev) (u : U) (s : Sto) (t : Bool) : chc g c ev (u, s) (.bool t) = if t then (c ev s).bind (d2b g u) else some (.d (.bool false), s) := by cases t <;> rfl
def chb (f g : PyData → PyData → Option PyData) (c : SE) (ev : Ev) (u : U) : VS → Option VS := fun q => ((rd q.2 u).bind (d2c f (rd q.2 q.1))).bind (chc g c ev q)
@[simp] theorem chb_ap (f g : PyData → PyData → Option PyData) (c : SE) (ev : Ev) (u v : U) (s : Sto) : chb f g c ev u (v, s) = ((rd s u).bind (d2c f (rd s v))).bind (chc g c ev (v, s)) := rfl
def cha (f g : PyData → PyData → Option PyData) (b c : SE) (ev : Ev) : VS → Option VS := fun p => (b ev p.2).bind (chb f g c ev p.1)
@[simp] theorem cha_ap (f g : PyData → PyData → Option PyData) (b c : SE) (ev : Ev) (u : U) (s : Sto) : cha f g b c ev (u, s) = (b ev s).bind (chb f g c ev u) := rfl
@[simp] theorem cChain_ap (f g : PyData → PyData → Option PyData) (a b c : SE) (ev : Ev) (st : Sto) : cChain f g a b c ev st = (a ev st).bind (cha f g b c ev) := by
  unfold cChain
  congr; funext p
  show (b ev p.2).bind _ = (b ev p.2).bind _
  congr; funext q
  unfold chb d2c
  cases rd q.2 p.1 with
  | none => rfl
  | some x =>
    cases rd q.2 q.1 with
    | none => rfl
    | some y =>
      show (f x y).bind _ = (f x y).bind _
      congr; funext z
      cases z with
      | bool t =>
        cases t with
        | false => rfl
        | true =>
          show (c ev q.2).bind _ = (c ev q.2).bind (d2b g q.1)
          congr; funext r
          unfold d2b d2c
          cases rd r.2 q.1 with
          | none => rfl
          | some x =>
            cases rd r.2 r.1 with
            | none => rfl
            | some y => exact toD_eq _ _
      | _ => rfl
theorem fIn_ints (n : Int) (ns : List Int) : fIn (.int n) (.tuple (ns.map .int)) = some (.bool (ns.contains n)) := by
  have h1 : (ns.map PyData.int).all flatD = true := by simp [flatD]
  have h2 : hasD (ns.map .int) (.int n) = ns.contains n := by
    clear h1
    induction ns with
    | nil => rfl
    | cons z zs ih =>
      have e : hasD ((z :: zs).map .int) (.int n) = ((z == n) || hasD (zs.map .int) (.int n)) := rfl
      rw [e, ih, List.contains_cons, BEq.comm]
  simp only [fIn, h1, h2, flatD, Bool.and_self, if_true]
@[simp] theorem fIs_b (a b : Bool) : fIs (.bool a) (.bool b) = some (.bool (decide (a = b))) := rfl
@[simp] theorem fIsNot_b (a b : Bool) : fIsNot (.bool a) (.bool b) = some (.bool (!decide (a = b))) := rfl
end Cm

set_option Elab.async false
set_option linter.all false
set_option maxRecDepth 100000
set_option maxHeartbeats 1000000
/-! a comprehension with two fors; tuples from behind -/
namespace Cm
open PySem PySem.Spec PyProof.Rows L2
def lcL2 (g : GT) (ct : SB) (ci1 : SI) (g1 : GT) (ct1 : SB) (ce : SE) (vs1 : List Nat) (ev : Ev) : List PyData → Sto → List PyData → Option (List PyData × Sto)
  | [], st, acc => some (acc, st)
  | x :: xs, st, acc => (g x ev).bind fun ev1 => (ct ev1 (st ++ [some acc])).bind fun p =>
    if p.1 then (ci1 ev1 p.2).bind fun q => match q.1, q.2[st.length]? with
      | .fix ys, some (some acc') => (lcL g1 ct1 ce (wipeE ev1 vs1) ys (q.2.take st.length) acc').bind fun r => lcL2 g ct ci1 g1 ct1 ce vs1 ev xs r.2 r.1
      | _, _ => none
    else match p.2[st.length]? with
      | some (some acc') => lcL2 g ct ci1 g1 ct1 ce vs1 ev xs (p.2.take st.length) acc'
      | _ => none
def lcR2 (ci : SI) (g : GT) (ct : SB) (ci1 : SI) (g1 : GT) (ct1 : SB) (ce : SE) (vs vs1 : List Nat) (ev : Ev) (st : Sto) : Option (List PyData × Sto) := (ci ev st).bind fun p => match p.1 with
  | .fix xs => lcL2 g ct ci1 g1 ct1 ce vs1 (wipeE ev vs) xs p.2 []
  | .cell _ => none
def cLc2 (ci : SI) (g : GT) (ct : SB) (ci1 : SI) (g1 : GT) (ct1 : SB) (ce : SE) (vs vs1 : List Nat) : SE := fun ev st => (lcR2 ci g ct ci1 g1 ct1 ce vs vs1 ev st).map fun p => (.d (.list p.1), p.2)
section
variable {ci ci1 : SI} {g g1 : GT} {ct ct1 : SB} {ce : SE} {vs vs1 : List Nat}
theorem lc2_ok {K : PySem.W.Frag} {σ : L2.St} {H : Hp} {Q : VK} {ρ : List Addr} {F : Hp} {ev : Ev} {st : Sto} {r : List PyData × Sto} (hr : HR ρ F H st) (sr : SR K ρ F ev σ) (e : lcR2 ci g ct ci1 g1 ct1 ce vs vs1 ev st = some r)
    (fin : ∀ D ρ' F' H', Ext ρ F ρ' F' → ρ'.length = r.2.length → HR (ρ' ++ [D]) F' H' (r.2 ++ [some r.1]) → Q (.ref D) H') : tLc2 (tIt K ci) (tG K vs g) (tT K ct) (tIt K ci1) (tG K vs1 g1) (tT K ct1) (tI K ce) vs vs1 σ H Q := by
  simp only [lcR2, Option.bind_eq_some_iff] at e
  obtain ⟨⟨src, st1⟩, e1, e2⟩ := e
  refine ⟨ρ, F, ev, st, src, st1, hr, sr, e1, fun J ρ1 F1 H1 x1 hr1 y D nD => ?_⟩
  have srw : ∀ {ρ2 : List Addr} {F2 : Hp}, Ext ρ1 F1 ρ2 F2 → SR K ρ2 F2 (wipeE ev vs) (L2.wipe σ vs) := fun x2 => (((sr.mono x1).mono x2).wipe vs)
  have hwipe : ∀ τ : L2.St, L2.wipe (L2.wipe τ vs) vs = L2.wipe τ vs := fun τ => by
    apply List.ext_getElem?
    intro j
    by_cases hj : j ∈ vs
    · by_cases hlj : j < τ.length
      · rw [wipe_in hj (by rw [wipe_length]; exact hlj), wipe_in hj hlj]
      · rw [List.getElem?_eq_none (by rw [wipe_length, wipe_length]; omega), List.getElem?_eq_none (by rw [wipe_length]; omega)]
    · rw [wipe_out hj]
  cases src with
  | cell n => cases e2
  | fix xs =>
    refine ⟨fun i m H => m = xs.length - i ∧ i ≤ xs.length ∧ ∃ ρ2 F2 st2 acc, Ext ρ1 F1 ρ2 F2 ∧ ρ2.length = st2.length ∧ HR (ρ2 ++ [D]) F2 H (st2 ++ [some acc]) ∧ lcL2 g ct ci1 g1 ct1 ce vs1 (wipeE ev vs) (xs.drop i) st2 acc = some r,
      ⟨xs.length, rfl, Nat.zero_le _, ρ1, F1, st1, [], .refl _ _, hr1.len, hr1.push nD .nil, e2⟩, ?_⟩
    rintro i m H2 ⟨rfl, hi, ρ2, F2, st2, acc, x2, hl2, hr2, e3⟩
    obtain ⟨yg, ys⟩ := y F2 H2 (sameD x2.same) hr2.sub
    by_cases hlt : i < xs.length
    · rw [List.drop_eq_getElem_cons hlt] at e3
      simp only [lcL2, Option.bind_eq_some_iff] at e3
      obtain ⟨ev1, e4, p, e5, e6⟩ := e3
      obtain ⟨go, yl⟩ := yg i xs[i] (List.getElem?_eq_getElem hlt)
      refine .inr ⟨go, fun H => ∃ ρ2 F2 st2 acc, Ext ρ1 F1 ρ2 F2 ∧ ρ2.length = st2.length ∧ HR (ρ2 ++ [D]) F2 H (st2 ++ [some acc]) ∧ lcL2 g ct ci1 g1 ct1 ce vs1 (wipeE ev vs) (xs.drop (i + 1)) st2 acc = some r, fun H' w => ⟨xs.length - (i + 1), by omega, rfl, hlt, w⟩, fun v H3 yv => ?_⟩
      obtain ⟨F3, gr, d⟩ := yl v H3 yv
      have x3 : Ext ρ2 F2 ρ2 F3 := .of gr
      have hr3 := hr2.grow gr
      refine ⟨ρ2, F3, _, xs[i], ev1, hr3.sub, srw (x2.trans x3), d, e4, fun σ2 sr2 w2 => ⟨w2.trans (hwipe σ), ?_⟩⟩
      have xp : Ext ρ2 F3 (ρ2 ++ [D]) F3 := .push D
      refine ⟨ρ2 ++ [D], F3, ev1, st2 ++ [some acc], p.1, p.2, hr3, sr2.mono xp, e5, fun ρ4 F4 H4 x4 hr4 => ?_⟩
      cases hb : p.1 with
      | false =>
        rw [hb] at e6
        simp only [Bool.false_eq_true, if_false] at e6 ⊢
        split at e6
        · rename_i acc' k2
          obtain ⟨hD, us, h1, h2⟩ := HR.lcNext (acc := acc) hl2 x4 hr4 k2
          refine ⟨ρ4.take st2.length, F4, p.2.take st2.length, acc', (x2.trans x3).trans (by rw [← hl2]; exact x4.unpush), ?_, ?_, e6⟩
          · rw [length_take_of hD, length_take_of k2]
          · rw [← take_get hD, ← take_get k2]
            exact hr4.take _
        · cases e6
      | true =>
        rw [hb] at e6
        simp only [if_true, Option.bind_eq_some_iff] at e6 ⊢
        obtain ⟨⟨src1, st5⟩, e7, e8⟩ := e6
        split at e8
        · rename_i ys1 acc' k1 k2
          simp only at k1 k2
          subst k1
          obtain ⟨r1, e9, e10⟩ := Option.bind_eq_some_iff.mp e8
          refine ⟨ρ4, F4, ev1, p.2, .fix ys1, st5, hr4, (sr2.mono xp).mono x4, e7, fun J1 ρ5 F5 H5 x5 hr5 y1 => ?_⟩
          obtain ⟨hD, us, h1, h2⟩ := HR.lcNext (acc := acc) hl2 (x4.trans x5) hr5 k2
          have x5' : Ext ρ2 F3 (ρ5.take st2.length) F5 := by rw [← hl2]; exact (x4.trans x5).unpush
          refine ⟨fun j k H => k = ys1.length - j ∧ j ≤ ys1.length ∧ ∃ ρ6 F6 st6 acc6, Ext (ρ5.take st2.length) F5 ρ6 F6 ∧ ρ6.length = st6.length ∧ HR (ρ6 ++ [D]) F6 H (st6 ++ [some acc6]) ∧ lcL g1 ct1 ce (wipeE ev1 vs1) (ys1.drop j) st6 acc6 = some r1,
            ⟨ys1.length, rfl, Nat.zero_le _, ρ5.take st2.length, F5, st5.take st2.length, acc', .refl _ _, by rw [length_take_of hD, length_take_of k2], by rw [← take_get hD, ← take_get k2]; exact hr5.take _, e9⟩, ?_⟩
          rintro j k H6 ⟨rfl, hj, ρ6, F6, st6, acc6, x6, hl6, hr6, e11⟩
          obtain ⟨yg1, ys2⟩ := y1 F6 H6 (sameD x6.same) hr6.sub
          by_cases hltj : j < ys1.length
          · rw [List.drop_eq_getElem_cons hltj] at e11
            simp only [lcL, Option.bind_eq_some_iff] at e11
            obtain ⟨ev2, e12, p2, e13, e14⟩ := e11
            obtain ⟨go1, yl1⟩ := yg1 j ys1[j] (List.getElem?_eq_getElem hltj)
            refine .inr ⟨go1, fun H => ∃ ρ6 F6 st6 acc6, Ext (ρ5.take st2.length) F5 ρ6 F6 ∧ ρ6.length = st6.length ∧ HR (ρ6 ++ [D]) F6 H (st6 ++ [some acc6]) ∧ lcL g1 ct1 ce (wipeE ev1 vs1) (ys1.drop (j + 1)) st6 acc6 = some r1, fun H' w => ⟨ys1.length - (j + 1), by omega, rfl, hltj, w⟩, fun v1 H7 yv1 => ?_⟩
            obtain ⟨F7, gr7, d7⟩ := yl1 v1 H7 yv1
            have x7 : Ext ρ6 F6 ρ6 F7 := .of gr7
            refine lc_turn (R := fun acc st => lcL g1 ct1 ce (wipeE ev1 vs1) (ys1.drop (j + 1)) st acc = some r1) hl6 (hr6.grow gr7) ((sr2.mono ((x5'.trans x6).trans x7)).wipe vs1) d7 e12 e13 ?_ fun ρ8 F8 H8 st8 acc8 x8 hl8 hr8 e15 => ⟨ρ8, F8, st8, acc8, (x6.trans x7).trans x8, hl8, hr8, e15⟩
            split at e14
            · rename_i hp
              rw [if_pos hp]
              simp only [Option.bind_eq_some_iff] at e14
              obtain ⟨q, e16, e17⟩ := e14
              split at e17
              · rename_i y2 acc9 k3 k4
                split at e17
                · rename_i hlm
                  exact ⟨q, y2, acc9, e16, k3, k4, hlm, e17⟩
                · cases e17
              · cases e17
            · rename_i hp
              rw [if_neg hp]
              split at e14
              · rename_i acc9 k4
                exact ⟨acc9, k4, e14⟩
              · cases e14
          · have hx : j = ys1.length := by omega
            subst hx
            rw [List.drop_length] at e11
            cases e11
            exact .inl ⟨ys2, ρ6, F6, st6, acc6, (x2.trans x3).trans (x5'.trans x6), hl6, hr6, e10⟩
        · cases e8
    · have hx : i = xs.length := by omega
      subst hx
      rw [List.drop_length] at e3
      cases e3
      exact .inl ⟨ys, fin D ρ2 F2 H2 (x1.trans x2) hl2 hr2⟩
theorem lc2D_ok {K : PySem.W.Frag} {σ : L2.St} {H : Hp} {Q : VK} (h : tI K (cLc2 ci g ct ci1 g1 ct1 ce vs vs1) σ H Q) : tLc2 (tIt K ci) (tG K vs g) (tT K ct) (tIt K ci1) (tG K vs1 g1) (tT K ct1) (tI K ce) vs vs1 σ H Q := by
  obtain ⟨ρ, F, ev, st, w, st', hr, sr, e, post⟩ := h
  simp only [cLc2, Option.map_eq_some_iff] at e
  obtain ⟨⟨xs, st1⟩, e1, e2⟩ := e
  cases e2
  refine lc2_ok hr sr e1 fun D ρ' F' H' x hl hr' => ?_
  replace hl : ρ'.length = st1.length := hl
  have e3 : (st1 ++ [some xs])[st1.length]? = some (some xs) := by simp
  obtain ⟨a, vs, h1, h2, h3, h4, h5⟩ := hr'.freeze e3
  have ha : a = D := by
    rw [List.getElem?_append_right (by omega), hl] at h1
    simpa using h1.symm
  subst ha
  have t := h5.take st1.length
  have e4 : (ρ' ++ [a]).take st1.length = ρ' := by rw [List.take_append_of_le_length (by omega), List.take_of_length_le (by omega)]
  have e5 : ((st1 ++ [some xs]).set st1.length none).take st1.length = st1 := by
    rw [List.take_set_of_le (Nat.le_refl _), List.take_append_of_le_length (Nat.le_refl _), List.take_length]
  rw [e4, e5] at t
  exact post _ ρ' _ H' (x.trans (.upd h2)) t (.lst upd_same (h4.mono (same_upd h2)))
end
theorem se_lc2 {X : Cx} {elt tg iter tg1 iter1 : Expr} {ifs ifs1 : List Expr} {scope : Scope} {own : List (Str × Nat)} {pos : Pos} {ci ci1 : SI} {g g1 : GT} {ct ct1 : SB} {ce : SE} {vs1 : List Nat} (hc : X.calm = true) (hN : X.N.Nodup) (hi : PI X tg iter (tIt X.K ci)) (ok : BlkOk X.N X.env.scope scope own) (hv : ∀ i ∈ vs1, i ∈ own.map (·.2))
    (hg : ∀ (s : Shared) (H : Hp) (C : Addr) (cl : List (Str × Addr)) (fp : List Addr), PG (X.blk s H scope (compEnvC scope cl C X.env) fp) tg (tG X.K (own.map (·.2)) g)) (ht : ∀ (s : Shared) (H : Hp) (C : Addr) (cl : List (Str × Addr)) (fp : List Addr), PTs (X.blk s H scope (compEnvC scope cl C X.env) fp) ifs (tT X.K ct))
    (hi1 : ∀ (s : Shared) (H : Hp) (C : Addr) (cl : List (Str × Addr)) (fp : List Addr), PI (X.blk s H scope (compEnvC scope cl C X.env) fp) tg1 iter1 (tIt X.K ci1))
    (hg1 : ∀ (s : Shared) (H : Hp) (C : Addr) (cl : List (Str × Addr)) (fp : List Addr), PG (X.blk s H scope (compEnvC scope cl C X.env) fp) tg1 (tG X.K vs1 g1)) (ht1 : ∀ (s : Shared) (H : Hp) (C : Addr) (cl : List (Str × Addr)) (fp : List Addr), PTs (X.blk s H scope (compEnvC scope cl C X.env) fp) ifs1 (tT X.K ct1))
    (he : ∀ (s : Shared) (H : Hp) (C : Addr) (cl : List (Str × Addr)) (fp : List Addr), PE (X.blk s H scope (compEnvC scope cl C X.env) fp) elt (tI X.K ce)) (hs : ∀ x, foldedSetIterable iter X.env x = pure x := by exact fun _ => rfl) (hs1 : ∀ env x, foldedSetIterable iter1 env x = pure x := by exact fun _ _ => rfl) :
    PE X (.ListComp elt [⟨tg, iter, ifs, 0⟩, ⟨tg1, iter1, ifs1, 0⟩] scope pos) (tI X.K (cLc2 ci g ct ci1 g1 ct1 ce (own.map (·.2)) vs1)) := (pe_lc2 hc hN hi ok hv hg ht hi1 hg1 ht1 he hs hs1).weak fun _ _ _ h => lc2D_ok h
def lc2a (g : GT) (ct : SB) (ci1 : SI) (g1 : GT) (ct1 : SB) (ce : SE) (vs1 : List Nat) (ev : Ev) : Src × Sto → Option (List PyData × Sto)
  | (.fix xs, s) => lcL2 g ct ci1 g1 ct1 ce vs1 ev xs s []
  | _ => none
@[simp] theorem lc2a_f (g : GT) (ct : SB) (ci1 : SI) (g1 : GT) (ct1 : SB) (ce : SE) (vs1 : List Nat) (ev : Ev) (xs : List PyData) (s : Sto) : lc2a g ct ci1 g1 ct1 ce vs1 ev (.fix xs, s) = lcL2 g ct ci1 g1 ct1 ce vs1 ev xs s [] := rfl
@[simp] theorem cLc2_ap (ci : SI) (g : GT) (ct : SB) (ci1 : SI) (g1 : GT) (ct1 : SB) (ce : SE) (vs vs1 : List Nat) (ev : Ev) (st : Sto) : cLc2 ci g ct ci1 g1 ct1 ce vs vs1 ev st = ((ci ev st).bind (lc2a g ct ci1 g1 ct1 ce vs1 (wipeE ev vs))).map lcb := by
  unfold cLc2 lcR2
  congr
  funext p
  obtain ⟨q, s⟩ := p
  cases q <;> rfl
theorem lcL2_pure {g : GT} {ci1 : SI} {g1 : GT} {ct1 : SB} {ce : SE} {vs1 : List Nat} {ev : Ev} (f : PyData → List PyData) (st : Sto) :
    ∀ (xs : List PyData) (acc : List PyData), (∀ x ∈ xs, ∀ acc : List PyData, ∃ ev1 ys, g x ev = some ev1 ∧ ci1 ev1 (ex st [some acc]) = some (.fix ys, ex st [some acc]) ∧ (acc.length + (f x).length ≤ lim → lcL g1 ct1 ce (wipeE ev1 vs1) ys st acc = some (acc ++ f x, st))) →
    acc.length + (xs.flatMap f).length ≤ lim → lcL2 g bYes ci1 g1 ct1 ce vs1 ev xs st acc = some (acc ++ xs.flatMap f, st)
  | [], acc, _, _ => by simp [lcL2]
  | x :: xs, acc, h, hl => by
    obtain ⟨ev1, ys, e1, e2, e3⟩ := h x List.mem_cons_self acc
    have e2' : ci1 ev1 (st ++ [some acc]) = some (.fix ys, ex st [some acc]) := e2
    have g1 : (ex st [some acc])[st.length]? = some (some acc) := by rw [ex_get0]; rfl
    have g2 : (ex st [some acc]).take st.length = st := by simp
    rw [List.flatMap_cons, List.length_append] at hl
    have ih := lcL2_pure f st xs (acc ++ f x) (fun y hy => h y (List.mem_cons_of_mem _ hy)) (by rw [List.length_append]; omega)
    have e3' := e3 (by omega)
    simp only [lcL2, e1, bYes, e2', g1, g2, e3', ih, Option.bind_some, if_true]
    rw [List.flatMap_cons, List.append_assoc]
end Cm

set_option Elab.async false
set_option linter.all false
set_option maxHeartbeats 1000000
/-! a tuple from behind -/
namespace Cm
open PySem PySem.Spec PyProof.Rows L2
theorem back_places (n : Nat) : Builtin.Slice.slicePlaces ((n : Int) - 1) (-1) (-1) = n := by
  simp [Builtin.Slice.slicePlaces]; omega
section
variable {P : Program} {wd : World} {R : Around} {Er : Value → Shared → Prop} {h : Shared}
/-- where a slice with the step -1 and no ends goes -/
theorem back_applied {c : Addr} {x y z : Value} {n : Nat} {K : Int × Int × Nat → Shared → Prop} (is : h.heap.IsSliceOf c x y z) (ex : IsPart x none) (ey : IsPart y none) (ez : IsPart z (some (-1)))
    (go : K ((n : Int) - 1, -1, n) h) : wpAny (model P wd) R (Builtin.Slice.sliceApplied (.ref c) (pure (n : Int))) K Er h := by
  have ⟨ob, at_, _, fields⟩ := is
  simp only [Builtin.Slice.sliceApplied, Builtin.Slice.sliceFields]
  apply wpAny_bind
  have three : wpAny (model P wd) R (do let a ← field (.ref c) 0; let b ← field (.ref c) 1; let d ← field (.ref c) 2; pure (a, b, d)) (fun r s' => r = (x, y, z) ∧ s' = h) Er h := by
    apply wpAny_bind; apply wpAny_field at_ fields (x := x) rfl
    apply wpAny_bind; apply wpAny_field at_ fields (x := y) rfl
    apply wpAny_bind; apply wpAny_field at_ fields (x := z) rfl
    exact wpAny_pure ⟨rfl, rfl⟩
  refine wpAny_mono three (fun r s' ⟨e1, e2⟩ => ?_) (fun _ _ q => q)
  subst e1 e2
  apply wpAny_bind; apply HT.slicePart_ ez
  apply wpAny_bind; apply HT.slicePart_ ex
  apply wpAny_bind; apply HT.slicePart_ ey
  have adj : Builtin.Slice.sliceAdjust none none (-1) (n : Int) = ((n : Int) - 1, -1) := by simp [Builtin.Slice.sliceAdjust]
  apply wpAny_bind; apply wpAny_pure
  simp only [Option.getD_some, adj, back_places]
  exact wpAny_pure go
/-- the items that such a slice picks -/
theorem back_pick (xs : Array Value) : (List.range xs.size).filterMap (fun (k : Nat) => xs[((xs.size : Int) - 1 + (k : Int) * -1).toNat]?) = xs.toList.reverse := by
  have step : ∀ m : Nat, m ≤ xs.size → (List.range m).filterMap (fun (k : Nat) => xs[((xs.size : Int) - 1 + (k : Int) * -1).toNat]?) = xs.toList.reverse.take m := by
    intro m
    induction m with
    | zero => intro _; simp
    | succ m ih =>
      intro hm
      have at1 : ((xs.size : Int) - 1 + (m : Int) * -1).toNat = xs.size - 1 - m := by omega
      have lt1 : xs.size - 1 - m < xs.size := by omega
      have lt2 : m < xs.toList.reverse.length := by simp; omega
      have one : xs[((xs.size : Int) - 1 + (m : Int) * -1).toNat]? = some xs[xs.size - 1 - m] := by rw [at1]; exact Array.getElem?_eq_getElem lt1
      have last : xs.toList.reverse[m] = xs[xs.size - 1 - m] := by simp [List.getElem_reverse]
      rw [List.range_succ, List.filterMap_append, ih (by omega), List.take_succ_eq_append_getElem lt2, last]
      simp only [List.filterMap_cons, one, List.filterMap_nil]
  have all := step xs.size (Nat.le_refl _)
  rwa [List.take_of_length_le (by simp)] at all
/-- t[::-1] of a tuple is a new tuple -/
theorem back_item {t c : Addr} {its : Array Value} {x y z : Value} {K : Value → Shared → Prop} (tup : IsTup h.heap t its) (is : h.heap.IsSliceOf c x y z) (ex : IsPart x none) (ey : IsPart y none) (ez : IsPart z (some (-1))) (room : its.size ≤ sizeLine)
    (go : K (.ref h.heap.objs.size) { h with heap := h.heap.push { cls := .type "tuple", data := .seq its.toList.reverse.toArray } }) : wpAny (model P wd) R (getItem (.ref t) (.ref c)) K Er h := by
  have fits : sizeOk (.seq its.toList.reverse.toArray) := by
    show its.toList.reverse.toArray.size ≤ sizeLine
    simpa using room
  have slice : h.TypeIs (.ref c) "slice" := let ⟨ob, e, k, _⟩ := is; ⟨ob, e, k⟩
  simp only [getItem]
  try with_reducible apply wpAny_holding
  first | (apply wpAny_bind; apply wpAny_pure) | skip
  apply wpAny_bind; apply wpAny_sequenceKey tup.typeIs (by decide)
  apply wpAny_bind
  apply wpAny_callSpecial?_slot (name := Str.ofString "__getitem__") tup.typeIs PyProof.Rows.slot_tuple_getitem
  apply wpAny_call_entry PyProof.Rows.slot_tuple_getitem tup.typeIs entry_tuple_getitem _ (args_tuple_getitem _ _)
  show wpAny (model P wd) _ (do let xs ← Builtin.Tuple.tupleItemsOf (.ref t); _) _ _ h
  apply wpAny_bind; apply tupleItemsOf_ tup
  apply wpAny_bind; apply wpAny_typeOf slice
  rw [if_pos (by decide)]
  apply wpAny_bind; apply back_applied is ex ey ez
  have other : (((its.size : Int) - 1 == 0) && ((-1 : Int) == 1) && (its.size == its.size)) = false := by
    have : ((-1 : Int) == 1) = false := by decide
    simp [this]
  simp only [other, Bool.false_eq_true, if_false, back_pick]
  have made : wpAny (model P wd) R.in1 (Builtin.Tuple.tupleExact its.toList.reverse.toArray) (fun v g => v = .ref h.heap.objs.size ∧ g = { h with heap := h.heap.push { cls := .type "tuple", data := .seq its.toList.reverse.toArray } }) Er h :=
    wpAny_newObj_type ⟨rfl, rfl⟩ fits
  apply wpAny_bind
  refine wpAny_mono made (fun v g both => ?_) (fun _ _ q => q)
  rw [both.1, both.2]
  exact wpAny_pure ⟨_, rfl, wpAny_pure go⟩
end
/-- what t[::-1] asks of its tuple -/
def askBack (K : PySem.W.Frag) (te : TE) : TE := fun σ H Q => te σ H fun x G => ∃ (a : Addr) (xs : List V), x = .ref a ∧ SqT K G a xs ∧ ∀ p, G p = none → Q (.ref p) (upd G p (.tup xs.reverse))
theorem pe_back {X : Cx} {e : Expr} {te : TE} {k : Nat} {p1 p2 p3 pos : Pos} (run_e : PE X e te) : PE X (.Subscript e (.Slice none none (some (.UnaryOp .USub (.Constant (.int 1) k p1) p2)) p3) pos) (askBack X.K te) := by
  constructor
  intro pins s σ H Q inv asked
  apply Subscript_
  refine thn (run_e.run pins s σ H _ inv asked) ?_
  rintro _ s1 ⟨_, H1, inv1, rel, a, xs, rfl, seq, fin⟩
  cases rel
  apply wpAny_Slice
  refine thn (po_none.run pins s1 σ H1 (fun o G => o = none ∧ G = H1) inv1 ⟨rfl, rfl⟩) ?_
  rintro x s2 ⟨_, _, inv2, ex, rfl, rfl⟩
  refine thn (po_none.run pins s2 σ _ (fun o G => o = none ∧ G = _) inv2 ⟨rfl, rfl⟩) ?_
  rintro y s3 ⟨_, _, inv3, ey, rfl, rfl⟩
  have minus : PO X (some (.UnaryOp .USub (.Constant (.int 1) k p1) p2)) (tPart (tUn (rU fun i => .int (-i)) (tC (.int 1)))) := po_some (pe_un un_neg pe_int)
  refine thn (minus.run pins s3 σ _ (fun o G => o = some (-1) ∧ G = _) inv3 ⟨1, rfl, -1, rfl, rfl, rfl⟩) ?_
  rintro z s4 ⟨_, G, inv4, ez, rfl, rfl⟩
  have grown : Inv X pins σ G { s4 with heap := s4.heap.push { cls := .type "slice", data := .fields #[x, y, z] } } := inv4.kept (t' := s4.toks) (fun _ _ old => Heap.get?_push_of_some _ old)
  obtain ⟨its, vals, tup, room⟩ := grown.tuple seq
  have many := vals.length
  refine tail_any (ops := [.ref a, .ref s4.heap.objs.size]) tup.typeIs PyProof.Rows.slot_tuple_getitem.lookup ?_ (by with_unfolding_all rfl)
  apply back_item tup (Heap.IsSliceOf.new _ x y z) ex ey ez (by simp; omega)
  refine ⟨V.ref _, _, grown.laid (t' := s4.toks) (o := .tup xs.reverse) (fun _ _ old => Heap.get?_push_of_some _ old) (Nat.le_refl _) ?_, rfl, fin _ (grown.hok.fresh (Nat.le_refl _))⟩
  refine ⟨?_, _, vals.reverse, ⟨_, Heap.get?_push_size _ rfl, rfl, _, rfl⟩⟩
  show xs.reverse.length ≤ sizeLine
  simp
  omega
def fRevA : PyData → Option PyData
  | .list xs => some (.list xs.reverse)
  | .tuple xs => some (.tuple xs.reverse)
  | _ => none
@[simp] theorem fRevA_l (xs : List PyData) : fRevA (.list xs) = some (.list xs.reverse) := rfl
@[simp] theorem fRevA_t (xs : List PyData) : fRevA (.tuple xs) = some (.tuple xs.reverse) := rfl
/-- x[::-1], of a list by se_rev, of a tuple by pe_back -/
theorem se_revA {X : Cx} {e : Expr} {c : SE} {k : Nat} {p1 p2 p3 pos : Pos} (he : PE X e (tI X.K c)) : PE X (.Subscript e (.Slice none none (some (.UnaryOp .USub (.Constant (.int 1) k p1) p2)) p3) pos) (tI X.K (cD1 fRevA c)) := by
  have onList := se_rev (pos := pos) (k := k) (p1 := p1) (p2 := p2) (p3 := p3) he
  have onTup := pe_back (pos := pos) (k := k) (p1 := p1) (p2 := p2) (p3 := p3) he
  refine ⟨fun pins s σ H Q inv asked => ?_⟩
  obtain ⟨ρ, F, ev, st, w, st', hr, sr, eq, post⟩ := asked
  simp only [cD1, Option.bind_eq_some_iff, Option.map_eq_some_iff] at eq
  obtain ⟨⟨u, st1⟩, eu, d, ed, z, ez, last⟩ := eq
  cases d with
  | list xs =>
    refine onList.run pins s σ H Q inv ⟨ρ, F, ev, st, w, st', hr, sr, ?_, post⟩
    simp only [cD1, Option.bind_eq_some_iff, Option.map_eq_some_iff]
    exact ⟨⟨u, st1⟩, eu, .list xs, ed, z, ez, last⟩
  | tuple xs =>
    cases ez
    cases last
    refine onTup.run pins s σ H Q inv ⟨ρ, F, ev, st, u, st1, hr, sr, eu, fun v ρ1 F1 H1 grow hr1 wr => ?_⟩
    obtain ⟨a, vs, rfl, at_, _, items⟩ := (rd_ok (K := X.K) hr1 wr ed).tup hr1.sub
    exact ⟨a, vs, rfl, SqT.of at_, fun p free => (post.grow grow hr1).tup hr1.sub items.reverse p free⟩
  | _ => cases ez
end Cm

set_option Elab.async false
set_option linter.all false
set_option maxRecDepth 100000
set_option maxHeartbeats 4000000
/-! sorted(set(x)), sorted(x, reverse=True), list(range(..)) -/
namespace Cm
open PySem PySem.Spec PyProof.Rows L2
section
variable {P : Program} {w : World} {A : Around} {E : Value → Shared → Prop} {s : Shared}
/-- an empty set, as set(..) lays it -/
abbrev void (w : World) : Obj := { cls := .type "set", dict := none, data := .set #[] 0 (.fresh 0 0 (!w.params.followText "set-order")) }
/-- what set(..) leaves: at the first free place the set of these numbers; all else stands -/
def Filled (w : World) (g : Heap) (ns : List Int) (g' : Heap) : Prop := ∃ c, SetR w g' g.objs.size (fun j => decide (j ∈ ns)) c ∧ c ≤ ns.length ∧ Stands g g'
abbrev FilledQ (w : World) (s : Shared) (ns : List Int) : Value → Shared → Prop := fun r t => r = .none ∧ ∃ g' tk, t = { s with heap := g', toks := tk } ∧ Filled w s.heap ns g'
theorem ints_pick {us : List Value} {ns : List Int} (hi : IntsAre us ns) {j : Nat} {v : Value} (e : us[j]? = some v) : ∃ k t, ns[j]? = some k ∧ v = .int k t := by
  obtain ⟨t, q⟩ := intsAre_get hi e
  have lt : j < ns.length := by
    have := hi.length
    have := lt_of_get e
    omega
  refine ⟨ns[j], t, List.getElem?_eq_getElem lt, ?_⟩
  rw [q, List.getD_eq_getElem?_getD, List.getElem?_eq_getElem lt]
  rfl
theorem fill_list {l : Addr} {its : Array Value} {ns : List Int} (hh : A.handled = none) (hl : s.heap.IsList l its) (hi : IntsAre its.toList ns) (few : ns.length + 1 < scanBound) :
    codeAny (model P w) A (.call (.builtin "set.__init__") ⟨[.ref s.heap.objs.size, .ref l], []⟩) (wants (FilledQ w s ns) E) { s with heap := s.heap.push (void w) } := by
  have atS : (s.heap.push (void w)).get? s.heap.objs.size = some (void w) := Heap.get?_push_size _ rfl
  have ty : Shared.TypeIs { s with heap := s.heap.push (void w) } (.ref s.heap.objs.size) "set" := ⟨_, atS, rfl⟩
  refine codeAny_call_builtin F.called_set.init.plain F.entry_set_init (check_set_init_1 ty ?_)
  obtain ⟨⟨c0, d0, x0, y0⟩, at0, e1, n0, e2⟩ := hl
  dsimp only at e1 e2
  subst e1 e2
  have many : its.size = ns.length := by
    have := hi.length
    rwa [Array.length_toList] at this
  have at1 : (s.heap.push (void w)).get? l = some { cls := .type "list", dict := d0, data := .seq its n0, slots := y0 } := Heap.get?_push_of_some _ at0
  have is1 : (s.heap.push (void w)).IsList l its := ⟨_, at1, rfl, n0, rfl⟩
  have low : l < s.heap.objs.size := Heap.lt_size at0
  have no1 := F.sub_list_set
  have no2 := F.sub_list_frozenset
  have no3 : (Value.type "list" == Value.type "dict") = false := by decide
  unfold Builtin.«set.__init__»
  unfold noKeywords Builtin.Frozenset.updateFrom
  generalize keep : pyIter = itr
  wp_walk
  subst keep
  apply wpAny_pyIter_list is1
  apply wpAny_bind
  apply wpAny_runValue
  have sz : (s.heap.push (void w)).objs.size = s.heap.objs.size + 1 := Heap.size_push ..
  have far : l ≠ (s.heap.push (void w)).objs.size := sz ▸ Nat.ne_of_lt (Nat.lt_succ_of_lt low)
  have apart : s.heap.objs.size ∉ [(s.heap.push (void w)).objs.size, l] := by
    rw [sz]
    intro q
    rcases List.mem_cons.mp q with q | q
    · exact Nat.ne_of_lt (Nat.lt_succ_self _) q
    · exact Nat.ne_of_gt low (List.mem_singleton.mp q)
  have calm3 : A.in1.in1.handled = none := by simp [hh]
  refine set_update_ints (Walks.list calm3 _ l far its).toS s.heap.objs.size apart ns many few (fun j v e => ints_pick hi (by rw [Array.getElem?_toList]; exact e)) its.size 0 _ rfl (Nat.zero_le _) ?begin ?first ?last
  case begin =>
    refine ⟨⟨_, Heap.get?_push_size _ rfl, rfl, rfl⟩, ?_⟩
    exact is1.push _
  case first =>
    refine ⟨0, Nat.le_refl _, setR_new_at ?_⟩
    exact Heap.get?_push_of_some _ atS
  rintro ⟨g', gs', dr', tk', os'⟩ c moved le isS
  cases show gs' = s.gens from moved.gens
  cases show dr' = s.drawn from moved.drawn
  cases show os' = s.os from moved.os
  show wpAny _ _ _ _ _ _
  apply wpAny_pure
  change wpAny (model P w) _ (ret Value.none) _ _ _
  refine wpAny_pure ⟨rfl, g', tk', rfl, c, isS, many ▸ le, fun b o e => ?_⟩
  have lt := Heap.lt_size e
  refine moved.heap b o ?_ (Heap.get?_push_of_some _ (Heap.get?_push_of_some _ e))
  intro q
  rcases List.mem_cons.mp q with q | q
  · exact Nat.ne_of_lt lt q
  · rw [List.mem_singleton.mp q, sz] at lt
    exact Nat.lt_irrefl _ (Nat.lt_of_succ_lt lt)
theorem call_set_ints {l : Addr} {its : Array Value} {ns : List Int} {Q : Value → Shared → Prop} (hh : A.handled = none) (hl : s.heap.IsList l its) (hi : IntsAre its.toList ns) (few : ns.length + 1 < scanBound)
    (go : ∀ g' tk, Filled w s.heap ns g' → Q (.ref s.heap.objs.size) { s with heap := g', toks := tk }) : wpAny (model P w) A (call (.type "set") [.ref l]) Q E s := by
  have ⟨c, tl, mro⟩ := F.called_set.mro
  have made := F.called_set.made
  have sub := F.called_set.sub
  have not1 := F.called_set.notType
  have can := F.called_set.canCreate
  have chk := F.typeCall_set_1 (.ref l)
  apply wpAny_call
  apply codeAny_of_tree
  change wpAny (model P w) _ (callAny (.type "set") _) _ _ _
  apply wpAny_pure
  refine ⟨Code.quiet_builtin _ (by decide +kernel), ?_⟩
  apply codeAny_builtin F.entry_type_call
  have wt := weight_type_call_type "set" [.ref l] []
  rw [Around.under_plain wt rfl]
  repeat' (first | assumption | wp_step)
  refine codeAny_mono (code_set_led1 (.ref l) (E := E) (Q₁ := fun o t => o = .ref s.heap.objs.size ∧ t = { s with heap := s.heap.push (void w) }) ⟨rfl, rfl⟩) fun r t hr => ?_
  rcases r with _ | fl
  · exact hr
  cases fl with
  | ret o =>
    obtain ⟨rfl, rfl⟩ := hr
    have ty : Shared.TypeIs { s with heap := s.heap.push (void w) } (.ref s.heap.objs.size) "set" := ⟨_, Heap.get?_push_size _ rfl, rfl⟩
    have look := F.called_set.init.lookup
    have bnd := F.called_set.init.bind (.ref s.heap.objs.size)
    repeat' (first | assumption | wp_step)
    refine codeAny_mono (fill_list (E := E) (by simp [hh]) hl hi few) fun r2 t2 hr2 => ?_
    rcases r2 with _ | f2
    · exact hr2
    cases f2 with
    | ret o2 =>
      obtain ⟨rfl, g', tk, rfl, fd⟩ := hr2
      repeat' (first | assumption | wp_step)
      exact go g' tk fd
    | _ => exact hr2.elim
  | _ => exact hr.elim
end
/-! ### numbers, each once, ascending -/
def putU (x : Int) : List Int → List Int
  | [] => [x]
  | y :: ys => if x < y then x :: y :: ys else if x = y then y :: ys else y :: putU x ys
def setI : List Int → List Int
  | [] => []
  | x :: xs => putU x (setI xs)
theorem mem_putU {x z : Int} : ∀ {ys : List Int}, z ∈ putU x ys ↔ z = x ∨ z ∈ ys
  | [] => by simp [putU]
  | y :: ys => by
    rw [putU]
    split
    · simp
    · split
      · rename_i h
        subst h
        simp
      · simp only [List.mem_cons, mem_putU (ys := ys)]
        constructor
        · rintro (h | h | h)
          · exact .inr (.inl h)
          · exact .inl h
          · exact .inr (.inr h)
        · rintro (h | h | h)
          · exact .inr (.inl h)
          · exact .inl h
          · exact .inr (.inr h)
theorem mem_setI {z : Int} : ∀ {ns : List Int}, z ∈ setI ns ↔ z ∈ ns
  | [] => by simp [setI]
  | x :: xs => by rw [setI, mem_putU, mem_setI (ns := xs), List.mem_cons]
theorem putU_asc {x : Int} : ∀ {ys : List Int}, ys.Pairwise (· < ·) → (putU x ys).Pairwise (· < ·)
  | [], _ => by simp [putU]
  | y :: ys, h => by
    have h' := List.pairwise_cons.mp h
    rw [putU]
    split
    · rename_i c
      refine List.Pairwise.cons (fun z hz => ?_) h
      rcases List.mem_cons.mp hz with rfl | hz
      · exact c
      · have := h'.1 z hz
        omega
    · split
      · exact h
      · refine List.Pairwise.cons (fun z hz => ?_) (putU_asc h'.2)
        rcases mem_putU.mp hz with rfl | hz
        · omega
        · exact h'.1 z hz
theorem setI_asc : ∀ ns : List Int, (setI ns).Pairwise (· < ·)
  | [] => List.Pairwise.nil
  | x :: xs => putU_asc (setI_asc xs)
theorem asc_uniq : ∀ {xs ys : List Int}, xs.Pairwise (· < ·) → ys.Pairwise (· < ·) → (∀ k, k ∈ xs ↔ k ∈ ys) → xs = ys
  | [], [], _, _, _ => rfl
  | [], y :: ys, _, _, h => absurd ((h y).mpr List.mem_cons_self) (by simp)
  | x :: xs, [], _, _, h => absurd ((h x).mp List.mem_cons_self) (by simp)
  | x :: xs, y :: ys, h1, h2, h => by
    have a := List.pairwise_cons.mp h1
    have b := List.pairwise_cons.mp h2
    have e : x = y := by
      rcases List.mem_cons.mp ((h x).mp List.mem_cons_self) with q | q
      · exact q
      · rcases List.mem_cons.mp ((h y).mpr List.mem_cons_self) with z | z
        · exact z.symm
        · have := b.1 x q
          have := a.1 y z
          omega
    subst e
    refine congrArg (x :: ·) (asc_uniq a.2 b.2 fun k => ⟨fun hk => ?_, fun hk => ?_⟩)
    · rcases List.mem_cons.mp ((h k).mp (List.mem_cons_of_mem _ hk)) with q | q
      · have := a.1 k hk
        omega
      · exact q
    · rcases List.mem_cons.mp ((h k).mpr (List.mem_cons_of_mem _ hk)) with q | q
      · have := b.1 k hk
        omega
      · exact q
theorem setI_uniq {ns ms : List Int} (h : ms.Pairwise (· < ·)) (e : ∀ k, k ∈ ms ↔ k ∈ ns) : ms = setI ns :=
  asc_uniq h (setI_asc ns) fun k => (e k).trans mem_setI.symm
def fSetSorted : PyData → Option PyData
  | .list xs => (asInts xs).bind fun ns => if ns.length < 64 then some (.list ((setI ns).map .int)) else none
  | .tuple xs => (asInts xs).bind fun ns => if ns.length < 64 then some (.list ((setI ns).map .int)) else none
  | _ => none
/-- x[::-1] of sorted(x): what reverse=True does -/
def fSortRev : PyData → Option PyData
  | .list xs => (asInts xs).map fun ns => .list ((sortI ns).reverse.map .int)
  | _ => none
theorem sortRev_uniq {ns ms : List Int} (p : ms.Perm ns) (h : ms.Pairwise (· ≥ ·)) : ms = (sortI ns).reverse := by
  have : ms.reverse = sortI ns := sortI_uniq ((List.reverse_perm ms).trans p) (List.pairwise_reverse.mpr h)
  rw [← this, List.reverse_reverse]
section
variable {X : Cx} {e e2 : Expr} {p p2 q pos : Pos} {c c2 : SE}
/-- set(x), x a list or a tuple of not too many ints -/
abbrev rSetI (w : World) (K : PySem.W.Frag) : List V → Hp → VK → Prop := fun vs H Q => ∃ (a : Addr) (ns : List Int), vs = [V.ref a] ∧ (SqL K H a (ns.map V.int) ∨ SqT K H a (ns.map V.int)) ∧ ns.length < 64 ∧
  ∀ (p : Addr) (n : Nat), n ≤ ns.length → H p = none → Q (.ref p) (upd H p (SetO w p (fun j => decide (j ∈ ns)) n))
theorem cr_setI (hc : X.calm = true) : CallR X (.type "set") (rSetI X.w X.K) := by
  intro pins s σ H vs us Q inv rel asked
  obtain ⟨a, ns, rfl, seq, few, go⟩ := asked
  rw [Vals.ref1 rel]
  have bound : ns.length + 1 < scanBound := by unfold scanBound; omega
  have fin : ∀ g' tk n, SetR X.w g' s.heap.objs.size (fun j => decide (j ∈ ns)) n → n ≤ ns.length → Stands s.heap g' → EP X pins σ Q (.ref s.heap.objs.size) { s with heap := g', toks := tk } := fun g' tk n isS le st =>
    ⟨.ref s.heap.objs.size, upd H s.heap.objs.size (SetO X.w s.heap.objs.size (fun j => decide (j ∈ ns)) n), inv.laid st (Nat.le_refl _) (setO_new isS), rfl, go _ n le (inv.hok.fresh (Nat.le_refl _))⟩
  rcases seq with sl | sq
  · obtain ⟨its, rv, pl, _⟩ := inv.list sl
    refine call_set_ints (inv.ok.hd hc) pl.isList (by simpa using rv.ints) bound ?_
    rintro g' tk ⟨n, isS, le, st⟩
    exact fin g' tk n isS le st
  · obtain ⟨its, rv, pl, _⟩ := inv.tuple sq
    exact call_set_tupI ns (inv.ok.hd hc) pl (by simpa using rv.ints) bound fun g' tk n isS le st => fin g' tk n isS le st
theorem Grow.side {F H : Hp} {p : Addr} {o : HO} (h : Same F H) (n : H p = none) : Grow F H F (upd H p o) := ⟨Same.refl _, same_upd n, h.trans (same_upd n), fun _ _ _ z => z⟩
theorem se_sortedSet (hc : X.calm = true) (hg : Gl X "sorted") (hm : X.mg "sorted" = none) (hg2 : Gl X "set") (hm2 : X.mg "set" = none) (ha : PE X e (tI X.K c)) (he : Bare1 X e [] := by rfl)
    (he2 : Bare1 X (.Call (.Name "set" p2) [e] [] q) [] := by rfl) : PE X (.Call (.Name "sorted" p) [.Call (.Name "set" p2) [e] [] q] [] pos) (tI X.K (cD1 fSetSorted c)) := by
  have inner : PE X (.Call (.Name "set" p2) [e] [] q) _ := pe_callTy (cr_setI hc) hg2 hm2 PyProof.Rows.boot_set (pa_cons ha pa_nil he) (by decide) (by decide) he
  refine (pe_callB (cr_sortedSet hc) hg hm PyProof.Rows.boot_sorted (pa_cons inner pa_nil he2) (by decide) (by decide) he2).weak fun σ H Q ⟨ρ, F, ev, st, w, st', hr, sr, eq, post⟩ => ?_
  simp only [cD1, Option.bind_eq_some_iff, Option.map_eq_some_iff] at eq
  obtain ⟨⟨u, st1⟩, eu, d, ed, z, ez, last⟩ := eq
  cases last
  refine ⟨ρ, F, ev, st, u, st1, hr, sr, eu, fun v ρ1 F1 H1 x1 hr1 wr => ?_⟩
  have rr := rd_ok (K := X.K) hr1 wr ed
  have fin : ∀ (a : Addr) (ns : List Int), v = .ref a → (SqL X.K H1 a (ns.map V.int) ∨ SqT X.K H1 a (ns.map V.int)) → ns.length < 64 → z = .list ((setI ns).map .int) → rSetI X.w X.K [v] H1 fun x H2 => rSortedSet X.w [x] H2 Q := fun a ns ev' sq few ez' => by
    subst ev' ez'
    refine ⟨a, ns, rfl, sq, few, fun p n le np => ⟨p, _, n, rfl, upd_same, by omega, fun ms p' asc mem _ np' => ?_⟩⟩
    have em : ms = setI ns := setI_uniq asc fun k => by rw [mem k, decide_eq_true_iff]
    subst em
    have g1 : Grow F1 H1 F1 (upd H1 p (SetO X.w p (fun j => decide (j ∈ ns)) n)) := .side hr1.sub np
    exact (post.grow x1 (hr1.grow g1)).lst (hr1.grow g1).sub DqA.ints p' np'
  cases d with
  | list xs =>
    simp only [fSetSorted, Option.bind_eq_some_iff] at ez
    obtain ⟨ns, e1, e2⟩ := ez
    split at e2
    · rename_i few
      cases e2
      obtain ⟨a, vs, ea, sq, dq⟩ := rr.list hr1.sub
      rw [asInts_eq e1] at dq
      rw [dq.of_ints] at sq
      exact fin a ns ea (.inl sq) few rfl
    · cases e2
  | tuple xs =>
    simp only [fSetSorted, Option.bind_eq_some_iff] at ez
    obtain ⟨ns, e1, e2⟩ := ez
    split at e2
    · rename_i few
      cases e2
      obtain ⟨a, vs, ea, sq, _, dq⟩ := rr.tup hr1.sub
      rw [asInts_eq e1] at dq
      rw [dq.of_ints] at sq
      exact fin a ns ea (.inr (SqT.of sq)) few rfl
    · cases e2
  | _ => cases ez
theorem se_sortedRev {kp : Pos} {b : Expr} (hg : Gl X "sorted") (hm : X.mg "sorted" = none) (ha : PE X e (tI X.K c)) (hb : PE X b (tI X.K (cD (.bool true)))) (he : backTo pos (starEach [e] X.env) = (false, eval e X.env) :: backTo pos (starEach [] X.env) := by rfl) (h1 : NoStar X [e] pos := by rfl)
    (h2 : Named X [⟨some "reverse", b, kp⟩] pos := by rfl) (h3 : (backToKw pos (keywordEach [⟨some "reverse", b, kp⟩] X.env)).any (·.1.isNone) = false := by rfl) (h4 : NamesAre X [⟨some "reverse", b, kp⟩] pos [Str.ofString "reverse"] := by rfl) (he1 : Bare1 X e [] := by rfl) :
    PE X (.Call (.Name "sorted" p) [e] [⟨some "reverse", b, kp⟩] pos) (tI X.K (cD1 fSortRev c)) := by
  refine (pe_callBK (cr_sortedRev (b := true)) hg hm PyProof.Rows.boot_sorted (pa_cons ha pa_nil he1) (pk_cons hb pk_nil) (by decide) (by decide) he h1 h2 h3 h4).weak fun σ H Q ⟨ρ, F, ev, st, w, st', hr, sr, eq, post⟩ => ?_
  simp only [cD1, Option.bind_eq_some_iff, Option.map_eq_some_iff] at eq
  obtain ⟨⟨u, st1⟩, eu, d, ed, z, ez, last⟩ := eq
  cases last
  refine ⟨ρ, F, ev, st, u, st1, hr, sr, eu, fun v ρ1 F1 H1 x1 hr1 wr => ⟨ρ1, F1, ev, st1, _, st1, hr1, sr.mono x1, rfl, fun v2 ρ2 F2 H2 x2 hr2 wr2 => ?_⟩⟩
  cases wr2
  have rr := rd_ok (K := X.K) hr2 (wr.mono x2) ed
  cases d with
  | list xs =>
    simp only [fSortRev, Option.map_eq_some_iff] at ez
    obtain ⟨ns, e1, rfl⟩ := ez
    obtain ⟨a, vs, rfl, sq, dq⟩ := rr.list hr2.sub
    rw [asInts_eq e1] at dq
    rw [dq.of_ints] at sq
    refine ⟨a, ns, rfl, rfl, sq, fun ms p' pm od np' => ?_⟩
    have em : ms = (sortI ns).reverse := sortRev_uniq pm od
    subst em
    exact (post.grow (x1.trans x2) hr2).lst hr2.sub DqA.ints p' np'
  | _ => cases ez
/-! ### list(range(..)), tuple(range(..)) -/
def rgFit (a b : Int) : Bool := big a && big b && decide ((b - a).toNat ≤ lim)
def rg2 (k : List PyData → PyData) : PyData → PyData → Option PyData
  | .int a, .int b => if rgFit a b then some (k (rangeD a (b - a).toNat)) else none
  | _, _ => none
def rg1 (k : List PyData → PyData) : PyData → Option PyData
  | .int b => if rgFit 0 b then some (k (rangeD 0 b.toNat)) else none
  | _ => none
theorem rg_ok {a b : Int} (h : rgFit a b = true) : RgOk a b := by
  simp only [rgFit, Bool.and_eq_true, big, decide_eq_true_iff] at h
  have le : (b - a).toNat ≤ 1000000 := h.2
  refine ⟨by omega, by omega, by omega, by omega, Nat.le_trans le (by decide)⟩
theorem dqa_rg {F : Hp} (a b : Int) : DqA F (rgV a b) (rangeD a (b - a).toNat) := by
  unfold rgV rangeD
  have h : ∀ ks : List Nat, DqA F (ks.map fun i => V.int (a + (i : Nat))) (ks.map fun k => PyData.int (a + (k : Nat))) := fun ks => by
    induction ks with
    | nil => exact .nil
    | cons k ks ih => exact .cons (.int _) ih
  exact h _
theorem rg2_ask {k : List PyData → PyData} {σ : L2.St} {H : Hp} {Q : VK} {T : Int → Int → Hp → Prop} (h : tI X.K (cD2 (rg2 k) c c2) σ H Q)
    (fin : ∀ a b F H1, Same F H1 → RgOk a b → Rep F H1 (k (rangeD a (b - a).toNat)) Q → T a b H1) : tRg2 (tI X.K c) (tI X.K c2) σ H T := by
  obtain ⟨ρ, F, ev, st, w, st', hr, sr, eq, post⟩ := h
  simp only [cD2, Option.bind_eq_some_iff, Option.map_eq_some_iff] at eq
  obtain ⟨⟨u, st1⟩, eu, ⟨u2, st2⟩, eu2, x, ex, y, ey, z, ez, last⟩ := eq
  cases last
  refine ⟨ρ, F, ev, st, u, st1, hr, sr, eu, fun v ρ1 F1 H1 x1 hr1 wr => ⟨ρ1, F1, ev, st1, u2, st2, hr1, sr.mono x1, eu2, fun v2 ρ2 F2 H2 x2 hr2 wr2 => ?_⟩⟩
  have r1 := rd_ok (K := X.K) hr2 (wr.mono x2) ex
  have r2 := rd_ok (K := X.K) hr2 wr2 ey
  unfold rg2 at ez
  split at ez
  · split at ez
    · rename_i ok
      cases ez
      cases r1.int
      cases r2.int
      exact ⟨_, _, rfl, rfl, fin _ _ F2 H2 hr2.sub (rg_ok ok) (post.grow (x1.trans x2) hr2)⟩
    · cases ez
  · cases ez
theorem rg1_ask {k : List PyData → PyData} {σ : L2.St} {H : Hp} {Q : VK} {T : Int → Int → Hp → Prop} (h : tI X.K (cD1 (rg1 k) c) σ H Q)
    (fin : ∀ b F H1, Same F H1 → RgOk 0 b → Rep F H1 (k (rangeD 0 (b - 0).toNat)) Q → T 0 b H1) : tRg1 (tI X.K c) σ H T := by
  obtain ⟨ρ, F, ev, st, w, st', hr, sr, eq, post⟩ := h
  simp only [cD1, Option.bind_eq_some_iff, Option.map_eq_some_iff] at eq
  obtain ⟨⟨u, st1⟩, eu, x, ex, z, ez, last⟩ := eq
  cases last
  refine ⟨ρ, F, ev, st, u, st1, hr, sr, eu, fun v ρ1 F1 H1 x1 hr1 wr => ?_⟩
  have r1 := rd_ok (K := X.K) hr1 wr ex
  unfold rg1 at ez
  split at ez
  · split at ez
    · rename_i b ok
      cases ez
      cases r1.int
      refine ⟨_, rfl, fin _ F1 H1 hr1.sub (rg_ok ok) ?_⟩
      rw [Int.sub_zero]
      exact post.grow x1 hr1
    · cases ez
  · cases ez
section
variable {p0 : Pos}
theorem se_listRg2 (hc : X.calm = true) (hg : Gl X "list") (hm : X.mg "list" = none) (hg2 : Gl X "range") (hm2 : X.mg "range" = none) (ha : PE X e (tI X.K c)) (hb : PE X e2 (tI X.K c2)) (n1 : Bare1 X e [e2] := by rfl) (n2 : Bare1 X e2 [] := by rfl) (n3 : NoStar X [e2] p0 := by rfl)
    (n4 : Bare1 X (.Call (.Name "range" p) [e, e2] [] p0) [] := by rfl) : PE X (.Call (.Name "list" p2) [.Call (.Name "range" p) [e, e2] [] p0] [] pos) (tI X.K (cD2 (rg2 .list) c c2)) :=
  (pe_listRg hc hg hm (prg_2 hg2 hm2 ha hb n1 n2 n3) n4).weak fun σ H Q h => rg2_ask h fun a b F H1 hs ok rp => ⟨ok, fun p np => rp.lst hs (dqa_rg a b) p np⟩
theorem se_tupRg2 (hc : X.calm = true) (hg : Gl X "tuple") (hm : X.mg "tuple" = none) (hg2 : Gl X "range") (hm2 : X.mg "range" = none) (ha : PE X e (tI X.K c)) (hb : PE X e2 (tI X.K c2)) (n1 : Bare1 X e [e2] := by rfl) (n2 : Bare1 X e2 [] := by rfl) (n3 : NoStar X [e2] p0 := by rfl)
    (n4 : Bare1 X (.Call (.Name "range" p) [e, e2] [] p0) [] := by rfl) : PE X (.Call (.Name "tuple" p2) [.Call (.Name "range" p) [e, e2] [] p0] [] pos) (tI X.K (cD2 (rg2 .tuple) c c2)) :=
  (pe_tupRg hc hg hm (prg_2 hg2 hm2 ha hb n1 n2 n3) n4).weak fun σ H Q h => rg2_ask h fun a b F H1 hs ok rp => ⟨ok, fun p np => rp.tup hs (dqa_rg a b) p np⟩
theorem se_listRg1 (hc : X.calm = true) (hg : Gl X "list") (hm : X.mg "list" = none) (hg2 : Gl X "range") (hm2 : X.mg "range" = none) (ha : PE X e (tI X.K c)) (n1 : Bare1 X e [] := by rfl)
    (n4 : Bare1 X (.Call (.Name "range" p) [e] [] p0) [] := by rfl) : PE X (.Call (.Name "list" p2) [.Call (.Name "range" p) [e] [] p0] [] pos) (tI X.K (cD1 (rg1 .list) c)) :=
  (pe_listRg hc hg hm (prg_1 hg2 hm2 ha n1) n4).weak fun σ H Q h => rg1_ask h fun b F H1 hs ok rp => ⟨ok, fun p np => rp.lst hs (dqa_rg 0 b) p np⟩
theorem se_tupRg1 (hc : X.calm = true) (hg : Gl X "tuple") (hm : X.mg "tuple" = none) (hg2 : Gl X "range") (hm2 : X.mg "range" = none) (ha : PE X e (tI X.K c)) (n1 : Bare1 X e [] := by rfl)
    (n4 : Bare1 X (.Call (.Name "range" p) [e] [] p0) [] := by rfl) : PE X (.Call (.Name "tuple" p2) [.Call (.Name "range" p) [e] [] p0] [] pos) (tI X.K (cD1 (rg1 .tuple) c)) :=
  (pe_tupRg hc hg hm (prg_1 hg2 hm2 ha n1) n4).weak fun σ H Q h => rg1_ask h fun b F H1 hs ok rp => ⟨ok, fun p np => rp.tup hs (dqa_rg 0 b) p np⟩
/-- list(range(n)), to be changed -/
def cRgM (c : SE) : SE := fun ev st => (c ev st).bind fun p => match p.1 with
  | .d (.int b) => if rgFit 0 b then some (.l p.2.length, p.2 ++ [some (rangeD 0 b.toNat)]) else none
  | _ => none
theorem se_rgM (hc : X.calm = true) (hg : Gl X "list") (hm : X.mg "list" = none) (hg2 : Gl X "range") (hm2 : X.mg "range" = none) (ha : PE X e (tI X.K c)) (n1 : Bare1 X e [] := by rfl)
    (n4 : Bare1 X (.Call (.Name "range" p) [e] [] p0) [] := by rfl) : PE X (.Call (.Name "list" p2) [.Call (.Name "range" p) [e] [] p0] [] pos) (tI X.K (cRgM c)) :=
  (pe_listRg hc hg hm (prg_1 hg2 hm2 ha n1) n4).weak fun σ H Q ⟨ρ, F, ev, st, w, st', hr, sr, eq, post⟩ => by
    simp only [cRgM, Option.bind_eq_some_iff] at eq
    obtain ⟨⟨u, st1⟩, eu, ez⟩ := eq
    refine ⟨ρ, F, ev, st, u, st1, hr, sr, eu, fun v ρ1 F1 H1 x1 hr1 wr => ?_⟩
    split at ez
    · rename_i b q
      cases q
      split at ez
      · rename_i ok
        cases ez
        cases wr
        refine ⟨b, rfl, rg_ok ok, fun p np => post _ _ _ _ (x1.trans (.push p)) (hr1.push np ?_) (.pushed hr1)⟩
        have := dqa_rg (F := F1) 0 b
        rwa [Int.sub_zero] at this
      · cases ez
    · cases ez
end
end
end Cm

set_option Elab.async false
set_option linter.all false
set_option maxRecDepth 100000
set_option maxHeartbeats 4000000
/-! what is known of the values: runs that go through in every layout of the store -/
namespace Cm
open PySem PySem.Spec PyProof.Rows L2
/-- the box's three cells -/
structure Bx where
  x : Int
  y : Int
  n : Int
def lay (B : Bx) : List PyData := [.int B.x, .int B.y, .int B.n]
structure BxOk (m : Nat) (B : Bx) : Prop where
  x0 : 0 ≤ B.x
  y0 : 0 ≤ B.y
  n0 : 0 ≤ B.n
  n1 : B.n ≤ m
  m1 : (m : Int) ≤ 1000000000000
theorem bx_up {m c : Nat} {B : Bx} (h : BxOk m B) (h1 : m ≤ c) (h2 : c ≤ 1000000000000) : BxOk c B := ⟨h.x0, h.y0, h.n0, by have := h.n1; omega, by omega⟩
def Mx : Nat := 1000000000000
theorem bx_le {m c : Nat} {B : Bx} (h : BxOk m B) (h1 : m ≤ c) (h2 : c ≤ Mx) : BxOk c B := bx_up h h1 h2
/-- a value in no layout yet: data, the box, a list of one's own -/
inductive W where
  | d (x : PyData)
  | b
  | c (i : Nat)
/-- a layout: the store ahead, with the box in it -/
structure Th where
  st : Sto
  L : Sto
  b : Nat
  ok : b < st.length
abbrev Wv := List (Option W)
def Th.at (θ : Th) (i : Nat) : Nat := θ.st.length + (θ.L.length + i)
def Th.u (θ : Th) : W → U
  | .d x => .d x
  | .b => .l θ.b
  | .c i => .l (θ.at i)
def Th.ev (θ : Th) (e : Wv) : Ev := e.map (Option.map θ.u)
def Th.sto (θ : Th) (B : Bx) (cs : Sto) : Sto := ex (θ.st.set θ.b (some (lay B))) (θ.L ++ cs)
section
variable (θ : Th) (B : Bx) (cs js : Sto)
theorem Th.cell (i : Nat) : (θ.sto B cs)[θ.at i]? = cs[i]? := by
  unfold Th.sto Th.at
  rw [ex_gets, List.getElem?_append_right (Nat.le_add_right _ _), Nat.add_sub_cancel_left]
theorem Th.box : (θ.sto B cs)[θ.b]? = some (some (lay B)) := ex_box θ.ok _
theorem Th.app : θ.sto B cs ++ js = θ.sto B (cs ++ js) := by simp [Th.sto, ex]
theorem Th.len : (θ.sto B cs).length = θ.at cs.length := by simp [Th.sto, Th.at]
theorem Th.take (n : Nat) : (θ.sto B cs).take (θ.at n) = θ.sto B (cs.take n) := by
  unfold Th.sto Th.at
  rw [ex_takes, List.take_append, List.take_of_length_le (Nat.le_add_right _ _), Nat.add_sub_cancel_left]
theorem Th.put (i : Nat) (v : Option (List PyData)) : (θ.sto B cs).set (θ.at i) v = θ.sto B (cs.set i v) := by
  unfold Th.sto Th.at
  rw [ex_sets, List.set_append_right _ _ (Nat.le_add_right _ _), Nat.add_sub_cancel_left]
theorem Th.get (e : Wv) (i : Nat) : (θ.ev e)[i]? = (e[i]?).map (Option.map θ.u) := by simp [Th.ev]
theorem Th.evset (e : Wv) (i : Nat) (w : W) : (θ.ev e).set i (some (θ.u w)) = θ.ev (e.set i (some w)) := by
  unfold Th.ev
  rw [List.map_set]
  rfl
theorem Th.evnone (e : Wv) (i : Nat) : (θ.ev e).set i none = θ.ev (e.set i none) := by
  unfold Th.ev
  rw [List.map_set]
  rfl
def wipeW (e : Wv) : List Nat → Wv
  | [] => e
  | v :: vs => (wipeW e vs).set v none
theorem Th.wipe (e : Wv) : ∀ vs : List Nat, wipeE (θ.ev e) vs = θ.ev (wipeW e vs)
  | [] => rfl
  | v :: vs => by rw [wipeE, wipeW, Th.wipe e vs, Th.evnone]
def rdW (cs : Sto) : W → Option PyData
  | .d x => some x
  | .c j => match cs[j]? with
    | some (some xs) => some (.list xs)
    | _ => none
  | .b => none
theorem Th.rd {w : W} {x : PyData} (h : rdW cs w = some x) : Cm.rd (θ.sto B cs) (θ.u w) = some x := by
  cases w with
  | d y => exact h
  | b => cases h
  | c j =>
    simp only [rdW] at h
    simp only [Th.u, Cm.rd, Th.cell]
    exact h
theorem Th.rdS {w : W} {x : PyData} (h : rdW cs w = some x) : Cm.rdS (θ.sto B cs) (θ.u w) = some x := by
  cases w with
  | d y => exact h
  | b => cases h
  | c j =>
    simp only [rdW] at h
    simp only [Th.u, Cm.rdS, Th.cell]
    exact h
theorem rdW_mono {w : W} {x : PyData} (h : rdW cs w = some x) : rdW (cs ++ js) w = some x := by
  cases w with
  | d y => exact h
  | b => cases h
  | c j =>
    simp only [rdW] at h ⊢
    split at h
    · rename_i xs q
      rw [List.getElem?_append_left (lt_of_get q), q]
      exact h
    · cases h
end
/-! ### what is known -/
abbrev Pd := PyData → Prop
inductive AW where
  | dat (a : Pd)
  | own (e : Pd) (lo hi : Nat)
  | box
abbrev AS := List (Option AW)
def Cont (e : Pd) (lo hi : Nat) (xs : List PyData) : Prop := lo ≤ xs.length ∧ xs.length ≤ hi ∧ ∀ y ∈ xs, e y
def satW (cs : Sto) : AW → W → Prop
  | .dat a, w => ∃ x, w = .d x ∧ a x
  | .own e lo hi, w => ∃ j xs, w = .c j ∧ cs[j]? = some (some xs) ∧ Cont e lo hi xs
  | .box, w => w = .b
def isOwn (A : AS) (i : Nat) : Prop := ∃ e lo hi, A[i]? = some (some (.own e lo hi))
structure Sat (A : AS) (ev : Wv) (cs : Sto) : Prop where
  len : ev.length = A.length
  get : ∀ (i : Nat) (aw : AW), A[i]? = some (some aw) → ∃ w, ev[i]? = some (some w) ∧ satW cs aw w
  sep : ∀ (i i' j : Nat), isOwn A i → isOwn A i' → ev[i]? = some (some (.c j)) → ev[i']? = some (some (.c j)) → i = i'
theorem satW_mono {cs js : Sto} {aw : AW} {w : W} (h : satW cs aw w) : satW (cs ++ js) aw w := by
  cases aw with
  | dat a => exact h
  | own e lo hi =>
    obtain ⟨j, xs, h1, h2, h3⟩ := h
    exact ⟨j, xs, h1, by rw [List.getElem?_append_left (lt_of_get h2)]; exact h2, h3⟩
  | box => exact h
theorem Sat.mono {A : AS} {ev : Wv} {cs : Sto} (h : Sat A ev cs) (js : Sto) : Sat A ev (cs ++ js) :=
  ⟨h.len, fun i aw e => let ⟨w, h1, h2⟩ := h.get i aw e; ⟨w, h1, satW_mono h2⟩, h.sep⟩
theorem get_set {α : Type} {l : List α} {i j : Nat} {x y : α} (h : (l.set i x)[j]? = some y) : (i = j ∧ y = x ∧ i < l.length) ∨ (i ≠ j ∧ l[j]? = some y) := by
  rw [List.getElem?_set] at h
  split at h
  · rename_i e
    split at h
    · rename_i hl
      cases h
      exact .inl ⟨e, rfl, hl⟩
    · cases h
  · rename_i e
    exact .inr ⟨e, h⟩
/-- a slot is set to data -/
theorem Sat.setD {A : AS} {ev : Wv} {cs : Sto} {a : Pd} {x : PyData} (h : Sat A ev cs) (i : Nat) (hx : a x) : Sat (A.set i (some (.dat a))) (ev.set i (some (.d x))) cs := by
  have own : ∀ k, isOwn (A.set i (some (.dat a))) k → i ≠ k ∧ isOwn A k := fun k ⟨e, lo, hi, q⟩ => by
    rcases get_set q with ⟨_, z, _⟩ | ⟨n, z⟩
    · cases z
    · exact ⟨n, e, lo, hi, z⟩
  refine ⟨by simp [h.len], fun k aw e => ?_, fun k k' j o1 o2 e1 e2 => ?_⟩
  · rcases get_set e with ⟨rfl, z, hl⟩ | ⟨n, z⟩
    · cases z
      exact ⟨.d x, by rw [List.getElem?_set_self (by rw [h.len]; exact hl)], x, rfl, hx⟩
    · obtain ⟨w, h1, h2⟩ := h.get k aw z
      exact ⟨w, by rw [List.getElem?_set_ne n]; exact h1, h2⟩
  · obtain ⟨n1, o1⟩ := own k o1
    obtain ⟨n2, o2⟩ := own k' o2
    rw [List.getElem?_set_ne n1] at e1
    rw [List.getElem?_set_ne n2] at e2
    exact h.sep k k' j o1 o2 e1 e2
/-- a slot is set to a new list of one's own -/
theorem Sat.setO {A : AS} {ev : Wv} {cs js : Sto} {e : Pd} {lo hi j : Nat} {xs : List PyData} (h : Sat A ev cs) (i : Nat) (hj : cs.length ≤ j) (hc : (cs ++ js)[j]? = some (some xs)) (hx : Cont e lo hi xs) :
    Sat (A.set i (some (.own e lo hi))) (ev.set i (some (.c j))) (cs ++ js) := by
  have own : ∀ k, i ≠ k → isOwn (A.set i (some (.own e lo hi))) k → isOwn A k := fun k n ⟨e', lo', hi', q⟩ => by
    rcases get_set q with ⟨z, _, _⟩ | ⟨_, z⟩
    · exact absurd z n
    · exact ⟨e', lo', hi', z⟩
  have old : ∀ k, i ≠ k → isOwn A k → (ev.set i (some (.c j)))[k]? ≠ some (some (.c j)) := fun k n ⟨e', lo', hi', q⟩ z => by
    rw [List.getElem?_set_ne n] at z
    obtain ⟨w, h1, j', xs', h2, h3, _⟩ := h.get k _ q
    rw [z] at h1
    cases h1
    cases h2
    have := lt_of_get h3
    omega
  refine ⟨by simp [h.len], fun k aw q => ?_, fun k k' l o1 o2 e1 e2 => ?_⟩
  · rcases get_set q with ⟨rfl, z, hl⟩ | ⟨n, z⟩
    · cases z
      exact ⟨.c j, by rw [List.getElem?_set_self (by rw [h.len]; exact hl)], j, xs, rfl, hc, hx⟩
    · obtain ⟨w, h1, h2⟩ := h.get k aw z
      exact ⟨w, by rw [List.getElem?_set_ne n]; exact h1, satW_mono h2⟩
  · by_cases n1 : i = k
    · by_cases n2 : i = k'
      · omega
      · have l1 : (ev.set i (some (.c j)))[k]? = some (some (.c j)) := by
          subst n1
          rcases get_set e1 with ⟨_, z, hl⟩ | ⟨z, _⟩
          · rw [List.getElem?_set_self hl]
          · exact absurd rfl z
        rw [e1] at l1
        cases l1
        exact absurd e2 (old k' n2 (own k' n2 o2))
    · by_cases n2 : i = k'
      · have l1 : (ev.set i (some (.c j)))[k']? = some (some (.c j)) := by
          subst n2
          rcases get_set e2 with ⟨_, z, hl⟩ | ⟨z, _⟩
          · rw [List.getElem?_set_self hl]
          · exact absurd rfl z
        rw [e2] at l1
        cases l1
        exact absurd e1 (old k n1 (own k n1 o1))
      · rw [List.getElem?_set_ne n1] at e1
        rw [List.getElem?_set_ne n2] at e2
        exact h.sep k k' l (own k n1 o1) (own k' n2 o2) e1 e2
/-- nothing is known of a slot any more -/
theorem Sat.drop {A : AS} {ev : Wv} {cs : Sto} (h : Sat A ev cs) (i : Nat) (o : Option W) : Sat (A.set i none) (ev.set i o) cs := by
  have own : ∀ k, isOwn (A.set i none) k → i ≠ k ∧ isOwn A k := fun k ⟨e, lo, hi, q⟩ => by
    rcases get_set q with ⟨_, z, _⟩ | ⟨n, z⟩
    · cases z
    · exact ⟨n, e, lo, hi, z⟩
  refine ⟨by simp [h.len], fun k aw e => ?_, fun k k' j o1 o2 e1 e2 => ?_⟩
  · rcases get_set e with ⟨_, z, _⟩ | ⟨n, z⟩
    · cases z
    · obtain ⟨w, h1, h2⟩ := h.get k aw z
      exact ⟨w, by rw [List.getElem?_set_ne n]; exact h1, h2⟩
  · obtain ⟨n1, o1⟩ := own k o1
    obtain ⟨n2, o2⟩ := own k' o2
    rw [List.getElem?_set_ne n1] at e1
    rw [List.getElem?_set_ne n2] at e2
    exact h.sep k k' j o1 o2 e1 e2
def wipeA (A : AS) : List Nat → AS
  | [] => A
  | v :: vs => (wipeA A vs).set v none
theorem Sat.wipe {A : AS} {ev : Wv} {cs : Sto} (h : Sat A ev cs) : ∀ vs : List Nat, Sat (wipeA A vs) (wipeW ev vs) cs
  | [] => h
  | v :: vs => (Sat.wipe h vs).drop v none
/-- a list of one's own is changed -/
theorem Sat.write {A : AS} {ev : Wv} {cs : Sto} {e e' : Pd} {lo hi lo' hi' i j : Nat} {ys : List PyData} (h : Sat A ev cs) (hi1 : A[i]? = some (some (.own e lo hi))) (hj : ev[i]? = some (some (.c j))) (hy : Cont e' lo' hi' ys) :
    Sat (A.set i (some (.own e' lo' hi'))) ev (cs.set j (some ys)) := by
  have oi : isOwn A i := ⟨_, _, _, hi1⟩
  obtain ⟨w, k1, j', xs, k2, k3, k4⟩ := h.get i _ hi1
  rw [hj] at k1
  cases k1
  cases k2
  have hl := lt_of_get k3
  have own : ∀ k, isOwn (A.set i (some (.own e' lo' hi'))) k → isOwn A k := fun k ⟨e2, lo2, hi2, q⟩ => by
    rcases get_set q with ⟨z, _, _⟩ | ⟨_, z⟩
    · subst z
      exact oi
    · exact ⟨e2, lo2, hi2, z⟩
  refine ⟨by simp [h.len], fun k aw q => ?_, fun k k' l o1 o2 e1 e2 => h.sep k k' l (own k o1) (own k' o2) e1 e2⟩
  rcases get_set q with ⟨rfl, z, _⟩ | ⟨n, z⟩
  · cases z
    exact ⟨.c j, hj, j, ys, rfl, by rw [List.getElem?_set_self hl], hy⟩
  · obtain ⟨w, h1, h2⟩ := h.get k aw z
    refine ⟨w, h1, ?_⟩
    cases aw with
    | dat a => exact h2
    | box => exact h2
    | own e2 lo2 hi2 =>
      obtain ⟨l, zs, g1, g2, g3⟩ := h2
      subst g1
      have nl : j ≠ l := fun z2 => by
        subst z2
        exact n (h.sep i k j oi ⟨_, _, _, z⟩ hj h1)
      exact ⟨l, zs, rfl, by rw [List.getElem?_set_ne nl]; exact g2, g3⟩
/-! ### less is known -/
def AwLe : Option AW → Option AW → Prop
  | _, none => True
  | some (.dat a), some (.dat b) => ∀ x, a x → b x
  | some (.own e lo hi), some (.own e' lo' hi') => (∀ x, e x → e' x) ∧ lo' ≤ lo ∧ hi ≤ hi'
  | some .box, some .box => True
  | _, _ => False
inductive AsLe : AS → AS → Prop
  | nil : AsLe [] []
  | cons {a b : Option AW} {A B : AS} : AwLe a b → AsLe A B → AsLe (a :: A) (b :: B)
theorem AsLe.length : ∀ {A B : AS}, AsLe A B → A.length = B.length
  | _, _, .nil => rfl
  | _, _, .cons _ t => by simp [AsLe.length t]
theorem AsLe.get : ∀ {A B : AS}, AsLe A B → ∀ {i : Nat} {b : AW}, B[i]? = some (some b) → ∃ a, A[i]? = some (some a) ∧ AwLe (some a) (some b)
  | _, _, .nil, i, b, e => by simp at e
  | _, _, .cons (a := a) (b := b0) h t, 0, b, e => by
    simp only [List.getElem?_cons_zero, Option.some.injEq] at e
    subst e
    cases a with
    | none => exact absurd h (by simp [AwLe])
    | some a => exact ⟨a, rfl, h⟩
  | _, _, .cons h t, i + 1, b, e => by
    rw [List.getElem?_cons_succ] at e ⊢
    exact t.get e
theorem awle_own {a : AW} {e : Pd} {lo hi : Nat} (h : AwLe (some a) (some (.own e lo hi))) : ∃ e' lo' hi', a = .own e' lo' hi' := by
  cases a with
  | dat a => exact h.elim
  | box => exact h.elim
  | own e' lo' hi' => exact ⟨e', lo', hi', rfl⟩
theorem satW_le {cs : Sto} {a b : AW} {w : W} (h : AwLe (some a) (some b)) (s : satW cs a w) : satW cs b w := by
  cases a with
  | dat a =>
    cases b with
    | dat b =>
      obtain ⟨x, h1, h2⟩ := s
      exact ⟨x, h1, h x h2⟩
    | own => exact h.elim
    | box => exact h.elim
  | own e lo hi =>
    cases b with
    | dat b => exact h.elim
    | own e' lo' hi' =>
      obtain ⟨j, xs, h1, h2, h3, h4, h5⟩ := s
      obtain ⟨g1, g2, g3⟩ := h
      exact ⟨j, xs, h1, h2, by omega, by omega, fun y hy => g1 y (h5 y hy)⟩
    | box => exact h.elim
  | box =>
    cases b with
    | dat b => exact h.elim
    | own => exact h.elim
    | box => exact s
theorem Sat.le {A A' : AS} {ev : Wv} {cs : Sto} (h : Sat A ev cs) (l : AsLe A A') : Sat A' ev cs := by
  have own : ∀ k, isOwn A' k → isOwn A k := fun k ⟨e, lo, hi, q⟩ => by
    obtain ⟨a, g1, g2⟩ := l.get q
    obtain ⟨e', lo', hi', rfl⟩ := awle_own g2
    exact ⟨e', lo', hi', g1⟩
  refine ⟨by rw [h.len, l.length], fun i b e => ?_, fun k k' j o1 o2 => h.sep k k' j (own k o1) (own k' o2)⟩
  obtain ⟨a, g1, g2⟩ := l.get e
  obtain ⟨w, h1, h2⟩ := h.get i a g1
  exact ⟨w, h1, satW_le g2 h2⟩
/-! ### expressions -/
inductive AR where
  | dat (a : Pd)
  | val (a : Pd)
  | own (e : Pd) (lo hi : Nat)
  | box
def rsat (n : Nat) (cs : Sto) : AR → W → Prop
  | .dat a, w => ∃ x, w = .d x ∧ a x
  | .val a, w => ∃ x, rdW cs w = some x ∧ a x
  | .own e lo hi, w => ∃ j xs, w = .c j ∧ n ≤ j ∧ cs[j]? = some (some xs) ∧ Cont e lo hi xs
  | .box, w => w = .b
theorem rsat_mono {n : Nat} {cs js : Sto} {r : AR} {w : W} (h : rsat n cs r w) : rsat n (cs ++ js) r w := by
  cases r with
  | dat a => exact h
  | val a =>
    obtain ⟨x, h1, h2⟩ := h
    exact ⟨x, rdW_mono cs js h1, h2⟩
  | own e lo hi =>
    obtain ⟨j, xs, h1, h2, h3, h4⟩ := h
    exact ⟨j, xs, h1, h2, by rw [List.getElem?_append_left (lt_of_get h3)]; exact h3, h4⟩
  | box => exact h
theorem rsat_low {n n' : Nat} {cs : Sto} {r : AR} {w : W} (l : n' ≤ n) (h : rsat n cs r w) : rsat n' cs r w := by
  cases r with
  | dat a => exact h
  | val a => exact h
  | own e lo hi =>
    obtain ⟨j, xs, h1, h2, h3, h4⟩ := h
    exact ⟨j, xs, h1, Nat.le_trans l h2, h3, h4⟩
  | box => exact h
/-- one after another: what comes later is newer -/
inductive RAll : Nat → Sto → List AR → List W → Prop
  | nil {n : Nat} {cs : Sto} : RAll n cs [] []
  | cons {n : Nat} {cs : Sto} {r : AR} {w : W} {rs : List AR} {ws : List W} (n' : Nat) : n ≤ n' → rsat n cs r w → (∀ j, w = .c j → j < n') → n' ≤ cs.length → RAll n' cs rs ws → RAll n cs (r :: rs) (w :: ws)
inductive All2 : List Pd → List PyData → Prop
  | nil : All2 [] []
  | cons {a : Pd} {x : PyData} {as : List Pd} {xs : List PyData} : a x → All2 as xs → All2 (a :: as) (x :: xs)
theorem All2.length : ∀ {as : List Pd} {xs : List PyData}, All2 as xs → as.length = xs.length
  | _, _, .nil => rfl
  | _, _, .cons _ t => by simp [All2.length t]
def Fit (k m : Nat) (B' : Bx) : Prop := BxOk (m + k) B'
def AE (c : SE) (A : AS) (r : AR) (k : Nat) : Prop := ∀ ev cs B m, Sat A ev cs → BxOk m B → m + k ≤ Mx → ∃ w B' js, rsat cs.length (cs ++ js) r w ∧ BxOk (m + k) B' ∧ ∀ θ : Th, c (θ.ev ev) (θ.sto B cs) = some (θ.u w, θ.sto B' (cs ++ js))
def AA (c : SA) (A : AS) (rs : List AR) (k : Nat) : Prop := ∀ ev cs B m, Sat A ev cs → BxOk m B → m + k ≤ Mx → ∃ ws B' js, RAll cs.length (cs ++ js) rs ws ∧ BxOk (m + k) B' ∧ ∀ θ : Th, c (θ.ev ev) (θ.sto B cs) = some (ws.map θ.u, θ.sto B' (cs ++ js))
def AB (c : SB) (A : AS) (q : Bool → Prop) (k : Nat) : Prop := ∀ ev cs B m, Sat A ev cs → BxOk m B → m + k ≤ Mx → ∃ t B' js, q t ∧ BxOk (m + k) B' ∧ ∀ θ : Th, c (θ.ev ev) (θ.sto B cs) = some (t, θ.sto B' (cs ++ js))
def Tr1 (f : PyData → Option PyData) (a r : Pd) : Prop := ∀ x, a x → ∃ z, r z ∧ f x = some z
def Tr2 (f : PyData → PyData → Option PyData) (a b r : Pd) : Prop := ∀ x y, a x → b y → ∃ z, r z ∧ f x y = some z
def TrN (f : List PyData → Option PyData) (as : List Pd) (r : Pd) : Prop := ∀ xs, All2 as xs → ∃ z, r z ∧ f xs = some z
section
variable {A : AS} {c c2 c3 : SE} {sa : SA} {a b r : Pd} {k k1 k2 k3 : Nat} {f g : PyData → PyData → Option PyData}
theorem ae_val (h : AE c A (.dat a) k) : AE c A (.val a) k := fun ev cs B m hs hb hm => by
  obtain ⟨w, B', js, ⟨x, rfl, hx⟩, h2, h3⟩ := h ev cs B m hs hb hm
  exact ⟨.d x, B', js, ⟨x, rfl, hx⟩, h2, h3⟩
theorem ae_le (h : AE c A (.dat a) k) (l : ∀ x, a x → b x) : AE c A (.dat b) k := fun ev cs B m hs hb hm => by
  obtain ⟨w, B', js, ⟨x, rfl, hx⟩, h2, h3⟩ := h ev cs B m hs hb hm
  exact ⟨.d x, B', js, ⟨x, rfl, l x hx⟩, h2, h3⟩
theorem ae_lev (h : AE c A (.val a) k) (l : ∀ x, a x → b x) : AE c A (.val b) k := fun ev cs B m hs hb hm => by
  obtain ⟨w, B', js, ⟨x, h1, hx⟩, h2, h3⟩ := h ev cs B m hs hb hm
  exact ⟨w, B', js, ⟨x, h1, l x hx⟩, h2, h3⟩
theorem ae_up {r : AR} (h : AE c A r k) (l : k ≤ k1) : AE c A r k1 := fun ev cs B m hs hb hm => by
  obtain ⟨w, B', js, h1, h2, h3⟩ := h ev cs B m hs hb (by omega)
  exact ⟨w, B', js, h1, bx_le h2 (by omega) hm, h3⟩
theorem ae_var {i : Nat} (e : A[i]? = some (some (.dat a))) : AE (cVar i) A (.dat a) 0 := fun ev cs B m hs hb hm => by
  obtain ⟨w, h1, x, rfl, hx⟩ := hs.get i _ e
  refine ⟨.d x, B, [], ⟨x, rfl, hx⟩, hb, fun θ => ?_⟩
  rw [cVar_ap, Th.get, h1, List.append_nil]
  rfl
theorem ae_own {i lo hi : Nat} {e : Pd} (q : A[i]? = some (some (.own e lo hi))) (l : ∀ xs, Cont e lo hi xs → a (.list xs)) : AE (cVar i) A (.val a) 0 := fun ev cs B m hs hb hm => by
  obtain ⟨w, h1, j, xs, rfl, hx, hc⟩ := hs.get i _ q
  refine ⟨.c j, B, [], ⟨.list xs, by simp only [List.append_nil, rdW, hx], l xs hc⟩, hb, fun θ => ?_⟩
  rw [cVar_ap, Th.get, h1, List.append_nil]
  rfl
theorem ae_box {i : Nat} (q : A[i]? = some (some .box)) : AE (cVar i) A .box 0 := fun ev cs B m hs hb hm => by
  obtain ⟨w, h1, rfl⟩ := hs.get i _ q
  refine ⟨.b, B, [], rfl, hb, fun θ => ?_⟩
  rw [cVar_ap, Th.get, h1, List.append_nil]
  rfl
theorem ae_c {x : PyData} (h : a x) : AE (cD x) A (.dat a) 0 := fun ev cs B m hs hb hm => ⟨.d x, B, [], ⟨x, rfl, h⟩, hb, fun θ => by rw [List.append_nil]; rfl⟩
theorem ae_1 {f : PyData → Option PyData} (h : AE c A (.val a) k) (t : Tr1 f a r) : AE (cD1 f c) A (.dat r) k := fun ev cs B m hs hb hm => by
  obtain ⟨w, B', js, ⟨x, h1, hx⟩, h2, h3⟩ := h ev cs B m hs hb hm
  obtain ⟨z, rz, ez⟩ := t x hx
  refine ⟨.d z, B', js, ⟨z, rfl, rz⟩, h2, fun θ => ?_⟩
  rw [cD1_ap, h3 θ]
  simp only [Option.bind_some, d1a_ap, Th.rd θ B' _ h1, ez, toD_s]
  rfl
theorem ae_both (h1 : AE c A (.val a) k1) (h2 : AE c2 A (.val b) k2) : ∀ ev cs B m, Sat A ev cs → BxOk m B → m + (k1 + k2) ≤ Mx → ∃ (w w2 : W) (x y : PyData) (B1 B2 : Bx) (j1 js : Sto), a x ∧ b y ∧ rdW (cs ++ js) w = some x ∧ rdW (cs ++ js) w2 = some y ∧ BxOk (m + (k1 + k2)) B2 ∧
    ∀ θ : Th, c (θ.ev ev) (θ.sto B cs) = some (θ.u w, θ.sto B1 (cs ++ j1)) ∧ c2 (θ.ev ev) (θ.sto B1 (cs ++ j1)) = some (θ.u w2, θ.sto B2 (cs ++ js)) := fun ev cs B m hs hb hm => by
  obtain ⟨w1, B1, j1, ⟨x, r1, ax⟩, b1, e1⟩ := h1 ev cs B m hs hb (by omega)
  obtain ⟨w2, B2, j2, ⟨y, r2, ay⟩, b2, e2⟩ := h2 ev (cs ++ j1) B1 (m + k1) (hs.mono j1) b1 (by omega)
  rw [List.append_assoc] at r2
  refine ⟨w1, w2, x, y, B1, B2, j1, j1 ++ j2, ax, ay, ?_, r2, by rw [← Nat.add_assoc]; exact b2, fun θ => ⟨e1 θ, ?_⟩⟩
  · rw [← List.append_assoc]
    exact rdW_mono _ _ r1
  · rw [← List.append_assoc]
    exact e2 θ
theorem ae_2 (h1 : AE c A (.val a) k1) (h2 : AE c2 A (.val b) k2) (t : Tr2 f a b r) : AE (cD2 f c c2) A (.dat r) (k1 + k2) := fun ev cs B m hs hb hm => by
  obtain ⟨w, w2, x, y, B1, B2, j1, js, ax, ay, r1, r2, b2, e⟩ := ae_both h1 h2 ev cs B m hs hb hm
  obtain ⟨z, rz, ez⟩ := t x y ax ay
  refine ⟨.d z, B2, js, ⟨z, rfl, rz⟩, b2, fun θ => ?_⟩
  rw [cD2_ap, (e θ).1]
  simp only [Option.bind_some, d2a_ap, (e θ).2, d2b_ap, Th.rd θ B2 _ r1, Th.rd θ B2 _ r2, d2c_s, ez, toD_s]
  rfl
theorem ae_2s (h1 : AE c A (.val a) k1) (h2 : AE c2 A (.val b) k2) (t : Tr2 f a b r) : AE (cD2s f c c2) A (.dat r) (k1 + k2) := fun ev cs B m hs hb hm => by
  obtain ⟨w, w2, x, y, B1, B2, j1, js, ax, ay, r1, r2, b2, e⟩ := ae_both h1 h2 ev cs B m hs hb hm
  obtain ⟨z, rz, ez⟩ := t x y ax ay
  refine ⟨.d z, B2, js, ⟨z, rfl, rz⟩, b2, fun θ => ?_⟩
  rw [cD2s_ap, (e θ).1]
  simp only [Option.bind_some, d2sa_ap, (e θ).2, d2sb_ap, Th.rdS θ B2 _ r1, Th.rdS θ B2 _ r2, d2c_s, ez, toD_s]
  rfl
theorem aa_nil : AA cNil A [] 0 := fun ev cs B m hs hb hm => ⟨[], B, [], .nil, hb, fun θ => by rw [List.append_nil]; rfl⟩
theorem RAll.length {n : Nat} {cs : Sto} {rs : List AR} {ws : List W} (h : RAll n cs rs ws) : ws.length = rs.length := by
  induction h with
  | nil => rfl
  | cons _ _ _ _ _ _ ih => simp [ih]
theorem rsat_lt {n : Nat} {cs : Sto} {r : AR} {w : W} (h : rsat n cs r w) : ∀ j, w = .c j → j < cs.length := fun j e => by
  subst e
  cases r with
  | dat a =>
    obtain ⟨x, h1, _⟩ := h
    cases h1
  | val a =>
    obtain ⟨x, h1, _⟩ := h
    simp only [rdW] at h1
    split at h1
    · rename_i q
      exact lt_of_get q
    · cases h1
  | own e lo hi =>
    obtain ⟨j', xs, h1, _, h3, _⟩ := h
    cases h1
    exact lt_of_get h3
  | box => cases h
theorem aa_cons {r : AR} {rs : List AR} (h1 : AE c A r k1) (h2 : AA sa A rs k2) : AA (cCons c sa) A (r :: rs) (k1 + k2) := fun ev cs B m hs hb hm => by
  obtain ⟨w1, B1, j1, r1, b1, e1⟩ := h1 ev cs B m hs hb (by omega)
  obtain ⟨w2, B2, j2, r2, b2, e2⟩ := h2 ev (cs ++ j1) B1 (m + k1) (hs.mono j1) b1 (by omega)
  refine ⟨w1 :: w2, B2, j1 ++ j2, ?_, by rw [← Nat.add_assoc]; exact b2, fun θ => ?_⟩
  · rw [← List.append_assoc]
    exact .cons (cs ++ j1).length (by simp) (rsat_mono r1) (rsat_lt r1) (by simp) r2
  · rw [cCons_ap, e1 θ]
    simp only [Option.bind_some, consa_ap, e2 θ, Option.map_some, cons1_ap, List.append_assoc, List.map_cons]
abbrev vals (as : List Pd) : List AR := as.map .val
abbrev dats (as : List Pd) : List AR := as.map .dat
theorem read_vals {cs : Sto} : ∀ {n : Nat} {as : List Pd} {ws : List W}, RAll n cs (vals as) ws → ∃ xs, All2 as xs ∧ ∀ (θ : Th) (B : Bx), rdAll (θ.sto B cs) (ws.map θ.u) = some xs
  | _, [], _, .nil => ⟨[], .nil, fun _ _ => rfl⟩
  | _, a :: as, _, .cons (ws := ws) _ _ ⟨x, h1, h2⟩ _ _ t => by
    obtain ⟨xs, g1, g2⟩ := read_vals t
    refine ⟨x :: xs, .cons h2 g1, fun θ B => ?_⟩
    rw [List.map_cons, rdAll_cons, Th.rd θ B _ h1, g2]
    rfl
theorem read_dats {cs : Sto} : ∀ {n : Nat} {as : List Pd} {ws : List W}, RAll n cs (dats as) ws → ∃ xs, All2 as xs ∧ ws = xs.map .d
  | _, [], _, .nil => ⟨[], .nil, rfl⟩
  | _, a :: as, _, .cons (ws := ws) _ _ ⟨x, h1, h2⟩ _ _ t => by
    obtain ⟨xs, g1, g2⟩ := read_dats t
    exact ⟨x :: xs, .cons h2 g1, by rw [h1, g2]; rfl⟩
theorem u_dats (θ : Th) (xs : List PyData) : (xs.map W.d).map θ.u = xs.map U.d := by rw [List.map_map]; rfl
theorem ae_call {f : List PyData → Option PyData} {as : List Pd} (h : AA sa A (vals as) k) (t : TrN f as r) : AE (cCall f sa) A (.dat r) k := fun ev cs B m hs hb hm => by
  obtain ⟨ws, B', js, h1, h2, h3⟩ := h ev cs B m hs hb hm
  obtain ⟨xs, g1, g2⟩ := read_vals h1
  obtain ⟨z, rz, ez⟩ := t xs g1
  refine ⟨.d z, B', js, ⟨z, rfl, rz⟩, h2, fun θ => ?_⟩
  rw [cCall_ap, h3 θ]
  simp only [Option.bind_some, calla_ap, g2, ez, toD_s]
  rfl
/-- tuples and lists of so many things -/
def TpOf (as : List Pd) : Pd := fun x => ∃ xs, x = .tuple xs ∧ All2 as xs
def LsOf (as : List Pd) : Pd := fun x => ∃ xs, x = .list xs ∧ All2 as xs
theorem allD_d (xs : List PyData) : allD (xs.map U.d) = some xs := by
  induction xs with
  | nil => rfl
  | cons x xs ih => rw [List.map_cons, allD_cons, ih]; rfl
theorem ae_tup {as : List Pd} (h : AA sa A (dats as) k) (l : as.length ≤ lim) : AE (cTup sa) A (.dat (TpOf as)) k := fun ev cs B m hs hb hm => by
  obtain ⟨ws, B', js, h1, h2, h3⟩ := h ev cs B m hs hb hm
  obtain ⟨xs, g1, rfl⟩ := read_dats h1
  refine ⟨.d (.tuple xs), B', js, ⟨_, rfl, xs, rfl, g1⟩, h2, fun θ => ?_⟩
  have lx : xs.length ≤ lim := by rw [← g1.length]; exact l
  rw [cTup_ap, h3 θ]
  simp only [Option.bind_some, lstb_ap, u_dats, allD_d, tupa_ap, if_pos lx]
  rfl
theorem ae_lst {as : List Pd} (h : AA sa A (dats as) k) (l : as.length ≤ lim) : AE (cLst sa) A (.dat (LsOf as)) k := fun ev cs B m hs hb hm => by
  obtain ⟨ws, B', js, h1, h2, h3⟩ := h ev cs B m hs hb hm
  obtain ⟨xs, g1, rfl⟩ := read_dats h1
  refine ⟨.d (.list xs), B', js, ⟨_, rfl, xs, rfl, g1⟩, h2, fun θ => ?_⟩
  have lx : xs.length ≤ lim := by rw [← g1.length]; exact l
  rw [cLst_ap, h3 θ]
  simp only [Option.bind_some, lstb_ap, u_dats, allD_d, lsta_ap, if_pos lx]
  rfl
theorem all2_cont {e : Pd} : ∀ {as : List Pd} {xs : List PyData}, All2 as xs → (∀ a ∈ as, ∀ x, a x → e x) → ∀ y ∈ xs, e y
  | _, _, .nil, _, y, hy => by cases hy
  | _, _, .cons h t, l, y, hy => by
    rcases List.mem_cons.mp hy with rfl | hy
    · exact l _ List.mem_cons_self _ h
    · exact all2_cont t (fun a ha => l a (List.mem_cons_of_mem _ ha)) y hy
/-- a new list of one's own -/
theorem ao_lst {as : List Pd} {e : Pd} {n : Nat} (h : AA sa A (dats as) k) (l : as.length ≤ lim) (he : ∀ a ∈ as, ∀ x, a x → e x) (hn : as.length = n := by rfl) : AE (cLstM sa) A (.own e n n) k := fun ev cs B m hs hb hm => by
  obtain ⟨ws, B', js, h1, h2, h3⟩ := h ev cs B m hs hb hm
  obtain ⟨xs, g1, rfl⟩ := read_dats h1
  have lx : xs.length ≤ lim := by rw [← g1.length]; exact l
  have ln : xs.length = n := by rw [← g1.length]; exact hn
  refine ⟨.c (cs ++ js).length, B', js ++ [some xs], ⟨_, xs, rfl, by simp, ?_, by omega, by omega, all2_cont g1 he⟩, h2, fun θ => ?_⟩
  · rw [← List.append_assoc, List.getElem?_append_right (Nat.le_refl _), Nat.sub_self]
    rfl
  · rw [cLstM_ap, h3 θ]
    simp only [Option.bind_some, lstb_ap, u_dats, allD_d, lstMa_ap, if_pos lx, Th.len, Th.app, List.append_assoc]
    rfl
/-! tests -/
theorem ab_up {t : SB} {q : Bool → Prop} (h : AB t A q k) (l : k ≤ k1) : AB t A q k1 := fun ev cs B m hs hb hm => by
  obtain ⟨w, B', js, h1, h2, h3⟩ := h ev cs B m hs hb (by omega)
  exact ⟨w, B', js, h1, bx_le h2 (by omega) hm, h3⟩
abbrev anyB : Bool → Prop := fun _ => True
def Bq (q : Bool → Prop) : Pd := fun x => ∃ t, x = .bool t ∧ q t
theorem ab_b {q : Bool → Prop} (h : AE c A (.dat (Bq q)) k) : AB (cB c) A q k := fun ev cs B m hs hb hm => by
  obtain ⟨w, B', js, ⟨x, rfl, t, rfl, qt⟩, h2, h3⟩ := h ev cs B m hs hb hm
  refine ⟨t, B', js, qt, h2, fun θ => ?_⟩
  rw [cB_ap, h3 θ]
  rfl
theorem ab_tr {q : Bool → Prop} (h : AE c A (.val a) k) (tr : ∀ x, a x → ∃ t, truth x = some t ∧ q t) : AB (cTr c) A q k := fun ev cs B m hs hb hm => by
  obtain ⟨w, B', js, ⟨x, h1, hx⟩, h2, h3⟩ := h ev cs B m hs hb hm
  obtain ⟨t, e, qt⟩ := tr x hx
  refine ⟨t, B', js, qt, h2, fun θ => ?_⟩
  rw [cTr_ap, h3 θ]
  simp only [Option.bind_some, tra_ap, Th.rd θ B' _ h1, e, toB_s]
theorem ab_not {t : SB} {q : Bool → Prop} (h : AB t A (fun b => q (!b)) k) : AB (bNot t) A q k := fun ev cs B m hs hb hm => by
  obtain ⟨w, B', js, h1, h2, h3⟩ := h ev cs B m hs hb hm
  refine ⟨!w, B', js, h1, h2, fun θ => ?_⟩
  rw [bNot_ap, h3 θ]
  rfl
theorem ab_and {t t2 : SB} (h : AB t A anyB k1) (h2 : AB t2 A anyB k2) : AB (bAnd t t2) A anyB (k1 + k2) := fun ev cs B m hs hb hm => by
  obtain ⟨w, B1, j1, q1, b1, e1⟩ := h ev cs B m hs hb (by omega)
  cases w with
  | false => exact ⟨false, B1, j1, trivial, bx_le b1 (by omega) hm, fun θ => by rw [bAnd_ap, e1 θ]; rfl⟩
  | true =>
    obtain ⟨w2, B2, j2, q2, b2, e2⟩ := h2 ev (cs ++ j1) B1 (m + k1) (hs.mono j1) b1 (by omega)
    refine ⟨w2, B2, j1 ++ j2, trivial, by rw [← Nat.add_assoc]; exact b2, fun θ => ?_⟩
    rw [bAnd_ap, e1 θ]
    simp only [Option.bind_some, anda_ap, if_true, e2 θ, List.append_assoc]
theorem ab_or {t t2 : SB} (h : AB t A anyB k1) (h2 : AB t2 A anyB k2) : AB (bOr t t2) A anyB (k1 + k2) := fun ev cs B m hs hb hm => by
  obtain ⟨w, B1, j1, q1, b1, e1⟩ := h ev cs B m hs hb (by omega)
  cases w with
  | true => exact ⟨true, B1, j1, trivial, bx_le b1 (by omega) hm, fun θ => by rw [bOr_ap, e1 θ]; rfl⟩
  | false =>
    obtain ⟨w2, B2, j2, q2, b2, e2⟩ := h2 ev (cs ++ j1) B1 (m + k1) (hs.mono j1) b1 (by omega)
    refine ⟨w2, B2, j1 ++ j2, trivial, by rw [← Nat.add_assoc]; exact b2, fun θ => ?_⟩
    rw [bOr_ap, e1 θ]
    simp only [Option.bind_some, ora_ap, e2 θ, List.append_assoc]
    rfl
theorem ab_yes : AB bYes A (· = true) 0 := fun ev cs B m hs hb hm => ⟨true, B, [], rfl, hb, fun θ => by rw [List.append_nil]; rfl⟩
theorem ab_any {t : SB} {q : Bool → Prop} (h : AB t A q k) : AB t A anyB k := fun ev cs B m hs hb hm => by
  obtain ⟨w, B', js, h1, h2, h3⟩ := h ev cs B m hs hb hm
  exact ⟨w, B', js, trivial, h2, h3⟩
theorem ae_if {t : SB} {q : Bool → Prop} {r : AR} (h : AB t A q k) (h1 : q true → AE c A r k1) (h2 : q false → AE c2 A r k1) : AE (cIf t c c2) A r (k + k1) := fun ev cs B m hs hb hm => by
  obtain ⟨w, B1, j1, q1, b1, e1⟩ := h ev cs B m hs hb (by omega)
  cases w with
  | true =>
    obtain ⟨w2, B2, j2, r2, b2, e2⟩ := h1 q1 ev (cs ++ j1) B1 (m + k) (hs.mono j1) b1 (by omega)
    refine ⟨w2, B2, j1 ++ j2, ?_, by rw [← Nat.add_assoc]; exact b2, fun θ => ?_⟩
    · rw [← List.append_assoc]
      exact rsat_low (by simp) r2
    · rw [cIf_ap, e1 θ]
      simp only [Option.bind_some, ifa_ap, if_true, e2 θ, List.append_assoc]
  | false =>
    obtain ⟨w2, B2, j2, r2, b2, e2⟩ := h2 q1 ev (cs ++ j1) B1 (m + k) (hs.mono j1) b1 (by omega)
    refine ⟨w2, B2, j1 ++ j2, ?_, by rw [← Nat.add_assoc]; exact b2, fun θ => ?_⟩
    · rw [← List.append_assoc]
      exact rsat_low (by simp) r2
    · rw [cIf_ap, e1 θ]
      simp only [Option.bind_some, ifa_ap, e2 θ, List.append_assoc]
      rfl
/-- a and b, both true -/
abbrev Tt : Pd := Bq (· = true)
abbrev Bl : Pd := Bq anyB
theorem ae_andT (h1 : AE c A (.dat Tt) k1) (h2 : AE c2 A (.dat r) k2) : AE (cAnd c c2) A (.dat r) (k1 + k2) := fun ev cs B m hs hb hm => by
  obtain ⟨w, B1, j1, ⟨x, rfl, t, rfl, rfl⟩, b1, e1⟩ := h1 ev cs B m hs hb (by omega)
  obtain ⟨w2, B2, j2, ⟨y, rfl, ry⟩, b2, e2⟩ := h2 ev (cs ++ j1) B1 (m + k1) (hs.mono j1) b1 (by omega)
  refine ⟨.d y, B2, j1 ++ j2, ⟨y, rfl, ry⟩, by rw [← Nat.add_assoc]; exact b2, fun θ => ?_⟩
  rw [cAnd_ap, e1 θ]
  simp only [Th.u, Option.bind_some, andEa_ap, rd_d, truth_b, andEb_ap, if_true, e2 θ, List.append_assoc]
theorem ae_and (h1 : AE c A (.dat Bl) k1) (h2 : AE c2 A (.dat Bl) k2) : AE (cAnd c c2) A (.dat Bl) (k1 + k2) := fun ev cs B m hs hb hm => by
  obtain ⟨w, B1, j1, ⟨x, rfl, t, rfl, _⟩, b1, e1⟩ := h1 ev cs B m hs hb (by omega)
  cases t with
  | false =>
    refine ⟨.d (.bool false), B1, j1, ⟨_, rfl, false, rfl, trivial⟩, bx_le b1 (by omega) hm, fun θ => ?_⟩
    rw [cAnd_ap, e1 θ]
    rfl
  | true =>
    obtain ⟨w2, B2, j2, ⟨y, rfl, ry⟩, b2, e2⟩ := h2 ev (cs ++ j1) B1 (m + k1) (hs.mono j1) b1 (by omega)
    refine ⟨.d y, B2, j1 ++ j2, ⟨y, rfl, ry⟩, by rw [← Nat.add_assoc]; exact b2, fun θ => ?_⟩
    rw [cAnd_ap, e1 θ]
    simp only [Th.u, Option.bind_some, andEa_ap, rd_d, truth_b, andEb_ap, if_true, e2 θ, List.append_assoc]
theorem ae_not {q : Bool → Prop} (h1 : AE c A (.dat (Bq fun b => q (!b))) k1) : AE (cNot c) A (.dat (Bq q)) k1 := fun ev cs B m hs hb hm => by
  obtain ⟨w, B1, j1, ⟨x, rfl, t, rfl, qt⟩, b1, e1⟩ := h1 ev cs B m hs hb (by omega)
  refine ⟨.d (.bool !t), B1, j1, ⟨_, rfl, !t, rfl, qt⟩, b1, fun θ => ?_⟩
  rw [cNot_ap, e1 θ]
  rfl
/-! defs -/
/-- a def that draws nothing -/
def PF (f : FS) (as : List Pd) (r : Pd) : Prop := ∀ xs, All2 as xs → ∃ z, r z ∧ ∀ st, f (xs.map .d) st = some (.d z, st)
/-- a def that draws from the box, k times at most -/
def DF (f : FS) (as : List Pd) (r : Pd) (k : Nat) : Prop := ∀ xs m B, All2 as xs → BxOk m B → m + k ≤ Mx → ∃ z B', r z ∧ BxOk (m + k) B' ∧ ∀ (st L : Sto) (b : Nat), b < st.length → f (.l b :: xs.map .d) (ex (st.set b (some (lay B))) L) = some (.d z, ex (st.set b (some (lay B'))) L)
theorem ae_pf {f : FS} {as : List Pd} {n : Nat} (h : AA sa A (dats as) k) (p : PF f as r) (hn : as.length = n := by rfl) : AE (cDef n f sa) A (.dat r) k := fun ev cs B m hs hb hm => by
  obtain ⟨ws, B', js, h1, h2, h3⟩ := h ev cs B m hs hb hm
  obtain ⟨xs, g1, rfl⟩ := read_dats h1
  obtain ⟨z, rz, ez⟩ := p xs g1
  refine ⟨.d z, B', js, ⟨z, rfl, rz⟩, h2, fun θ => ?_⟩
  have ln : (xs.map U.d).length = n := by rw [List.length_map, ← g1.length]; exact hn
  rw [cDef_ap, h3 θ]
  simp only [Option.bind_some, u_dats, defa_ap, if_pos ln, ez]
  rfl
theorem ae_df {f : FS} {as : List Pd} {n : Nat} (h : AA sa A (.box :: dats as) k) (p : DF f as r k1) (hn : as.length + 1 = n := by rfl) : AE (cDef n f sa) A (.dat r) (k + k1) := fun ev cs B m hs hb hm => by
  obtain ⟨ws, B', js, h1, h2, h3⟩ := h ev cs B m hs hb (by omega)
  cases h1 with
  | cons n' _ hw _ _ t =>
    cases hw
    obtain ⟨xs, g1, rfl⟩ := read_dats t
    obtain ⟨z, B2, rz, b2, ez⟩ := p xs (m + k) B' g1 h2 (by omega)
    refine ⟨.d z, B2, js, ⟨z, rfl, rz⟩, by rw [← Nat.add_assoc]; exact b2, fun θ => ?_⟩
    have ln : (U.l θ.b :: xs.map U.d).length = n := by rw [List.length_cons, List.length_map, ← g1.length]; exact hn
    rw [cDef_ap, h3 θ]
    simp only [Option.bind_some, List.map_cons, u_dats]
    show defa n f (U.l θ.b :: xs.map U.d, _) = _
    rw [defa_ap, if_pos ln]
    exact ez θ.st (θ.L ++ (cs ++ js)) θ.b θ.ok
theorem df_le {f : FS} {as : List Pd} (p : DF f as r k) (l : ∀ x, r x → b x) (hk : k ≤ k1) : DF f as b k1 := fun xs m B h1 h2 h3 => by
  obtain ⟨z, B', g1, g2, g3⟩ := p xs m B h1 h2 (by omega)
  exact ⟨z, B', l z g1, bx_le g2 (by omega) h3, g3⟩
theorem pf_df {f : FS} {as : List Pd} (p : PF f as r) : PF f as r := p
end
end Cm

set_option Elab.async false
set_option linter.all false
set_option maxRecDepth 100000
set_option maxHeartbeats 4000000
namespace Cm
open PySem PySem.Spec PyProof.Rows L2
/-- lists, tuples of like things -/
def Ls (e : Pd) (lo hi : Nat) : Pd := fun x => ∃ xs, x = .list xs ∧ Cont e lo hi xs
def Tp (e : Pd) (lo hi : Nat) : Pd := fun x => ∃ xs, x = .tuple xs ∧ Cont e lo hi xs
def Is (v : PyData) : Pd := fun x => x = v
def Or2 (a b : Pd) : Pd := fun x => a x ∨ b x
theorem cont_le {e e' : Pd} {lo hi lo' hi' : Nat} {xs : List PyData} (h : Cont e lo hi xs) (l : ∀ x, e x → e' x) (h1 : lo' ≤ lo) (h2 : hi ≤ hi') : Cont e' lo' hi' xs :=
  ⟨Nat.le_trans h1 h.1, Nat.le_trans h.2.1 h2, fun y hy => l y (h.2.2 y hy)⟩
/-! ### what is walked -/
def AIt (it : SI) (A : AS) (e : Pd) (lo hi k : Nat) : Prop := ∀ ev cs B m, Sat A ev cs → BxOk m B → m + k ≤ Mx → ∃ xs B' js, Cont e lo hi xs ∧ BxOk (m + k) B' ∧ ∀ θ : Th, it (θ.ev ev) (θ.sto B cs) = some (.fix xs, θ.sto B' (cs ++ js))
section
variable {A A1 A2 : AS} {c c2 c3 : SE} {sa : SA} {a b r e e1 e2 : Pd} {k k1 k2 k3 lo hi lo1 hi1 lo2 hi2 : Nat}
theorem it_seq (h : AE c A (.dat a) k) (l : ∀ x, a x → ∃ xs, (x = .list xs ∨ x = .tuple xs) ∧ Cont e lo hi xs) : AIt (iSeq c) A e lo hi k := fun ev cs B m hs hb hm => by
  obtain ⟨w, B', js, ⟨x, rfl, hx⟩, h2, h3⟩ := h ev cs B m hs hb hm
  obtain ⟨xs, hq, hc⟩ := l x hx
  refine ⟨xs, B', js, hc, h2, fun θ => ?_⟩
  rw [iSeq_ap, h3 θ]
  rcases hq with rfl | rfl <;> rfl
theorem it_ls (h : AE c A (.dat (Ls e lo hi)) k) : AIt (iSeq c) A e lo hi k := it_seq h fun x ⟨xs, h1, h2⟩ => ⟨xs, .inl h1, h2⟩
theorem it_tp (h : AE c A (.dat (Tp e lo hi)) k) : AIt (iSeq c) A e lo hi k := it_seq h fun x ⟨xs, h1, h2⟩ => ⟨xs, .inr h1, h2⟩
/-- ints between bounds -/
def LoB : Option Int → Int → Prop
  | none, _ => True
  | some l, i => l ≤ i
def HiB : Option Int → Int → Prop
  | none, _ => True
  | some h, i => i ≤ h
def Iz (lo hi : Option Int) : Pd := fun x => ∃ i, x = .int i ∧ LoB lo i ∧ HiB hi i
theorem it_range1 {l h : Int} (g : AE c A (.dat (Iz (some l) (some h))) k) (h1 : -4611686018427387904 ≤ l) (h2 : h < 4611686018427387904) (hl : lo = l.toNat) (hh : hi = h.toNat) : AIt (iRange1 (cCons c cNil)) A (Iz (some 0) (some (h - 1))) lo hi k := fun ev cs B m hs hb hm => by
  obtain ⟨w, B', js, ⟨x, rfl, i, rfl, q1, q2⟩, g2, g3⟩ := g ev cs B m hs hb hm
  simp only [LoB, HiB] at q1 q2
  subst hl hh
  refine ⟨rangeD 0 i.toNat, B', js, ⟨by simp [rangeD]; omega, by simp [rangeD]; omega, fun y hy => ?_⟩, g2, fun θ => ?_⟩
  · obtain ⟨n, hn, rfl⟩ := rangeD_mem.mp hy
    refine ⟨_, rfl, ?_, ?_⟩ <;> simp only [LoB, HiB] <;> omega
  · have bg : big i = true := by
      unfold big
      exact decide_eq_true (by omega)
    unfold iRange1
    rw [cCons_ap, g3 θ]
    simp only [Option.bind_some, consa_ap, cNil_ap, Option.map_some, cons1_ap, Th.u, bg, if_true]
theorem it_range2 {l h l2 h2 : Int} (g : AE c A (.dat (Iz (some l) (some h))) k1) (g2 : AE c2 A (.dat (Iz (some l2) (some h2))) k2) (b1 : -4611686018427387904 ≤ l) (b2 : h < 4611686018427387904) (b3 : -4611686018427387904 ≤ l2) (b4 : h2 < 4611686018427387904) (hl : lo = (l2 - h).toNat) (hh : hi = (h2 - l).toNat) :
    AIt (iRange2 (cCons c (cCons c2 cNil))) A (Iz (some l) (some (h2 - 1))) lo hi (k1 + k2) := fun ev cs B m hs hb hm => by
  obtain ⟨w, B1, j1, ⟨x, rfl, i, rfl, q1, q2⟩, b1', e1⟩ := g ev cs B m hs hb (by omega)
  obtain ⟨w2, B2, j2, ⟨x2, rfl, i2, rfl, q3, q4⟩, b2', e2⟩ := g2 ev (cs ++ j1) B1 (m + k1) (hs.mono j1) b1' (by omega)
  simp only [LoB, HiB] at q1 q2 q3 q4
  subst hl hh
  refine ⟨rangeD i (i2 - i).toNat, B2, j1 ++ j2, ⟨by simp [rangeD]; omega, by simp [rangeD]; omega, fun y hy => ?_⟩, by rw [← Nat.add_assoc]; exact b2', fun θ => ?_⟩
  · obtain ⟨n, hn, rfl⟩ := rangeD_mem.mp hy
    refine ⟨_, rfl, ?_, ?_⟩ <;> simp only [LoB, HiB] <;> omega
  · have bg : big i = true := by
      unfold big
      exact decide_eq_true (by omega)
    have bg2 : big i2 = true := by
      unfold big
      exact decide_eq_true (by omega)
    unfold iRange2
    rw [cCons_ap, e1 θ]
    simp only [Option.bind_some, consa_ap, cCons_ap, e2 θ, cNil_ap, Option.map_some, cons1_ap, Th.u, bg, bg2, Bool.and_self, if_true, List.append_assoc]
theorem cont_zip {xs ys : List PyData} (h1 : Cont e1 lo1 hi1 xs) (h2 : Cont e2 lo2 hi2 ys) : Cont (TpOf [e1, e2]) (min lo1 lo2) (min hi1 hi2) (List.zipWith (fun x y => .tuple [x, y]) xs ys) := by
  refine ⟨?_, ?_, fun z hz => ?_⟩
  · rw [List.length_zipWith]
    have := h1.1
    have := h2.1
    omega
  · rw [List.length_zipWith]
    have := h1.2.1
    have := h2.2.1
    omega
  · obtain ⟨i, hi, rfl⟩ := List.mem_iff_getElem.mp hz
    rw [List.getElem_zipWith]
    exact ⟨_, rfl, .cons (h1.2.2 _ (List.getElem_mem _)) (.cons (h2.2.2 _ (List.getElem_mem _)) .nil)⟩
theorem it_zipL (g : AE c A (.dat (Ls e1 lo1 hi1)) k1) (g2 : AE c2 A (.dat (Ls e2 lo2 hi2)) k2) (hl : lo = min lo1 lo2) (hh : hi = min hi1 hi2) : AIt (iZip2 (cCons c (cCons c2 cNil))) A (TpOf [e1, e2]) lo hi (k1 + k2) := fun ev cs B m hs hb hm => by
  obtain ⟨w, B1, j1, ⟨x, rfl, xs, rfl, q1⟩, b1', f1⟩ := g ev cs B m hs hb (by omega)
  obtain ⟨w2, B2, j2, ⟨x2, rfl, ys, rfl, q2⟩, b2', f2⟩ := g2 ev (cs ++ j1) B1 (m + k1) (hs.mono j1) b1' (by omega)
  refine ⟨_, B2, j1 ++ j2, hl ▸ hh ▸ cont_zip q1 q2, by rw [← Nat.add_assoc]; exact b2', fun θ => ?_⟩
  unfold iZip2
  rw [cCons_ap, f1 θ]
  simp only [Option.bind_some, consa_ap, cCons_ap, f2 θ, cNil_ap, Option.map_some, cons1_ap, Th.u, List.append_assoc]
theorem it_zipT (g : AE c A (.dat (Tp e1 lo1 hi1)) k1) (g2 : AE c2 A (.dat (Tp e2 lo2 hi2)) k2) (hl : lo = min lo1 lo2) (hh : hi = min hi1 hi2) : AIt (iZip2 (cCons c (cCons c2 cNil))) A (TpOf [e1, e2]) lo hi (k1 + k2) := fun ev cs B m hs hb hm => by
  obtain ⟨w, B1, j1, ⟨x, rfl, xs, rfl, q1⟩, b1', f1⟩ := g ev cs B m hs hb (by omega)
  obtain ⟨w2, B2, j2, ⟨x2, rfl, ys, rfl, q2⟩, b2', f2⟩ := g2 ev (cs ++ j1) B1 (m + k1) (hs.mono j1) b1' (by omega)
  refine ⟨_, B2, j1 ++ j2, hl ▸ hh ▸ cont_zip q1 q2, by rw [← Nat.add_assoc]; exact b2', fun θ => ?_⟩
  unfold iZip2
  rw [cCons_ap, f1 θ]
  simp only [Option.bind_some, consa_ap, cCons_ap, f2 θ, cNil_ap, Option.map_some, cons1_ap, Th.u, List.append_assoc]
theorem cont_enum : ∀ {xs : List PyData} (i : Nat), (∀ y ∈ xs, e y) → ∀ y ∈ enumD i xs, TpOf [Iz (some (i : Nat)) (some ((i + xs.length : Nat) - 1)), e] y
  | [], _, _, y, hy => by cases hy
  | x :: xs, i, h, y, hy => by
    rcases List.mem_cons.mp hy with rfl | hy
    · refine ⟨_, rfl, .cons ⟨_, rfl, ?_, ?_⟩ (.cons (h x List.mem_cons_self) .nil)⟩ <;> simp only [LoB, HiB, List.length_cons] <;> omega
    · obtain ⟨zs, rfl, t⟩ := cont_enum (i + 1) (fun z hz => h z (List.mem_cons_of_mem _ hz)) y hy
      cases t with
      | cons h1 t =>
        obtain ⟨n, rfl, g1, g2⟩ := h1
        refine ⟨_, rfl, .cons ⟨n, rfl, ?_, ?_⟩ t⟩
        · simp only [LoB] at g1 ⊢
          omega
        · simp only [HiB, List.length_cons] at g2 ⊢
          omega
theorem it_enum (l : ∀ x, a x → ∃ xs, (x = .list xs ∨ x = .tuple xs) ∧ Cont e lo hi xs) (g : AE c A (.dat a) k) : AIt (iEnum1 (cCons c cNil)) A (TpOf [Iz (some 0) (some ((hi : Int) - 1)), e]) lo hi k := fun ev cs B m hs hb hm => by
  obtain ⟨w, B', js, ⟨x, rfl, hx⟩, g2, g3⟩ := g ev cs B m hs hb hm
  obtain ⟨xs, hq, hc⟩ := l x hx
  refine ⟨enumD 0 xs, B', js, ⟨by rw [enumD_length]; exact hc.1, by rw [enumD_length]; exact hc.2.1, fun y hy => ?_⟩, g2, fun θ => ?_⟩
  · obtain ⟨zs, rfl, t⟩ := cont_enum 0 hc.2.2 y hy
    cases t with
    | cons h1 t =>
      obtain ⟨n, rfl, g1, g2⟩ := h1
      have := hc.2.1
      refine ⟨_, rfl, .cons ⟨n, rfl, ?_, ?_⟩ t⟩
      · simp only [LoB] at g1 ⊢
        omega
      · simp only [HiB] at g2 ⊢
        omega
  · unfold iEnum1
    rw [cCons_ap, g3 θ]
    rcases hq with rfl | rfl <;> simp only [Option.bind_some, consa_ap, cNil_ap, Option.map_some, cons1_ap, Th.u]
/-! ### targets -/
def AG (g : GT) (A : AS) (e : Pd) (A' : AS) : Prop := ∀ x ev cs, e x → Sat A ev cs → ∃ ev', Sat A' ev' cs ∧ ∀ θ : Th, g x (θ.ev ev) = some (θ.ev ev')
def AGs (g : List PyData → Ev → Option Ev) (A : AS) (es : List Pd) (A' : AS) : Prop := ∀ xs ev cs, All2 es xs → Sat A ev cs → ∃ ev', Sat A' ev' cs ∧ ∀ θ : Th, g xs (θ.ev ev) = some (θ.ev ev')
theorem ag_name {i : Nat} : AG (gN i) A e (A.set i (some (.dat e))) := fun x ev cs hx hs => ⟨_, hs.setD i hx, fun θ => by
  rw [gN_ap]
  exact congrArg some (Th.evset θ ev i (.d x))⟩
theorem ags_nil : AGs gsNil A [] A := fun xs ev cs hx hs => by
  cases hx
  exact ⟨ev, hs, fun θ => rfl⟩
theorem ags_cons {g : GT} {gs : List PyData → Ev → Option Ev} {es : List Pd} (h1 : AG g A e A1) (h2 : AGs gs A1 es A2) : AGs (gsCons g gs) A (e :: es) A2 := fun xs ev cs hx hs => by
  cases hx with
  | cons q t =>
    obtain ⟨ev1, s1, f1⟩ := h1 _ ev cs q hs
    obtain ⟨ev2, s2, f2⟩ := h2 _ ev1 cs t s1
    refine ⟨ev2, s2, fun θ => ?_⟩
    rw [gsCons_ap, f1 θ]
    exact f2 θ
theorem ag_tup {gs : List PyData → Ev → Option Ev} {es : List Pd} (h : AGs gs A es A1) : AG (gT gs) A (TpOf es) A1 := fun x ev cs ⟨xs, hx, q⟩ hs => by
  subst hx
  obtain ⟨ev1, s1, f1⟩ := h xs ev cs q hs
  exact ⟨ev1, s1, fun θ => f1 θ⟩
theorem ag_le {g : GT} (h : AG g A e A1) (l : ∀ x, b x → e x) : AG g A b A1 := fun x ev cs hx hs => h x ev cs (l x hx) hs
/-! ### comprehensions -/
theorem lc_run {g : GT} {tt : SB} {te : SE} {q : Bool → Prop} {kt ke : Nat} (hg : AG g A e A1) (ht : AB tt A1 q kt) (he : AE te A1 (.dat r) ke) : ∀ (xs : List PyData), (∀ y ∈ xs, e y) → ∀ ev cs B m acc, Sat A ev cs → BxOk m B → m + xs.length * (kt + ke) ≤ Mx → acc.length + xs.length ≤ lim → (∀ y ∈ acc, r y) →
    ∃ ys B', (∀ y ∈ ys, r y) ∧ acc.length ≤ ys.length ∧ ys.length ≤ acc.length + xs.length ∧ ((∀ b, q b → b = true) → ys.length = acc.length + xs.length) ∧ BxOk (m + xs.length * (kt + ke)) B' ∧ ∀ θ : Th, lcL g tt te (θ.ev ev) xs (θ.sto B cs) acc = some (ys, θ.sto B' cs)
  | [], _, ev, cs, B, m, acc, hs, hb, hm, hl, ha => ⟨acc, B, ha, Nat.le_refl _, Nat.le_refl _, fun _ => rfl, by simpa using hb, fun θ => rfl⟩
  | x :: xs, hx, ev, cs, B, m, acc, hs, hb, hm, hl, ha => by
    rw [List.length_cons] at hm hl
    have hm' : (xs.length + 1) * (kt + ke) = xs.length * (kt + ke) + (kt + ke) := Nat.succ_mul _ _
    obtain ⟨ev1, s1, f1⟩ := hg x ev cs (hx x List.mem_cons_self) hs
    obtain ⟨t, B1, j1, qt, b1, f2⟩ := ht ev1 (cs ++ [some acc]) B m (s1.mono _) hb (by omega)
    have cell : ∀ js : Sto, (cs ++ [some acc] ++ js)[cs.length]? = some (some acc) := fun js => by simp
    have cut : ∀ js : Sto, (cs ++ [some acc] ++ js).take cs.length = cs := fun js => by simp
    cases t with
    | true =>
      obtain ⟨w, B2, j2, ⟨y, rfl, ry⟩, b2, f3⟩ := he ev1 (cs ++ [some acc] ++ j1) B1 (m + kt) ((s1.mono _).mono _) b1 (by omega)
      obtain ⟨ys, B3, g1, g2, g3, g4, b3, f4⟩ := lc_run hg ht he xs (fun z hz => hx z (List.mem_cons_of_mem _ hz)) ev cs B2 (m + kt + ke) (acc ++ [y]) hs b2 (by omega) (by rw [List.length_append, List.length_singleton]; omega) (fun z hz => by
        rcases List.mem_append.mp hz with h | h
        · exact ha z h
        · rw [List.mem_singleton.mp h]
          exact ry)
      rw [List.length_append, List.length_singleton] at g2 g3 g4
      refine ⟨ys, B3, g1, by omega, by rw [List.length_cons]; omega, fun h => by rw [List.length_cons, g4 h]; omega, by rw [List.length_cons, hm']; exact bx_le b3 (by omega) (by omega), fun θ => ?_⟩
      have la : acc.length < lim := by omega
      have cell2 := cell (j1 ++ j2)
      have cut2 := cut (j1 ++ j2)
      rw [← List.append_assoc] at cell2 cut2
      simp only [lcL, f1 θ, Option.bind_some, Th.app, f2 θ, if_true, f3 θ, Th.u, Th.len, Th.cell, cell2, if_pos la, Th.take, cut2]
      exact f4 θ
    | false =>
      obtain ⟨ys, B3, g1, g2, g3, g4, b3, f4⟩ := lc_run hg ht he xs (fun z hz => hx z (List.mem_cons_of_mem _ hz)) ev cs B1 (m + kt) acc hs b1 (by omega) (by omega) ha
      refine ⟨ys, B3, g1, g2, by rw [List.length_cons]; omega, fun h => absurd (h false qt) (by decide), by rw [List.length_cons, hm']; exact bx_le b3 (by omega) (by omega), fun θ => ?_⟩
      simp only [lcL, f1 θ, Option.bind_some, Th.app, f2 θ, Th.len, Th.cell, cell, Bool.false_eq_true, if_false, Th.take, cut]
      exact f4 θ
theorem lc_all {it : SI} {g : GT} {tt : SB} {te : SE} {q : Bool → Prop} {kt ke : Nat} {vs : List Nat} {A0 : AS} (hi' : AIt it A e lo hi k) (hw : wipeA A vs = A0) (hg : AG g A0 e A1) (ht : AB tt A1 q kt) (he : AE te A1 (.dat r) ke) (hl : hi ≤ lim) :
    ∀ ev cs B m, Sat A ev cs → BxOk m B → m + (k + hi * (kt + ke)) ≤ Mx → ∃ ys B' js, (∀ y ∈ ys, r y) ∧ ys.length ≤ hi ∧ ((∀ b, q b → b = true) → lo ≤ ys.length) ∧ BxOk (m + (k + hi * (kt + ke))) B' ∧ ∀ θ : Th, lcR it g tt te vs (θ.ev ev) (θ.sto B cs) = some (ys, θ.sto B' (cs ++ js)) := fun ev cs B m hs hb hm => by
  obtain ⟨xs, B1, js, ⟨c1, c2, c3⟩, b1, f1⟩ := hi' ev cs B m hs hb (by omega)
  have mono : xs.length * (kt + ke) ≤ hi * (kt + ke) := Nat.mul_le_mul_right _ c2
  obtain ⟨ys, B2, g1, g2, g3, g4, b2, f2⟩ := lc_run hg ht he xs c3 (wipeW ev vs) (cs ++ js) B1 (m + k) [] (hw ▸ (hs.mono js).wipe vs) b1 (by omega) (by rw [List.length_nil]; omega) (by simp)
  simp only [List.length_nil, Nat.zero_add] at g3 g4
  refine ⟨ys, B2, js, g1, by omega, fun h => by rw [g4 h]; exact c1, bx_le b2 (by omega) hm, fun θ => ?_⟩
  unfold lcR
  rw [f1 θ]
  simp only [Option.bind_some, Th.wipe]
  exact f2 θ
theorem ae_lc {it : SI} {g : GT} {tt : SB} {te : SE} {q : Bool → Prop} {kt ke : Nat} {vs : List Nat} {A0 : AS} (hi' : AIt it A e lo hi k) (hw : wipeA A vs = A0) (hg : AG g A0 e A1) (ht : AB tt A1 q kt) (he : AE te A1 (.dat r) ke) (hl : hi ≤ lim) : AE (cLc it g tt te vs) A (.dat (Ls r 0 hi)) (k + hi * (kt + ke)) := fun ev cs B m hs hb hm => by
  obtain ⟨ys, B', js, g1, g2, _, b2, f2⟩ := lc_all hi' hw hg ht he hl ev cs B m hs hb hm
  refine ⟨.d (.list ys), B', js, ⟨_, rfl, ys, rfl, Nat.zero_le _, g2, g1⟩, b2, fun θ => ?_⟩
  unfold cLc
  rw [f2 θ]
  rfl
theorem ae_lcA {it : SI} {g : GT} {te : SE} {ke : Nat} {vs : List Nat} {A0 : AS} (hi' : AIt it A e lo hi k) (hw : wipeA A vs = A0) (hg : AG g A0 e A1) (he : AE te A1 (.dat r) ke) (hl : hi ≤ lim) : AE (cLc it g bYes te vs) A (.dat (Ls r lo hi)) (k + hi * ke) := fun ev cs B m hs hb hm => by
  have z : 0 + ke = ke := Nat.zero_add _
  obtain ⟨ys, B', js, g1, g2, g3, b2, f2⟩ := lc_all hi' hw hg ab_yes he hl ev cs B m hs hb (by rw [z]; exact hm)
  rw [z] at b2
  refine ⟨.d (.list ys), B', js, ⟨_, rfl, ys, rfl, g3 fun b h => h, g2, g1⟩, b2, fun θ => ?_⟩
  unfold cLc
  rw [f2 θ]
  rfl
theorem ao_lc {it : SI} {g : GT} {tt : SB} {te : SE} {q : Bool → Prop} {kt ke : Nat} {vs : List Nat} {A0 : AS} (hi' : AIt it A e lo hi k) (hw : wipeA A vs = A0) (hg : AG g A0 e A1) (ht : AB tt A1 q kt) (he : AE te A1 (.dat r) ke) (hl : hi ≤ lim) : AE (cLcM it g tt te vs) A (.own r 0 hi) (k + hi * (kt + ke)) := fun ev cs B m hs hb hm => by
  obtain ⟨ys, B', js, g1, g2, _, b2, f2⟩ := lc_all hi' hw hg ht he hl ev cs B m hs hb hm
  refine ⟨.c (cs ++ js).length, B', js ++ [some ys], ⟨_, ys, rfl, by simp, ?_, Nat.zero_le _, g2, g1⟩, b2, fun θ => ?_⟩
  · rw [← List.append_assoc, List.getElem?_append_right (Nat.le_refl _), Nat.sub_self]
    rfl
  · unfold cLcM
    rw [f2 θ]
    simp only [Option.map_some, Th.len, Th.app, List.append_assoc]
    rfl
theorem ao_lcA {it : SI} {g : GT} {te : SE} {ke : Nat} {vs : List Nat} {A0 : AS} (hi' : AIt it A e lo hi k) (hw : wipeA A vs = A0) (hg : AG g A0 e A1) (he : AE te A1 (.dat r) ke) (hl : hi ≤ lim) : AE (cLcM it g bYes te vs) A (.own r lo hi) (k + hi * ke) := fun ev cs B m hs hb hm => by
  have z : 0 + ke = ke := Nat.zero_add _
  obtain ⟨ys, B', js, g1, g2, g3, b2, f2⟩ := lc_all hi' hw hg ab_yes he hl ev cs B m hs hb (by rw [z]; exact hm)
  rw [z] at b2
  refine ⟨.c (cs ++ js).length, B', js ++ [some ys], ⟨_, ys, rfl, by simp, ?_, g3 fun b h => h, g2, g1⟩, b2, fun θ => ?_⟩
  · rw [← List.append_assoc, List.getElem?_append_right (Nat.le_refl _), Nat.sub_self]
    rfl
  · unfold cLcM
    rw [f2 θ]
    simp only [Option.map_some, Th.len, Th.app, List.append_assoc]
    rfl
/-- a list of one's own, read -/
theorem ae_ov (h : AE c A (.own e lo hi) k) : AE c A (.val (Ls e lo hi)) k := fun ev cs B m hs hb hm => by
  obtain ⟨w, B', js, ⟨j, xs, rfl, h1, h2, h3⟩, b1, f1⟩ := h ev cs B m hs hb hm
  exact ⟨.c j, B', js, ⟨.list xs, by simp only [rdW, h2], xs, rfl, h3⟩, b1, f1⟩
theorem ae_ole {e' : Pd} {lo' hi' : Nat} (h : AE c A (.own e lo hi) k) (l : ∀ x, e x → e' x) (h1 : lo' ≤ lo) (h2 : hi ≤ hi') : AE c A (.own e' lo' hi') k := fun ev cs B m hs hb hm => by
  obtain ⟨w, B', js, ⟨j, xs, rfl, g1, g2, g3⟩, b1, f1⟩ := h ev cs B m hs hb hm
  exact ⟨.c j, B', js, ⟨j, xs, rfl, g1, g2, cont_le g3 l h1 h2⟩, b1, f1⟩
/-- new lists of one's own, by other ways -/
theorem ao_made {c' : SE} (h : AE c A (.val a) k) (l : ∀ x, a x → ∃ ys, Cont e lo hi ys ∧ ∀ (θ : Th) (w : W) (ev : Ev) (st : Sto) (B : Bx) (cs : Sto), c ev st = some (θ.u w, θ.sto B cs) → rdW cs w = some x → c' ev st = some (.l (θ.at cs.length), θ.sto B (cs ++ [some ys]))) : AE c' A (.own e lo hi) k := fun ev cs B m hs hb hm => by
  obtain ⟨w, B', js, ⟨x, h1, hx⟩, h2, h3⟩ := h ev cs B m hs hb hm
  obtain ⟨ys, hc, q⟩ := l x hx
  refine ⟨.c (cs ++ js).length, B', js ++ [some ys], ⟨_, ys, rfl, by simp, ?_, hc⟩, h2, fun θ => ?_⟩
  · rw [← List.append_assoc, List.getElem?_append_right (Nat.le_refl _), Nat.sub_self]
    rfl
  · rw [q θ w _ _ B' (cs ++ js) (h3 θ) h1, List.append_assoc]
    rfl
theorem ao_rev (h : AE c A (.val (Ls e lo hi)) k) : AE (cRevM c) A (.own e lo hi) k := ao_made h fun x ⟨xs, hx, hc⟩ => ⟨xs.reverse, ⟨by simpa using hc.1, by simpa using hc.2.1, fun y hy => hc.2.2 y (List.mem_reverse.mp hy)⟩, fun θ w ev st B cs q1 q2 => by
  subst hx
  unfold cRevM
  rw [q1]
  simp only [Option.bind_some, Th.rd θ B _ q2, Th.len, Th.app]⟩
theorem ao_listM (l : ∀ x, a x → ∃ xs, (x = .list xs ∨ x = .tuple xs) ∧ Cont e lo hi xs) (h : AE c A (.val a) k) : AE (cListM (cCons c cNil)) A (.own e lo hi) k := ao_made h fun x hx => by
  obtain ⟨xs, hq, hc⟩ := l x hx
  refine ⟨xs, hc, fun θ w ev st B cs q1 q2 => ?_⟩
  rw [cListM_ap, cCons_ap, q1]
  simp only [Option.bind_some, consa_ap, cNil_ap, Option.map_some, cons1_ap, listMa_ap, rdAll_cons, rdAll_nil, Th.rd θ B _ q2, rdc_s]
  rcases hq with rfl | rfl <;> simp only [listMb_l, listMb_t, Th.len, Th.app]
end
end Cm

set_option Elab.async false
set_option linter.all false
set_option maxRecDepth 100000
set_option maxHeartbeats 4000000
namespace Cm
open PySem PySem.Spec PyProof.Rows L2
/-! ### statements -/
inductive Ao where
  | nx (ev : Wv) (cs : Sto)
  | rt (w : W) (cs : Sto)
  | bk (ev : Wv) (cs : Sto)
  | ct (ev : Wv) (cs : Sto)
def Th.out (θ : Th) (B : Bx) : Ao → Out
  | .nx ev cs => .nx (θ.ev ev) (θ.sto B cs)
  | .rt w cs => .rt (θ.u w) (θ.sto B cs)
  | .bk ev cs => .bk (θ.ev ev) (θ.sto B cs)
  | .ct ev cs => .ct (θ.ev ev) (θ.sto B cs)
/-- where a statement may end besides the next one -/
structure Xt where
  K : Option AS := none
  C : Option AS := none
  R : Option AR := none
def osat (N : Option AS) (X : Xt) : Ao → Prop
  | .nx ev cs => ∃ A, N = some A ∧ Sat A ev cs
  | .bk ev cs => ∃ A, X.K = some A ∧ Sat A ev cs
  | .ct ev cs => ∃ A, X.C = some A ∧ Sat A ev cs
  | .rt w cs => ∃ r, X.R = some r ∧ rsat 0 cs r w
def ASt (c : SS) (A : AS) (k : Nat) (N : Option AS) (X : Xt) : Prop := ∀ ev cs B m, Sat A ev cs → BxOk m B → m + k ≤ Mx → ∃ o B', osat N X o ∧ BxOk (m + k) B' ∧ ∀ θ : Th, c (θ.ev ev) (θ.sto B cs) = some (θ.out B' o)
section
variable {A A1 A2 : AS} {N : Option AS} {X : Xt} {c c2 : SE} {s s2 : SS} {sa : SA} {a b r e e' : Pd} {k k1 k2 lo hi : Nat}
theorem as_up (h : ASt s A k N X) (l : k ≤ k1) : ASt s A k1 N X := fun ev cs B m hs hb hm => by
  obtain ⟨o, B', h1, h2, h3⟩ := h ev cs B m hs hb (by omega)
  exact ⟨o, B', h1, bx_le h2 (by omega) hm, h3⟩
theorem as_pre (l : AsLe A A1) (h : ASt s A1 k N X) : ASt s A k N X := fun ev cs B m hs hb hm => h ev cs B m (hs.le l) hb hm
theorem as_post (h : ASt s A k (some A1) X) (l : AsLe A1 A2) : ASt s A k (some A2) X := fun ev cs B m hs hb hm => by
  obtain ⟨o, B', h1, h2, h3⟩ := h ev cs B m hs hb hm
  refine ⟨o, B', ?_, h2, h3⟩
  cases o with
  | nx ev cs =>
    obtain ⟨A', q, s⟩ := h1
    cases q
    exact ⟨A2, rfl, s.le l⟩
  | rt => exact h1
  | bk => exact h1
  | ct => exact h1
theorem as_no (h : ASt s A k none X) : ASt s A k N X := fun ev cs B m hs hb hm => by
  obtain ⟨o, B', h1, h2, h3⟩ := h ev cs B m hs hb hm
  refine ⟨o, B', ?_, h2, h3⟩
  cases o with
  | nx ev cs =>
    obtain ⟨A', q, s⟩ := h1
    cases q
  | rt => exact h1
  | bk => exact h1
  | ct => exact h1
theorem as_skip : ASt cSkip A 0 (some A) X := fun ev cs B m hs hb hm => ⟨.nx ev cs, B, ⟨A, rfl, hs⟩, hb, fun θ => rfl⟩
theorem as_seq (h1 : ASt s A k1 (some A1) X) (h2 : ASt s2 A1 k2 N X) : ASt (cSeq s s2) A (k1 + k2) N X := fun ev cs B m hs hb hm => by
  obtain ⟨o, B1, o1, b1, f1⟩ := h1 ev cs B m hs hb (by omega)
  cases o with
  | nx ev1 cs1 =>
    obtain ⟨A', q, s1⟩ := o1
    cases q
    obtain ⟨o2, B2, p2, b2, f2⟩ := h2 ev1 cs1 B1 (m + k1) s1 b1 (by omega)
    refine ⟨o2, B2, p2, by rw [← Nat.add_assoc]; exact b2, fun θ => ?_⟩
    rw [cSeq_ap, f1 θ]
    exact f2 θ
  | rt w cs1 => exact ⟨.rt w cs1, B1, o1, bx_le b1 (by omega) hm, fun θ => by rw [cSeq_ap, f1 θ]; rfl⟩
  | bk w cs1 => exact ⟨.bk w cs1, B1, o1, bx_le b1 (by omega) hm, fun θ => by rw [cSeq_ap, f1 θ]; rfl⟩
  | ct w cs1 => exact ⟨.ct w cs1, B1, o1, bx_le b1 (by omega) hm, fun θ => by rw [cSeq_ap, f1 θ]; rfl⟩
theorem as_seqR (h1 : ASt s A k none X) : ASt (cSeq s s2) A k N X := fun ev cs B m hs hb hm => by
  obtain ⟨o, B1, o1, b1, f1⟩ := h1 ev cs B m hs hb (by omega)
  cases o with
  | nx ev1 cs1 =>
    obtain ⟨A', q, s1⟩ := o1
    cases q
  | rt w cs1 => exact ⟨.rt w cs1, B1, o1, b1, fun θ => by rw [cSeq_ap, f1 θ]; rfl⟩
  | bk w cs1 => exact ⟨.bk w cs1, B1, o1, b1, fun θ => by rw [cSeq_ap, f1 θ]; rfl⟩
  | ct w cs1 => exact ⟨.ct w cs1, B1, o1, b1, fun θ => by rw [cSeq_ap, f1 θ]; rfl⟩
theorem as_set {i : Nat} (h : AE c A (.dat a) k) : ASt (cSet i c) A k (some (A.set i (some (.dat a)))) X := fun ev cs B m hs hb hm => by
  obtain ⟨w, B', js, ⟨x, rfl, hx⟩, h2, h3⟩ := h ev cs B m hs hb hm
  refine ⟨.nx (ev.set i (some (.d x))) (cs ++ js), B', ⟨_, rfl, (hs.mono js).setD i hx⟩, h2, fun θ => ?_⟩
  rw [cSet_ap, h3 θ]
  simp only [Option.map_some, seta_ap, Th.evset]
  rfl
theorem as_setO {i : Nat} (h : AE c A (.own e lo hi) k) : ASt (cSet i c) A k (some (A.set i (some (.own e lo hi)))) X := fun ev cs B m hs hb hm => by
  obtain ⟨w, B', js, ⟨j, xs, rfl, h1, hx, hc⟩, h2, h3⟩ := h ev cs B m hs hb hm
  refine ⟨.nx (ev.set i (some (.c j))) (cs ++ js), B', ⟨_, rfl, hs.setO i h1 hx hc⟩, h2, fun θ => ?_⟩
  rw [cSet_ap, h3 θ]
  simp only [Option.map_some, seta_ap, Th.evset]
  rfl
theorem as_ret (h : AE c A (.val r) k) (hR : X.R = some (.val r)) : ASt (cRet c) A k N X := fun ev cs B m hs hb hm => by
  obtain ⟨w, B', js, ⟨x, h1, hx⟩, h2, h3⟩ := h ev cs B m hs hb hm
  refine ⟨.rt w (cs ++ js), B', ⟨_, hR, x, h1, hx⟩, h2, fun θ => ?_⟩
  rw [cRet_ap, h3 θ]
  rfl
theorem as_retO (h : AE c A (.own e lo hi) k) (hR : X.R = some (.own e lo hi)) : ASt (cRet c) A k N X := fun ev cs B m hs hb hm => by
  obtain ⟨w, B', js, h1, h2, h3⟩ := h ev cs B m hs hb hm
  refine ⟨.rt w (cs ++ js), B', ⟨_, hR, rsat_low (Nat.zero_le _) h1⟩, h2, fun θ => ?_⟩
  rw [cRet_ap, h3 θ]
  rfl
/-- a list of one's own handed back by its name -/
theorem as_retV {i : Nat} (q : A[i]? = some (some (.own e lo hi))) (hR : X.R = some (.own e lo hi)) : ASt (cRet (cVar i)) A 0 N X := fun ev cs B m hs hb hm => by
  obtain ⟨w, h1, j, xs, rfl, hx, hc⟩ := hs.get i _ q
  refine ⟨.rt (.c j) cs, B, ⟨_, hR, j, xs, rfl, Nat.zero_le _, hx, hc⟩, hb, fun θ => ?_⟩
  rw [cRet_ap, cVar_ap, Th.get, h1]
  rfl
theorem as_if {t : SB} {q : Bool → Prop} (h : AB t A q k) (h1 : q true → ASt s A k1 N X) (h2 : q false → ASt s2 A k1 N X) : ASt (cIfS t s s2) A (k + k1) N X := fun ev cs B m hs hb hm => by
  obtain ⟨w, B1, j1, q1, b1, e1⟩ := h ev cs B m hs hb (by omega)
  cases w with
  | true =>
    obtain ⟨o, B2, o2, b2, e2⟩ := h1 q1 ev (cs ++ j1) B1 (m + k) (hs.mono j1) b1 (by omega)
    refine ⟨o, B2, o2, by rw [← Nat.add_assoc]; exact b2, fun θ => ?_⟩
    rw [cIfS_ap, e1 θ]
    simp only [Option.bind_some, ifa_ap, if_true, e2 θ]
  | false =>
    obtain ⟨o, B2, o2, b2, e2⟩ := h2 q1 ev (cs ++ j1) B1 (m + k) (hs.mono j1) b1 (by omega)
    refine ⟨o, B2, o2, by rw [← Nat.add_assoc]; exact b2, fun θ => ?_⟩
    rw [cIfS_ap, e1 θ]
    simp only [Option.bind_some, ifa_ap, e2 θ]
    rfl
theorem as_expr {r : AR} (h : AE c A r k) : ASt (cExpr c) A k (some A) X := fun ev cs B m hs hb hm => by
  obtain ⟨w, B', js, h1, h2, h3⟩ := h ev cs B m hs hb hm
  refine ⟨.nx ev (cs ++ js), B', ⟨_, rfl, hs.mono js⟩, h2, fun θ => ?_⟩
  rw [cExpr_ap, h3 θ]
  rfl
theorem as_break (q : X.K = some A) : ASt cBrk A 0 N X := fun ev cs B m hs hb hm => ⟨.bk ev cs, B, ⟨A, q, hs⟩, hb, fun θ => rfl⟩
theorem as_cont (q : X.C = some A) : ASt cCont A 0 N X := fun ev cs B m hs hb hm => ⟨.ct ev cs, B, ⟨A, q, hs⟩, hb, fun θ => rfl⟩
/-- a list of one's own is changed by a method -/
theorem as_meth {f : MF} {i lo' hi' : Nat} {as : List Pd} (q : A[i]? = some (some (.own e lo hi))) (h : AA sa A (dats as) k) (hf : ∀ xs ds, Cont e lo hi xs → All2 as ds → ∃ z ys, f xs ds = some (z, ys) ∧ Cont e' lo' hi' ys) (hl : hi' ≤ lim) :
    ASt (cExpr (cM f (cVar i) sa)) A k (some (A.set i (some (.own e' lo' hi')))) X := fun ev cs B m hs hb hm => by
  obtain ⟨ws, B', js, h1, h2, h3⟩ := h ev cs B m hs hb hm
  obtain ⟨ds, g1, rfl⟩ := read_dats h1
  obtain ⟨w, k1, j, xs, rfl, hx, hc⟩ := hs.get i _ q
  obtain ⟨z, ys, f1, f2⟩ := hf xs ds hc g1
  have hx2 : (cs ++ js)[j]? = some (some xs) := by rw [List.getElem?_append_left (lt_of_get hx)]; exact hx
  refine ⟨.nx ev ((cs ++ js).set j (some ys)), B', ⟨_, rfl, (hs.mono js).write q k1 f2⟩, h2, fun θ => ?_⟩
  have ly : ys.length ≤ lim := Nat.le_trans f2.2.1 hl
  rw [cExpr_ap, cM_ap, cVar_ap, Th.get, k1]
  simp only [Option.map_some, var1_s, Option.bind_some, Th.u, ma_l, Th.cell, hx, mb_s, h3 θ, mb1_ap, u_dats, allD_d, mb2_ap, hx2, mc_s, f1, md_ap, if_pos ly, expra_ap, Th.put]
  rfl
theorem as_append {i : Nat} (q : A[i]? = some (some (.own e lo hi))) (h : AE c A (.dat a) k) (l1 : ∀ x, e x → e' x) (l2 : ∀ x, a x → e' x) (hl : hi + 1 ≤ lim) : ASt (cExpr (cM mAppend (cVar i) (cCons c cNil))) A k (some (A.set i (some (.own e' (lo + 1) (hi + 1))))) X :=
  as_meth (as := [a]) q (aa_cons h aa_nil) (fun xs ds hc hd => by
    cases hd with
    | cons hy t =>
      rename_i x0 _
      cases t
      refine ⟨.none, xs ++ [x0], ?_, ?_⟩
      · unfold mAppend
        have := hc.2.1
        simp only
        rw [if_pos (by omega)]
      · refine ⟨by rw [List.length_append, List.length_singleton]; have := hc.1; omega, by rw [List.length_append, List.length_singleton]; have := hc.2.1; omega, fun y hy2 => ?_⟩
        rcases List.mem_append.mp hy2 with z | z
        · exact l1 y (hc.2.2 y z)
        · rw [List.mem_singleton.mp z]
          exact l2 _ hy) hl
/-- found[i] = y -/
theorem as_setIx {i : Nat} {l h : Int} (q : A[i]? = some (some (.own e lo hi))) (hv : AE c A (.dat a) k1) (hi' : AE c2 A (.dat (Iz (some l) (some h))) k2) (l1 : ∀ x, e x → e' x) (l2 : ∀ x, a x → e' x) (b1 : -(lo : Int) ≤ l) (b2 : h < lo) : ASt (cSetIx (cVar i) c2 c) A (k1 + k2) (some (A.set i (some (.own e' lo hi)))) X := fun ev cs B m hs hb hm => by
  obtain ⟨w, B1, j1, ⟨y, rfl, hy⟩, b1', f1⟩ := hv ev cs B m hs hb (by omega)
  obtain ⟨w2, B2, j2, ⟨x2, rfl, n, rfl, q1, q2⟩, b2', f2⟩ := hi' ev (cs ++ j1) B1 (m + k1) (hs.mono j1) b1' (by omega)
  obtain ⟨w3, g1, j, xs, rfl, hx, hc⟩ := hs.get i _ q
  simp only [LoB, HiB] at q1 q2
  have hx2 : (cs ++ j1 ++ j2)[j]? = some (some xs) := by rw [List.append_assoc, List.getElem?_append_left (lt_of_get hx)]; exact hx
  have lx := hc.1
  obtain ⟨p, hp, hp2⟩ : ∃ p, ixN xs.length n = some p ∧ p < xs.length := by
    by_cases n0 : 0 ≤ n
    · exact ⟨n.toNat, by unfold ixN; rw [if_pos n0, if_pos (by omega)], by omega⟩
    · exact ⟨(n + xs.length).toNat, by unfold ixN; rw [if_neg n0, if_pos (by omega)], by omega⟩
  have hc2 : Cont e' lo hi (xs.set p y) := ⟨by rw [List.length_set]; exact hc.1, by rw [List.length_set]; exact hc.2.1, fun z hz => by
    rcases List.mem_or_eq_of_mem_set hz with z1 | z1
    · exact l1 z (hc.2.2 z z1)
    · subst z1
      exact l2 _ hy⟩
  refine ⟨.nx ev ((cs ++ j1 ++ j2).set j (some (xs.set p y))), B2, ⟨_, rfl, ((hs.mono j1).mono j2).write q g1 hc2⟩, by rw [← Nat.add_assoc]; exact b2', fun θ => ?_⟩
  rw [cSetIx_ap, f1 θ]
  simp only [Option.bind_some, Th.u, sixa_d, cVar_ap, Th.get, g1, Option.map_some, var1_s, sixb_l, f2 θ, sixb2_i, Th.cell, hx2, sixc_s, hp, sixd_ap, Th.put]
  rfl
theorem as_setT {g : GT} (h : AE c A (.dat e) k) (hg : AG g A e A1) : ASt (cSetT g c) A k (some A1) X := fun ev cs B m hs hb hm => by
  obtain ⟨w, B', js, ⟨x, rfl, hx⟩, h2, h3⟩ := h ev cs B m hs hb hm
  obtain ⟨ev1, s1, f1⟩ := hg x ev (cs ++ js) hx (hs.mono js)
  refine ⟨.nx ev1 (cs ++ js), B', ⟨_, rfl, s1⟩, h2, fun θ => ?_⟩
  rw [cSetT_ap, h3 θ]
  simp only [Option.bind_some, Th.u, setTa_ap, f1 θ, Option.map_some, nxa_ap]
  rfl
theorem as_aug {i : Nat} {f : PyData → PyData → Option PyData} (q : A[i]? = some (some (.dat a))) (h : AE c A (.val b) k) (t : Tr2 f a b r) : ASt (cAug i f c) A k (some (A.set i (some (.dat r)))) X := fun ev cs B m hs hb hm => by
  obtain ⟨w, B', js, ⟨y, h1, hy⟩, h2, h3⟩ := h ev cs B m hs hb hm
  obtain ⟨w2, g1, x, rfl, hx⟩ := hs.get i _ q
  obtain ⟨z, rz, ez⟩ := t x y hx hy
  refine ⟨.nx (ev.set i (some (.d z))) (cs ++ js), B', ⟨_, rfl, (hs.mono js).setD i rz⟩, h2, fun θ => ?_⟩
  have hr := Th.rd θ B' _ h1
  rw [cAug_ap, Th.get, g1]
  show auga i f c (θ.ev ev) (θ.sto B cs) (some (some (.d x))) = _
  simp only [auga_s, h3 θ, Option.bind_some, augc_ap, hr, ez, toD_s, Option.map_some, seta_ap]
  show some (Out.nx ((θ.ev ev).set i (some (θ.u (.d z)))) _) = _
  rw [Th.evset]
  rfl
/-! several names at once -/
def putA (A : AS) : List Nat → List AR → AS
  | i :: is, .dat a :: rs => putA (A.set i (some (.dat a))) is rs
  | i :: is, .own e lo hi :: rs => putA (A.set i (some (.own e lo hi))) is rs
  | _, _ => A
inductive Sets : List AR → Prop
  | nil : Sets []
  | dat {a : Pd} {rs : List AR} : Sets rs → Sets (.dat a :: rs)
  | own {e : Pd} {lo hi : Nat} {rs : List AR} : Sets rs → Sets (.own e lo hi :: rs)
/-- what is set is newer than all that the slots have -/
structure SatN (n : Nat) (A : AS) (ev : Wv) (cs : Sto) : Prop extends Sat A ev cs where
  below : ∀ (i : Nat), isOwn A i → ∀ j, ev[i]? = some (some (.c j)) → j < n
theorem SatN.low {n n' : Nat} {A : AS} {ev : Wv} {cs : Sto} (h : SatN n A ev cs) (l : n ≤ n') : SatN n' A ev cs := ⟨h.toSat, fun i o j e => Nat.lt_of_lt_of_le (h.below i o j e) l⟩
theorem SatN.setD {n : Nat} {A : AS} {ev : Wv} {cs : Sto} {a : Pd} {x : PyData} (h : SatN n A ev cs) (i : Nat) (hx : a x) : SatN n (A.set i (some (.dat a))) (ev.set i (some (.d x))) cs := by
  refine ⟨h.toSat.setD i hx, fun k ⟨e, lo, hi, q⟩ j e2 => ?_⟩
  rcases get_set q with ⟨_, z, _⟩ | ⟨n, z⟩
  · cases z
  · rw [List.getElem?_set_ne n] at e2
    exact h.below k ⟨e, lo, hi, z⟩ j e2
theorem SatN.setO {n n' : Nat} {A : AS} {ev : Wv} {cs : Sto} {e : Pd} {lo hi j : Nat} {xs : List PyData} (h : SatN n A ev cs) (i : Nat) (hj : n ≤ j) (hc : cs[j]? = some (some xs)) (hx : Cont e lo hi xs) (l : n ≤ n') (l2 : j < n') : SatN n' (A.set i (some (.own e lo hi))) (ev.set i (some (.c j))) cs := by
  have own : ∀ k, i ≠ k → isOwn (A.set i (some (.own e lo hi))) k → isOwn A k := fun k n ⟨e', lo', hi', q⟩ => by
    rcases get_set q with ⟨z, _, _⟩ | ⟨_, z⟩
    · exact absurd z n
    · exact ⟨e', lo', hi', z⟩
  have hit : ∀ k l, (ev.set i (some (.c j)))[k]? = some (some (.c l)) → (i = k ∧ l = j) ∨ (i ≠ k ∧ ev[k]? = some (some (.c l))) := fun k l e1 => by
    rcases get_set e1 with ⟨z, z2, _⟩ | ⟨z, z2⟩
    · cases z2
      exact .inl ⟨z, rfl⟩
    · exact .inr ⟨z, z2⟩
  refine ⟨⟨by simp [h.len], fun k aw q => ?_, fun k k' l o1 o2 e1 e2 => ?_⟩, fun k o l e1 => ?_⟩
  · rcases get_set q with ⟨rfl, z, hl⟩ | ⟨n, z⟩
    · cases z
      exact ⟨.c j, by rw [List.getElem?_set_self (by rw [h.len]; exact hl)], j, xs, rfl, hc, hx⟩
    · obtain ⟨w, h1, h2⟩ := h.get k aw z
      exact ⟨w, by rw [List.getElem?_set_ne n]; exact h1, h2⟩
  · rcases hit k l e1 with ⟨z1, z2⟩ | ⟨z1, z2⟩ <;> rcases hit k' l e2 with ⟨y1, y2⟩ | ⟨y1, y2⟩
    · omega
    · have := h.below k' (own k' y1 o2) l y2
      omega
    · have := h.below k (own k z1 o1) l z2
      omega
    · exact h.sep k k' l (own k z1 o1) (own k' y1 o2) z2 y2
  · rcases hit k l e1 with ⟨z1, z2⟩ | ⟨z1, z2⟩
    · omega
    · have := h.below k (own k z1 o) l z2
      omega
theorem put_run {cs : Sto} : ∀ {rs : List AR} (is : List Nat) {n : Nat} {ws : List W} {A : AS} {ev : Wv}, Sets rs → is.length = rs.length → RAll n cs rs ws → SatN n A ev cs → Sat (putA A is rs) ((is.zip ws).foldl (fun ev q => ev.set q.1 (some q.2)) ev) cs
  | [], [], _, _, A, ev, _, _, .nil, hs => hs.toSat
  | .dat a :: rs, i :: is, n, _, A, ev, .dat st, hl, .cons (ws := ws) n' hn ⟨x, hw, hx⟩ hb _ t, hs => by
    subst hw
    exact put_run (rs := rs) is st (by simpa using hl) t ((hs.setD i hx).low hn)
  | .own e lo hi :: rs, i :: is, n, _, A, ev, .own st, hl, .cons (ws := ws) n' hn ⟨j, xs, hw, hj, hx, hc⟩ hb _ t, hs => by
    subst hw
    exact put_run (rs := rs) is st (by simpa using hl) t (hs.setO i hj hx hc hn (hb j rfl))
theorem fold_u (θ : Th) : ∀ (is : List Nat) (ws : List W) (ev : Wv), (is.zip (ws.map θ.u)).foldl (fun (ev : Ev) q => ev.set q.1 (some q.2)) (θ.ev ev) = θ.ev ((is.zip ws).foldl (fun ev q => ev.set q.1 (some q.2)) ev)
  | [], ws, ev => rfl
  | i :: is, [], ev => rfl
  | i :: is, w :: ws, ev => by
    simp only [List.map_cons, List.zip_cons_cons, List.foldl_cons]
    rw [Th.evset]
    exact fold_u θ is ws _
theorem as_par {is : List Nat} {rs : List AR} (h : AA sa A rs k) (st : Sets rs) (hl : is.length = rs.length := by rfl) : ASt (cParN is sa) A k (some (putA A is rs)) X := fun ev cs B m hs hb hm => by
  obtain ⟨ws, B', js, h1, h2, h3⟩ := h ev cs B m hs hb hm
  have sn : SatN cs.length A ev (cs ++ js) := ⟨hs.mono js, fun i ⟨e, lo, hi, q⟩ j e2 => by
    obtain ⟨w, g1, j', xs, g2, g3, _⟩ := hs.get i _ q
    rw [e2] at g1
    cases g1
    cases g2
    exact lt_of_get g3⟩
  refine ⟨.nx ((is.zip ws).foldl (fun ev q => ev.set q.1 (some q.2)) ev) (cs ++ js), B', ⟨_, rfl, put_run is st hl h1 sn⟩, h2, fun θ => ?_⟩
  have lw : (ws.map θ.u).length = is.length := by rw [List.length_map, h1.length, hl]
  rw [cParN_ap, h3 θ]
  simp only [Option.bind_some, para_ap, if_pos lw, fold_u]
  rfl
/-! loops -/
theorem for_run {g : GT} {I J : Nat → AS} {kb n : Nat} (hg : ∀ j, j < n → AG g (I j) e (J j)) (hb : ∀ j, j < n → ASt s (J j) kb (some (I (j + 1))) { X with K := none, C := none }) : ∀ (xs : List PyData) (j : Nat), (∀ y ∈ xs, e y) → j + xs.length ≤ n → ∀ ev cs B m, Sat (I j) ev cs → BxOk m B → m + xs.length * kb ≤ Mx →
    ∃ o B', osat (some (I (j + xs.length))) X o ∧ BxOk (m + xs.length * kb) B' ∧ ∀ θ : Th, forL g s xs (θ.ev ev) (θ.sto B cs) = some (θ.out B' o)
  | [], j, _, _, ev, cs, B, m, hs, hb', hm => ⟨.nx ev cs, B, ⟨_, rfl, hs⟩, by simpa using hb', fun θ => rfl⟩
  | x :: xs, j, hx, hj, ev, cs, B, m, hs, hb', hm => by
    rw [List.length_cons] at hj hm
    have hm' : (xs.length + 1) * kb = xs.length * kb + kb := Nat.succ_mul _ _
    obtain ⟨ev1, s1, f1⟩ := hg j (by omega) x ev cs (hx x List.mem_cons_self) hs
    obtain ⟨o, B1, o1, b1, f2⟩ := hb j (by omega) ev1 cs B m s1 hb' (by omega)
    cases o with
    | nx ev2 cs2 =>
      obtain ⟨A', q, s2⟩ := o1
      cases q
      obtain ⟨o3, B3, o3', b3, f3⟩ := for_run hg hb xs (j + 1) (fun z hz => hx z (List.mem_cons_of_mem _ hz)) (by omega) ev2 cs2 B1 (m + kb) s2 b1 (by omega)
      refine ⟨o3, B3, ?_, by rw [List.length_cons, hm']; exact bx_le b3 (by omega) (by omega), fun θ => ?_⟩
      · rw [List.length_cons, show j + (xs.length + 1) = j + 1 + xs.length by omega]
        exact o3'
      · simp only [forL, f1 θ, Option.bind_some, f2 θ, Th.out]
        exact f3 θ
    | rt w cs2 =>
      refine ⟨.rt w cs2, B1, o1, by rw [List.length_cons, hm']; exact bx_le b1 (by omega) (by omega), fun θ => ?_⟩
      simp only [forL, f1 θ, Option.bind_some, f2 θ, Th.out]
    | bk w cs2 =>
      obtain ⟨A', q, _⟩ := o1
      cases q
    | ct w cs2 =>
      obtain ⟨A', q, _⟩ := o1
      cases q
theorem as_for {it : SI} {g : GT} {I J : Nat → AS} {kb : Nat} (hi' : AIt it A e lo hi k) (h0 : AsLe A (I 0)) (hg : ∀ j, j < hi → AG g (I j) e (J j)) (hb : ∀ j, j < hi → ASt s (J j) kb (some (I (j + 1))) { X with K := none, C := none }) (hN : ∀ j, lo ≤ j → j ≤ hi → AsLe (I j) A1) : ASt (cFor it g s) A (k + hi * kb) (some A1) X := fun ev cs B m hs hb' hm => by
  obtain ⟨xs, B1, js, ⟨c1, c2, c3⟩, b1, f1⟩ := hi' ev cs B m hs hb' (by omega)
  have mono : xs.length * kb ≤ hi * kb := Nat.mul_le_mul_right _ c2
  obtain ⟨o, B2, o2, b2, f2⟩ := for_run (X := X) hg hb xs 0 c3 (by omega) ev (cs ++ js) B1 (m + k) ((hs.mono js).le h0) b1 (by omega)
  rw [Nat.zero_add] at o2
  refine ⟨o, B2, ?_, bx_le b2 (by omega) hm, fun θ => ?_⟩
  · cases o with
    | nx ev2 cs2 =>
      obtain ⟨A', q, s2⟩ := o2
      cases q
      exact ⟨A1, rfl, s2.le (hN _ c1 c2)⟩
    | rt => exact o2
    | bk => exact o2
    | ct => exact o2
  · rw [cFor_ap, f1 θ]
    exact f2 θ
/-- nothing runs: a list of one's own becomes data -/
theorem as_frz {i : Nat} (q : A[i]? = some (some (.own e lo hi))) (h : ASt s (A.set i (some (.dat (Ls e lo hi)))) k N X) : ASt (cFreeze i s) A k N X := fun ev cs B m hs hb hm => by
  obtain ⟨w, g1, j, xs, rfl, hx, hc⟩ := hs.get i _ q
  have oi : isOwn A i := ⟨_, _, _, q⟩
  have s2 : Sat (A.set i (some (.dat (Ls e lo hi)))) (ev.set i (some (.d (.list xs)))) (cs.set j none) := by
    have s1 := hs.setD (a := Ls e lo hi) i (x := .list xs) ⟨xs, rfl, hc⟩
    refine ⟨s1.len, fun k aw z => ?_, s1.sep⟩
    obtain ⟨w, h1, h2⟩ := s1.get k aw z
    refine ⟨w, h1, ?_⟩
    cases aw with
    | dat a => exact h2
    | box => exact h2
    | own e2 lo2 hi2 =>
      obtain ⟨l, zs, e1, e2, e3⟩ := h2
      subst e1
      have nl : j ≠ l := fun z2 => by
        subst z2
        rcases get_set z with ⟨_, y, _⟩ | ⟨n, y⟩
        · cases y
        · rw [List.getElem?_set_ne n] at h1
          exact n (hs.sep i k j oi ⟨_, _, _, y⟩ g1 h1)
      exact ⟨l, zs, rfl, by rw [List.getElem?_set_ne nl]; exact e2, e3⟩
  obtain ⟨o, B', o1, b1, f1⟩ := h _ _ B m s2 hb hm
  refine ⟨o, B', o1, b1, fun θ => ?_⟩
  have f2 := f1 θ
  unfold cFreeze
  rw [Th.get, g1]
  simp only [Option.map_some, Th.u, freeze, Th.cell, hx, Option.bind_some, Th.put]
  rw [show (θ.ev ev).set i (some (U.d (.list xs))) = θ.ev (ev.set i (some (.d (.list xs)))) from Th.evset θ ev i (.d (.list xs))]
  exact f2
/-! ### defs -/
def slots0 (as : List Pd) (n : Nat) : AS := (as.map fun a => some (.dat a)) ++ List.replicate n none
theorem sat0 {cs : Sto} : ∀ {as : List Pd} {xs : List PyData} (n : Nat), All2 as xs → Sat (slots0 as n) ((xs.map fun x => some (.d x)) ++ List.replicate n none) cs
  | _, _, n, h => by
    have key : ∀ {as : List Pd} {xs : List PyData}, All2 as xs → ∀ (i : Nat) (aw : AW), (slots0 as n)[i]? = some (some aw) → ∃ a x, aw = .dat a ∧ ((xs.map fun x => some (W.d x)) ++ List.replicate n none)[i]? = some (some (.d x)) ∧ a x := by
      intro as xs h
      induction h with
      | nil =>
        intro i aw e
        simp only [slots0, List.map_nil, List.nil_append] at e
        have := List.mem_of_getElem? e
        simp at this
      | cons h1 t ih =>
        intro i aw e
        cases i with
        | zero =>
          simp only [slots0, List.map_cons, List.cons_append, List.getElem?_cons_zero, Option.some.injEq] at e
          subst e
          exact ⟨_, _, rfl, rfl, h1⟩
        | succ i =>
          simp only [slots0, List.map_cons, List.cons_append, List.getElem?_cons_succ] at e ⊢
          exact ih i aw e
    refine ⟨by simp [slots0, h.length], fun i aw e => ?_, fun i i' j o1 _ _ _ => ?_⟩
    · obtain ⟨a, x, rfl, h1, h2⟩ := key h i aw e
      exact ⟨.d x, h1, x, rfl, h2⟩
    · obtain ⟨e, lo, hi, q⟩ := o1
      obtain ⟨a, x, z, _⟩ := key h i _ q
      cases z
theorem satBox {A : AS} {ev : Wv} {cs : Sto} (h : Sat A ev cs) : Sat (some .box :: A) (some .b :: ev) cs := by
  refine ⟨by simp [h.len], fun i aw e => ?_, fun i i' j ⟨e, lo, hi, o1⟩ ⟨e', lo', hi', o2⟩ e1 e2 => ?_⟩
  · cases i with
    | zero =>
      simp only [List.getElem?_cons_zero, Option.some.injEq] at e
      subst e
      exact ⟨.b, rfl, rfl⟩
    | succ i =>
      rw [List.getElem?_cons_succ] at e ⊢
      exact h.get i aw e
  · cases i with
    | zero => simp at o1
    | succ i =>
      cases i' with
      | zero => simp at o2
      | succ i' =>
        rw [List.getElem?_cons_succ] at o1 o2 e1 e2
        have := h.sep i i' j ⟨_, _, _, o1⟩ ⟨_, _, _, o2⟩ e1 e2
        omega
theorem start_u (θ : Th) (xs : List PyData) (n : Nat) : (U.l θ.b :: xs.map U.d).map some ++ List.replicate n none = θ.ev (some .b :: ((xs.map fun x => some (.d x)) ++ List.replicate n none)) := by
  simp only [Th.ev, List.map_cons, List.map_append, List.map_replicate, List.map_map, List.cons_append, Option.map_some, Option.map_none, Function.comp_def]
  rfl
/-- a def that draws -/
theorem df_of {as : List Pd} {n n0 : Nat} {bd : SS} (h : ASt bd (some .box :: slots0 as n0) k N { R := some (.val r) }) (hn : n = as.length + 1 + n0) (hN : N = none) : DF (defS n bd) as r k := fun xs m B hx hb hm => by
  obtain ⟨o, B', o1, b1, f1⟩ := h (some .b :: ((xs.map fun x => some (.d x)) ++ List.replicate n0 none)) [] B m (satBox (sat0 n0 hx)) hb hm
  subst hN
  cases o with
  | nx ev cs =>
    obtain ⟨A', q, _⟩ := o1
    cases q
  | bk ev cs =>
    obtain ⟨A', q, _⟩ := o1
    cases q
  | ct ev cs =>
    obtain ⟨A', q, _⟩ := o1
    cases q
  | rt w cs =>
    obtain ⟨r', q, o1⟩ := o1
    cases q
    obtain ⟨x, e1, rx⟩ := o1
    refine ⟨x, B', rx, b1, fun st L b hb' => ?_⟩
    have f2 := f1 ⟨st, L, b, hb'⟩
    have e0 : ex (st.set b (some (lay B))) L = Th.sto ⟨st, L, b, hb'⟩ B [] := by simp [Th.sto]
    have e9 : ex (st.set b (some (lay B'))) L = Th.sto ⟨st, L, b, hb'⟩ B' [] := by simp [Th.sto]
    rw [← start_u] at f2
    rw [defS_ap, e0, e9]
    have hl : n - (U.l b :: xs.map U.d).length = n0 := by
      rw [List.length_cons, List.length_map, ← hx.length]
      omega
    rw [hl, f2]
    simp only [Option.bind_some, Th.out, Th.len, List.length_nil]
    cases w with
    | d y =>
      cases e1
      simp only [Th.u, outa, leave_d, Th.take, List.take_zero]
    | b => cases e1
    | c j =>
      simp only [rdW] at e1
      split at e1
      · rename_i ys q
        cases e1
        have nl : ¬ (Th.at ⟨st, L, b, hb'⟩ j < Th.at ⟨st, L, b, hb'⟩ 0) := by
          simp only [Th.at]
          omega
        simp only [Th.u, outa, leave_l, if_neg nl, Th.cell, q, leaveb_s, Th.take, List.take_zero]
      · cases e1
/-- a def that draws, and hands back a list to be changed -/
def DO (f : FS) (as : List Pd) (e : Pd) (lo hi k : Nat) : Prop := ∀ xs m B, All2 as xs → BxOk m B → m + k ≤ Mx → ∃ ys B', Cont e lo hi ys ∧ BxOk (m + k) B' ∧ ∀ (st L : Sto) (b : Nat), b < st.length → f (.l b :: xs.map .d) (ex (st.set b (some (lay B))) L) = some (.l (st.length + L.length), ex (st.set b (some (lay B'))) (L ++ [some ys]))
theorem do_of {as : List Pd} {n n0 : Nat} {bd : SS} (h : ASt bd (some .box :: slots0 as n0) k N { R := some (.own e lo hi) }) (hn : n = as.length + 1 + n0) (hN : N = none) : DO (defSO n bd) as e lo hi k := fun xs m B hx hb hm => by
  obtain ⟨o, B', o1, b1, f1⟩ := h (some .b :: ((xs.map fun x => some (.d x)) ++ List.replicate n0 none)) [] B m (satBox (sat0 n0 hx)) hb hm
  subst hN
  cases o with
  | nx ev cs =>
    obtain ⟨A', q, _⟩ := o1
    cases q
  | bk ev cs =>
    obtain ⟨A', q, _⟩ := o1
    cases q
  | ct ev cs =>
    obtain ⟨A', q, _⟩ := o1
    cases q
  | rt w cs =>
    obtain ⟨r', q, o1⟩ := o1
    cases q
    obtain ⟨j, ys, rfl, _, e1, rx⟩ := o1
    refine ⟨ys, B', rx, b1, fun st L b hb' => ?_⟩
    have f2 := f1 ⟨st, L, b, hb'⟩
    have e0 : ex (st.set b (some (lay B))) L = Th.sto ⟨st, L, b, hb'⟩ B [] := by simp [Th.sto]
    have e9 : ex (st.set b (some (lay B'))) (L ++ [some ys]) = Th.sto ⟨st, L, b, hb'⟩ B' [some ys] := rfl
    rw [← start_u] at f2
    rw [defSO_ap, e0, e9]
    have hl : n - (U.l b :: xs.map U.d).length = n0 := by
      rw [List.length_cons, List.length_map, ← hx.length]
      omega
    rw [hl, f2]
    have nl : ¬ (Th.at ⟨st, L, b, hb'⟩ j < Th.at ⟨st, L, b, hb'⟩ 0) := by
      simp only [Th.at]
      omega
    simp only [Option.bind_some, Th.out, Th.len, List.length_nil, Th.u, outO, leaveO_l, if_neg nl, Th.cell, e1, leaveOb_s, Th.take, List.take_zero, Th.app, List.nil_append]
    rfl
theorem ao_df {f : FS} {as : List Pd} {n : Nat} (h : AA sa A (.box :: dats as) k) (p : DO f as e lo hi k1) (hn : as.length + 1 = n := by rfl) : AE (cDef n f sa) A (.own e lo hi) (k + k1) := fun ev cs B m hs hb hm => by
  obtain ⟨ws, B', js, h1, h2, h3⟩ := h ev cs B m hs hb (by omega)
  cases h1 with
  | cons n' _ hw _ _ t =>
    cases hw
    obtain ⟨xs, g1, rfl⟩ := read_dats t
    obtain ⟨ys, B2, rz, b2, ez⟩ := p xs (m + k) B' g1 h2 (by omega)
    refine ⟨.c (cs ++ js).length, B2, js ++ [some ys], ⟨_, ys, rfl, by simp, ?_, rz⟩, by rw [← Nat.add_assoc]; exact b2, fun θ => ?_⟩
    · rw [← List.append_assoc, List.getElem?_append_right (Nat.le_refl _), Nat.sub_self]
      rfl
    · have ln : (U.l θ.b :: xs.map U.d).length = n := by rw [List.length_cons, List.length_map, ← g1.length]; exact hn
      rw [cDef_ap, h3 θ]
      simp only [Option.bind_some, List.map_cons, u_dats]
      show defa n f (U.l θ.b :: xs.map U.d, _) = _
      rw [defa_ap, if_pos ln]
      have := ez θ.st (θ.L ++ (cs ++ js)) θ.b θ.ok
      rw [List.append_assoc, List.append_assoc] at this
      refine this.trans ?_
      simp only [Th.u, Th.at, Th.sto, List.length_append]
end
end Cm

set_option Elab.async false
set_option linter.all false
set_option maxRecDepth 100000
set_option maxHeartbeats 4000000
namespace Cm
open PySem PySem.Spec PyProof.Rows L2
/-! ### how what is known goes through the operations -/
def leLo : Option Int → Option Int → Bool
  | none, _ => true
  | some a, some b => decide (a ≤ b)
  | some _, none => false
def leHi : Option Int → Option Int → Bool
  | _, none => true
  | some a, some b => decide (a ≤ b)
  | none, some _ => false
theorem lo_le {l l' : Option Int} {i : Int} (e : leLo l' l = true) (h : LoB l i) : LoB l' i := by
  cases l' with
  | none => trivial
  | some a =>
    cases l with
    | none => cases e
    | some b =>
      have e := of_decide_eq_true e
      simp only [LoB] at h ⊢
      omega
theorem hi_le {h h' : Option Int} {i : Int} (e : leHi h h' = true) (g : HiB h i) : HiB h' i := by
  cases h' with
  | none => trivial
  | some a =>
    cases h with
    | none => cases e
    | some b =>
      have e := of_decide_eq_true e
      simp only [HiB] at g ⊢
      omega
theorem iz_le {l h l' h' : Option Int} (e1 : leLo l' l = true) (e2 : leHi h h' = true) : ∀ x, Iz l h x → Iz l' h' x := fun x ⟨i, hx, g1, g2⟩ => ⟨i, hx, lo_le e1 g1, hi_le e2 g2⟩
theorem iz_c (c : Int) : Iz (some c) (some c) (.int c) := ⟨c, rfl, Int.le_refl _, Int.le_refl _⟩
theorem self_le {a : Pd} : ∀ x, a x → a x := fun _ h => h
theorem ls_le {e e' : Pd} {lo hi lo' hi' : Nat} (l : ∀ x, e x → e' x) (h1 : lo' ≤ lo) (h2 : hi ≤ hi') : ∀ x, Ls e lo hi x → Ls e' lo' hi' x := fun x ⟨xs, hx, hc⟩ => ⟨xs, hx, cont_le hc l h1 h2⟩
theorem tp_le {e e' : Pd} {lo hi lo' hi' : Nat} (l : ∀ x, e x → e' x) (h1 : lo' ≤ lo) (h2 : hi ≤ hi') : ∀ x, Tp e lo hi x → Tp e' lo' hi' x := fun x ⟨xs, hx, hc⟩ => ⟨xs, hx, cont_le hc l h1 h2⟩
theorem lsof_ls {as : List Pd} {e : Pd} {lo hi : Nat} (l : ∀ a ∈ as, ∀ x, a x → e x) (h1 : lo ≤ as.length) (h2 : as.length ≤ hi) : ∀ x, LsOf as x → Ls e lo hi x := fun x ⟨xs, hx, q⟩ => ⟨xs, hx, by rw [← q.length]; exact h1, by rw [← q.length]; exact h2, all2_cont q l⟩
theorem tpof_tp {as : List Pd} {e : Pd} {lo hi : Nat} (l : ∀ a ∈ as, ∀ x, a x → e x) (h1 : lo ≤ as.length) (h2 : as.length ≤ hi) : ∀ x, TpOf as x → Tp e lo hi x := fun x ⟨xs, hx, q⟩ => ⟨xs, hx, by rw [← q.length]; exact h1, by rw [← q.length]; exact h2, all2_cont q l⟩
inductive Le2 : List Pd → List Pd → Prop
  | nil : Le2 [] []
  | cons {a b : Pd} {as bs : List Pd} : (∀ x, a x → b x) → Le2 as bs → Le2 (a :: as) (b :: bs)
theorem Le2.all : ∀ {as bs : List Pd} {xs : List PyData}, Le2 as bs → All2 as xs → All2 bs xs
  | _, _, _, .nil, .nil => .nil
  | _, _, _, .cons l t, .cons h q => .cons (l _ h) (Le2.all t q)
theorem tpof_le {as bs : List Pd} (l : Le2 as bs) : ∀ x, TpOf as x → TpOf bs x := fun x ⟨xs, hx, q⟩ => ⟨xs, hx, l.all q⟩
theorem lsof_le {as bs : List Pd} (l : Le2 as bs) : ∀ x, LsOf as x → LsOf bs x := fun x ⟨xs, hx, q⟩ => ⟨xs, hx, l.all q⟩
theorem or_l {a b c : Pd} (l : ∀ x, a x → b x) : ∀ x, a x → Or2 b c x := fun x h => .inl (l x h)
theorem or_r {a b c : Pd} (l : ∀ x, a x → b x) : ∀ x, a x → Or2 c b x := fun x h => .inr (l x h)
theorem or_e {a b c : Pd} (l : ∀ x, a x → c x) (l2 : ∀ x, b x → c x) : ∀ x, Or2 a b x → c x := fun x h => h.elim (l x) (l2 x)
theorem nil_le {e : Pd} : ∀ x, TpOf [] x → Tp e 0 0 x := tpof_tp (fun a ha => by cases ha) (Nat.le_refl _) (Nat.le_refl _)
/-- all of a list of preds -/
theorem mem1 {a e : Pd} {as : List Pd} (h : ∀ x, a x → e x) (t : ∀ b ∈ as, ∀ x, b x → e x) : ∀ b ∈ a :: as, ∀ x, b x → e x := fun b hb => by
  rcases List.mem_cons.mp hb with rfl | hb
  · exact h
  · exact t b hb
theorem mem0 {e : Pd} : ∀ b ∈ ([] : List Pd), ∀ x, b x → e x := fun b hb => by cases hb
theorem cont_ints {l h : Option Int} {lo hi : Nat} : ∀ {xs : List PyData}, (∀ y ∈ xs, Iz l h y) → ∃ ns : List Int, xs = ns.map .int ∧ ∀ n ∈ ns, LoB l n ∧ HiB h n
  | [], _ => ⟨[], rfl, by simp⟩
  | x :: xs, q => by
    obtain ⟨i, rfl, g1, g2⟩ := q x List.mem_cons_self
    obtain ⟨ns, rfl, g3⟩ := cont_ints (lo := lo) (hi := hi) (xs := xs) fun y hy => q y (List.mem_cons_of_mem _ hy)
    refine ⟨i :: ns, rfl, fun n hn => ?_⟩
    rcases List.mem_cons.mp hn with rfl | hn
    · exact ⟨g1, g2⟩
    · exact g3 n hn
theorem ints_cont {l h : Option Int} {lo hi : Nat} {ns : List Int} (h1 : lo ≤ ns.length) (h2 : ns.length ≤ hi) (q : ∀ n ∈ ns, LoB l n ∧ HiB h n) : Cont (Iz l h) lo hi (ns.map .int) :=
  ⟨by simpa using h1, by simpa using h2, fun y hy => by
    obtain ⟨n, hn, rfl⟩ := List.mem_map.mp hy
    exact ⟨n, rfl, (q n hn).1, (q n hn).2⟩⟩
def oadd : Option Int → Option Int → Option Int
  | some a, some b => some (a + b)
  | _, _ => none
def osub : Option Int → Option Int → Option Int
  | some a, some b => some (a - b)
  | _, _ => none
def omul : Option Int → Option Int → Option Int
  | some a, some b => some (a * b)
  | _, _ => none
def omap (f : Int → Int) : Option Int → Option Int
  | some a => some (f a)
  | none => none
section
variable {l1 h1 l2 h2 l h : Option Int} {e e1 e2 a b r : Pd} {lo hi lo1 hi1 lo2 hi2 : Nat}
theorem tr_add (q1 : oadd l1 l2 = l) (q2 : oadd h1 h2 = h) : Tr2 fAdd (Iz l1 h1) (Iz l2 h2) (Iz l h) := fun x y ⟨i, hx, a1, a2⟩ ⟨j, hy, b1, b2⟩ => by
  subst hx hy q1 q2
  refine ⟨_, ⟨i + j, rfl, ?_, ?_⟩, rfl⟩
  · cases l1 <;> cases l2 <;> simp only [oadd, LoB] at * <;> omega
  · cases h1 <;> cases h2 <;> simp only [oadd, HiB] at * <;> omega
theorem tr_addI (q1 : oadd l1 l2 = l) (q2 : oadd h1 h2 = h) : Tr2 fAddI (Iz l1 h1) (Iz l2 h2) (Iz l h) := fun x y ⟨i, hx, a1, a2⟩ ⟨j, hy, b1, b2⟩ => by
  subst hx hy q1 q2
  refine ⟨_, ⟨i + j, rfl, ?_, ?_⟩, rfl⟩
  · cases l1 <;> cases l2 <;> simp only [oadd, LoB] at * <;> omega
  · cases h1 <;> cases h2 <;> simp only [oadd, HiB] at * <;> omega
theorem tr_sub (q1 : osub l1 h2 = l) (q2 : osub h1 l2 = h) : Tr2 fSub (Iz l1 h1) (Iz l2 h2) (Iz l h) := fun x y ⟨i, hx, a1, a2⟩ ⟨j, hy, b1, b2⟩ => by
  subst hx hy q1 q2
  refine ⟨_, ⟨i - j, rfl, ?_, ?_⟩, rfl⟩
  · cases l1 <;> cases h2 <;> simp only [osub, LoB, HiB] at * <;> omega
  · cases h1 <;> cases l2 <;> simp only [osub, LoB, HiB] at * <;> omega
theorem tr_neg (q1 : omap (fun i => -i) h1 = l) (q2 : omap (fun i => -i) l1 = h) : Tr1 fNeg (Iz l1 h1) (Iz l h) := fun x ⟨i, hx, a1, a2⟩ => by
  subst hx q1 q2
  refine ⟨_, ⟨-i, rfl, ?_, ?_⟩, rfl⟩
  · cases h1 <;> simp only [omap, LoB, HiB] at * <;> omega
  · cases l1 <;> simp only [omap, LoB, HiB] at * <;> omega
theorem mul_lo {a b i j : Int} (p1 : 0 ≤ a) (p2 : 0 ≤ b) (g1 : a ≤ i) (g2 : b ≤ j) : a * b ≤ i * j := Int.mul_le_mul g1 g2 p2 (by omega)
/-- a product of two that are not negative, the first one small -/
theorem tr_mulL {a b c : Int} (p1 : 0 ≤ a) (p2 : 0 ≤ c) (sm : b < 18446744073709551616) (q1 : some (a * c) = l) (q2 : omul (some b) h2 = h) : Tr2 fMul (Iz (some a) (some b)) (Iz (some c) h2) (Iz l h) := fun x y ⟨i, hx, a1, a2⟩ ⟨j, hy, b1, b2⟩ => by
  subst hx hy q1 q2
  simp only [LoB, HiB] at a1 a2 b1
  have ok : mulOk i j = true := mul_smallL (by omega) (by omega)
  refine ⟨.int (i * j), ⟨i * j, rfl, mul_lo p1 p2 a1 b1, ?_⟩, by rw [fMul_i, if_pos ok]⟩
  cases h2 with
  | none => trivial
  | some d => exact mul_lo (by omega) (by omega) a2 b2
theorem tr_mulR {a b c : Int} (p1 : 0 ≤ a) (p2 : 0 ≤ c) (sm : b < 18446744073709551616) (q1 : some (c * a) = l) (q2 : omul h2 (some b) = h) : Tr2 fMul (Iz (some c) h2) (Iz (some a) (some b)) (Iz l h) := fun x y ⟨i, hx, a1, a2⟩ ⟨j, hy, b1, b2⟩ => by
  subst hx hy q1 q2
  simp only [LoB, HiB] at a1 b1 b2
  have ok : mulOk i j = true := mul_small (by omega) (by omega)
  refine ⟨.int (i * j), ⟨i * j, rfl, mul_lo p2 p1 a1 b1, ?_⟩, by rw [fMul_i, if_pos ok]⟩
  cases h2 with
  | none => trivial
  | some d => exact mul_lo (by omega) (by omega) a2 b2
/-- a small factor, nothing said of the product -/
theorem tr_mulX {a b : Int} (p1 : -18446744073709551616 < a) (sm : b < 18446744073709551616) : Tr2 fMul (Iz (some a) (some b)) (Iz l1 h1) (Iz none none) := fun x y ⟨i, hx, a1, a2⟩ ⟨j, hy, b1, b2⟩ => by
  subst hx hy
  simp only [LoB, HiB] at a1 a2
  have ok : mulOk i j = true := mul_smallL (by omega) (by omega)
  exact ⟨.int (i * j), ⟨i * j, rfl, trivial, trivial⟩, by rw [fMul_i, if_pos ok]⟩
theorem tr_mod {a : Int} (p : 1 ≤ a) (q : omap (fun i => i - 1) h2 = h) : Tr2 fMod (Iz l1 h1) (Iz (some a) h2) (Iz (some 0) h) := fun x y ⟨i, hx, a1, a2⟩ ⟨j, hy, b1, b2⟩ => by
  subst hx hy q
  simp only [LoB] at b1
  have jp : 0 < j := by omega
  refine ⟨.int (i % j), ⟨i % j, rfl, Int.emod_nonneg _ (by omega), ?_⟩, by rw [fMod_i, if_pos jp]⟩
  have := Int.emod_lt_of_pos i jp
  cases h2 with
  | none => trivial
  | some d =>
    simp only [HiB, omap] at b2 ⊢
    omega
theorem tr_div {c : Int} (p : 1 ≤ c) (lg : c.natAbs.log2 < 9000) (q1 : omap (fun i => i / c) l1 = l) (q2 : omap (fun i => i / c) h1 = h) : Tr2 fDiv (Iz l1 h1) (Iz (some c) (some c)) (Iz l h) := fun x y ⟨i, hx, a1, a2⟩ ⟨j, hy, b1, b2⟩ => by
  subst hx hy q1 q2
  have : j = c := by
    simp only [LoB, HiB] at b1 b2
    omega
  subst this
  have jp : 0 < j := by omega
  refine ⟨.int (i / j), ⟨i / j, rfl, ?_, ?_⟩, by rw [fDiv_i, if_pos ⟨jp, lg⟩]⟩
  · cases l1 with
    | none => trivial
    | some d => exact Int.ediv_le_ediv jp a1
  · cases h1 with
    | none => trivial
    | some d => exact Int.ediv_le_ediv jp a2
theorem tr_const2 {f : PyData → PyData → Option PyData} {x y z : PyData} (q : f x y = some z) (hz : r z) : Tr2 f (Is x) (Is y) r := fun a b h1 h2 => by
  cases h1
  cases h2
  exact ⟨z, hz, q⟩
theorem bl_any (t : Bool) : Bl (.bool t) := ⟨t, rfl, trivial⟩
theorem tr_lt : Tr2 fLt (Iz l1 h1) (Iz l2 h2) Bl := fun x y ⟨i, hx, _⟩ ⟨j, hy, _⟩ => by
  subst hx hy
  exact ⟨_, bl_any _, rfl⟩
theorem tr_leI : Tr2 fLe (Iz l1 h1) (Iz l2 h2) Bl := fun x y ⟨i, hx, _⟩ ⟨j, hy, _⟩ => by
  subst hx hy
  exact ⟨_, bl_any _, rfl⟩
theorem tr_gt : Tr2 fGt (Iz l1 h1) (Iz l2 h2) Bl := fun x y ⟨i, hx, _⟩ ⟨j, hy, _⟩ => by
  subst hx hy
  exact ⟨_, bl_any _, rfl⟩
theorem tr_geI : Tr2 fGe (Iz l1 h1) (Iz l2 h2) Bl := fun x y ⟨i, hx, _⟩ ⟨j, hy, _⟩ => by
  subst hx hy
  exact ⟨_, bl_any _, rfl⟩
/-- how deep a value is -/
def Sd (k : Nat) (a : Pd) : Prop := ∀ x, a x → x.canLay0 = true ∧ x.depth ≤ k
theorem sd_iz : Sd 0 (Iz l h) := fun x ⟨i, hx, _⟩ => by
  subst hx
  exact ⟨rfl, Nat.le_refl _⟩
theorem sd_bl {q : Bool → Prop} : Sd 0 (Bq q) := fun x ⟨i, hx, _⟩ => by
  subst hx
  exact ⟨rfl, Nat.le_refl _⟩
theorem sd_nn : Sd 0 (Is .none) := fun x hx => by
  cases hx
  exact ⟨rfl, Nat.le_refl _⟩
theorem sd_all {k : Nat} (q : Sd k e) : ∀ {xs : List PyData}, (∀ y ∈ xs, e y) → PyData.canLayAll0 xs = true ∧ PyData.depthAll xs ≤ k
  | [], _ => ⟨rfl, Nat.zero_le _⟩
  | x :: xs, h => by
    obtain ⟨g1, g2⟩ := sd_all q (xs := xs) fun y hy => h y (List.mem_cons_of_mem _ hy)
    obtain ⟨g3, g4⟩ := q x (h x List.mem_cons_self)
    refine ⟨?_, ?_⟩
    · rw [PyData.canLayAll0, g3, g1]
      rfl
    · rw [PyData.depthAll]
      exact Nat.max_le.mpr ⟨g4, g2⟩
theorem sd_seq {k : Nat} {xs : List PyData} (h : PyData.canLayAll0 xs = true ∧ PyData.depthAll xs ≤ k) : ((PyData.list xs).canLay0 = true ∧ (PyData.list xs).depth ≤ k + 1) ∧ ((PyData.tuple xs).canLay0 = true ∧ (PyData.tuple xs).depth ≤ k + 1) :=
  ⟨⟨by rw [PyData.canLay0]; exact h.1, by rw [PyData.depth]; exact Nat.succ_le_succ h.2⟩, by rw [PyData.canLay0]; exact h.1, by rw [PyData.depth]; exact Nat.succ_le_succ h.2⟩
theorem sd_ls {k : Nat} (q : Sd k e) : Sd (k + 1) (Ls e lo hi) := fun x ⟨xs, hx, hc⟩ => by
  subst hx
  exact (sd_seq (sd_all q hc.2.2)).1
theorem sd_tp {k : Nat} (q : Sd k e) : Sd (k + 1) (Tp e lo hi) := fun x ⟨xs, hx, hc⟩ => by
  subst hx
  exact (sd_seq (sd_all q hc.2.2)).2
theorem sd_up {k k' : Nat} (q : Sd k a) (l : k ≤ k') : Sd k' a := fun x h => ⟨(q x h).1, Nat.le_trans (q x h).2 l⟩
theorem sd_or {k : Nat} (q : Sd k a) (q2 : Sd k b) : Sd k (Or2 a b) := fun x h => h.elim (q x) (q2 x)
inductive SdA (k : Nat) : List Pd → Prop
  | nil : SdA k []
  | cons {a : Pd} {as : List Pd} : Sd k a → SdA k as → SdA k (a :: as)
theorem SdA.all {k : Nat} : ∀ {as : List Pd} {xs : List PyData}, SdA k as → All2 as xs → PyData.canLayAll0 xs = true ∧ PyData.depthAll xs ≤ k
  | _, _, .nil, .nil => ⟨rfl, Nat.zero_le _⟩
  | _, _, .cons q t, .cons h r => by
    obtain ⟨g1, g2⟩ := SdA.all t r
    obtain ⟨g3, g4⟩ := q _ h
    refine ⟨?_, ?_⟩
    · rw [PyData.canLayAll0, g3, g1]
      rfl
    · rw [PyData.depthAll]
      exact Nat.max_le.mpr ⟨g4, g2⟩
theorem sd_tpof {k : Nat} {as : List Pd} (q : SdA k as) : Sd (k + 1) (TpOf as) := fun x ⟨xs, hx, hc⟩ => by
  subst hx
  exact (sd_seq (q.all hc)).2
theorem sd_lsof {k : Nat} {as : List Pd} (q : SdA k as) : Sd (k + 1) (LsOf as) := fun x ⟨xs, hx, hc⟩ => by
  subst hx
  exact (sd_seq (q.all hc)).1
theorem sd_shaped {k : Nat} (q : Sd k a) (hk : k ≤ 64) {x : PyData} (h : a x) : SeqAt.shaped x = true := by
  unfold SeqAt.shaped
  rw [(q x h).1, decide_eq_true (Nat.le_trans (q x h).2 hk)]
  rfl
theorem tr_eq {k k' : Nat} (q1 : Sd k a) (q2 : Sd k' b) (h1 : k ≤ 64) (h2 : k' ≤ 64) : Tr2 fEq a b Bl := fun x y ha hb => by
  refine ⟨.bool (PyData.eqv x y), bl_any _, ?_⟩
  unfold fEq
  rw [sd_shaped q1 h1 ha, sd_shaped q2 h2 hb]
  rfl
theorem tr_ne {k k' : Nat} (q1 : Sd k a) (q2 : Sd k' b) (h1 : k ≤ 64) (h2 : k' ≤ 64) : Tr2 fNe a b Bl := fun x y ha hb => by
  refine ⟨.bool (!PyData.eqv x y), bl_any _, ?_⟩
  unfold fNe
  rw [sd_shaped q1 h1 ha, sd_shaped q2 h2 hb]
  rfl
theorem tr_isN : Tr2 fIs a (Is .none) Bl := fun x y _ hy => by
  cases hy
  exact ⟨_, bl_any _, fIs_n x⟩
theorem tr_notN : Tr2 fIsNot a (Is .none) Bl := fun x y _ hy => by
  cases hy
  exact ⟨_, bl_any _, fIsNot_n x⟩
theorem tr_inL {k k' : Nat} (q1 : Sd k a) (q2 : Sd k' (Ls e lo hi)) (h1 : k ≤ 64) (h2 : k' ≤ 64) : Tr2 fIn a (Ls e lo hi) Bl := fun x y ha hb => by
  have s1 := sd_shaped q1 h1 ha
  have s2 := sd_shaped q2 h2 hb
  obtain ⟨xs, rfl, _⟩ := hb
  refine ⟨.bool (hasD xs x), bl_any _, ?_⟩
  simp only [fIn, s1, s2, Bool.and_self, if_true]
theorem tr_notInL {k k' : Nat} (q1 : Sd k a) (q2 : Sd k' (Ls e lo hi)) (h1 : k ≤ 64) (h2 : k' ≤ 64) : Tr2 fNotIn a (Ls e lo hi) Bl := fun x y ha hb => by
  have s1 := sd_shaped q1 h1 ha
  have s2 := sd_shaped q2 h2 hb
  obtain ⟨xs, rfl, _⟩ := hb
  refine ⟨.bool (!hasD xs x), bl_any _, ?_⟩
  simp only [fNotIn, s1, s2, Bool.and_self, if_true]
theorem all_flatI {xs : List PyData} (h : ∀ y ∈ xs, Iz l h1 y) : xs.all flatD = true := List.all_eq_true.mpr fun y hy => by
  obtain ⟨i, rfl, _⟩ := h y hy
  rfl
theorem tr_inT : Tr2 fIn (Iz l1 h1) (Tp (Iz l2 h2) lo hi) Bl := fun x y ⟨i, hx, _⟩ ⟨ys, hy, hc⟩ => by
  subst hx hy
  refine ⟨.bool (hasD ys (.int i)), bl_any _, ?_⟩
  simp only [fIn, all_flatI hc.2.2, flatD, Bool.and_self, if_true]
theorem tr_notInT : Tr2 fNotIn (Iz l1 h1) (Tp (Iz l2 h2) lo hi) Bl := fun x y ⟨i, hx, _⟩ ⟨ys, hy, hc⟩ => by
  subst hx hy
  refine ⟨.bool (!hasD ys (.int i)), bl_any _, ?_⟩
  simp only [fNotIn, all_flatI hc.2.2, flatD, Bool.and_self, if_true]
/-! items -/
theorem at_in {xs : List PyData} {n : Int} (h1 : -(xs.length : Int) ≤ n) (h2 : n < xs.length) : ∃ y ∈ xs, atI xs n = some y := by
  unfold atI ixN
  by_cases n0 : 0 ≤ n
  · rw [if_pos n0, if_pos h2]
    have : n.toNat < xs.length := by omega
    exact ⟨xs[n.toNat], List.getElem_mem _, by rw [Option.bind_some, List.getElem?_eq_getElem this]⟩
  · rw [if_neg n0, if_pos h1]
    have : (n + xs.length).toNat < xs.length := by omega
    exact ⟨xs[(n + xs.length).toNat], List.getElem_mem _, by rw [Option.bind_some, List.getElem?_eq_getElem this]⟩
theorem tr_ixL {i j : Int} (b1 : -(lo : Int) ≤ i) (b2 : j < lo) : Tr2 fIx (Ls e lo hi) (Iz (some i) (some j)) e := fun x y ⟨xs, hx, hc⟩ ⟨n, hy, g1, g2⟩ => by
  subst hx hy
  simp only [LoB, HiB] at g1 g2
  have := hc.1
  obtain ⟨z, hz, q⟩ := at_in (xs := xs) (n := n) (by omega) (by omega)
  exact ⟨z, hc.2.2 z hz, q⟩
theorem tr_ixT {i j : Int} (b1 : -(lo : Int) ≤ i) (b2 : j < lo) : Tr2 fIx (Tp e lo hi) (Iz (some i) (some j)) e := fun x y ⟨xs, hx, hc⟩ ⟨n, hy, g1, g2⟩ => by
  subst hx hy
  simp only [LoB, HiB] at g1 g2
  have := hc.1
  obtain ⟨z, hz, q⟩ := at_in (xs := xs) (n := n) (by omega) (by omega)
  exact ⟨z, hc.2.2 z hz, q⟩
theorem All2.get : ∀ {as : List Pd} {xs : List PyData}, All2 as xs → ∀ {n : Nat} {a : Pd}, as[n]? = some a → ∃ x, xs[n]? = some x ∧ a x
  | _, _, .nil, n, a, e => by simp at e
  | _, _, .cons h t, 0, a, e => by
    simp only [List.getElem?_cons_zero, Option.some.injEq] at e
    subst e
    exact ⟨_, rfl, h⟩
  | _, _, .cons h t, n + 1, a, e => by
    rw [List.getElem?_cons_succ] at e ⊢
    exact t.get e
theorem at_nat {xs : List PyData} {n : Nat} {x : PyData} (h : xs[n]? = some x) : atI xs (n : Int) = some x := by
  have := lt_of_get h
  unfold atI ixN
  rw [if_pos (by omega), if_pos (by omega)]
  simpa using h
theorem tr_ixTp {as : List Pd} (n : Nat) (q : as[n]? = some r) : Tr2 fIx (TpOf as) (Iz (some (n : Int)) (some (n : Int))) r := fun x y ⟨xs, hx, hc⟩ ⟨m, hy, g1, g2⟩ => by
  subst hx hy
  simp only [LoB, HiB] at g1 g2
  have em : m = (n : Int) := by omega
  subst em
  obtain ⟨z, hz, rz⟩ := hc.get q
  exact ⟨z, rz, at_nat hz⟩
theorem tr_ixLs {as : List Pd} (n : Nat) (q : as[n]? = some r) : Tr2 fIx (LsOf as) (Iz (some (n : Int)) (some (n : Int))) r := fun x y ⟨xs, hx, hc⟩ ⟨m, hy, g1, g2⟩ => by
  subst hx hy
  simp only [LoB, HiB] at g1 g2
  have em : m = (n : Int) := by omega
  subst em
  obtain ⟨z, hz, rz⟩ := hc.get q
  exact ⟨z, rz, at_nat hz⟩
/-! calls -/
theorem one {f : List PyData → Option PyData} (h : ∀ x, a x → ∃ z, r z ∧ f [x] = some z) : TrN f [a] r := fun xs q => by
  cases q with
  | cons h1 t =>
    cases t
    exact h _ h1
theorem twoN {f : List PyData → Option PyData} (h : ∀ x y, a x → b y → ∃ z, r z ∧ f [x, y] = some z) : TrN f [a, b] r := fun xs q => by
  cases q with
  | cons h1 t =>
    cases t with
    | cons h2 t =>
      cases t
      exact h _ _ h1 h2
theorem tr_lenL : TrN fLen [Ls e lo hi] (Iz (some lo) (some hi)) := one fun x ⟨xs, hx, hc⟩ => by
  subst hx
  refine ⟨_, ⟨xs.length, rfl, ?_, ?_⟩, rfl⟩
  · have := hc.1
    simp only [LoB]
    omega
  · have := hc.2.1
    simp only [HiB]
    omega
theorem tr_lenT : TrN fLen [Tp e lo hi] (Iz (some lo) (some hi)) := one fun x ⟨xs, hx, hc⟩ => by
  subst hx
  refine ⟨_, ⟨xs.length, rfl, ?_, ?_⟩, rfl⟩
  · have := hc.1
    simp only [LoB]
    omega
  · have := hc.2.1
    simp only [HiB]
    omega
def ominL : Option Int → Option Int → Option Int
  | some a, some b => some (if b < a then b else a)
  | _, _ => none
def ominH : Option Int → Option Int → Option Int
  | some a, some b => some (if b < a then b else a)
  | some a, none => some a
  | none, x => x
def omaxL : Option Int → Option Int → Option Int
  | some a, some b => some (if b > a then b else a)
  | some a, none => some a
  | none, x => x
def omaxH : Option Int → Option Int → Option Int
  | some a, some b => some (if b > a then b else a)
  | _, _ => none
theorem tr_min (q1 : ominL l1 l2 = l) (q2 : ominH h1 h2 = h) : TrN fMin [Iz l1 h1, Iz l2 h2] (Iz l h) := twoN fun x y ⟨i, hx, a1, a2⟩ ⟨j, hy, b1, b2⟩ => by
  subst hx hy q1 q2
  refine ⟨_, ⟨_, rfl, ?_, ?_⟩, fMin_ii i j⟩
  · cases l1 <;> cases l2 <;> simp only [ominL, LoB] at * <;> (repeat' split) <;> omega
  · cases h1 <;> cases h2 <;> simp only [ominH, HiB] at * <;> (repeat' split) <;> omega
theorem tr_max (q1 : omaxL l1 l2 = l) (q2 : omaxH h1 h2 = h) : TrN fMax [Iz l1 h1, Iz l2 h2] (Iz l h) := twoN fun x y ⟨i, hx, a1, a2⟩ ⟨j, hy, b1, b2⟩ => by
  subst hx hy q1 q2
  refine ⟨_, ⟨_, rfl, ?_, ?_⟩, fMax_ii i j⟩
  · cases l1 <;> cases l2 <;> simp only [omaxL, LoB] at * <;> (repeat' split) <;> omega
  · cases h1 <;> cases h2 <;> simp only [omaxH, HiB] at * <;> (repeat' split) <;> omega
theorem minI_ex {ns : List Int} (h : 1 ≤ ns.length) : ∃ m, minI ns = some m ∧ m ∈ ns := by
  cases ns with
  | nil => simp at h
  | cons x xs => exact ⟨_, rfl, (foldmin_mem xs x).1⟩
theorem maxI_ex {ns : List Int} (h : 1 ≤ ns.length) : ∃ m, maxI ns = some m ∧ m ∈ ns := by
  cases ns with
  | nil => simp at h
  | cons x xs => exact ⟨_, rfl, (foldmax_mem xs x).1⟩
theorem minmax {xs : List PyData} (p : 1 ≤ lo) (hc : Cont (Iz l h) lo hi xs) : (∃ z, Iz l h z ∧ ((asInts xs).bind fun ns => (minI ns).map PyData.int) = some z) ∧ ∃ z, Iz l h z ∧ ((asInts xs).bind fun ns => (maxI ns).map PyData.int) = some z := by
  obtain ⟨ns, rfl, q⟩ := cont_ints (lo := lo) (hi := hi) hc.2.2
  have := hc.1
  rw [List.length_map] at this
  obtain ⟨m, e1, hm⟩ := minI_ex (ns := ns) (by omega)
  obtain ⟨m2, e2, hm2⟩ := maxI_ex (ns := ns) (by omega)
  rw [asInts_map]
  exact ⟨⟨.int m, ⟨m, rfl, q m hm⟩, by simp [e1]⟩, ⟨.int m2, ⟨m2, rfl, q m2 hm2⟩, by simp [e2]⟩⟩
theorem tr_minL (p : 1 ≤ lo) : TrN fMin [Ls (Iz l h) lo hi] (Iz l h) := one fun x ⟨xs, hx, hc⟩ => by
  subst hx
  exact (minmax p hc).1
theorem tr_minT (p : 1 ≤ lo) : TrN fMin [Tp (Iz l h) lo hi] (Iz l h) := one fun x ⟨xs, hx, hc⟩ => by
  subst hx
  exact (minmax p hc).1
theorem tr_maxL (p : 1 ≤ lo) : TrN fMax [Ls (Iz l h) lo hi] (Iz l h) := one fun x ⟨xs, hx, hc⟩ => by
  subst hx
  exact (minmax p hc).2
theorem tr_maxT (p : 1 ≤ lo) : TrN fMax [Tp (Iz l h) lo hi] (Iz l h) := one fun x ⟨xs, hx, hc⟩ => by
  subst hx
  exact (minmax p hc).2
theorem sum_lo : ∀ {ns : List Int}, (∀ n ∈ ns, 0 ≤ n) → 0 ≤ ns.sum
  | [], _ => by simp
  | n :: ns, q => by
    have := sum_lo (ns := ns) fun z hz => q z (List.mem_cons_of_mem _ hz)
    have := q n List.mem_cons_self
    simp only [List.sum_cons]
    omega
theorem tr_sumL {i : Int} (p : 0 ≤ i) : TrN fSum [Ls (Iz (some i) h) lo hi] (Iz (some 0) none) := one fun x ⟨xs, hx, hc⟩ => by
  subst hx
  obtain ⟨ns, rfl, q⟩ := cont_ints (lo := lo) (hi := hi) hc.2.2
  refine ⟨.int ns.sum, ⟨_, rfl, sum_lo fun n hn => ?_, trivial⟩, by rw [fSum_l, asInts_map]; rfl⟩
  have := (q n hn).1
  simp only [LoB] at this
  omega
theorem tr_sumT {i : Int} (p : 0 ≤ i) : TrN fSum [Tp (Iz (some i) h) lo hi] (Iz (some 0) none) := one fun x ⟨xs, hx, hc⟩ => by
  subst hx
  obtain ⟨ns, rfl, q⟩ := cont_ints (lo := lo) (hi := hi) hc.2.2
  refine ⟨.int ns.sum, ⟨_, rfl, sum_lo fun n hn => ?_, trivial⟩, by rw [fSum_t, asInts_map]; rfl⟩
  have := (q n hn).1
  simp only [LoB] at this
  omega
theorem tr_int : TrN fInt [Iz l h] (Iz l h) := one fun x ⟨i, hx, g⟩ => by
  subst hx
  exact ⟨_, ⟨i, rfl, g⟩, rfl⟩
theorem tr_intB : TrN fInt [Bl] (Iz (some 0) (some 1)) := one fun x ⟨t, hx, _⟩ => by
  subst hx
  refine ⟨_, ⟨_, rfl, ?_, ?_⟩, fInt_b t⟩ <;> cases t <;> simp [LoB, HiB]
theorem tr_abs : TrN fAbs [Iz l h] (Iz (some 0) none) := one fun x ⟨i, hx, _⟩ => by
  subst hx
  refine ⟨_, ⟨_, rfl, ?_, trivial⟩, fAbs_i i⟩
  simp only [LoB]
  split <;> omega
theorem tr_tupL : TrN fTuple [Ls e lo hi] (Tp e lo hi) := one fun x ⟨xs, hx, hc⟩ => by
  subst hx
  exact ⟨_, ⟨xs, rfl, hc⟩, rfl⟩
theorem tr_tupT : TrN fTuple [Tp e lo hi] (Tp e lo hi) := one fun x ⟨xs, hx, hc⟩ => by
  subst hx
  exact ⟨_, ⟨xs, rfl, hc⟩, rfl⟩
theorem tr_lstL : TrN fList [Ls e lo hi] (Ls e lo hi) := one fun x ⟨xs, hx, hc⟩ => by
  subst hx
  exact ⟨_, ⟨xs, rfl, hc⟩, rfl⟩
theorem tr_lstT : TrN fList [Tp e lo hi] (Ls e lo hi) := one fun x ⟨xs, hx, hc⟩ => by
  subst hx
  exact ⟨_, ⟨xs, rfl, hc⟩, rfl⟩
theorem cont_bools {q : Bool → Prop} : ∀ {xs : List PyData}, (∀ y ∈ xs, Bq q y) → ∃ bs : List Bool, xs = bs.map .bool ∧ ∀ b ∈ bs, q b
  | [], _ => ⟨[], rfl, by simp⟩
  | x :: xs, h => by
    obtain ⟨t, rfl, qt⟩ := h x List.mem_cons_self
    obtain ⟨bs, rfl, g⟩ := cont_bools (xs := xs) fun y hy => h y (List.mem_cons_of_mem _ hy)
    refine ⟨t :: bs, rfl, fun b hb => ?_⟩
    rcases List.mem_cons.mp hb with rfl | hb
    · exact qt
    · exact g b hb
theorem tr_all : TrN fAll [Ls Bl lo hi] Bl := one fun x ⟨xs, hx, hc⟩ => by
  subst hx
  obtain ⟨bs, rfl, _⟩ := cont_bools hc.2.2
  exact ⟨_, bl_any _, by rw [fAll_l, asBools_map]; rfl⟩
theorem tr_allT : TrN fAll [Ls Tt lo hi] Tt := one fun x ⟨xs, hx, hc⟩ => by
  subst hx
  obtain ⟨bs, rfl, g⟩ := cont_bools hc.2.2
  refine ⟨.bool (bs.all id), ⟨_, rfl, ?_⟩, by rw [fAll_l, asBools_map]; rfl⟩
  exact List.all_eq_true.mpr fun b hb => g b hb
theorem tr_any : TrN fAny [Ls Bl lo hi] Bl := one fun x ⟨xs, hx, hc⟩ => by
  subst hx
  obtain ⟨bs, rfl, _⟩ := cont_bools hc.2.2
  exact ⟨_, bl_any _, by rw [fAny_l, asBools_map]; rfl⟩
theorem tr_sortL : TrN fSorted [Ls (Iz l h) lo hi] (Ls (Iz l h) lo hi) := one fun x ⟨xs, hx, hc⟩ => by
  subst hx
  obtain ⟨ns, rfl, q⟩ := cont_ints (lo := lo) (hi := hi) hc.2.2
  have c1 := hc.1
  have c2 := hc.2.1
  rw [List.length_map] at c1 c2
  have ln := (sortI_perm ns).length_eq
  exact ⟨_, ⟨_, rfl, ints_cont (ns := sortI ns) (by omega) (by omega) fun n hn => q n ((sortI_perm ns).mem_iff.mp hn)⟩, by simp only [fSorted, asInts_map]⟩
theorem tr_sortT : TrN fSorted [Tp (Iz l h) lo hi] (Ls (Iz l h) lo hi) := one fun x ⟨xs, hx, hc⟩ => by
  subst hx
  obtain ⟨ns, rfl, q⟩ := cont_ints (lo := lo) (hi := hi) hc.2.2
  have c1 := hc.1
  have c2 := hc.2.1
  rw [List.length_map] at c1 c2
  have ln := (sortI_perm ns).length_eq
  exact ⟨_, ⟨_, rfl, ints_cont (ns := sortI ns) (by omega) (by omega) fun n hn => q n ((sortI_perm ns).mem_iff.mp hn)⟩, by simp only [fSorted, asInts_map, Option.map_some]⟩
theorem putU_len (x : Int) : ∀ ys : List Int, 1 ≤ (putU x ys).length ∧ (putU x ys).length ≤ ys.length + 1
  | [] => by simp [putU]
  | y :: ys => by
    have := putU_len x ys
    rw [putU]
    split
    · simp
    · split
      · simp
      · simp only [List.length_cons]
        omega
theorem setI_len : ∀ ns : List Int, (setI ns).length ≤ ns.length ∧ (1 ≤ ns.length → 1 ≤ (setI ns).length)
  | [] => by simp [setI]
  | x :: xs => by
    have := setI_len xs
    have := putU_len x (setI xs)
    rw [setI]
    simp only [List.length_cons]
    omega
theorem tr_setL (p : hi < 64) : Tr1 fSetSorted (Ls (Iz l h) lo hi) (Ls (Iz l h) (min lo 1) hi) := fun x ⟨xs, hx, hc⟩ => by
  subst hx
  obtain ⟨ns, rfl, q⟩ := cont_ints (lo := lo) (hi := hi) hc.2.2
  have c1 := hc.1
  have c2 := hc.2.1
  rw [List.length_map] at c1 c2
  have ln := setI_len ns
  have few : ns.length < 64 := by omega
  refine ⟨_, ⟨_, rfl, ints_cont (ns := setI ns) (by omega) (by omega) fun n hn => q n (mem_setI.mp hn)⟩, ?_⟩
  simp only [fSetSorted, asInts_map, Option.bind_some, if_pos few]
theorem tr_setT (p : hi < 64) : Tr1 fSetSorted (Tp (Iz l h) lo hi) (Ls (Iz l h) (min lo 1) hi) := fun x ⟨xs, hx, hc⟩ => by
  subst hx
  obtain ⟨ns, rfl, q⟩ := cont_ints (lo := lo) (hi := hi) hc.2.2
  have c1 := hc.1
  have c2 := hc.2.1
  rw [List.length_map] at c1 c2
  have ln := setI_len ns
  have few : ns.length < 64 := by omega
  refine ⟨_, ⟨_, rfl, ints_cont (ns := setI ns) (by omega) (by omega) fun n hn => q n (mem_setI.mp hn)⟩, ?_⟩
  simp only [fSetSorted, asInts_map, Option.bind_some, if_pos few]
theorem tr_sortRev : Tr1 fSortRev (Ls (Iz l h) lo hi) (Ls (Iz l h) lo hi) := fun x ⟨xs, hx, hc⟩ => by
  subst hx
  obtain ⟨ns, rfl, q⟩ := cont_ints (lo := lo) (hi := hi) hc.2.2
  have c1 := hc.1
  have c2 := hc.2.1
  rw [List.length_map] at c1 c2
  have ln := (sortI_perm ns).length_eq
  refine ⟨_, ⟨_, rfl, ints_cont (ns := (sortI ns).reverse) (by rw [List.length_reverse]; omega) (by rw [List.length_reverse]; omega) fun n hn => q n ((sortI_perm ns).mem_iff.mp (List.mem_reverse.mp hn))⟩, ?_⟩
  simp only [fSortRev, asInts_map, Option.map_some]
theorem cont_rev {xs : List PyData} (hc : Cont e lo hi xs) : Cont e lo hi xs.reverse := ⟨by simpa using hc.1, by simpa using hc.2.1, fun y hy => hc.2.2 y (List.mem_reverse.mp hy)⟩
theorem tr_revL : Tr1 fRevA (Ls e lo hi) (Ls e lo hi) := fun x ⟨xs, hx, hc⟩ => by
  subst hx
  exact ⟨_, ⟨_, rfl, cont_rev hc⟩, rfl⟩
theorem tr_revT : Tr1 fRevA (Tp e lo hi) (Tp e lo hi) := fun x ⟨xs, hx, hc⟩ => by
  subst hx
  exact ⟨_, ⟨_, rfl, cont_rev hc⟩, rfl⟩
theorem cont_app {xs ys : List PyData} (h1 : Cont e lo1 hi1 xs) (h2 : Cont e lo2 hi2 ys) : Cont e (lo1 + lo2) (hi1 + hi2) (xs ++ ys) := by
  refine ⟨?_, ?_, fun y hy => ?_⟩
  · rw [List.length_append]
    have := h1.1
    have := h2.1
    omega
  · rw [List.length_append]
    have := h1.2.1
    have := h2.2.1
    omega
  · rcases List.mem_append.mp hy with q | q
    · exact h1.2.2 y q
    · exact h2.2.2 y q
theorem tr_addL (p : hi1 + hi2 ≤ lim) : Tr2 fAdd (Ls e lo1 hi1) (Ls e lo2 hi2) (Ls e (lo1 + lo2) (hi1 + hi2)) := fun x y ⟨xs, hx, h1⟩ ⟨ys, hy, h2⟩ => by
  subst hx hy
  refine ⟨_, ⟨_, rfl, cont_app h1 h2⟩, ?_⟩
  have := h1.2.1
  have := h2.2.1
  rw [fAdd_l, if_pos (by omega)]
theorem tr_addT (p : hi1 + hi2 ≤ lim) : Tr2 fAdd (Tp e lo1 hi1) (Tp e lo2 hi2) (Tp e (lo1 + lo2) (hi1 + hi2)) := fun x y ⟨xs, hx, h1⟩ ⟨ys, hy, h2⟩ => by
  subst hx hy
  refine ⟨_, ⟨_, rfl, cont_app h1 h2⟩, ?_⟩
  have := h1.2.1
  have := h2.2.1
  rw [fAdd_t, if_pos (by omega)]
/-! truth -/
theorem trb {q : Bool → Prop} : ∀ x, Bq q x → ∃ t, truth x = some t ∧ q t := fun x ⟨t, hx, qt⟩ => by
  subst hx
  exact ⟨t, rfl, qt⟩
theorem trL : ∀ x, Ls e lo hi x → ∃ t, truth x = some t ∧ anyB t := fun x ⟨xs, hx, _⟩ => by
  subst hx
  exact ⟨_, rfl, trivial⟩
theorem trT : ∀ x, Tp e lo hi x → ∃ t, truth x = some t ∧ anyB t := fun x ⟨xs, hx, _⟩ => by
  subst hx
  exact ⟨_, rfl, trivial⟩
theorem trI : ∀ x, Iz l h x → ∃ t, truth x = some t ∧ anyB t := fun x ⟨xs, hx, _⟩ => by
  subst hx
  exact ⟨_, rfl, trivial⟩
/-! slices -/
def AOp (c : SO) (A : AS) (q : Option Int → Prop) (k : Nat) : Prop := ∀ ev cs B m, Sat A ev cs → BxOk m B → m + k ≤ Mx → ∃ o B' js, q o ∧ BxOk (m + k) B' ∧ ∀ θ : Th, c (θ.ev ev) (θ.sto B cs) = some (o, θ.sto B' (cs ++ js))
variable {A : AS} {c : SE} {k k1 k2 : Nat}
theorem op_none : AOp oNone A (· = none) 0 := fun ev cs B m hs hb hm => ⟨none, B, [], rfl, hb, fun θ => by rw [List.append_nil]; rfl⟩
theorem op_some (g : AE c A (.dat (Iz l h)) k) : AOp (oSome c) A (fun o => ∃ i, o = some i ∧ LoB l i ∧ HiB h i) k := fun ev cs B m hs hb hm => by
  obtain ⟨w, B', js, ⟨x, rfl, i, rfl, q⟩, h2, h3⟩ := g ev cs B m hs hb hm
  refine ⟨some i, B', js, ⟨i, rfl, q⟩, h2, fun θ => ?_⟩
  rw [oSome_ap, h3 θ]
  rfl
theorem ae_sl {cl ch : SO} {q1 q2 : Option Int → Prop} (g : AE c A (.val a) k) (g1 : AOp cl A q1 k1) (g2 : AOp ch A q2 k2) (t : ∀ x o p, a x → q1 o → q2 p → ∃ z, r z ∧ fSl x o p = some z) : AE (cSl c cl ch) A (.dat r) (k + (k1 + k2)) := fun ev cs B m hs hb hm => by
  obtain ⟨w, B1, j1, ⟨x, e1, hx⟩, b1, f1⟩ := g ev cs B m hs hb (by omega)
  obtain ⟨o, B2, j2, h2, b2, f2⟩ := g1 ev (cs ++ j1) B1 (m + k) (hs.mono j1) b1 (by omega)
  obtain ⟨p, B3, j3, h3, b3, f3⟩ := g2 ev (cs ++ j1 ++ j2) B2 (m + k + k1) ((hs.mono j1).mono j2) b2 (by omega)
  obtain ⟨z, rz, ez⟩ := t x o p hx h2 h3
  refine ⟨.d z, B3, j1 ++ (j2 ++ j3), ⟨z, rfl, rz⟩, bx_le b3 (by omega) hm, fun θ => ?_⟩
  have e3 : rdW (cs ++ j1 ++ j2 ++ j3) w = some x := by
    rw [List.append_assoc, List.append_assoc, ← List.append_assoc]
    exact rdW_mono _ _ e1
  rw [cSl_ap, f1 θ]
  simp only [Option.bind_some, sla_ap, f2 θ, sla2_ap, f3 θ, slb_ap, Th.rd θ B3 _ e3, slc_ap, ez, toD_s]
  rw [List.append_assoc, List.append_assoc, ← List.append_assoc cs]
  simp only [List.append_assoc]
  rfl
theorem cut_mem {xs : List PyData} {o p : Option Int} {y : PyData} (h : y ∈ cutD xs o p) : y ∈ xs := List.mem_of_mem_drop (List.mem_of_mem_take h)
theorem cut_len (xs : List PyData) (o p : Option Int) : (cutD xs o p).length ≤ xs.length := by
  unfold cutD
  rw [List.length_take, List.length_drop]
  omega
theorem cut_cont {xs : List PyData} {o p : Option Int} (hc : Cont e lo hi xs) : Cont e 0 hi (cutD xs o p) := ⟨Nat.zero_le _, Nat.le_trans (cut_len xs o p) hc.2.1, fun y hy => hc.2.2 y (cut_mem hy)⟩
theorem sl_L : ∀ x (o p : Option Int), Ls e lo hi x → anyB true → anyB true → ∃ z, Ls e 0 hi z ∧ fSl x o p = some z := fun x o p ⟨xs, hx, hc⟩ _ _ => by
  subst hx
  exact ⟨_, ⟨_, rfl, cut_cont hc⟩, rfl⟩
theorem slL {q1 q2 : Option Int → Prop} : ∀ x o p, Ls e lo hi x → q1 o → q2 p → ∃ z, Ls e 0 hi z ∧ fSl x o p = some z := fun x o p ⟨xs, hx, hc⟩ _ _ => by
  subst hx
  exact ⟨_, ⟨_, rfl, cut_cont hc⟩, rfl⟩
theorem slT {q1 q2 : Option Int → Prop} : ∀ x o p, Tp e lo hi x → q1 o → q2 p → ∃ z, Tp e 0 hi z ∧ fSl x o p = some z := fun x o p ⟨xs, hx, hc⟩ _ _ => by
  subst hx
  exact ⟨_, ⟨_, rfl, cut_cont hc⟩, rfl⟩
/-- x[:n], n between bounds -/
theorem to_cont {xs : List PyData} {i : Int} {n : Nat} (p : 0 ≤ i) (g : (n : Int) ≤ i) (hc : Cont e lo hi xs) : Cont e (min lo n) hi (cutD xs none (some i)) := by
  refine ⟨?_, Nat.le_trans (cut_len xs _ _) hc.2.1, fun y hy => hc.2.2 y (cut_mem hy)⟩
  obtain ⟨k, rfl⟩ : ∃ k : Nat, i = k := ⟨i.toNat, by omega⟩
  unfold cutD
  rw [HT.sIx_none, HT.sIx_nat, List.length_take, List.length_drop]
  have := hc.1
  omega
theorem slToL {n : Nat} : ∀ x o p, Ls e lo hi x → o = none → (∃ i, p = some i ∧ LoB (some (n : Int)) i ∧ HiB h i) → ∃ z, Ls e (min lo n) hi z ∧ fSl x o p = some z := fun x o p ⟨xs, hx, hc⟩ ho ⟨i, hp, g1, _⟩ => by
  subst hx ho hp
  simp only [LoB] at g1
  exact ⟨_, ⟨_, rfl, to_cont (by omega) g1 hc⟩, rfl⟩
theorem slToT {n : Nat} : ∀ x o p, Tp e lo hi x → o = none → (∃ i, p = some i ∧ LoB (some (n : Int)) i ∧ HiB h i) → ∃ z, Tp e (min lo n) hi z ∧ fSl x o p = some z := fun x o p ⟨xs, hx, hc⟩ ho ⟨i, hp, g1, _⟩ => by
  subst hx ho hp
  simp only [LoB] at g1
  exact ⟨_, ⟨_, rfl, to_cont (by omega) g1 hc⟩, rfl⟩
end
/-! ### insert at any place -/
def mIns : MF := fun xs ds => match ds with
  | [.int i, y] => if 0 ≤ i ∧ i ≤ 1000000 ∧ xs.length < lim then some (.none, xs.take i.toNat ++ y :: xs.drop i.toNat) else none
  | _ => none
theorem snd_ins : SndM rInsert mIns := fun F H l vs xs us ds z ys Q hs h d d2 e hl q => by
  unfold mIns at e
  split at e
  · rename_i i y
    split at e
    · rename_i hi
      cases e
      cases d2 with
      | cons a t =>
        cases t with
        | cons b t =>
          cases t
          cases a
          refine ⟨l, vs, i, _, rfl, rfl, h, ?_, hi.1, by omega, q _ _ .non ?_⟩
          · rw [d.length]
            exact Nat.lt_of_lt_of_le hi.2.2 (lim_le (Nat.le_refl _))
          · rw [List.append_assoc]
            exact (d.take _).append ((DqA.cons b .nil).append (d.drop _))
    · cases e
  · cases e
section
variable {A : AS} {X : Xt} {c c2 : SE} {a b r e e' : Pd} {k k1 k2 lo hi lo2 hi2 : Nat}
theorem as_ins {i : Nat} {l h : Int} (q : A[i]? = some (some (.own e lo hi))) (g : AE c A (.dat (Iz (some l) (some h))) k1) (g2 : AE c2 A (.dat a) k2) (p1 : 0 ≤ l) (p2 : h ≤ 1000000) (l1 : ∀ x, e x → e' x) (l2 : ∀ x, a x → e' x) (hl : hi + 1 ≤ lim) : ASt (cExpr (cM mIns (cVar i) (cCons c (cCons c2 cNil)))) A (k1 + (k2 + 0)) (some (A.set i (some (.own e' (lo + 1) (hi + 1))))) X :=
  as_meth (as := [Iz (some l) (some h), a]) q (aa_cons g (aa_cons g2 aa_nil)) (fun xs ds hc hd => by
    cases hd with
    | cons hy t =>
      cases t with
      | cons hz t =>
        rename_i z0 _
        cases t
        obtain ⟨n, rfl, g1, g3⟩ := hy
        simp only [LoB, HiB] at g1 g3
        have := hc.2.1
        refine ⟨.none, xs.take n.toNat ++ z0 :: xs.drop n.toNat, ?_, ?_⟩
        · unfold mIns
          simp only
          rw [if_pos ⟨by omega, by omega, by omega⟩]
        · refine ⟨?_, ?_, fun y hy2 => ?_⟩
          · rw [List.length_append, List.length_cons, List.length_take, List.length_drop]
            have := hc.1
            omega
          · rw [List.length_append, List.length_cons, List.length_take, List.length_drop]
            omega
          · rcases List.mem_append.mp hy2 with z | z
            · exact l1 y (hc.2.2 y (List.mem_of_mem_take z))
            · rcases List.mem_cons.mp z with z | z
              · subst z
                exact l2 _ hz
              · exact l1 y (hc.2.2 y (List.mem_of_mem_drop z))) hl
theorem as_ext {i : Nat} (q : A[i]? = some (some (.own e lo hi))) (g : AE c A (.dat (Ls a lo2 hi2)) k) (l1 : ∀ x, e x → e' x) (l2 : ∀ x, a x → e' x) (hl : hi + hi2 ≤ lim) : ASt (cExpr (cM mExtend (cVar i) (cCons c cNil))) A k (some (A.set i (some (.own e' (lo + lo2) (hi + hi2))))) X :=
  as_meth (as := [Ls a lo2 hi2]) q (aa_cons g aa_nil) (fun xs ds hc hd => by
    cases hd with
    | cons hy t =>
      cases t
      obtain ⟨ys, rfl, h2⟩ := hy
      have := hc.2.1
      have := h2.2.1
      refine ⟨.none, xs ++ ys, ?_, cont_app (cont_le hc l1 (Nat.le_refl _) (Nat.le_refl _)) (cont_le h2 l2 (Nat.le_refl _) (Nat.le_refl _))⟩
      unfold mExtend
      simp only
      rw [if_pos (by omega)]) hl
/-- a chain of two comparisons of ints -/
theorem ae_chain {f g : PyData → PyData → Option PyData} {c3 : SE} {d : Pd} {k3 : Nat} (h1 : AE c A (.dat a) k1) (h2 : AE c2 A (.dat b) k2) (h3 : AE c3 A (.dat d) k3) (t : Tr2 f a b Bl) (t2 : Tr2 g b d Bl) : AE (cChain f g c c2 c3) A (.dat Bl) (k1 + (k2 + k3)) := fun ev cs B m hs hb hm => by
  obtain ⟨w1, B1, j1, ⟨x, rfl, ax⟩, b1, f1⟩ := h1 ev cs B m hs hb (by omega)
  obtain ⟨w2, B2, j2, ⟨y, rfl, ay⟩, b2, f2⟩ := h2 ev (cs ++ j1) B1 (m + k1) (hs.mono j1) b1 (by omega)
  obtain ⟨z, ⟨tz, rfl, _⟩, ez⟩ := t x y ax ay
  cases tz with
  | false =>
    refine ⟨.d (.bool false), B2, j1 ++ j2, ⟨_, rfl, bl_any _⟩, bx_le b2 (by omega) hm, fun θ => ?_⟩
    unfold cChain
    rw [f1 θ]
    simp only [Option.bind_some, f2 θ, Th.u, rd_d, ez, List.append_assoc]
  | true =>
    obtain ⟨w3, B3, j3, ⟨u, rfl, au⟩, b3, f3⟩ := h3 ev (cs ++ j1 ++ j2) B2 (m + k1 + k2) ((hs.mono j1).mono j2) b2 (by omega)
    obtain ⟨z2, q2, e2⟩ := t2 y u ay au
    refine ⟨.d z2, B3, j1 ++ (j2 ++ j3), ⟨z2, rfl, q2⟩, bx_le b3 (by omega) hm, fun θ => ?_⟩
    unfold cChain
    rw [f1 θ]
    simp only [Option.bind_some, f2 θ, Th.u, rd_d, ez]
    rw [f3 θ]
    simp only [Option.bind_some, Th.u, rd_d, e2, Option.map_some, List.append_assoc]
theorem ae_isi {Ts : List String} (h : AE c A (.val a) k) (t : ∀ x, a x → ∃ s, tyD x = some s) (kn : Ts.all known = true) : AE (cIsi Ts c) A (.dat Bl) k := fun ev cs B m hs hb hm => by
  obtain ⟨w, B1, j1, ⟨x, e1, ax⟩, b1, f1⟩ := h ev cs B m hs hb hm
  obtain ⟨s, es⟩ := t x ax
  refine ⟨.d (.bool (Ts.any (isaT s))), B1, j1, ⟨_, rfl, bl_any _⟩, b1, fun θ => ?_⟩
  rw [cIsi_ap, f1 θ]
  simp only [Option.bind_some, isia_ap, Th.rd θ B1 _ e1, es, isib_ap, kn, if_true, toD_s]
  rfl
end
def Bot : Pd := fun _ => False
theorem bot_le {a : Pd} : ∀ x, Bot x → a x := fun x h => h.elim
theorem tt_bl : ∀ x, Tt x → Bl x := fun x ⟨t, h, _⟩ => ⟨t, h, trivial⟩
theorem awle_none {a : Option AW} : AwLe a none := by cases a with
  | none => trivial
  | some a => cases a <;> trivial
theorem awle_dat {a b : Pd} (l : ∀ x, a x → b x) : AwLe (some (.dat a)) (some (.dat b)) := l
theorem awle_ow {e e' : Pd} {lo hi lo' hi' : Nat} (l : ∀ x, e x → e' x) (h1 : lo' ≤ lo) (h2 : hi ≤ hi') : AwLe (some (.own e lo hi)) (some (.own e' lo' hi')) := ⟨l, h1, h2⟩
theorem awle_box : AwLe (some .box) (some .box) := trivial
theorem ag_post {g : GT} {A A1 A2 : AS} {e : Pd} (h : AG g A e A1) (l : AsLe A1 A2) : AG g A e A2 := fun x ev cs hx hs => by
  obtain ⟨ev', s, f⟩ := h x ev cs hx hs
  exact ⟨ev', s.le l, f⟩
theorem it_up {it : SI} {A : AS} {e : Pd} {lo hi k k1 : Nat} (h : AIt it A e lo hi k) (l : k ≤ k1) : AIt it A e lo hi k1 := fun ev cs B m hs hb hm => by
  obtain ⟨w, B', js, h1, h2, h3⟩ := h ev cs B m hs hb (by omega)
  exact ⟨w, B', js, h1, bx_le h2 (by omega) hm, h3⟩
theorem sd_bot : Sd 0 Bot := fun x h => h.elim
/-! ### a test tells more of a slot -/
theorem Sat.known {A : AS} {ev : Wv} {cs : Sto} {a : Pd} {x : PyData} {i : Nat} (h : Sat A ev cs) (e : ev[i]? = some (some (.d x))) (hx : a x) : Sat (A.set i (some (.dat a))) ev cs := by
  have own : ∀ k, isOwn (A.set i (some (.dat a))) k → isOwn A k := fun k ⟨e, lo, hi, q⟩ => by
    rcases get_set q with ⟨_, z, _⟩ | ⟨n, z⟩
    · cases z
    · exact ⟨e, lo, hi, z⟩
  refine ⟨by simp [h.len], fun k aw q => ?_, fun k k' j o1 o2 e1 e2 => h.sep k k' j (own k o1) (own k' o2) e1 e2⟩
  rcases get_set q with ⟨rfl, z, hl⟩ | ⟨n, z⟩
  · cases z
    exact ⟨.d x, e, x, rfl, hx⟩
  · exact h.get k aw z
def ABR (c : SB) (A A1 : AS) (k : Nat) : Prop := ∀ ev cs B m, Sat A ev cs → BxOk m B → m + k ≤ Mx → ∃ t B' js, (t = true → Sat A1 ev (cs ++ js)) ∧ BxOk (m + k) B' ∧ ∀ θ : Th, c (θ.ev ev) (θ.sto B cs) = some (t, θ.sto B' (cs ++ js))
theorem abr_var {A : AS} {c : SE} {a b a' : Pd} {k i : Nat} {f : PyData → PyData → Option PyData} (q : A[i]? = some (some (.dat a))) (h : AE c A (.dat b) k) (t : Tr2 f a b Bl) (ref : ∀ x y, a x → b y → f x y = some (.bool true) → a' x) : ABR (cB (cD2 f (cVar i) c)) A (A.set i (some (.dat a'))) k := fun ev cs B m hs hb hm => by
  obtain ⟨w, g1, x, rfl, hx⟩ := hs.get i _ q
  obtain ⟨w2, B', js, ⟨y, rfl, hy⟩, h2, h3⟩ := h ev cs B m hs hb hm
  obtain ⟨z, ⟨t, rfl, _⟩, ez⟩ := t x y hx hy
  refine ⟨t, B', js, fun et => ?_, h2, fun θ => ?_⟩
  · subst et
    exact (hs.mono js).known g1 (ref x y hx hy ez)
  · rw [cB_ap, cD2_ap, cVar_ap, Th.get, g1]
    simp only [Option.map_some, var1_s, Option.bind_some, Th.u, d2a_ap, h3 θ, d2b_ap, rd_d, d2c_s, ez, toD_s, ba_ap]
theorem as_ifR {A A1 : AS} {s s2 : SS} {N : Option AS} {X : Xt} {t : SB} {k k1 : Nat} (h : ABR t A A1 k) (h1 : ASt s A1 k1 N X) (h2 : ASt s2 A k1 N X) : ASt (cIfS t s s2) A (k + k1) N X := fun ev cs B m hs hb hm => by
  obtain ⟨w, B1, j1, q1, b1, e1⟩ := h ev cs B m hs hb (by omega)
  cases w with
  | true =>
    obtain ⟨o, B2, o2, b2, e2⟩ := h1 ev (cs ++ j1) B1 (m + k) (q1 rfl) b1 (by omega)
    refine ⟨o, B2, o2, by rw [← Nat.add_assoc]; exact b2, fun θ => ?_⟩
    rw [cIfS_ap, e1 θ]
    simp only [Option.bind_some, ifa_ap, if_true, e2 θ]
  | false =>
    obtain ⟨o, B2, o2, b2, e2⟩ := h2 ev (cs ++ j1) B1 (m + k) (hs.mono j1) b1 (by omega)
    refine ⟨o, B2, o2, by rw [← Nat.add_assoc]; exact b2, fun θ => ?_⟩
    rw [cIfS_ap, e1 θ]
    simp only [Option.bind_some, ifa_ap, e2 θ]
    rfl
section
variable {l1 h1 h2 l2 l h : Option Int} {a : Int}
theorem ref_gt (q : omaxL l1 (some (a + 1)) = l) : ∀ x y, Iz l1 h1 x → Iz (some a) h2 y → fGt x y = some (.bool true) → Iz l h1 x := fun x y ⟨i, hx, a1, a2⟩ ⟨j, hy, b1, b2⟩ e => by
  subst hx hy q
  simp only [fGt, Option.some.injEq, PyData.bool.injEq, decide_eq_true_eq] at e
  refine ⟨i, rfl, ?_, a2⟩
  cases l1 <;> simp only [omaxL, LoB] at * <;> (repeat' split) <;> omega
theorem ref_ge (q : omaxL l1 (some a) = l) : ∀ x y, Iz l1 h1 x → Iz (some a) h2 y → fGe x y = some (.bool true) → Iz l h1 x := fun x y ⟨i, hx, a1, a2⟩ ⟨j, hy, b1, b2⟩ e => by
  subst hx hy q
  simp only [fGe, Option.some.injEq, PyData.bool.injEq, decide_eq_true_eq] at e
  refine ⟨i, rfl, ?_, a2⟩
  cases l1 <;> simp only [omaxL, LoB] at * <;> (repeat' split) <;> omega
theorem ref_lt (q : ominH h1 (some (a - 1)) = h) : ∀ x y, Iz l1 h1 x → Iz l2 (some a) y → fLt x y = some (.bool true) → Iz l1 h x := fun x y ⟨i, hx, a1, a2⟩ ⟨j, hy, b1, b2⟩ e => by
  subst hx hy q
  simp only [fLt, Option.some.injEq, PyData.bool.injEq, decide_eq_true_eq] at e
  refine ⟨i, rfl, a1, ?_⟩
  cases h1 <;> simp only [ominH, HiB] at * <;> (repeat' split) <;> omega
theorem ref_le (q : ominH h1 (some a) = h) : ∀ x y, Iz l1 h1 x → Iz l2 (some a) y → fLe x y = some (.bool true) → Iz l1 h x := fun x y ⟨i, hx, a1, a2⟩ ⟨j, hy, b1, b2⟩ e => by
  subst hx hy q
  simp only [fLe, Option.some.injEq, PyData.bool.injEq, decide_eq_true_eq] at e
  refine ⟨i, rfl, a1, ?_⟩
  cases h1 <;> simp only [ominH, HiB] at * <;> (repeat' split) <;> omega
end
theorem iz_leG {l h l' h' : Option Int} (h1 : ∀ i, LoB l i → LoB l' i) (h2 : ∀ i, HiB h i → HiB h' i) : ∀ x, Iz l h x → Iz l' h' x := fun x ⟨i, hx, g1, g2⟩ => ⟨i, hx, h1 i g1, h2 i g2⟩
theorem log_lt {n k : Nat} (h : n < 2 ^ k) (hk : 0 < k) : n.log2 < k := by
  by_cases z : n = 0
  · subst z
    simpa using hk
  · exact (Nat.log2_lt z).mpr h
/-- a product of two that are not negative and not too great -/
theorem tr_mulB {a b c d : Int} {l h : Option Int} (p1 : 0 ≤ a) (p2 : 0 ≤ c) (s1 : b.toNat < 2 ^ 4000) (s2 : d.toNat < 2 ^ 4000) (q1 : some (a * c) = l) (q2 : some (b * d) = h) : Tr2 fMul (Iz (some a) (some b)) (Iz (some c) (some d)) (Iz l h) := fun x y ⟨i, hx, a1, a2⟩ ⟨j, hy, b1, b2⟩ => by
  subst hx hy q1 q2
  simp only [LoB, HiB] at a1 a2 b1 b2
  have ok : mulOk i j = true := by
    unfold mulOk
    refine decide_eq_true (.inr (.inr ?_))
    have e1 : i.natAbs < 2 ^ 4000 := Nat.lt_of_le_of_lt (by omega) s1
    have e2 : j.natAbs < 2 ^ 4000 := Nat.lt_of_le_of_lt (by omega) s2
    have := log_lt e1 (by decide)
    have := log_lt e2 (by decide)
    omega
  exact ⟨.int (i * j), ⟨i * j, rfl, mul_lo p1 p2 a1 b1, mul_lo (by omega) (by omega) a2 b2⟩, by rw [fMul_i, if_pos ok]⟩
end Cm

set_option Elab.async false
set_option linter.all false
set_option maxRecDepth 100000
set_option maxHeartbeats 4000000
namespace Cm
open PySem PySem.Spec PyProof.Rows L2
/-! ### tests that tell more: conjunctions, rows that are not empty -/
section
variable {A A1 A2 : AS} {k1 k2 : Nat} {t t2 : SB}
theorem abr_and1 (h : ABR t A A1 k1) (h2 : AB t2 A1 anyB k2) : ABR (bAnd t t2) A A1 (k1 + k2) := fun ev cs B m hs hb hm => by
  obtain ⟨w, B1, j1, q1, b1, e1⟩ := h ev cs B m hs hb (by omega)
  cases w with
  | false => exact ⟨false, B1, j1, (fun h => nomatch h), bx_le b1 (by omega) hm, fun θ => by rw [bAnd_ap, e1 θ]; rfl⟩
  | true =>
    have s1 := q1 rfl
    obtain ⟨w2, B2, j2, q2, b2, e2⟩ := h2 ev (cs ++ j1) B1 (m + k1) s1 b1 (by omega)
    refine ⟨w2, B2, j1 ++ j2, fun _ => by rw [← List.append_assoc]; exact s1.mono j2, by rw [← Nat.add_assoc]; exact b2, fun θ => ?_⟩
    rw [bAnd_ap, e1 θ]
    simp only [Option.bind_some, anda_ap, if_true, e2 θ, List.append_assoc]
theorem abr_and2 (h : AB t A anyB k1) (h2 : ABR t2 A A2 k2) : ABR (bAnd t t2) A A2 (k1 + k2) := fun ev cs B m hs hb hm => by
  obtain ⟨w, B1, j1, q1, b1, e1⟩ := h ev cs B m hs hb (by omega)
  cases w with
  | false => exact ⟨false, B1, j1, (fun h => nomatch h), bx_le b1 (by omega) hm, fun θ => by rw [bAnd_ap, e1 θ]; rfl⟩
  | true =>
    obtain ⟨w2, B2, j2, q2, b2, e2⟩ := h2 ev (cs ++ j1) B1 (m + k1) (hs.mono j1) b1 (by omega)
    refine ⟨w2, B2, j1 ++ j2, fun h => by rw [← List.append_assoc]; exact q2 h, by rw [← Nat.add_assoc]; exact b2, fun θ => ?_⟩
    rw [bAnd_ap, e1 θ]
    simp only [Option.bind_some, anda_ap, if_true, e2 θ, List.append_assoc]
theorem abr_and (h : ABR t A A1 k1) (h2 : ABR t2 A1 A2 k2) : ABR (bAnd t t2) A A2 (k1 + k2) := fun ev cs B m hs hb hm => by
  obtain ⟨w, B1, j1, q1, b1, e1⟩ := h ev cs B m hs hb (by omega)
  cases w with
  | false => exact ⟨false, B1, j1, (fun h => nomatch h), bx_le b1 (by omega) hm, fun θ => by rw [bAnd_ap, e1 θ]; rfl⟩
  | true =>
    have s1 := q1 rfl
    obtain ⟨w2, B2, j2, q2, b2, e2⟩ := h2 ev (cs ++ j1) B1 (m + k1) s1 b1 (by omega)
    refine ⟨w2, B2, j1 ++ j2, fun h => by rw [← List.append_assoc]; exact q2 h, by rw [← Nat.add_assoc]; exact b2, fun θ => ?_⟩
    rw [bAnd_ap, e1 θ]
    simp only [Option.bind_some, anda_ap, if_true, e2 θ, List.append_assoc]
end
theorem ref_neT {e : Pd} {lo hi lo' : Nat} (q : lo' ≤ max lo 1) : ∀ x y, Tp e lo hi x → TpOf [] y → fNe x y = some (.bool true) → Tp e lo' hi x := fun x y ⟨xs, hx, hc⟩ ⟨ys, hy, hz⟩ e => by
  subst hx hy
  cases hz
  refine ⟨xs, rfl, ?_, hc.2.1, hc.2.2⟩
  cases xs with
  | nil => cases e
  | cons a b =>
    have := hc.1
    simp only [List.length_cons] at this ⊢
    omega
theorem ref_neL {e : Pd} {lo hi lo' : Nat} (q : lo' ≤ max lo 1) : ∀ x y, Ls e lo hi x → LsOf [] y → fNe x y = some (.bool true) → Ls e lo' hi x := fun x y ⟨xs, hx, hc⟩ ⟨ys, hy, hz⟩ e => by
  subst hx hy
  cases hz
  refine ⟨xs, rfl, ?_, hc.2.1, hc.2.2⟩
  cases xs with
  | nil => cases e
  | cons a b =>
    have := hc.1
    simp only [List.length_cons] at this ⊢
    omega
end Cm

set_option Elab.async false
set_option linter.all false
set_option maxRecDepth 100000
set_option maxHeartbeats 4000000
namespace Cm
open PySem PySem.Spec PyProof.Rows L2
/-! ### a list of lists that are still growing: one slot, its lists laid by this def alone -/
inductive Cells (F H : Hp) : List Addr → List (List PyData) → Prop
  | nil : Cells F H [] []
  | cons {b : Addr} {vs : List V} {xs : List PyData} {bs : List Addr} {xss : List (List PyData)} : H b = some (.lst vs) → DqA F vs xs → F b = none → Cells F H bs xss → Cells F H (b :: bs) (xs :: xss)
theorem Cells.app {F H : Hp} {as bs : List Addr} {xss yss : List (List PyData)} (h : Cells F H as xss) (k : Cells F H bs yss) : Cells F H (as ++ bs) (xss ++ yss) := by
  induction h with
  | nil => exact k
  | cons a b c _ ih => exact .cons a b c ih
theorem Cells.len {F H : Hp} {as : List Addr} {xss : List (List PyData)} (h : Cells F H as xss) : as.length = xss.length := by
  induction h with
  | nil => rfl
  | cons _ _ _ _ ih => simp [ih]
theorem Cells.has {F H : Hp} {as : List Addr} {xss : List (List PyData)} (h : Cells F H as xss) : ∀ b ∈ as, F b = none ∧ ∃ vs, H b = some (.lst vs) := by
  induction h with
  | nil => intro b hb; cases hb
  | cons a _ c _ ih =>
    intro b hb
    rcases List.mem_cons.mp hb with q | q
    · exact q ▸ ⟨c, _, a⟩
    · exact ih b q
theorem Cells.to {F H H' : Hp} {as : List Addr} {xss : List (List PyData)} (h : Cells F H as xss) (k : ∀ b ∈ as, H' b = H b) : Cells F H' as xss := by
  induction h with
  | nil => exact .nil
  | cons a b c _ ih => exact .cons (by rw [k _ List.mem_cons_self]; exact a) b c (ih fun x hx => k x (List.mem_cons_of_mem _ hx))
theorem Cells.grow {F H F' H' : Hp} {as : List Addr} {xss : List (List PyData)} (h : Cells F H as xss) (g : Grow F H F' H') : Cells F' H' as xss := by
  induction h with
  | nil => exact .nil
  | cons a b c _ ih => exact .cons (g.hh _ _ a) (b.mono g.ff) (g.fr _ _ a c) ih
theorem Cells.dq {F H G : Hp} {as : List Addr} {xss : List (List PyData)} (h : Cells F H as xss) (s : Same F G) (k : ∀ b ∈ as, G b = H b) : DqA G (as.map V.ref) (xss.map PyData.list) := by
  induction h with
  | nil => exact .nil
  | cons a b c _ ih => exact .cons (.lst (by rw [k _ List.mem_cons_self]; exact a) (b.mono s)) (ih fun x hx => k x (List.mem_cons_of_mem _ hx))
theorem Cells.last {F H : Hp} {bs : List Addr} {yss : List (List PyData)} {ys : List PyData} (h : Cells F H bs (yss ++ [ys])) : ∃ as b vs, bs = as ++ [b] ∧ Cells F H as yss ∧ H b = some (.lst vs) ∧ DqA F vs ys ∧ F b = none := by
  induction yss generalizing bs with
  | nil =>
    cases h with
    | cons a b c t =>
      cases t
      exact ⟨[], _, _, rfl, .nil, a, b, c⟩
  | cons x xss ih =>
    cases h with
    | cons a b c t =>
      obtain ⟨as, b', vs, e, h1, h2, h3, h4⟩ := ih t
      exact ⟨_ :: as, b', vs, by rw [e]; rfl, .cons a b c h1, h2, h3, h4⟩
structure NR (K : PySem.W.Frag) (F : Hp) (a : Addr) (fi : Nat) (H : Hp) (σ : L2.St) (ev : Ev) (xss : List (List PyData)) : Prop where
  sub : Same F H
  own : F a = none
  bs : ∃ bs : List Addr, H a = some (.lst (bs.map V.ref)) ∧ (a :: bs).Nodup ∧ Cells F H bs xss
  sr : SR K [] F ev σ
  no : ev[fi]? = some none
  got : σ[fi]? = some (some (.ref a))
section
variable {K : PySem.W.Frag} {F F' H H' : Hp} {a : Addr} {fi : Nat} {σ : L2.St} {ev : Ev} {xss : List (List PyData)}
theorem NR.grow (n : NR K F a fi H σ ev xss) (g : Grow F H F' H') : NR K F' a fi H' σ ev xss := by
  obtain ⟨bs, h1, h2, h3⟩ := n.bs
  exact ⟨g.fh, g.fr _ _ h1 n.own, ⟨bs, g.hh _ _ h1, h2, h3.grow g⟩, n.sr.mono ⟨fun _ _ h => h, g.ff⟩, n.no, n.got⟩
theorem NR.same (n : NR K F a fi H σ ev xss) (s : Same H H') : NR K F a fi H' σ ev xss := n.grow ⟨Same.refl _, s, n.sub.trans s, fun _ _ _ e => e⟩
theorem NR.put (n : NR K F a fi H σ ev xss) {i : Nat} {v : V} {d : PyData} (hi : i ≠ fi) (r : Dq F v d) : NR K F a fi H (σ.set i (some v)) (ev.set i (some (.d d))) xss :=
  ⟨n.sub, n.own, n.bs, n.sr.set (w := .d d) r i, by rw [List.getElem?_set_ne hi]; exact n.no, by rw [List.getElem?_set_ne hi]; exact n.got⟩
/-- the slots, the growing list read as it stands -/
def rdN (fi : Nat) (ev : Ev) (xss : List (List PyData)) : Ev := ev.set fi (some (.d (.list (xss.map .list))))
theorem set_has {α : Type} {l : List α} {i : Nat} {x : α} (h : l[i]? = some x) : l.set i x = l := by
  obtain ⟨hb, e⟩ := List.getElem?_eq_some_iff.mp h
  rw [← e]
  simp
theorem NR.dq (n : NR K F a fi H σ ev xss) : Dq H (.ref a) (.list (xss.map .list)) := by
  obtain ⟨bs, h1, h2, h3⟩ := n.bs
  exact .lst h1 (h3.dq n.sub fun _ _ => rfl)
theorem NR.all (n : NR K F a fi H σ ev xss) : SR K [] H (rdN fi ev xss) σ := by
  have := (n.sr.mono (F' := H) (ρ' := []) ⟨fun _ _ h => h, n.sub⟩).set (w := .d (.list (xss.map .list))) n.dq fi
  rwa [set_has n.got] at this
theorem hr_none (H : Hp) : HR [] H H [] := ⟨Same.refl _, fun n xs e => by simp at e, fun n m a e => by simp at e, rfl⟩
theorem NR.ask (n : NR K F a fi H σ ev xss) {c : SE} {z : PyData} {Q : VK} (e : c (rdN fi ev xss) [] = some (.d z, [])) (k : ∀ v H', Same H H' → (∃ F', Same F' H' ∧ Dq F' v z) → Q v H') : tI K c σ H Q :=
  ⟨[], H, rdN fi ev xss, [], .d z, [], hr_none H, n.all, e, fun v ρ' F' H' x hr wr => k v H' (x.same.trans hr.sub) ⟨F', hr.sub, wr⟩⟩
theorem NR.test (n : NR K F a fi H σ ev xss) {c : SB} {b : Bool} {Q : Bool → Hp → Prop} (e : c (rdN fi ev xss) [] = some (b, [])) (k : ∀ H', Same H H' → Q b H') : tT K c σ H Q :=
  ⟨[], H, rdN fi ev xss, [], b, [], hr_none H, n.all, e, fun ρ' F' H' x hr => k H' (x.same.trans hr.sub)⟩
end
abbrev NS := Ev → List (List PyData) → Option (Ev × List (List PyData))
def tNS (K : PySem.W.Frag) (fi : Nat) (c : NS) : TS := fun D σ H => ∃ F a ev xss ev' xss', NR K F a fi H σ ev xss ∧ c ev xss = some (ev', xss') ∧ ∀ σ' F' H', Same F F' → NR K F' a fi H' σ' ev' xss' → D.nx σ' H'
def nSkip : NS := fun ev xss => some (ev, xss)
def nSeq (a b : NS) : NS := fun ev xss => (a ev xss).bind fun p => b p.1 p.2
def nIf (fi : Nat) (c : SB) (a b : NS) : NS := fun ev xss => match c (rdN fi ev xss) [] with
  | some (true, []) => a ev xss
  | some (false, []) => b ev xss
  | _ => none
def nSet (fi i : Nat) (c : SE) : NS := fun ev xss => match c (rdN fi ev xss) [] with
  | some (.d z, []) => if flatD z = true ∧ i ≠ fi then some (ev.set i (some (.d z)), xss) else none
  | _ => none
def nNew0 : NS := fun ev xss => if xss.length < lim then some (ev, xss ++ [[]]) else none
def nNew1 (i : Nat) : NS := fun ev xss => match ev[i]? with
  | some (some (.d z)) => if xss.length < lim then some (ev, xss ++ [[z]]) else none
  | _ => none
def nAdd (i : Nat) : NS := fun ev xss => match xss.getLast?, ev[i]? with
  | some ys, some (some (.d z)) => if ys.length < lim then some (ev, xss.dropLast ++ [ys ++ [z]]) else none
  | _, _ => none
def nLoop (i : Nat) (b : NS) : List PyData → NS
  | [], ev, xss => some (ev, xss)
  | d :: ds, ev, xss => (b (ev.set i (some (.d d))) xss).bind fun p => nLoop i b ds p.1 p.2
def nFor (j i : Nat) (b : NS) : NS := fun ev xss => match ev[j]? with
  | some (some (.d x)) => (items x).bind fun ds => nLoop i b ds ev xss
  | _ => none
theorem flat_dq {F F' : Hp} {v : V} {z : PyData} (h : flatD z = true) (d : Dq F' v z) : Dq F v z := by
  cases d with
  | non => exact .non
  | bl b => exact .bl b
  | int i => exact .int i
  | str x => exact .str x
  | lst _ _ => cases h
  | tup _ _ => cases h
theorem flat_dqa {F F' : Hp} : ∀ {vs : List V} {zs : List PyData}, zs.all flatD = true → DqA F' vs zs → DqA F vs zs
  | _, _, _, .nil => .nil
  | _, _, h, .cons d t => by
    simp only [List.all_cons, Bool.and_eq_true] at h
    exact .cons (flat_dq h.1 d) (flat_dqa h.2 t)
theorem atI_last {α : Type} (ys : List α) (z : α) : atI (ys ++ [z]) (-1) = some z := by
  have h : (-(((ys ++ [z]).length : Nat) : Int) ≤ -1) := by simp; omega
  have e : ((-1 : Int) + (((ys ++ [z]).length : Nat) : Int)).toNat = ys.length := by simp; omega
  simp only [atI, ixN, if_neg (by decide : ¬ (0 : Int) ≤ -1), if_pos h, e, Option.bind_some]
  simp
section
variable {X : Cx} {fi : Nat} {e c : Expr} {s : Stmt} {ss ts : List Stmt} {pos : Pos} {ce : SE} {cb : SB} {a b : NS}
theorem n_nil : PSs X [] (tNS X.K fi nSkip) := pss_nil.weak fun D σ H ⟨F, a, ev, xss, ev', xss', n, e, k⟩ => by
  cases e
  exact k σ F H (Same.refl _) n
theorem n_one (h : PS X s (tNS X.K fi a)) : PSs X [s] (tNS X.K fi a) := pss_one h
theorem n_cons (h1 : PS X s (tNS X.K fi a)) (h2 : PSs X ss (tNS X.K fi b)) : PSs X (s :: ss) (tNS X.K fi (nSeq a b)) := (pss_cons h1 h2).weak fun D σ H ⟨F, ad, ev, xss, ev', xss', n, e, k⟩ => by
  simp only [nSeq, Option.bind_eq_some_iff] at e
  obtain ⟨⟨ev1, xss1⟩, e1, e2⟩ := e
  exact ⟨F, ad, ev, xss, ev1, xss1, n, e1, fun σ1 F1 H1 s1 n1 => ⟨F1, ad, ev1, xss1, ev', xss', n1, e2, fun σ' F' H' s' n' => k σ' F' H' (s1.trans s') n'⟩⟩
theorem n_if (hc : PT X c (tT X.K cb)) (ha : PSs X ss (tNS X.K fi a)) (hb : PSs X ts (tNS X.K fi b)) : PS X (.If c ss ts pos) (tNS X.K fi (nIf fi cb a b)) := (ps_if hc ha hb).weak fun D σ H ⟨F, ad, ev, xss, ev', xss', n, e, k⟩ => by
  unfold nIf at e
  split at e
  · rename_i q
    exact n.test q fun H' s => ⟨F, ad, ev, xss, ev', xss', n.same s, e, k⟩
  · rename_i q
    exact n.test q fun H' s => ⟨F, ad, ev, xss, ev', xss', n.same s, e, k⟩
  · cases e
theorem n_set {i : Nat} {x : Str} {pos' : Pos} (hN : X.N.Nodup) (hi : X.N[i]? = some x) (hx : Loc X.env.scope x) (he : PE X e (tI X.K ce)) (hs : swapsWith e (some (.Name x pos')) pos.line X.env = pure false := by rfl) (hf : X.fn x = true ∨ X.env.scope.names.lookup x = some .local := by first | exact .inl rfl | exact .inr rfl | assumption) :
    PS X (.Assign [.Name x pos'] e pos) (tNS X.K fi (nSet fi i ce)) := (ps_set hN hi hx he hs hf).weak fun D σ H ⟨F, ad, ev, xss, ev', xss', n, e, k⟩ => by
  unfold nSet at e
  split at e
  · rename_i z q
    split at e
    · rename_i c
      cases e
      exact n.ask q fun v H' s ⟨F', s', d⟩ => k _ F H' (Same.refl _) ((n.same s).put c.2 (flat_dq c.1 d))
    · cases e
  · cases e
section
variable {x : Str} {p1 p2 p3 apos cpos : Pos} {id : String}
variable (hN : X.N[fi]? = some x) (hv : Vis X.env.scope x) (hd : (x == ("__debug__" : Str)) = false) (hcd : (x == ("__classdict__" : Str)) = false)
/-- the object behind o grows by a new list -/
theorem app_new {F H : Hp} {ad : Addr} {σ : L2.St} {ev : Ev} {xss : List (List PyData)} {vs : List V} {xs : List PyData} {p : Addr} {bs : List Addr} (n : NR X.K F ad fi H σ ev xss) (hp : H p = none) (d : DqA F vs xs) (h1 : H ad = some (.lst (bs.map V.ref))) (h2 : (ad :: bs).Nodup) (h3 : Cells F H bs xss) :
    NR X.K F ad fi (upd (upd H p (.lst vs)) ad (.lst (bs.map V.ref ++ [.ref p]))) σ ev (xss ++ [xs]) := by
  have pa : ad ≠ p := ne_of_none h1 hp
  have nf : F p = none := n.sub.free hp
  have h2' := List.nodup_cons.mp h2
  have pb : p ∉ bs := fun hm => by
    obtain ⟨_, vs, e⟩ := h3.has p hm
    rw [hp] at e
    cases e
  refine ⟨fun b o e => ?_, n.own, ⟨bs ++ [p], ?_, ?_, ?_⟩, n.sr, n.no, n.got⟩
  · have n1 : b ≠ ad := fun q => by rw [q, n.own] at e; cases e
    have n2 : b ≠ p := fun q => by rw [q, nf] at e; cases e
    rw [upd_ne n1, upd_ne n2]
    exact n.sub _ _ e
  · rw [upd_same]
    simp
  · refine List.nodup_cons.mpr ⟨fun hm => ?_, List.nodup_append.mpr ⟨h2'.2, by simp, fun y hy z hz => ?_⟩⟩
    · rcases List.mem_append.mp hm with q | q
      · exact h2'.1 q
      · exact pa (by simpa using q)
    · have : z = p := by simpa using hz
      exact fun e => pb (this ▸ e ▸ hy)
  · refine (h3.to fun b hb => ?_).app (.cons ?_ d nf .nil)
    · have n1 : b ≠ ad := fun q => h2'.1 (q ▸ hb)
      have n2 : b ≠ p := fun q => pb (q ▸ hb)
      rw [upd_ne n1, upd_ne n2]
    · rw [upd_ne (Ne.symm pa), upd_same]
include hN hv hd hcd
theorem n_new0 (pa : PlainAttrs "list") (slot : Slot "list" "append" id) (hty : typeOf (.builtin id) = pure (.type "method_descriptor")) (hm : MtR X id rAppend)
    (hbase : BareBase X (.Name x p1) "append" := by rfl) (hfew : Few X [.List [] p2] cpos := by rfl) (hline : (apos.endLine == cpos.line) = true := by rfl) (hst : Bare1 X (.List [] p2) [] := by rfl) (hplain : NoStar X [] cpos := by rfl)
    (hsw : swapsWith (.Call (.Attribute (.Name x p1) "append" apos) [.List [] p2] [] cpos) none pos.line X.env = pure false := by rfl) :
    PS X (.Expr (.Call (.Attribute (.Name x p1) "append" apos) [.List [] p2] [] cpos) pos) (tNS X.K fi nNew0) :=
  (ps_expr (pe_bm pa slot hty hm (pe_var hN hv hd hcd) (pa_cons (pe_lst pa_nil) pa_nil hst) hbase hfew hline hst hplain) hsw).weak fun D σ H ⟨F, ad, ev, xss, ev', xss', n, e, k⟩ => by
    unfold nNew0 at e
    split at e
    · rename_i hl
      cases e
      obtain ⟨bs, h1, h2, h3⟩ := n.bs
      refine ⟨.ref ad, n.got, .inl ⟨rfl, _, SqL.of h1⟩, Nat.zero_le _, fun p hp => ?_⟩
      have pa := ne_of_none h1 hp
      refine ⟨ad, bs.map V.ref, .ref p, rfl, rfl, by rw [upd_ne pa]; exact h1, ?_, ?_⟩
      · rw [List.length_map, h3.len]
        exact Nat.lt_of_lt_of_le hl (lim_le (Nat.le_refl _))
      · exact k σ F _ (Same.refl _) (app_new n hp .nil h1 h2 h3)
    · cases e
variable {i : Nat} {y : Str} (hN2 : X.N[i]? = some y) (hv2 : Vis X.env.scope y) (hd2 : (y == ("__debug__" : Str)) = false) (hcd2 : (y == ("__classdict__" : Str)) = false)
include hN2 hv2 hd2 hcd2
theorem n_new1 (pa : PlainAttrs "list") (slot : Slot "list" "append" id) (hty : typeOf (.builtin id) = pure (.type "method_descriptor")) (hm : MtR X id rAppend)
    (hbase : BareBase X (.Name x p1) "append" := by rfl) (hfew : Few X [.List [.Name y p3] p2] cpos := by rfl) (hline : (apos.endLine == cpos.line) = true := by rfl) (hst : Bare1 X (.List [.Name y p3] p2) [] := by rfl) (hst2 : Bare1 X (.Name y p3) [] := by rfl) (hplain : NoStar X [] cpos := by rfl)
    (hsw : swapsWith (.Call (.Attribute (.Name x p1) "append" apos) [.List [.Name y p3] p2] [] cpos) none pos.line X.env = pure false := by rfl) :
    PS X (.Expr (.Call (.Attribute (.Name x p1) "append" apos) [.List [.Name y p3] p2] [] cpos) pos) (tNS X.K fi (nNew1 i)) :=
  (ps_expr (pe_bm pa slot hty hm (pe_var hN hv hd hcd) (pa_cons (pe_lst (pa_cons (pe_var hN2 hv2 hd2 hcd2) pa_nil hst2)) pa_nil hst) hbase hfew hline hst hplain) hsw).weak fun D σ H ⟨F, ad, ev, xss, ev', xss', n, e, k⟩ => by
    unfold nNew1 at e
    split at e
    · rename_i z q
      split at e
      · rename_i hl
        cases e
        obtain ⟨bs, h1, h2, h3⟩ := n.bs
        obtain ⟨v, g1, g2⟩ := n.sr.get i _ q
        refine ⟨.ref ad, n.got, .inl ⟨rfl, _, SqL.of h1⟩, v, g1, by simp only [List.length_cons, List.length_nil]; exact lim_le (by decide), fun p hp => ?_⟩
        have pa := ne_of_none h1 hp
        refine ⟨ad, bs.map V.ref, .ref p, rfl, rfl, by rw [upd_ne pa]; exact h1, ?_, ?_⟩
        · rw [List.length_map, h3.len]
          exact Nat.lt_of_lt_of_le hl (lim_le (Nat.le_refl _))
        · exact k σ F _ (Same.refl _) (app_new n hp (.cons g2 .nil) h1 h2 h3)
      · cases e
    · cases e
theorem n_add {b : Expr} (hneg : PE X b (tI X.K (cD1 fNeg (cD (.int 1))))) (pa : PlainAttrs "list") (slot : Slot "list" "append" id) (hty : typeOf (.builtin id) = pure (.type "method_descriptor")) (hm : MtR X id rAppend)
    (hbase : BareBase X (.Subscript (.Name x p1) b p2) "append" := by rfl) (hfew : Few X [.Name y p3] cpos := by rfl) (hline : (apos.endLine == cpos.line) = true := by rfl) (hst : Bare1 X (.Name y p3) [] := by rfl) (hplain : NoStar X [] cpos := by rfl)
    (hsw : swapsWith (.Call (.Attribute (.Subscript (.Name x p1) b p2) "append" apos) [.Name y p3] [] cpos) none pos.line X.env = pure false := by rfl) (hpl : PlainIx b := by exact fun _ _ => rfl) :
    PS X (.Expr (.Call (.Attribute (.Subscript (.Name x p1) b p2) "append" apos) [.Name y p3] [] cpos) pos) (tNS X.K fi (nAdd i)) :=
  (ps_expr (pe_bm pa slot hty hm (pe_ix ix_seq (pe_var hN hv hd hcd) hneg hpl) (pa_cons (pe_var hN2 hv2 hd2 hcd2) pa_nil hst) hbase hfew hline hst hplain) hsw).weak fun D σ H ⟨F, ad, ev, xss, ev', xss', n, e, k⟩ => by
    unfold nAdd at e
    split at e
    · rename_i ys z q1 q2
      split at e
      · rename_i hl
        cases e
        obtain ⟨yss, rfl⟩ := List.getLast?_eq_some_iff.mp q1
        rw [List.dropLast_concat] at k
        refine ⟨.ref ad, n.got, n.ask (z := .int (-1)) rfl fun v H1 s1 ⟨F1, _, d1⟩ => ?_⟩
        cases d1
        have n1 := n.same s1
        obtain ⟨bs, h1, h2, h3⟩ := n1.bs
        obtain ⟨as, bb, vs, rfl, h4, h5, h6, h7⟩ := h3.last
        obtain ⟨w, g1, g2⟩ := n1.sr.get i _ q2
        have h2' := List.nodup_cons.mp h2
        have h2a := List.nodup_append.mp h2'.2
        refine .inl ⟨ad, (as ++ [bb]).map V.ref, -1, .ref bb, rfl, rfl, SqL.of h1, by rw [List.map_append]; exact atI_last _ _, .inl ⟨rfl, _, SqL.of h5⟩, w, g1, ?_⟩
        refine ⟨bb, vs, w, rfl, rfl, h5, ?_, ?_⟩
        · rw [h6.length]
          exact Nat.lt_of_lt_of_le hl (lim_le (Nat.le_refl _))
        · have nab : ad ≠ bb := fun q => h2'.1 (by rw [q]; simp)
          refine k σ F _ (Same.refl _) ⟨fun c o e => ?_, n1.own, ⟨as ++ [bb], ?_, h2, (h4.to fun c hc => ?_).app (.cons upd_same (h6.append (.cons g2 .nil)) h7 .nil)⟩, n1.sr, n1.no, n1.got⟩
          · have nc : c ≠ bb := fun q => by rw [q, h7] at e; cases e
            rw [upd_ne nc]
            exact n1.sub _ _ e
          · rw [upd_ne nab]
            exact h1
          · have nc : c ≠ bb := fun q => h2a.2.2 c hc bb (by simp) q
            rw [upd_ne nc]
      · cases e
    · cases e
end
theorem n_for {j i : Nat} {x y : Str} {p1 p2 : Pos} (hp : PassesOwn (model X.prog X.w) X.A X.env X.xe) (hc : X.calm = true) (hN : X.N[j]? = some y) (hv : Vis X.env.scope y) (hd : (y == ("__debug__" : Str)) = false) (hcd : (y == ("__classdict__" : Str)) = false)
    (hNN : X.N.Nodup) (hi : X.N[i]? = some x) (hx : Loc X.env.scope x) (hif : i ≠ fi) (hb : PSs X ss (tNS X.K fi b)) (hf : X.fn x = true ∨ X.env.scope.names.lookup x = some .local := by first | exact .inl rfl | exact .inr rfl | assumption)
    (hs : ∀ z, foldedSetIterable (.Name y p2) X.env z = pure z := by exact fun _ => rfl) : PS X (.For (.Name x p1) (.Name y p2) ss [] pos) (tNS X.K fi (nFor j i b)) :=
  (ps_for hp hc (PI.or (w := fun σ H R => iList X.K (tVar j) σ H R ∨ iTup X.K (tVar j) σ H R) (pi_list (pe_var hN hv hd hcd)) (pi_tup (pe_var hN hv hd hcd)) fun _ _ _ h => h) (pg_name hNN hi hx hf) hb hs).weak fun D σ H ⟨F, ad, ev, xss, ev', xss', n, e, k⟩ => by
    unfold nFor at e
    split at e
    · rename_i d q
      simp only [Option.bind_eq_some_iff] at e
      obtain ⟨ds, e1, e2⟩ := e
      obtain ⟨v, g1, g2⟩ := n.sr.get j _ q
      have main : ∀ J : It, Yld F J ds → ∃ W : Nat → Nat → L2.St → Hp → Prop, (∃ m, W 0 m σ H) ∧ ∀ i' m σ H, W i' m σ H →
          (J.stop i' H ∧ D.nx σ H) ∨ (J.go i' H ∧ ∃ N : L2.St → Hp → Prop, (∀ σ' H', N σ' H' → ∃ m', m' < m ∧ W (i' + 1) m' σ' H') ∧ ∀ x H', J.yld i' H x H' → gName i x σ H' fun σ2 H2 => tNS X.K fi b { D with nx := N, ct := N, bk := D.nx } σ2 H2) := by
        intro J yl
        refine ⟨fun t m σ H => m = ds.length - t ∧ t ≤ ds.length ∧ ∃ F1 ev1 xss1, Same F F1 ∧ NR X.K F1 ad fi H σ ev1 xss1 ∧ nLoop i b (ds.drop t) ev1 xss1 = some (ev', xss'), ⟨ds.length, rfl, Nat.zero_le _, F, ev, xss, Same.refl _, n, e2⟩, ?_⟩
        rintro t m σ1 H1 ⟨rfl, ht, F1, ev1, xss1, s1, n1, e3⟩
        obtain ⟨yg, ys⟩ := yl F1 H1 (sameD s1) n1.sub
        by_cases hlt : t < ds.length
        · rw [List.drop_eq_getElem_cons hlt] at e3
          simp only [nLoop, Option.bind_eq_some_iff] at e3
          obtain ⟨⟨ev2, xss2⟩, e4, e5⟩ := e3
          obtain ⟨go, yy⟩ := yg t ds[t] (List.getElem?_eq_getElem hlt)
          refine .inr ⟨go, fun σ H => ∃ F1 ev1 xss1, Same F F1 ∧ NR X.K F1 ad fi H σ ev1 xss1 ∧ nLoop i b (ds.drop (t + 1)) ev1 xss1 = some (ev', xss'), fun σ' H' w => ⟨ds.length - (t + 1), by omega, rfl, hlt, w⟩, fun v H2 yv => ?_⟩
          obtain ⟨F2, gr, dv⟩ := yy v H2 yv
          exact ⟨F2, ad, _, xss1, ev2, xss2, (n1.grow gr).put hif dv, e4, fun σ' F' H' s' n' => ⟨F', ev2, xss2, (s1.trans gr.ff).trans s', n', e5⟩⟩
        · have hx : t = ds.length := by omega
          subst hx
          rw [List.drop_length] at e3
          cases e3
          exact .inl ⟨ys, k σ1 F1 H1 s1 n1⟩
      cases d with
      | list zs =>
        cases e1
        cases g2 with
        | lst h d => exact .inl ⟨_, g1, _, rfl, ⟨_, SqL.of (n.sub _ _ h)⟩, main _ (yld_list (fun F1 H s1 s2 => SqL.of (s2 _ _ (s1 _ _ h fun _ q => nomatch q))) d)⟩
      | tuple zs =>
        cases e1
        cases g2 with
        | tup h d => exact .inr ⟨_, g1, _, rfl, ⟨_, SqT.of (n.sub _ _ h)⟩, main _ (yld_tup h d)⟩
      | _ => cases e1
    · cases e
end
/-! a def's whole body -/
def dataE : Ev → Bool := fun ev => ev.all fun w => match w with
  | some (.l _) => false
  | some (.s _) => false
  | some (.k _) => false
  | _ => true
def nEnd (st : Sto) (o : Option (Ev × List (List PyData))) : Option Out := o.bind fun p => if (p.2.all fun xs => xs.all flatD) = true then some (.rt (.d (.list (p.2.map .list))) st) else none
def nB1 (fi : Nat) (b : NS) : SS := fun ev st => if dataE ev = true ∧ fi < ev.length then nEnd st (b (ev.set fi none) []) else none
def nB2 (fi si : Nat) (b : NS) : SS := fun ev st => if dataE ev = true ∧ fi < ev.length ∧ fi ≠ si then nEnd st (b ((ev.set fi none).set si (some (.d (.int 0)))) []) else none
theorem SR.dat {K : PySem.W.Frag} {ρ : List Addr} {F H : Hp} {ev : Ev} {σ : L2.St} (h : SR K ρ F ev σ) (s : Same F H) (d : dataE ev = true) : SR K [] H ev σ := ⟨h.len, fun i w q => by
  obtain ⟨v, h1, h2⟩ := h.get i w q
  refine ⟨v, h1, ?_⟩
  have := List.all_eq_true.mp d (some w) (List.mem_of_getElem? q)
  cases w with
  | d x => exact Dq.mono s h2
  | l n => cases this
  | s n => cases this
  | k n => cases this⟩
theorem n_start {K : PySem.W.Frag} {ρ : List Addr} {F H : Hp} {st : Sto} {ev : Ev} {σ : L2.St} {fi : Nat} {p : Addr} (hr : HR ρ F H st) (sr : SR K ρ F ev σ) (d : dataE ev = true) (hf : fi < ev.length) (hp : H p = none) : NR K H p fi (upd H p (.lst [])) (σ.set fi (some (.ref p))) (ev.set fi none) [] :=
  ⟨same_upd hp, hp, ⟨[], upd_same, by simp, .nil⟩, (sr.dat hr.sub d).none fi _, by simp [hf], by simp [← sr.len, hf]⟩
theorem n_stop {K : PySem.W.Frag} {ρ : List Addr} {F H F1 H1 : Hp} {st : Sto} {ev1 : Ev} {σ1 : L2.St} {fi : Nat} {p : Addr} {xss : List (List PyData)} {Q : VK} (hr : HR ρ F H st) (s : Same H F1) (n : NR K F1 p fi H1 σ1 ev1 xss) (fl : (xss.all fun xs => xs.all flatD) = true)
    (post : Post K ρ F (.d (.list (xss.map .list))) st Q) : Q (.ref p) H1 := by
  classical
  obtain ⟨bs, h1, h2, h3⟩ := n.bs
  have hb := h3.has
  let G : Hp := fun c => if c = p ∨ c ∈ bs then H1 c else F c
  have out : ∀ c o, H c = some o → ¬ (c = p ∨ c ∈ bs) := fun c o e q => by
    have e1 := s _ _ e
    rcases q with q | q
    · rw [q, n.own] at e1
      cases e1
    · rw [(hb c q).1] at e1
      cases e1
  have FG : Same F G := fun c o e => by
    show (if c = p ∨ c ∈ bs then H1 c else F c) = some o
    rw [if_neg (out c o (hr.sub _ _ e))]
    exact e
  have GH : Same G H1 := fun c o e => by
    have e' : (if c = p ∨ c ∈ bs then H1 c else F c) = some o := e
    split at e'
    · exact e'
    · exact n.sub _ _ (s _ _ (hr.sub _ _ e'))
  have in1 : G p = H1 p := if_pos (.inl rfl)
  have in2 : ∀ b ∈ bs, G b = H1 b := fun b hb => if_pos (.inr hb)
  refine post (.ref p) ρ G H1 ⟨fun _ _ h => h, FG⟩ ⟨GH, fun k xs e => ?_, hr.inj, hr.len⟩ ?_
  · obtain ⟨a, vs, k1, k2, k3, k4⟩ := hr.cell k xs e
    refine ⟨a, vs, k1, n.sub _ _ (s _ _ k2), ?_, k4.mono FG⟩
    show (if a = p ∨ a ∈ bs then H1 a else F a) = none
    rw [if_neg (out a _ k2)]
    exact k3
  · refine .lst (in1.trans h1) ?_
    clear h1 h2 post n
    have go : ∀ {as : List Addr} {yss : List (List PyData)}, Cells F1 H1 as yss → (∀ b ∈ as, G b = H1 b) → (yss.all fun xs => xs.all flatD) = true → DqA G (as.map V.ref) (yss.map PyData.list) := by
      intro as yss h
      induction h with
      | nil => intro _ _; exact .nil
      | cons a b c _ ih =>
        intro hg hf
        simp only [List.all_cons, Bool.and_eq_true] at hf
        exact .cons (.lst ((hg _ List.mem_cons_self).trans a) (flat_dqa (List.all_eq_true.mpr fun x hx => List.all_eq_true.mp hf.1 x hx) b)) (ih (fun x hx => hg x (List.mem_cons_of_mem _ hx)) (by simpa using hf.2))
    exact go h3 in2 fl
section
variable {X : Cx} {fi si : Nat} {s : Stmt} {b : NS} {x y : Str} {p1 p2 p3 p4 p5 pos pos2 : Pos}
theorem n_body1 (hNN : X.N.Nodup) (hN : X.N[fi]? = some x) (hx : Loc X.env.scope x) (hv : Vis X.env.scope x) (hd : (x == ("__debug__" : Str)) = false) (hcd : (x == ("__classdict__" : Str)) = false) (hb : PS X s (tNS X.K fi b))
    (hs : swapsWith (.List [] p2) (some (.Name x p1)) pos.line X.env = pure false := by rfl) (hf : X.fn x = true ∨ X.env.scope.names.lookup x = some .local := by first | exact .inl rfl | exact .inr rfl | assumption) :
    PSs X [.Assign [.Name x p1] (.List [] p2) pos, s, .Return (some (.Name x p3)) pos2] (tSS X.K (nB1 fi b)) :=
  (pss_cons (ps_set hNN hN hx (pe_lst pa_nil) hs hf) (pss_cons hb (pss_one (ps_ret (pe_var hN hv hd hcd))))).weak fun D σ H ⟨ρ, F, ev, st, o, hr, sr, e, ok⟩ => by
    unfold nB1 at e
    split at e
    · rename_i c
      unfold nEnd at e
      simp only [Option.bind_eq_some_iff] at e
      obtain ⟨⟨ev1, xss1⟩, e1, e2⟩ := e
      split at e2
      · rename_i fl
        cases e2
        exact ⟨Nat.zero_le _, fun p hp => ⟨H, p, _, [], ev1, xss1, n_start hr sr c.1 c.2 hp, e1, fun σ' F' H' s' n' => ⟨.ref p, n'.got, n_stop hr s' n' fl ok⟩⟩⟩
      · cases e2
    · cases e
theorem n_body2 {kt k2 : Nat} {pt pt2 : Pos} {kk : Nat} (hc : X.calm = true) (hNN : X.N.Nodup) (hN : X.N[fi]? = some x) (hS : X.N[si]? = some y) (hij : fi ≠ si) (hx : X.env.scope.names.lookup x = some .local) (hy : X.env.scope.names.lookup y = some .local)
    (hv : Vis X.env.scope x) (hd : (x == ("__debug__" : Str)) = false) (hcd : (x == ("__classdict__" : Str)) = false) (hb : PS X s (tNS X.K fi b))
    (hw : Swaps X (.Tuple [.Name x p1, .Name y p2] kt pt) (.Tuple [.List [] p3, .Constant (.int 0) kk p4] k2 pt2) (some [x, y]))
    (hst : Bare1 X (.List [] p3) [.Constant (.int 0) kk p4] := by rfl) (hst2 : Bare1 X (.Constant (.int 0) kk p4) [] := by rfl)
    (hs : NoSole X (.Tuple [.Name x p1, .Name y p2] kt pt) (.Tuple [.List [] p3, .Constant (.int 0) kk p4] k2 pt2) pos := by rfl) :
    PSs X [.Assign [.Tuple [.Name x p1, .Name y p2] kt pt] (.Tuple [.List [] p3, .Constant (.int 0) kk p4] k2 pt2) pos, s, .Return (some (.Name x p5)) pos2] (tSS X.K (nB2 fi si b)) :=
  (pss_cons (ps_par hc hNN hN hS hij hx hy (pa_cons (pe_lst pa_nil) (pa_cons pe_int pa_nil hst2) hst) hw hs) (pss_cons hb (pss_one (ps_ret (pe_var hN hv hd hcd))))).weak fun D σ H ⟨ρ, F, ev, st, o, hr, sr, e, ok⟩ => by
    unfold nB2 at e
    split at e
    · rename_i c
      unfold nEnd at e
      simp only [Option.bind_eq_some_iff] at e
      obtain ⟨⟨ev1, xss1⟩, e1, e2⟩ := e
      split at e2
      · rename_i fl
        cases e2
        exact ⟨Nat.zero_le _, fun p hp => ⟨.ref p, .int 0, rfl, H, p, _, [], ev1, xss1, (n_start hr sr c.1 c.2.1 hp).put (Ne.symm hij) (.int 0), e1, fun σ' F' H' s' n' => ⟨.ref p, n'.got, n_stop hr s' n' fl ok⟩⟩⟩
      · cases e2
    · cases e
end
end Cm

set_option Elab.async false
set_option linter.all false
set_option maxRecDepth 100000
set_option maxHeartbeats 4000000
namespace Cm
open PySem PySem.Spec PyProof.Rows L2
/-! ### what is told is the caller's: x = [e1, e2]; if test: return False; x[0].append(e3) -/
/-- a slot, an own list read as it stands -/
def frz (st : Sto) : Option U → Option U
  | some (.d x) => some (.d x)
  | some (.l n) => match st[n]? with
    | some (some xs) => some (.d (.list xs))
    | _ => none
  | _ => none
def frzE (ev : Ev) (st : Sto) : Ev := ev.map (frz st)
theorem SR.frz {K : PySem.W.Frag} {ρ : List Addr} {F H : Hp} {st : Sto} {ev : Ev} {σ : L2.St} (hr : HR ρ F H st) (sr : SR K ρ F ev σ) : SR K [] H (frzE ev st) σ := ⟨by simp [frzE, sr.len], fun i w q => by
  unfold frzE at q
  rw [List.getElem?_map, Option.map_eq_some_iff] at q
  obtain ⟨u, h1, h2⟩ := q
  cases u with
  | none => cases h2
  | some u =>
    obtain ⟨v, h3, h4⟩ := sr.get i u h1
    refine ⟨v, h3, ?_⟩
    cases u with
    | d x =>
      cases h2
      exact Dq.mono hr.sub h4
    | s n => cases h2
    | k n => cases h2
    | l n =>
      simp only [Cm.frz] at h2
      split at h2
      · rename_i xs q2
        cases h2
        obtain ⟨a, vs, k1, k2, k3, k4⟩ := hr.cell n xs q2
        obtain ⟨b, k5, k6⟩ := h4
        rw [k1] at k5
        cases k5
        subst k6
        exact .lst k2 (k4.mono hr.sub)
      · cases h2⟩
section
variable {K : PySem.W.Frag} {H : Hp} {ev : Ev} {σ : L2.St}
theorem askD {c : SE} {z : PyData} {Q : VK} (sr : SR K [] H ev σ) (e : c ev [] = some (.d z, [])) (k : ∀ v H', Same H H' → Dq H' v z → Q v H') : tI K c σ H Q :=
  ⟨[], H, ev, [], .d z, [], hr_none H, sr, e, fun v ρ' F' H' x hr wr => k v H' (x.same.trans hr.sub) (Dq.mono hr.sub wr)⟩
theorem askB {c : SB} {b : Bool} {Q : Bool → Hp → Prop} (sr : SR K [] H ev σ) (e : c ev [] = some (b, [])) (k : ∀ H', Same H H' → Q b H') : tT K c σ H Q :=
  ⟨[], H, ev, [], b, [], hr_none H, sr, e, fun ρ' F' H' x hr => k H' (x.same.trans hr.sub)⟩
theorem SR.up {F' : Hp} (sr : SR K [] H ev σ) (s : Same H F') : SR K [] F' ev σ := sr.mono ⟨fun _ _ h => h, s⟩
end
def cGot (i : Nat) (a b : SE) (t : SB) (c : SE) : SS := fun ev st =>
  match a (frzE ev st) [] with
  | some (.l 0, [some xs]) => match b (frzE ev st) [some xs] with
    | some (.d y, [some ys]) => match t ((frzE ev st).set i (some (.d (.list [.list ys, y])))) [] with
      | some (true, []) => some (.rt (.d (.bool false)) st)
      | some (false, []) => match c ((frzE ev st).set i (some (.d (.list [.list ys, y])))) [] with
        | some (.d z, []) => if ys.length < lim ∧ i < ev.length then some (.nx (ev.set i none) st) else none
        | _ => none
      | _ => none
    | _ => none
  | _ => none
section
variable {X : Cx} {e1 e2 e3 ct : Expr} {ss : List Stmt} {ca cb cz : SE} {t : SB} {r : SS} {x : Str} {i : Nat} {p1 p2 p3 p4 p5 p6 p7 pos1 pos2 pos3 apos cpos : Pos} {j1 j2 : Nat} {id : String}
theorem ss_got (hNN : X.N.Nodup) (hN : X.N[i]? = some x) (hx : Loc X.env.scope x) (hv : Vis X.env.scope x) (hd : (x == ("__debug__" : Str)) = false) (hcd : (x == ("__classdict__" : Str)) = false)
    (ha : PE X e1 (tI X.K ca)) (hb : PE X e2 (tI X.K cb)) (ht : PT X ct (tT X.K t)) (hz : PE X e3 (tI X.K cz)) (hrest : PSs X ss (tSS X.K r))
    (pa : PlainAttrs "list") (slot : Slot "list" "append" id) (hty : typeOf (.builtin id) = pure (.type "method_descriptor")) (hm : MtR X id rAppend)
    (hs1 : Bare1 X e1 [e2] := by rfl) (hs2 : Bare1 X e2 [] := by rfl) (hs3 : Bare1 X e3 [] := by rfl)
    (hsw1 : swapsWith (.List [e1, e2] p2) (some (.Name x p1)) pos1.line X.env = pure false := by rfl) (hf : X.fn x = true ∨ X.env.scope.names.lookup x = some .local := by first | exact .inl rfl | exact .inr rfl | assumption)
    (hbase : BareBase X (.Subscript (.Name x p5) (.Constant (.int 0) j2 p6) p7) "append" := by rfl) (hfew : Few X [e3] cpos := by rfl) (hline : (apos.endLine == cpos.line) = true := by rfl) (hplain : NoStar X [] cpos := by rfl)
    (hsw : swapsWith (.Call (.Attribute (.Subscript (.Name x p5) (.Constant (.int 0) j2 p6) p7) "append" apos) [e3] [] cpos) none pos3.line X.env = pure false := by rfl) :
    PSs X (.Assign [.Name x p1] (.List [e1, e2] p2) pos1 :: .If ct [.Return (some (.Constant (.bool false) j1 p3)) p4] [] pos2 :: .Expr (.Call (.Attribute (.Subscript (.Name x p5) (.Constant (.int 0) j2 p6) p7) "append" apos) [e3] [] cpos) pos3 :: ss) (tSS X.K (cSeq (cGot i ca cb t cz) r)) :=
  (pss_cons (ps_set hNN hN hx (pe_lst (pa_cons ha (pa_cons hb pa_nil hs2) hs1)) hsw1 hf) (pss_cons (ps_if ht (pss_one (ps_ret pe_bl)) pss_nil) (pss_cons (ps_expr (pe_bm pa slot hty hm (pe_ix ix_seq (pe_var hN hv hd hcd) (se_int (i := 0)) (fun _ _ => rfl)) (pa_cons hz pa_nil hs3) hbase hfew hline hs3 hplain) hsw) hrest))).weak fun D σ H ⟨ρ, F, ev, st, o, hr, sr, e, ok⟩ => by
    simp only [cSeq, Option.bind_eq_some_iff] at e
    obtain ⟨o1, e1, e2⟩ := e
    have sf := SR.frz hr sr
    unfold cGot at e1
    split at e1
    · rename_i xs qa
      split at e1
      · rename_i y ys qb
        refine ⟨[], H, _, [], .l 0, [some xs], hr_none H, sf, qa, fun v0 ρ1 F1 H1 x1 hr1 wr1 => ?_⟩
        refine ⟨ρ1, F1, _, [some xs], .d y, [some ys], hr1, sf.mono x1, qb, fun v1 ρ2 F2 H2 x2 hr2 wr2 => ?_⟩
        refine ⟨by simp only [List.length_cons, List.length_nil]; exact lim_le (by decide), fun p hp => ?_⟩
        obtain ⟨a0, w1, w2⟩ := wr1
        subst w2
        obtain ⟨a0', vs, g1, g2, g3, g4⟩ := hr2.cell 0 ys rfl
        rw [x2.pre _ _ w1] at g1
        cases g1
        have hF : Same H F2 := x1.same.trans x2.same
        have h0 : H a0 = none := hF.free g3
        have h2 : Same H H2 := hF.trans hr2.sub
        have pa0 : a0 ≠ p := ne_of_none g2 hp
        have s3 : Same H2 (upd H2 p (.lst [.ref a0, v1])) := same_upd hp
        have dg : Dq (upd H2 p (.lst [.ref a0, v1])) (.ref p) (.list [.list ys, y]) := .lst upd_same (.cons (.lst (by rw [upd_ne pa0]; exact g2) (g4.mono (hr2.sub.trans s3))) (.cons (Dq.mono (hr2.sub.trans s3) wr2) .nil))
        have s4 := (sf.up (h2.trans s3)).set (w := .d (.list [.list ys, y])) dg i
        have grow : ∀ H', Same H H' → HR ρ F H' st := fun H' s => hr.grow ⟨Same.refl _, s, hr.sub.trans s, fun _ _ _ q => q⟩
        split at e1
        · rename_i qt
          cases e1
          cases e2
          refine askB s4 qt fun H4 s5 => iteT ?_
          exact ok (V.bl false) ρ F H4 (.refl _ _) (grow H4 ((h2.trans s3).trans s5)) (.bl false)
        · rename_i qt
          split at e1
          · rename_i z qz
            split at e1
            · rename_i cl
              cases e1
              refine askB s4 qt fun H4 s5 => iteF ?_
              have s6 := s4.up s5
              have il : i < σ.length := by rw [← sr.len]; exact cl.2
              have hp4 : H4 p = some (.lst [.ref a0, v1]) := s5 _ _ upd_same
              have ha4 : H4 a0 = some (.lst vs) := s5 _ _ (s3 _ _ g2)
              refine ⟨.ref p, by simp [il], askD (z := .int 0) s6 rfl fun v5 H5 s7 d5 => ?_⟩
              cases d5
              refine .inl ⟨p, [.ref a0, v1], 0, .ref a0, rfl, rfl, SqL.of (s7 _ _ hp4), rfl, .inl ⟨rfl, _, SqL.of (s7 _ _ ha4)⟩, ?_⟩
              refine askD (s6.up s7) qz fun v6 H6 s8 d6 => ?_
              refine ⟨a0, vs, v6, rfl, rfl, s8 _ _ (s7 _ _ ha4), ?_, ?_⟩
              · rw [g4.length]
                exact Nat.lt_of_lt_of_le cl.1 (lim_le (Nat.le_refl _))
              · have hh : Same H (upd H6 a0 (.lst (vs ++ [v6]))) := fun b o q => by
                  have nb : b ≠ a0 := fun z => by rw [z, h0] at q; cases q
                  rw [upd_ne nb]
                  exact s8 _ _ (s7 _ _ (s5 _ _ (s3 _ _ (h2 _ _ q))))
                exact ⟨ρ, F, ev.set i none, st, o, grow _ hh, sr.none i _, e2, ok⟩
            · cases e1
          · cases e1
        · cases e1
      · cases e1
    · cases e1
end
end Cm

set_option Elab.async false
set_option linter.all false
set_option maxRecDepth 100000
set_option maxHeartbeats 4000000
namespace Cm
open PySem PySem.Spec PyProof.Rows L2
/-! ### repr: what may be asked only where no repr is under way -/
/-- no object's repr is being told -/
abbrev Quiet (A : Around) : Prop := A.guards = some []
/-- a def's promise at such places -/
structure FnG (P : Program) (w : World) (K : PySem.W.Frag) (mg : Str → Option Value) (base : Heap) (k : Nat) (f : Addr) (fd : FuncData) (ps : List Str) (sp : Sp) : Prop where
  arity : ∀ {vs H Q E}, sp vs H Q E → vs.length = ps.length
  go : ∀ {A : Around} {outer : List Env} {s : Shared} {H : Hp} {args : Args} {us : List Value} {vs : List V} {Q : VK} {E : XK}, Quiet A → Room k A → sp vs H Q E → Env0 P w K mg base A outer s H → Vals vs us → BindsTo s fd args (ps.zip us) →
    codeAny (model P w) A (.call (.ref f) args) (CR CX0 outer P w H s Q E) s
section
variable {P : Program} {w : World} {K : PySem.W.Frag} {mg : Str → Option Value} {base : Heap}
theorem FnOk.quiet {k : Nat} {f : Addr} {fd : FuncData} {ps : List Str} {sp : Sp} (F : FnOk P w K mg base CX0 k f fd ps sp) : FnG P w K mg base k f fd ps sp :=
  ⟨fun q => F.len _ _ _ _ q, fun {A outer s H args us vs Q E} _ hr q e0 rv hb => F.run A outer s H args us vs Q E hr e0 hb rv q⟩
theorem FnG.mono {j k : Nat} {f : Addr} {fd : FuncData} {ps : List Str} {sp : Sp} (F : FnG P w K mg base j f fd ps sp) (h : j ≤ k) : FnG P w K mg base k f fd ps sp :=
  ⟨F.arity, fun hq hr => F.go hq (hr.mono h)⟩
/-- the promise, by the def's body -/
theorem fnG_by {x : Str} {st : Stmt} {f : Addr} {fd : FuncData} {N ps : List Str} {k : Nat} {sp : Sp} (F : FnP K x st f fd) (S : FnScope N ps (defScope st)) (ar : ∀ {vs H Q E}, sp vs H Q E → vs.length = ps.length)
    (body : ∀ (cdv : Value) (A : Around) (outer : List Env) (s : Shared) (H : Hp) (vs : List V) (Q : VK) (E : XK), Quiet A → Room k (A.deeper (envOfC x (defScope st) s.heap.objs.size f cdv)) → sp vs H Q E →
      ∃ t, PSs (cxOf CX0 P w K mg base N x (defScope st) f cdv A outer s H E) (defBody st) t ∧ t { nx := fun _ H' => Q .non H', rt := Q } (start N vs) H) : FnG P w K mg base (k + 1) f fd ps sp where
  arity := ar
  go := fun {A outer s H args us vs Q E} hq hr q e0 rv hb => by
    obtain ⟨c0, d0, dv, kv, dc, pm, an, cdv, ct, sl, rfl, at0, code0, _⟩ := F.ex
    have here : ∀ b o, base.get? b = some o → s.heap.get? b = some o := fun b o z => (e0.bs b o z).1
    have inK := e0.mod.kin.keeps here
    have free := e0.mod.nolimit.keeps here
    have pars : ∀ y ∈ ps.zip us, (defScope st).names.lookup y.1 = some .local ∨
        ((defScope st).names.lookup y.1 = some .cell ∧ ((cellsFrom (s.heap.objs.size + 1) (defScope st).names []).lookup y.1).isSome = true) := by
      intro y hy
      have hm := (List.of_mem_zip (a := y.1) (b := y.2) hy).1
      exact (S.par y.1 hm).elim .inl fun z => .inr ⟨z, PySem.W.cellsFrom_some _ _ _ (.inl z)⟩
    apply codeAny_call_function (fd := PySem.W.fnOf x x (defArgs st) (defBody st) (defScope st) dv kv dc pm an cdv ct) hr.depth (inK _ _ at0) rfl S.co S.gen rfl (PySem.W.codeRec_of inK code0)
    apply hb
    apply wpAny_newFunctionEnv_cells S.kind pars
    rintro env rfl s1 made
    obtain ⟨t, run, ends⟩ := body cdv A outer s H vs Q E hq (hr.deeper _) q
    have I1 := inv_start (CX := CX0) (P := P) (w := w) (K := K) (mg := mg) (base := base) (E := E) S hr.hd e0 (ar q) rv made
    have told := run.run [] s1 (start N vs) H _ I1 ends
    refine ⟨free.keeps made.toInCall.keep, codeAny_func (wpAny_mono told ?_ fun _ _ z => z)⟩
    intro fl s' out
    match fl, out with
    | .ret u, ⟨v, σ', H', J, rv', q'⟩ => exact ⟨v, H', J.os, J.bare, J.base, J.hok, rv', q'⟩
    | .next, ⟨σ', H', J, q'⟩ => exact ⟨V.non, H', J.os, J.bare, J.base, J.hok, rfl, q'⟩
    | .brk, ⟨_, _, _, q'⟩ => exact q'.elim
    | .cont, ⟨_, _, _, q'⟩ => exact q'.elim
theorem def_okG {x : Str} {st : Stmt} {f : Addr} {fd : FuncData} {N ps : List Str} {k : Nat} {b : SS} (F : FnP K x st f fd) (S : FnScope N ps (defScope st))
    (h : ∀ (cdv : Value) (A : Around) (outer : List Env) (s : Shared) (H : Hp) (E : XK), Quiet A → Room k (A.deeper (envOfC x (defScope st) s.heap.objs.size f cdv)) → PSs (cxOf CX0 P w K mg base N x (defScope st) f cdv A outer s H E).nox (defBody st) (tSS K b)) :
    FnG P w K mg base (k + 1) f fd ps (spF K (defS N.length b) ps.length) :=
  fnG_by F S (fun ⟨_, _, _, _, _, _, _, wr, hl, _, _⟩ => wr.length.trans hl) fun cdv A outer s H vs Q E hq hrm ⟨ρ, F, ws, st, w, st', hr, wr, hl, e, post⟩ => by
    refine ⟨tSS K b, PSs.nox (h cdv A outer s H E hq hrm), ?_⟩
    simp only [defS, Option.bind_eq_some_iff] at e
    obtain ⟨o, e1, e2⟩ := e
    refine ⟨ρ, F, _, st, o, hr, SR.start wr, e1, ?_⟩
    match o, e2 with
    | .rt w1 st1, e2 => exact fun v ρ' F' H' x hr' r => leave_ok hr.len x hr' r e2 post
    | .nx ev1 st1, e2 =>
      cases e2
      exact fun σ' ρ' F' H' x hr' _ => post .non _ F' H' (by rw [← hr.len]; exact x.take _ (Nat.le_refl _)) (hr'.take _) .non
    | .bk ev1 st1, e2 => cases e2
    | .ct ev1 st1, e2 => cases e2
end
/-- where such a def stands, and what it does -/
structure CalG (P : Program) (w : World) (K : PySem.W.Frag) (mg : Str → Option Value) (base : Heap) (k : Nat) (x : Str) (st : Stmt) (ps : List Str) (g : FS) : Prop where
  ex : ∃ (a : Addr) (fd : FuncData), FnG P w K mg base k a fd ps (spF K g ps.length) ∧ mg x = some (.ref a) ∧ FnP K x st a fd ∧ Binds K fd ps []
section
variable {P : Program} {w : World} {K : PySem.W.Frag} {mg : Str → Option Value} {base : Heap} {x : Str} {st : Stmt} {ps : List Str} {k : Nat} {g : FS}
theorem CalG.of (h : At K mg x st) (ok : ∀ a fd, FnP K x st a fd → mg x = some (.ref a) → FnG P w K mg base k a fd ps (spF K g ps.length))
    (hb : ∀ (kV doc pm : Value) (an : Option Addr) (cdv ct : Value) (us : List Value), us.length = ps.length → bindArgs (PySem.W.fnOf x x (defArgs st) (defBody st) (defScope st) .none kV doc pm an cdv ct) ⟨us, []⟩ = pure (ps.zip us)) : CalG P w K mg base k x st ps g :=
  let ⟨a, fd, F, hm⟩ := h
  ⟨a, fd, ok a fd F hm, hm, F, FunD.bindsN F hb⟩
theorem CalG.pick {a : Addr} {fd : FuncData} (c : CalG P w K mg base k x st ps g) (F : FnP K x st a fd) (hm : mg x = some (.ref a)) : FnG P w K mg base k a fd ps (spF K g ps.length) := by
  obtain ⟨a2, fd2, ok, hm2, F2, _⟩ := c.ex
  cases hm.symm.trans hm2
  obtain ⟨_, _, _, _, _, _, _, _, _, _, _, l1, _⟩ := F.ex
  obtain ⟨_, _, _, _, _, _, _, _, _, _, _, l2, _⟩ := F2.ex
  cases l1.symm.trans l2
  exact ok
end
section
variable {X : Cx} {k : Nat} {x : Str} {st : Stmt} {ps : List Str} {fs : FS} {e : Expr} {es : List Expr} {sa : SA} {p pos : Pos}
theorem ranG {pins : List (Addr × Obj)} {σ : L2.St} {H : Hp} {s : Shared} {Q : VK} {us : List Value} {vs : List V} {a : Addr} {fd : FuncData} {sp : Sp} (F : FnG X.prog X.w X.K X.mg X.base k a fd ps sp) (hq : Quiet X.A) (hr : Room k X.A) (hb : Binds X.K fd ps [])
    (I : Inv X pins σ H s) (r : Vals vs us) (h : sp vs H Q E0) : wpAny (model X.prog X.w) X.A (call (.ref a) us) (EP X pins σ Q) X.xe s := by
  have cnt : (us ++ []).length = ps.length := by rw [List.append_nil, ← r.length]; exact F.arity h
  have b := hb s us I.kIn cnt
  rw [List.append_nil] at b
  refine wpAny_call (codeAny_mono (F.go hq hr h I.env0 r b) ?_)
  intro out s' c
  match out, c with
  | .error e, c => exact pass0 _ _ _ _ _ _ I c
  | .ok (.ret u), c => exact I.after c
  | .ok .next, c => exact c.elim
  | .ok .brk, c => exact c.elim
  | .ok .cont, c => exact c.elim
theorem se_calG (c : CalG X.prog X.w X.K X.mg X.base k x st ps fs) (hq : Quiet X.A) (hr : Room k X.A) (hg : Gl X x) (ha : PA X (e :: es) (tA X.K sa))
    (hdb : NotDbg x := by decide) (he : Bare1 X e es := by rfl) (hpl : NoStar X es pos := by rfl) :
    PE X (.Call (.Name x p) (e :: es) [] pos) (tI X.K (cDef ps.length fs sa)) := by
  obtain ⟨a, fd, F, hm, G, hb⟩ := c.ex
  refine ⟨fun pins s σ H Q I h => wpAny_Call_Name_kw (ld_glob I hg hm ?_ hdb)⟩
  have args := ha.run pos pins s σ H _ I (defc_ok (E := E0) h)
  refine PySem.W.callWith_K (h₀ := X.base) I.ok.mod.kin G.kp (thn args ?_) he hpl
  rintro us s1 ⟨vs, H1, I1, r, q⟩
  rw [List.append_nil] at q
  exact ⟨I1.kIn, ranG F hq hr hb I1 r q⟩
theorem se_calG0 (c : CalG X.prog X.w X.K X.mg X.base k x st ps fs) (hq : Quiet X.A) (hr : Room k X.A) (hg : Gl X x) (hdb : NotDbg x := by decide) : PE X (.Call (.Name x p) [] [] pos) (tI X.K (cDef ps.length fs cNil)) := by
  obtain ⟨a, fd, F, hm, G, hb⟩ := c.ex
  refine ⟨fun pins s σ H Q I h => wpAny_Call_Name_kw (ld_glob I hg hm ?_ hdb)⟩
  obtain ⟨ρ, F1, ev, st1, ws, st2, hr1, sr, e, k1⟩ := defc_ok (E := E0) h
  cases e
  exact PySem.W.callWith_K0 I.kIn G.kp (ranG (us := []) F hq hr hb I .nil (k1 [] ρ F1 H (.refl _ _) hr1 .nil))
end
/-! repr itself -/
def reprOk (x : PyData) : Bool := x.showable && !x.hasDict && decide (x.depth ≤ 60) && decide (x.shown.length ≤ lim)
def fRepr : List PyData → Option PyData
  | [x] => if reprOk x then some (.str x.shown) else none
  | _ => none
def rRepr (K : PySem.W.Frag) : List V → Hp → VK → Prop := fun xs H Q => ∃ v d, xs = [v] ∧ Dp K H v d ∧ reprOk d = true ∧ Q (.str d.shown) H
theorem call_repr {X : Cx} (hq : Quiet X.A) (hu : X.A.units + 100 < cLine) : CallR X (.builtin "repr") (rRepr X.K) := by
  intro pins s σ H xs us Q I r h
  obtain ⟨v, d, rfl, dp, ok, q⟩ := h
  obtain ⟨u, rfl, rv⟩ := vals1 r
  simp only [reprOk, Bool.and_eq_true, Bool.not_eq_true', decide_eq_true_eq] at ok
  obtain ⟨⟨⟨sh, nd⟩, dep⟩, len⟩ := ok
  have fit := lim_le len
  obtain ⟨as, rd⟩ := dp.reads I d v u rv
  have seq : ∀ a, u = .ref a → wpAny (model X.prog X.w) X.A (call (.builtin "repr") [u]) (EP X pins σ Q) X.xe s := by
    rintro a rfl
    exact repr_of_reads' rd sh (PyData.noDict_hsm nd) hq (by omega) (fun _ _ z => z) (fun h' t tk keep => ⟨.str d.shown, H, I.kept keep, ⟨t, rfl⟩, q⟩) fit
  cases rd with
  | none => exact PySem.P.repr_of_none ⟨.str _, H, I.tok _, ⟨_, rfl⟩, q⟩
  | bool b => exact PySem.P.repr_of_bool ⟨.str _, H, I.tok _, ⟨_, rfl⟩, q⟩
  | int i t => exact PySem.P.repr_of_int (by simpa [PyData.showable] using sh) ⟨.str _, H, I.tok _, ⟨_, rfl⟩, q⟩
  | str x t => exact PySem.P.repr_of_str ⟨.str _, H, I.tok _, ⟨_, rfl⟩, q⟩ fit
  | list _ _ _ _ => exact seq _ rfl
  | tuple _ _ _ _ => exact seq _ rfl
  | dict _ _ _ _ _ => cases nd
theorem snd_repr {K : PySem.W.Frag} : SndN K (rRepr K) fRepr := fun F H vs xs z Q hs r e q => by
  unfold fRepr at e
  split at e
  · rename_i x
    split at e
    · rename_i ok
      cases e
      obtain ⟨v, rfl, r0⟩ := r.one
      exact ⟨v, x, rfl, r0.dp hs, ok, q.now hs (.str _)⟩
    · cases e
  · cases e
end Cm
namespace Cm
open PySem PySem.Spec PyProof.Rows L2
/-! the law's own call, nothing being told when it begins -/
abbrev Told (s1 : Shared) (r : Result) (s' : Shared) : Prop := r = .ok (.ret (.bool true)) ∧ OldK s1.heap s'.heap ∧ s'.os = s1.os ∧ AllBare s'.gens
theorem callG_at {P : Program} {w : World} {K : PySem.W.Frag} {mg mb : Str → Option Value} {k : Nat} {fa a : Addr} {fd : FuncData} {x : Str} {g : FS} {s1 : Shared} {o : Obj} {ns : List Int} {H : Hp}
    (inK : K.In s1.heap) (mods : s1.heap.Ns mainGlobals mg) (blts : s1.heap.Ns builtinsNs mb) (boot : ∀ x : Str, x ≠ "__name__" → mb x = bootBuiltins x) (free : s1.heap.NoLimit) (ng : s1.gens = #[])
    (at0 : s1.heap.get? a = some o) (nd : ∀ es ep, o.data ≠ .dict es ep) (hr : Room k callerA) (F : ∀ base : Heap, K.In base → base.Ns mainGlobals mg → FnG P w K mg base k fa fd [x] (spF K g 1))
    (bind : ∀ (s : Shared) (u : Value), BindsTo s fd ⟨[u], []⟩ [(x, u)]) (one : ∀ b u, H b = some u → b = a ∧ K.lookup a = none ∧ ∃ xs, u = .frz o (.lst xs)) (seq : SqL K H a (ns.map V.int)) (ok : HOk P w H s1.heap)
    {st : Sto} (e : g [.s ns] [] = some (.d (.bool true), st)) : codeAny (model P w) callerA (.call (.ref fa) ⟨[.ref a], []⟩) (Told s1) s1 := by
  have off : ∀ b, b ≠ a → H b = none := fun b nb => by
    cases q : H b with
    | none => rfl
    | some u => exact absurd (one b u q).1 nb
  have hid : ∀ {b : Addr} {u : Obj}, b ≠ a → s1.heap.get? b = some u → (hidT s1.heap H).get? b = some u := fun nb z => hidT_get z (off _ nb)
  have names : ∀ {b : Addr} {m : Str → Option Value}, s1.heap.Ns b m → (hidT s1.heap H).Ns b m := by
    rintro b m ⟨u, es, ep, z, d, rest⟩
    have nb : b ≠ a := fun q => by
      subst q
      rw [at0] at z
      cases z
      exact nd _ _ d
    exact ⟨u, es, ep, hid nb z, d, rest⟩
  have inB : K.In (hidT s1.heap H) := fun b u z => by
    refine hidT_get (inK b u z) ?_
    cases q : H b with
    | none => rfl
    | some v =>
      obtain ⟨rfl, no, _⟩ := one b v q
      rw [no] at z
      cases z
  have md : Mod K mg (hidT s1.heap H) := by
    obtain ⟨mc, l1, l2⟩ := free
    exact ⟨inB, names mods, ⟨mb, names blts, boot⟩, ⟨mc, names l1, l2⟩⟩
  have start0 : Env0 P w K mg (hidT s1.heap H) callerA [] s1 H :=
    { frames := rfl, mod := md, bs := fun b u z => of_hidT z, bsz := Nat.le_of_eq (hidT_size _ _), funs := trivial, frf := fun b z => (nomatch z), hok := ok, bare := .of_eq ng }
  have run := (F _ inB (names mods)).go (A := callerA) (outer := []) (s := s1) (H := H) (args := ⟨[.ref a], []⟩) (us := [.ref a]) (vs := [.ref a]) rfl hr (law_end seq e) start0 (.cons rfl .nil) (bind s1 (.ref a))
  refine codeAny_mono run ?_
  intro r s' out
  match r, out with
  | .error _, out => exact out.elim
  | .ok .next, out => exact out.elim
  | .ok .brk, out => exact out.elim
  | .ok .cont, out => exact out.elim
  | .ok (.ret u), ⟨v, H', os, bare, un, ok', rv, q⟩ =>
    have q : v = .bl true := q
    subst q
    cases (show u = Value.bool true from rv)
    refine ⟨rfl, OldK.of_keep fun b u z => ?_, os, bare⟩
    cases q : H b with
    | none => exact un.keep b u z q (fun m => by cases m) (fun m => by cases m)
    | some y =>
      obtain ⟨rfl, _, xs, rfl⟩ := one b y q
      rw [at0] at z
      cases z
      exact (ok' _ _ (un.frzs _ _ _ q)).1
theorem law_callG {P : Program} {w : World} {K : PySem.W.Frag} {mg mb : Str → Option Value} {k : Nat} {fa a : Addr} {fd : FuncData} {x : Str} {g : FS} {s1 : Shared} {vs : List Value} {ns : List Int}
    (inK : K.In s1.heap) (mods : s1.heap.Ns mainGlobals mg) (blts : s1.heap.Ns builtinsNs mb) (boot : ∀ x : Str, x ≠ "__name__" → mb x = bootBuiltins x) (free : s1.heap.NoLimit) (ng : s1.gens = #[])
    (at0 : s1.heap.get? a = some { cls := .type "list", data := .seq vs.toArray }) (ia : IntsAre vs ns) (few : ns.length ≤ sizeLine) (hr : Room k callerA) (F : ∀ base : Heap, K.In base → base.Ns mainGlobals mg → FnG P w K mg base k fa fd [x] (spF K g 1))
    (bind : ∀ (s : Shared) (u : Value), BindsTo s fd ⟨[u], []⟩ [(x, u)]) {st : Sto} (e : g [.s ns] [] = some (.d (.bool true), st)) : codeAny (model P w) callerA (.call (.ref fa) ⟨[.ref a], []⟩) (Told s1) s1 := by
  have rel := vals_ints ia
  have cnt := ia.length
  have nd : ∀ es ep, (Data.seq vs.toArray : Data) ≠ .dict es ep := fun _ _ z => by cases z
  cases hk : K.lookup a with
  | some o =>
    cases at0.symm.trans (inK a o hk)
    refine callG_at (H := fun _ => none) inK mods blts boot free ng at0 nd hr F bind (fun b u z => by cases z) (.inr ⟨_, vs.toArray, _, hk, rfl, rfl, rfl, ?_, ?_⟩) (fun b u z => by cases z) e
    · rw [List.size_toArray, cnt]
      exact few
    · simpa using rel
  | none =>
    refine callG_at (H := fun b => if b = a then some (.frz { cls := .type "list", data := .seq vs.toArray } (.lst (ns.map V.int))) else none) inK mods blts boot free ng at0 nd hr F bind (fun b u z => ?_) (.inl (.inr ⟨_, if_pos rfl⟩)) (fun b u z => ?_) e
    · try dsimp only at z
      split at z
      · rename_i q
        cases z
        exact ⟨q, hk, _, rfl⟩
      · cases z
    · try dsimp only at z
      split at z
      · rename_i q
        subst q
        cases z
        exact ⟨at0, by rw [List.length_map]; exact few, vs, _, rel, at0⟩
      · cases z
abbrev ServesG (P : Program) (YP : World → Heap → Prop) (d : DefRec) (k : Nat) (x : Str) (g : FS) : Prop :=
  ∀ (w : World) (mg : Str → Option Value) (fa : Addr) (hp : Heap), YP w hp → hp.Ns mainGlobals mg → mg d.name = some (.ref fa) →
    ∃ (K : PySem.W.Frag) (fd : FuncData), K.In hp ∧ (∀ (s : Shared) (u : Value), BindsTo s fd ⟨[u], []⟩ [(x, u)]) ∧
      ∀ base : Heap, K.In base → base.Ns mainGlobals mg → FnG P w K mg base k fa fd [x] (spF K g 1)
theorem walk_cmG {l : PySem.W.OpenLaw} {n k : Nat} {q : Program} {loose : List Str} {XP : (Str → Option Value) → Heap → Prop} {YP : World → Heap → Prop} {d : DefRec} {x : Str} {g : FS} (hn : l.most = some n) (hn2 : n ≤ sizeLine) (hdf : d.params.defaults = []) (hr : Room k callerA)
    (F : ServesG l.prog YP d k x g) (law : ∀ ns : List Int, ns.length ≤ n → (∀ z ∈ ns, Builtin.Int.intBits z ≤ 1048576) → ∃ st, g [.s ns] [] = some (.d (.bool true), st)) : Ends q loose XP YP l d := by
  refine Att.attach_callB hn hdf fun w _ _ mg _ fa _ _ _ _ _ _ ns G Y _ _ _ hmg hobj hints hlen hbits hg => ?_
  obtain ⟨K, fd, KX, hb, hF⟩ := F w mg fa _ Y G.T.g hmg
  obtain ⟨st, e⟩ := law ns hlen hbits
  exact law_callG KX G.T.g G.T.b G.T.builtins G.T.nolimit hg hobj hints (Nat.le_trans hlen hn2) hr hF hb e
end Cm
namespace Cm
open PySem PySem.Spec PyProof.Rows L2
/-! two texts -/
def fEqS : PyData → PyData → Option PyData
  | .str a, .str b => some (.bool (decide (a = b)))
  | _, _ => none
def fNeS : PyData → PyData → Option PyData
  | .str a, .str b => some (.bool (!decide (a = b)))
  | _, _ => none
theorem str_dec (a b : Str) : decide (V.str a = V.str b) = decide (a = b) := decide_eq_decide.mpr ⟨fun h => by injection h, fun h => by rw [h]⟩
theorem snd_eqS {K : PySem.W.Frag} : Snd2 K rEq fEqS := fun F H v u x y z Q hs rx ry e q => by
  unfold fEqS at e
  split at e
  · rename_i a b
    cases e
    cases rx.str
    cases ry.str
    exact ⟨rfl, by rw [str_dec]; exact q.now hs (.bl _)⟩
  · cases e
theorem snd_neS {K : PySem.W.Frag} : Snd2 K rNe fNeS := fun F H v u x y z Q hs rx ry e q => by
  unfold fNeS at e
  split at e
  · rename_i a b
    cases e
    cases rx.str
    cases ry.str
    exact ⟨rfl, by rw [str_dec]; exact q.now hs (.bl _)⟩
  · cases e
end Cm
namespace Cm
open PySem PySem.Spec PyProof.Rows L2
/-! a truth taken from a whole number -/
def b01 (b : Bool) : Int := if b = true then 1 else 0
def fSubA : PyData → PyData → Option PyData
  | .int a, .int b => some (.int (a - b))
  | .int a, .bool b => some (.int (a - b01 b))
  | _, _ => none
def rSubIB : R2 := fun x y H Q => ∃ i k, x = .int i ∧ y = .bl k ∧ Q (.int (i - b01 k)) H
theorem op_subIB {X : Cx} : OpR X (binaryOp .Sub) rSubIB := by
  rintro pins s σ H x y v u Q I rx ry ⟨i, k, rfl, rfl, q⟩
  obtain ⟨t, rfl⟩ := rx
  cases ry
  exact PySem.IntBool.sub_int_bool ⟨.int (i - b01 k), H, I.tok _, ⟨_, rfl⟩, q⟩
abbrev rSubA : R2 := fun x y H Q => rI0 (fun i j => .int (i - j)) x y H Q ∨ rSubIB x y H Q
theorem op_subA {X : Cx} : OpR X (binaryOp .Sub) rSubA := op_sub.or op_subIB
theorem snd_subA {K : PySem.W.Frag} : Snd2 K rSubA fSubA := fun F H v u x y z Q hs rx ry e q => by
  unfold fSubA at e
  split at e
  · cases e
    cases rx.int
    cases ry.int
    exact .inl ⟨_, _, rfl, rfl, q.now hs (.int _)⟩
  · cases e
    cases rx.int
    cases ry.bl
    exact .inr ⟨_, _, rfl, rfl, q.now hs (.int _)⟩
  · cases e
end Cm
namespace L2
open PySem PySem.Spec
theorem Room.rep {k : Nat} {A : Around} (r : Room k A) : A.units + 100 < cLine := by
  have := r.un
  omega
end L2

set_option Elab.async false
set_option linter.all false
set_option maxRecDepth 100000
namespace Cm
open PySem PySem.Spec PyProof.Rows L2

/-! ### walking ranges whose numbers or whose step may be great -/
/-- the turns of an iterator over great numbers -/
theorem turnL {P : Program} {w : World} {K : PySem.W.Frag} {target : Expr} (own : Addr) (first step : Int) (many : Nat) :
    Turn P w K target (Itc first step many) [own] own (fun turn heap => IsLongIter heap own (first + (turn : Nat) * step) ((many : Int) - (turn : Nat)) step) := by
  have here : own ∈ [own] := List.mem_singleton.mpr rfl
  refine ⟨here, ?_, fun turn heap heap2 lies stays => stays own here _ lies, ?_, ?_, fun A turn s Q E lies h => wpAny_pyIter_longiter lies h⟩
  · rintro turn heap lies b hb
    rw [List.mem_singleton.mp hb]
    exact ⟨_, lies, fun v z => nomatch z⟩
  · rintro X rfl rfl rfl calm turn pins s σ H E inv foot lies goes
    have ft := foot own here
    have all := Walks.longrange (prog := X.prog) (w := X.w) (inv.ok.hd calm) own first step many
    refine all.item turn s _ _ goes lies ?_
    rintro _ heap2 toks2 ⟨tok, rfl⟩ lies2 kept
    have inv2 : Inv X pins σ H { s with heap := heap2, toks := toks2 } :=
      inv.turned (fun b o other e => kept b o (by simpa using other) e) ft.1 ft.2.1 ft.2.2.2.1 ft.2.2.2.2.1 ft.2.2.2.2.2
    refine ⟨_, rfl, ?_⟩
    refine go_of (s := { s with heap := heap2, toks := toks2 }) (n := "longrange_iterator") lies2 rfl rfl (by decide) ?_
    exact ⟨.int (first + (turn : Nat) * step), H, inv2, ⟨tok, rfl⟩, ⟨rfl, rfl⟩, lies2, fun b hb => (foot b hb).1⟩
  · rintro X rfl rfl rfl calm turn pins s σ H E inv foot lies stops
    have ft := foot own here
    have over : many ≤ turn := stops
    refine wpAny_pyNext_long_end (inv.ok.hd calm) lies (by omega) fun heap2 rest => ⟨rfl, ?_⟩
    exact inv.turned (t' := s.toks) (fun b o other e => rest b o other e) ft.1 ft.2.1 ft.2.2.2.1 ft.2.2.2.2.1 ft.2.2.2.2.2
/-- range(i, j, c) of n items, however great -/
def RgG (i j c : Int) (n : Nat) : Prop := c ≠ 0 ∧ c.natAbs.log2 < 9000 ∧ Builtin.Range.rangeSize i j c = n
def tRngG (ta : TA) : TI := fun σ H R => ta σ H fun vs H1 => ∃ (i j c : Int) (n : Nat), vs = [.int i, .int j, .int c] ∧ RgG i j c n ∧ R (Itc i c n) H1
section
variable {X : Cx} {tg e1 e2 e3 : Expr} {p pos : Pos} {sa : SA} {ta : TA}
theorem pi_rangeG (hg : Gl X "range") (hm : X.mg "range" = none) (ha : PA X [e1, e2, e3] ta)
    (hs : starEach [e1, e2, e3] X.env = (false, eval e1 X.env) :: starEach [e2, e3] X.env := by rfl) (hpl : (backTo pos (starEach [e2, e3] X.env)).any (·.1) = false := by rfl) :
    PI X tg (.Call (.Name "range" p) [e1, e2, e3] [] pos) (tRngG ta) := by
  constructor
  intro pins s σ H R inv given
  have args := ha.run pos pins s σ H _ inv given
  refine Call_ (ld_blt inv hg hm boot_range (PyProof.Rows.callWith_type1 (thn args ?_) hs hpl))
  rintro us s1 ⟨_, H1, inv1, rel, i, j, c, n, rfl, ⟨nz, lg, size⟩, goal⟩
  cases rel with
  | cons r1 rel =>
    cases rel with
    | cons r2 rel =>
      cases rel with
      | cons r3 rel =>
        cases rel
        obtain ⟨tk1, rfl⟩ := r1
        obtain ⟨tk2, rfl⟩ := r2
        obtain ⟨tk3, rfl⟩ := r3
        refine call_range_3 nz ?_ (.inl (PyProof.noPylong_of_log2 lg))
        have inv2 : Inv X pins σ H1 { s1 with heap := s1.heap.push { cls := .type "range", data := .fields #[.int i tk1, .int j tk2, .int c tk3] } } :=
          inv1.kept (t' := s1.toks) fun b o e => Heap.get?_push_of_some _ e
        have z1 : i + ((0 : Nat) : Int) * c = i := by simp
        have z2 : (n : Int) - ((0 : Nat) : Int) = Builtin.Range.rangeSize i j c := by rw [size]; simp
        cases sm : Builtin.Range.small i j c with
        | true =>
          refine wpAny_pyIter_range (IsRange.new ..) sm ?_
          refine pi_one (tk := s1.toks) inv2 _ (turn_rangeC _ i c n) ?_ goal
          show IsRangeIter _ _ (i + ((0 : Nat) : Int) * c) ((n : Int) - ((0 : Nat) : Int)) c
          rw [z1, z2]
          exact Heap.get?_push_size _ rfl
        | false =>
          refine wpAny_pyIter_longrange (IsRange.new ..) sm ?_
          refine pi_one (tk := s1.toks) inv2 _ (turnL _ i c n) ?_ goal
          show IsLongIter _ _ (i + ((0 : Nat) : Int) * c) ((n : Int) - ((0 : Nat) : Int)) c
          rw [z1, z2]
          exact Heap.get?_push_size _ rfl
/-! ### max of three ints -/
def fMax3 : List PyData → Option PyData
  | [.int i, .int j, .int l] => some (.int (if (if i < j then j else i) < l then l else (if i < j then j else i)))
  | _ => none
@[simp] theorem fMax3_i (i j l : Int) : fMax3 [.int i, .int j, .int l] = some (.int (if (if i < j then j else i) < l then l else (if i < j then j else i))) := rfl
theorem pick_int (c : Bool) (i j : Int) : (if c = true then V.int j else V.int i) = V.int (if c = true then j else i) := by cases c <;> rfl
theorem max3_of (i j l : Int) : nuMax3 (.int i) (.int j) (.int l) = some (.int (if (if i < j then j else i) < l then l else (if i < j then j else i))) := by
  have two : ∀ a b : Int, nuMax2 (.int a) (.int b) = some (.int (if a < b then b else a)) := fun a b => by
    show some (if decide (a < b) = true then V.int b else V.int a) = _
    rw [pick_int]
    simp only [decide_eq_true_eq]
  unfold nuMax3
  rw [two, Option.bind_some, two]
theorem snd_max3 {K : PySem.W.Frag} : SndN K (rNuC3 nuMax3) fMax3 := fun F H vs xs z Q hs r e q => by
  unfold fMax3 at e
  split at e
  · cases e
    cases r with
    | cons r1 t =>
      obtain ⟨v2, v3, rfl, r2, r3⟩ := RdA.two t
      cases r1.int
      cases r2.int
      cases r3.int
      exact ⟨_, _, _, _, rfl, max3_of _ _ _, q.now hs (.int _)⟩
  · cases e
def iRangeG (a : SA) : SI := fun ev st => (a ev st).bind fun p => match p.1 with
  | [.d (.int i), .d (.int j), .d (.int c)] => if c ≠ 0 ∧ c.natAbs.log2 < 9000 ∧ 0 ≤ Builtin.Range.rangeSize i j c then some (.fix (rangeC i c (Builtin.Range.rangeSize i j c).toNat), p.2) else none
  | _ => none
theorem i_rangeG (hg : Gl X "range") (hm : X.mg "range" = none) (ha : PA X [e1, e2, e3] (tA X.K sa)) (hs : starEach [e1, e2, e3] X.env = (false, eval e1 X.env) :: starEach [e2, e3] X.env := by rfl)
    (hpl : (backTo pos (starEach [e2, e3] X.env)).any (·.1) = false := by rfl) : PI X tg (.Call (.Name "range" p) [e1, e2, e3] [] pos) (tIt X.K (iRangeG sa)) :=
  L2.PI.weak (pi_rangeG hg hm ha hs hpl) fun σ H R ⟨ρ, F, ev, st, src, st', hr, sr, e, post⟩ => by
    simp only [iRangeG, Option.bind_eq_some_iff] at e
    obtain ⟨⟨ws, st1⟩, q1, q2⟩ := e
    refine ⟨ρ, F, ev, st, ws, st1, hr, sr, q1, fun vs ρ' F' H' x hr' wr => ?_⟩
    split at q2
    · rename_i i j c q
      cases q
      by_cases hb : c ≠ 0 ∧ c.natAbs.log2 < 9000 ∧ 0 ≤ Builtin.Range.rangeSize i j c
      · rw [if_pos hb] at q2
        cases q2
        cases wr with
        | cons w1 t =>
          cases w1
          cases t with
          | cons w2 t =>
            cases w2
            cases t with
            | cons w3 t =>
              cases w3
              cases t
              exact ⟨i, j, c, _, rfl, ⟨hb.1, hb.2.1, by have := hb.2.2; omega⟩, post _ ρ' F' H' x hr' yld_rangeC⟩
      · rw [if_neg hb] at q2
        cases q2
    · cases q2
end
end Cm

set_option Elab.async false
set_option linter.all false
set_option maxRecDepth 100000
namespace Cm
open PySem PySem.Spec PyProof.Rows L2

/-! ### sorted(x), to be changed -/
section
variable {K : PySem.W.Frag} {F H : Hp} {vs : List V} {xs ys : List PyData} {Q : VK}
/-- what sorted asks, where a new list may be taken on as one's own -/
theorem sort_src (hs : Same F H) (r : RdA K F H vs xs) (e : fSorted xs = some (.list ys)) (q : ∀ us p, DqA F us ys → H p = none → Q (.ref p) (upd H p (.lst us))) : rSortedA K vs H Q := by
  unfold fSorted at e
  split at e
  · split at e
    · rename_i ns e1
      cases e
      obtain ⟨v, rfl, r0⟩ := r.one
      obtain ⟨a, us, rfl, h, d⟩ := r0.list hs
      rw [asInts_eq e1] at d
      rw [d.of_ints] at h
      refine .inl ⟨a, ns, rfl, h, fun ns' p k1 k2 np => ?_⟩
      rw [← sortI_uniq k1 k2] at q
      exact q _ p DqA.ints np
    · obtain ⟨ps, e1, e2⟩ := Option.map_eq_some_iff.mp e
      cases e2
      obtain ⟨v, rfl, r0⟩ := r.one
      obtain ⟨a, us, rfl, h, d⟩ := r0.list hs
      rw [asPairs_eq e1] at d
      obtain ⟨h1, h2⟩ := pairs_at hs d
      refine .inr (.inl ⟨a, us, pairAt H, rfl, h, fun x hx => ?_, fun zs p k1 k2 np => ?_⟩)
      · obtain ⟨t, e2, e3, _⟩ := h2 x hx
        exact ⟨t, e2, e3⟩
      · have pm : zs.Perm us := k2.perm
        have ey : zs.map (pairAt H) = sortP ps := by
          refine sortP_uniq ?_ ?_
          · rw [← h1]
            exact pm.map _
          · rw [List.pairwise_map]
            exact k1.imp fun {a b} (z : ltP (pairAt H) b a = false) => by
              show (!SrtO.lexB (pairAt H b) (pairAt H a)) = true
              rw [show SrtO.lexB (pairAt H b) (pairAt H a) = false from z]
              rfl
        have dy : DqA F zs (zs.map fun y => pairD (pairAt H y)) := dqa_of _ fun x hx => by
          obtain ⟨t, _, _, e4⟩ := h2 x (pm.mem_iff.mp hx)
          exact e4
        have e5 : (zs.map fun y => pairD (pairAt H y)) = (sortP ps).map pairD := by
          rw [← ey, List.map_map]
          rfl
        rw [e5] at dy
        exact q _ p dy np
  · obtain ⟨ns, e1, e2⟩ := Option.map_eq_some_iff.mp e
    cases e2
    obtain ⟨v, rfl, r0⟩ := r.one
    obtain ⟨a, us, rfl, h, _, d⟩ := r0.tup hs
    rw [asInts_eq e1] at d
    rw [d.of_ints] at h
    refine .inr (.inr ⟨a, ns, rfl, SqT.of h, fun z p k np => ?_⟩)
    rw [← sortI_uniq k.1 k.2] at q
    exact q _ p DqA.ints np
  · cases e
end
def cSortM (a : SA) : SE := fun ev st => (a ev st).bind fun p => (rdAll p.2 p.1).bind fun xs => match fSorted xs with
  | some (.list ys) => some (.l p.2.length, p.2 ++ [some ys])
  | _ => none
theorem se_sortM {X : Cx} {e : Expr} {es : List Expr} {sa : SA} {p pos : Pos} (hg : Gl X "sorted") (hm : X.mg "sorted" = none) (ha : PA X (e :: es) (tA X.K sa))
    (he : starEach (e :: es) X.env = (false, eval e X.env) :: starEach es X.env := by rfl) (hpl : (backTo pos (starEach es X.env)).any (·.1) = false := by rfl) : PE X (.Call (.Name "sorted" p) (e :: es) [] pos) (tI X.K (cSortM sa)) :=
  (pe_callB call_sortedA hg hm PyProof.Rows.boot_sorted ha (by decide) (by decide) he hpl).weak fun σ H Q ⟨ρ, F, ev, st, w, st', hr, sr, e, post⟩ => by
    simp only [cSortM, Option.bind_eq_some_iff] at e
    obtain ⟨⟨ws, st1⟩, e1, xs, e2, e3⟩ := e
    refine ⟨ρ, F, ev, st, ws, st1, hr, sr, e1, fun vs ρ' F' H' x h r => ?_⟩
    have rr := rdAll_ok (K := X.K) h r e2
    split at e3
    · rename_i ys e4
      cases e3
      exact sort_src h.sub rr e4 fun us p d np => post _ _ _ _ (x.trans (.push p)) (h.push np d) (.pushed h)
    · cases e3
end Cm

set_option Elab.async false
set_option linter.all false
set_option maxRecDepth 100000
namespace Cm
open PySem PySem.Spec PyProof.Rows L2
open Sem (wp)
/-! ### a list out of a range of great numbers -/
section
variable {prog : Program} {w : World} {A : Around} {E : Value → Shared → Prop} {s : Shared} {R : Result → Shared → Prop} {rng : Addr} {a b c : Int} {t u v : Tok} {n : Nat}
/-- what such a list holds -/
abbrev Steps (a c : Int) (acc : Array Value) (n : Nat) : Prop := ItemsOf (fun i x => ∃ tk, x = Value.int (a + i * c) tk) acc n
/-- an iterator just laid -/
abbrev longIt (a b c : Int) : Obj := { cls := .type "longrange_iterator", data := .fields #[rawInt a, rawInt (Builtin.Range.rangeSize a b c), rawInt c] }
theorem grow_long (calm : A.handled = none) (isr : IsRange s.heap rng a b c t u v) (great : Builtin.Range.small a b c = false) (size : Builtin.Range.rangeSize a b c = n) (few : n ≤ 2 ^ 24) (own : Addr) (back : Value) (cap : Nat)
    (lies : s.heap.get? own = some { cls := .type "list", data := .seq #[] cap })
    (after : ∀ (heap2 : Heap) (tk : Nat) (acc : Array Value) (cap2 : Nat), (∀ o ob, o ≠ own → s.heap.get? o = some ob → heap2.get? o = some ob) → heap2.get? own = some { cls := .type "list", dict := none, data := .seq acc cap2, slots := #[] } → Steps a c acc n → R (.ok (.ret back)) { s with heap := heap2, toks := tk }) :
    wpAny (model prog w) A.in1 (Builtin.List.listExtendWith (.ref own) (.ref rng) back)
      (fun out z => match out with
        | .done f => R (.ok f) z
        | .again d => d.quiet = true ∧ codeAny (model prog w) A d R z) (fun x z => R (.error x) z) s := by
  have other : own ≠ rng := fun e => by
    rw [e, isr] at lies
    simp at lies
  have fresh : own ≠ s.heap.objs.size := Nat.ne_of_lt (Heap.lt_size lies)
  have apart : own ∉ [s.heap.objs.size] := by simpa using fresh
  have walk := (Walks.longrange (prog := prog) (w := w) (A := A.in1) calm s.heap.objs.size a c n).toS
  have runs : ∀ (h2 : Heap) (cap1 tk : Nat), IsLongIter h2 s.heap.objs.size (a + ((0 : Nat) : Int) * c) ((n : Int) - ((0 : Nat) : Int)) c → (∀ o ob, o ≠ own → s.heap.get? o = some ob → h2.get? o = some ob) →
      h2.get? own = some { cls := .type "list", data := .seq #[] cap1 } → codeAny (model prog w) A (.builtin "list.extend.loop" ⟨[.ref own, .ref s.heap.objs.size, back], []⟩) R { s with heap := h2, toks := tk } := by
    intro h2 cap1 tk it0 keeps lies1
    have room : n ≤ sizeLine := by
      rw [sizeLine_eq]
      omega
    refine codeAny_extend_loopS walk room own apart back n 0 _ #[] cap1 rfl (Nat.zero_le _) it0 lies1 (ItemsOf.nil _) ?_
    intro z acc cap2 moved lies2 holds
    have same := Moved.eq_with moved
    rw [same]
    refine after z.heap z.toks acc cap2 ?_ lies2 holds
    intro o ob no e
    refine moved.heap o ob (fun inn => ?_) (keeps o ob no e)
    rcases List.mem_cons.mp inn with e1 | e1
    · exact no e1
    · have := Heap.lt_size e
      rw [List.mem_singleton.mp e1] at this
      exact Nat.lt_irrefl _ this
  unfold Builtin.List.listExtendWith
  refine wpAny_bind (wpAny_typeOf (T := "range") ⟨_, isr, rfl⟩ ?_)
  have no1 : Builtin.List.listSameRef (.ref own) (.ref rng) = false := by
    simp [Builtin.List.listSameRef, other]
  have no2 : (Value.type "range" == Value.type "list") = false ∧ (Value.type "range" == Value.type "tuple") = false := by decide
  simp only [no1, no2.1, no2.2, Bool.or_false, Bool.false_eq_true, if_false]
  refine wpAny_bind (wpAny_pyIter_longrange isr great ?_)
  have isr1 := Heap.get?_push_of_some (longIt a b c) isr
  refine wpAny_bind (wpAny_holding (wpAny_hint_range (n := n) isr1 size few ?_))
  have it1 : IsLongIter (s.heap.push (longIt a b c)) s.heap.objs.size (a + ((0 : Nat) : Int) * c) ((n : Int) - ((0 : Nat) : Int)) c := by
    have z1 : a + ((0 : Nat) : Int) * c = a := by simp
    have z2 : (n : Int) - ((0 : Nat) : Int) = Builtin.Range.rangeSize a b c := by rw [size]; simp
    rw [z1, z2]
    exact Heap.get?_push_size _ rfl
  have lies1 := Heap.get?_push_of_some (longIt a b c) lies
  have keep1 : ∀ o ob, o ≠ own → s.heap.get? o = some ob → (s.heap.push (longIt a b c)).get? o = some ob := fun o ob _ e => Heap.get?_push_of_some _ e
  refine wpAny_ite_split (fun _ => ?_) (fun _ => wpAny_pure ⟨plainId_quiet F.plain_extend_loop _, runs _ cap _ it1 keep1 lies1⟩)
  refine wpAny_bind (wpAny_rule ?_)
  refine wpAny_bind ?_
  show wpAny _ _ (updateSeq own (·.push .none) >>= fun _ => updateSeq own (·.pop)) _ _ _
  refine wpAny_bind (wpAny_updateSeq lies1 rfl ?_)
  have lies2 := Heap.get?_update_self (Obj.mapSeq (·.push Value.none)) lies1 rfl
  refine wpAny_updateSeq (hz := by seq_fits) lies2 rfl ?_
  have lies3 := Heap.get?_update_self (Obj.mapSeq (·.pop)) lies2 rfl
  refine wpAny_pure ⟨plainId_quiet F.plain_extend_loop _, runs _ _ _ ?_ (fun o ob no e => ?_) lies3⟩
  · have u1 := Heap.get?_update_other (h := s.heap.push (longIt a b c)) (Obj.mapSeq (·.push Value.none)) (by exact fresh) |>.trans it1
    exact (Heap.get?_update_other _ _ fresh).trans u1
  · have u1 := (Heap.get?_update_other _ (Obj.mapSeq (·.push Value.none)) (Ne.symm no)).trans (keep1 o ob no e)
    exact (Heap.get?_update_other _ _ (Ne.symm no)).trans u1
theorem init_long (calm : A.handled = none) (isr : IsRange s.heap rng a b c t u v) (great : Builtin.Range.small a b c = false) (size : Builtin.Range.rangeSize a b c = n) (few : n ≤ 2 ^ 24) (own : Addr) (lies : s.heap.get? own = some { cls := .type "list", data := .seq #[] })
    (after : ∀ (heap2 : Heap) (tk : Nat) (acc : Array Value) (cap2 : Nat), (∀ o ob, o ≠ own → s.heap.get? o = some ob → heap2.get? o = some ob) → heap2.get? own = some { cls := .type "list", dict := none, data := .seq acc cap2, slots := #[] } → Steps a c acc n → R (.ok (.ret .none)) { s with heap := heap2, toks := tk }) :
    wpAny (model prog w) A.in1 (Builtin.«list.__init__» ⟨[.ref own, .ref rng], []⟩)
      (fun out z => match out with
        | .done f => R (.ok f) z
        | .again d => d.quiet = true ∧ codeAny (model prog w) A d R z) (fun x z => R (.error x) z) s := by
  have other : rng ≠ own := fun e => by
    rw [← e, isr] at lies
    simp at lies
  show wpAny _ _ (do let old ← Builtin.List.listItems (.ref own); Builtin.List.listUpdate (.ref own) (fun _ => #[]); letGo old.toList.reverse; Builtin.List.listExtendWith (.ref own) (.ref rng) .none) _ _ s
  refine wpAny_bind ?_
  unfold Builtin.List.listItems
  refine wpAny_bind (wpAny_seqItems lies rfl (wpAny_pure ?_))
  show wpAny _ _ (updateSeq own (fun _ => #[]) >>= fun _ => letGo (#[] : Array Value).toList.reverse >>= fun _ => Builtin.List.listExtendWith (.ref own) (.ref rng) .none) _ _ s
  refine wpAny_bind (wpAny_updateSeq lies rfl ?_)
  have lies2 := Heap.get?_update_self (Obj.mapSeq (fun _ => (#[] : Array Value))) lies rfl
  have keep2 : ∀ o ob, o ≠ own → s.heap.get? o = some ob → (s.heap.update own (Obj.mapSeq (fun _ => (#[] : Array Value)))).get? o = some ob := fun o ob no e => (Heap.get?_update_other _ _ (Ne.symm no)).trans e
  refine wpAny_bind (wpAny_letGo ?_)
  exact grow_long calm (keep2 rng _ other isr) great size few own .none _ lies2 fun heap2 tk acc cap2 keep l2 h2 => after heap2 tk acc cap2 (fun o ob no e => keep o ob no (keep2 o ob no e)) l2 h2
/-- list(r) -/
theorem list_long {Q : Value → Shared → Prop} (calm : A.handled = none) (isr : IsRange s.heap rng a b c t u v) (great : Builtin.Range.small a b c = false) (size : Builtin.Range.rangeSize a b c = n) (few : n ≤ 2 ^ 24)
    (after : ∀ (heap2 : Heap) (tk : Nat) (acc : Array Value) (cap2 : Nat), (∀ o ob, s.heap.get? o = some ob → heap2.get? o = some ob) → heap2.get? s.heap.objs.size = some { cls := .type "list", dict := none, data := .seq acc cap2, slots := #[] } → Steps a c acc n →
      Q (.ref s.heap.objs.size) { s with heap := heap2, toks := tk }) : wpAny (model prog w) A (call (.type "list") [.ref rng]) Q E s := by
  let bare : Obj := { cls := .type "list", data := .seq #[] }
  refine callType_codes (Q₁ := fun x z => x = .ref s.heap.objs.size ∧ z = { s with heap := s.heap.push bare }) F.called_list (F.typeCall_list_1 _) F.entry_list_init (code_list_new _ ⟨rfl, rfl⟩) ?_
  rintro _ _ ⟨rfl, rfl⟩
  have lies : (s.heap.push bare).get? s.heap.objs.size = some bare := Heap.get?_push_size _ rfl
  refine ⟨⟨_, lies, rfl⟩, F.args_list_init_2 _ _, ?_⟩
  refine init_long (A := A.in1) calm (Heap.get?_push_of_some _ isr) great size few _ lies ?_
  intro heap2 tk acc cap2 keep l2 h2
  exact ⟨rfl, after heap2 tk acc cap2 (fun o ob e => keep o ob (Nat.ne_of_lt (Heap.lt_size e)) (Heap.get?_push_of_some _ e)) l2 h2⟩
end
/-! ### list(range(..)), however great -/
def tLstG (te : L2.St → Hp → (Int → Int → Hp → Prop) → Prop) : TE := fun σ H Q => te σ H fun lo hi H1 => (hi - lo).toNat ≤ 2 ^ 24 ∧ ∀ q, H1 q = none → Q (.ref q) (upd H1 q (.lst (rgV lo hi)))
section
variable {X : Cx} {e e2 : Expr} {te : L2.St → Hp → (Int → Int → Hp → Prop) → Prop} {c c2 : SE} {p p2 p0 pos : Pos}
theorem pe_listG (calm : X.calm = true) (hg : Gl X "list") (hm : X.mg "list" = none) (he : PRg X e te) (na : starEach [e] X.env = (false, eval e X.env) :: starEach [] X.env := by rfl) : PE X (.Call (.Name "list" p) [e] [] pos) (tLstG te) := by
  constructor
  intro pins s σ H Q inv given
  have arg := he pins s σ H _ inv given
  refine Call_ (ld_blt inv hg hm boot_list (PyProof.Rows.callWith_type1 (args_cons (thn arg ?_) na) na))
  rintro _ s1 ⟨rng, lo, hi, tk1, tk2, tk3, H1, rfl, isr, inv1, few, goal⟩
  refine args_nil ?_
  have size := rangeSize_nat lo hi
  have laid : ∀ (heap2 : Heap) (tk : Nat) (acc : Array Value) (cap2 : Nat), (∀ o ob, s1.heap.get? o = some ob → heap2.get? o = some ob) → heap2.get? s1.heap.objs.size = some { cls := .type "list", dict := none, data := .seq acc cap2, slots := #[] } → Steps lo 1 acc (hi - lo).toNat →
      EP X pins σ Q (.ref s1.heap.objs.size) { s1 with heap := heap2, toks := tk } := by
    intro heap2 tk acc cap2 keep l2 h2
    refine ⟨.ref s1.heap.objs.size, upd H1 s1.heap.objs.size (.lst (rgV lo hi)), ?_, rfl, goal _ (inv1.hok.fresh (Nat.le_refl _))⟩
    refine inv1.laid keep (Nat.le_refl _) ?_
    refine ⟨?_, acc.toList, cap2, vals_rg h2, ?_⟩
    · rw [rgV_length, sizeLine_eq]
      omega
    · rw [Array.toArray_toList]
      exact l2
  cases sm : Builtin.Range.small lo hi 1 with
  | true => exact call_list_range (n := (hi - lo).toNat) (inv1.ok.hd calm) isr sm size few laid
  | false => exact list_long (n := (hi - lo).toNat) (inv1.ok.hd calm) isr sm size few laid
def rg2G (k : List PyData → PyData) : PyData → PyData → Option PyData
  | .int lo, .int hi => if (hi - lo).toNat ≤ lim then some (k (rangeD lo (hi - lo).toNat)) else none
  | _, _ => none
@[simp] theorem rg2G_i (k : List PyData → PyData) (lo hi : Int) : rg2G k (.int lo) (.int hi) = if (hi - lo).toNat ≤ lim then some (k (rangeD lo (hi - lo).toNat)) else none := rfl
theorem rg2G_ask {k : List PyData → PyData} {σ : L2.St} {H : Hp} {Q : VK} {T : Int → Int → Hp → Prop} (h : tI X.K (cD2 (rg2G k) c c2) σ H Q)
    (fin : ∀ lo hi F H1, Same F H1 → (hi - lo).toNat ≤ 2 ^ 24 → Rep F H1 (k (rangeD lo (hi - lo).toNat)) Q → T lo hi H1) : tRg2 (tI X.K c) (tI X.K c2) σ H T := by
  obtain ⟨ρ, F, ev, st, w, st', hr, sr, eq, post⟩ := h
  simp only [cD2, Option.bind_eq_some_iff, Option.map_eq_some_iff] at eq
  obtain ⟨⟨u, st1⟩, eu, ⟨u2, st2⟩, eu2, x, ex, y, ey, z, ez, last⟩ := eq
  cases last
  refine ⟨ρ, F, ev, st, u, st1, hr, sr, eu, fun v ρ1 F1 H1 x1 hr1 wr => ⟨ρ1, F1, ev, st1, u2, st2, hr1, sr.mono x1, eu2, fun v2 ρ2 F2 H2 x2 hr2 wr2 => ?_⟩⟩
  have r1 := rd_ok (K := X.K) hr2 (wr.mono x2) ex
  have r2 := rd_ok (K := X.K) hr2 wr2 ey
  unfold rg2G at ez
  split at ez
  · split at ez
    · rename_i ok
      cases ez
      cases r1.int
      cases r2.int
      exact ⟨_, _, rfl, rfl, fin _ _ F2 H2 hr2.sub (Nat.le_trans ok (by decide)) (post.grow (x1.trans x2) hr2)⟩
    · cases ez
  · cases ez
theorem se_listRg2G (hc : X.calm = true) (hg : Gl X "list") (hm : X.mg "list" = none) (hg2 : Gl X "range") (hm2 : X.mg "range" = none) (ha : PE X e (tI X.K c)) (hb : PE X e2 (tI X.K c2)) (n1 : Bare1 X e [e2] := by rfl) (n2 : Bare1 X e2 [] := by rfl) (n3 : NoStar X [e2] p0 := by rfl)
    (n4 : Bare1 X (.Call (.Name "range" p) [e, e2] [] p0) [] := by rfl) : PE X (.Call (.Name "list" p2) [.Call (.Name "range" p) [e, e2] [] p0] [] pos) (tI X.K (cD2 (rg2G .list) c c2)) :=
  (pe_listG hc hg hm (prg_2 hg2 hm2 ha hb n1 n2 n3) n4).weak fun σ H Q h => rg2G_ask h fun lo hi F H1 hs ok rp => ⟨ok, fun p np => rp.lst hs (dqa_rg lo hi) p np⟩
end
end Cm

set_option Elab.async false
set_option linter.all false
set_option maxRecDepth 100000
namespace Cm
open PySem PySem.Spec PyProof.Rows L2
/-! ### tuple(range(i, j, c)), however great -/
section
variable {prog : Program} {w : World} {A : Around} {E : Value → Shared → Prop} {s : Shared} {rng : Addr} {a b c : Int} {t u v : Tok} {n : Nat}
theorem gather_long {Q : List Value → Shared → Prop} (calm : A.handled = none) (isr : IsRange s.heap rng a b c t u v) (great : Builtin.Range.small a b c = false) (size : Builtin.Range.rangeSize a b c = n) (few : n ≤ 2 ^ 24)
    (after : ∀ (heap2 : Heap) (tk : Nat) (acc : Array Value), (∀ o ob, s.heap.get? o = some ob → heap2.get? o = some ob) → Steps a c acc n → Q acc.toList { s with heap := heap2, toks := tk }) : wpAny (model prog w) A (collect (.ref rng)) Q E s := by
  let bare : Obj := { cls := .type "list", data := .seq ([] : List Value).toArray }
  let here : Addr := s.heap.objs.size
  let Good : Result → Shared → Prop := fun res z => res = .ok (.ret (.ref here)) ∧ ∃ (heap2 : Heap) (tk : Nat) (acc : Array Value) (cap2 : Nat), z = { s with heap := heap2, toks := tk } ∧ (∀ o ob, s.heap.get? o = some ob → heap2.get? o = some ob) ∧
    heap2.get? here = some { cls := .type "list", dict := none, data := .seq acc cap2, slots := #[] } ∧ Steps a c acc n
  have laid : (s.heap.push bare).get? here = some { cls := .type "list", data := .seq #[] 0 } := Heap.get?_push_size _ rfl
  have grown := grow_long (prog := prog) (w := w) (A := A) (R := Good) (s := { s with heap := s.heap.push bare }) calm (Heap.get?_push_of_some _ isr) great size few here (.ref here) 0 laid fun heap2 tk acc cap2 keep l2 h2 =>
    ⟨rfl, heap2, tk, acc, cap2, rfl, fun o ob q => keep o ob (Nat.ne_of_lt (Heap.lt_size q)) (Heap.get?_push_of_some _ q), l2, h2⟩
  unfold collect
  apply wpAny_bind
  apply wpAny_runValue
  apply codeAny_builtin F.entry_proto_collect
  simp only [Around.under_plainId F.plain_proto_collect]
  show wpAny _ A.in1 (newList [] >>= fun l => again (.builtin "list.__iadd__" ⟨[l, .ref rng], []⟩)) _ _ s
  apply wpAny_bind
  refine wpAny_newObj_type ?more (by size_fits)
  have quiet := plainId_quiet F.plain_list_iadd
  refine wpAny_pure ⟨quiet _, ?_⟩
  apply codeAny_builtin F.entry_list_iadd
  simp only [Around.under_plainId F.plain_list_iadd]
  show wpAny _ A.in1 (Builtin.List.listExtendWith (.ref here) (.ref rng) (.ref here)) _ _ _
  refine wpAny_mono grown (fun out z h => ?_) (fun x z h => absurd h.1 (by simp))
  cases out with
  | done f =>
    obtain ⟨e, heap2, tk, acc, cap2, rfl, keep, l2, h2⟩ := h
    cases e
    show wpAny _ A (load here >>= _) _ _ _
    exact wpAny_bind (wpAny_load l2 (wpAny_pure (after heap2 tk acc keep h2)))
  | again d =>
    refine ⟨h.1, codeAny_mono h.2 fun res y good => ?_⟩
    obtain ⟨rfl, heap2, tk, acc, cap2, rfl, keep, l2, h2⟩ := good
    show wpAny _ A (load here >>= _) _ _ _
    exact wpAny_bind (wpAny_load l2 (wpAny_pure (after heap2 tk acc keep h2)))
theorem fresh_tuple_long {Q : Value → Shared → Prop} (calm : A.handled = none) (isr : IsRange s.heap rng a b c t u v) (great : Builtin.Range.small a b c = false) (size : Builtin.Range.rangeSize a b c = n) (few : n ≤ 2 ^ 24)
    (after : ∀ (heap2 : Heap) (tk : Nat) (acc : Array Value), (∀ o ob, s.heap.get? o = some ob → heap2.get? o = some ob) → Steps a c acc n → Q (.ref heap2.objs.size) { s with heap := heap2.push { cls := .type "tuple", data := .seq acc }, toks := tk }) :
    codeAny (model prog w) A (.call (.builtin "tuple.__new__") ⟨[.type "tuple", .ref rng], []⟩) (wants Q E) s := by
  apply codeAny_of_tree
  show wpAny _ A.in1 (do checkBuiltinCall "tuple.__new__" ⟨[.type "tuple", .ref rng], []⟩; again (.builtin "tuple.__new__" ⟨[.type "tuple", .ref rng], []⟩)) _ _ s
  have quiet := plainId_quiet F.plain_tuple_new
  apply wpAny_bind
  refine wpAny_of_eq (F.newCall_tuple_1 _) (wpAny_pure ⟨quiet _, ?_⟩)
  apply codeAny_builtin F.entry_tuple_new
  simp only [Around.under_plainId F.plain_tuple_new]
  have k1 := sub_tuple_self
  have k2 := init_tuple_lookup
  have k3 := madeHere_tuple
  have typ : s.TypeIs (.ref rng) "range" := ⟨_, isr, rfl⟩
  have calm1 : A.in1.handled = none := calm
  wp_walk using wpAny_typeOf typ, gather_long (A := A.in1) calm1 isr great size few
  intro heap2 tk acc keep h2
  have same : acc.toList.toArray = acc := by simp
  have fits : acc.toList.toArray.size ≤ sizeLine := by
    rw [same, h2.1, sizeLine_eq]
    omega
  show wpAny _ _ (Builtin.Tuple.tupleExact acc.toList.toArray >>= fun made => ret made) _ _ _
  unfold Builtin.Tuple.tupleExact
  refine wpAny_bind (wpAny_newObj_type ?_ fits)
  refine wpAny_pure ?_
  rw [same]
  exact after heap2 tk acc keep h2
/-- tuple(r) -/
theorem tuple_long {Q : Value → Shared → Prop} (calm : A.handled = none) (isr : IsRange s.heap rng a b c t u v) (great : Builtin.Range.small a b c = false) (size : Builtin.Range.rangeSize a b c = n) (few : n ≤ 2 ^ 24)
    (after : ∀ (heap2 : Heap) (tk : Nat) (acc : Array Value), (∀ o ob, s.heap.get? o = some ob → heap2.get? o = some ob) → Steps a c acc n → Q (.ref heap2.objs.size) { s with heap := heap2.push { cls := .type "tuple", data := .seq acc }, toks := tk }) :
    wpAny (model prog w) A (call (.type "tuple") [.ref rng]) Q E s := by
  have made := fresh_tuple_long (prog := prog) (w := w) (A := A.in1) (E := E) (Q := fun x z => z.TypeIs x "tuple" ∧ Q x z) calm isr great size few fun heap2 tk acc keep h2 => ⟨⟨_, Heap.get?_push_size _ rfl, rfl⟩, after heap2 tk acc keep h2⟩
  refine callType_codes F.called_tuple (F.typeCall_tuple_1 _) F.entry_object_init made ?_
  rintro x z ⟨h1, h2⟩
  refine ⟨h1, F.args_object_init_2 x _, ?_⟩
  have init := F.called_tuple.init.lookup
  exact object_init_meets init F.called_tuple.made (by decide) prog w A.in1 _ z ⟨h1, rfl, h2⟩
end
/-- the values lo, lo + c, .. (n of them) -/
def rgC (lo c : Int) (n : Nat) : List V := (List.range n).map fun k => V.int (lo + (k : Nat) * c)
theorem rgC_length (lo c : Int) (n : Nat) : (rgC lo c n).length = n := by simp [rgC]
theorem vals_rgC {lo c : Int} {n : Nat} {acc : Array Value} (h : Steps lo c acc n) : Vals (rgC lo c n) acc.toList := by
  have len : acc.toList.length = n := by rw [Array.length_toList]; exact h.1
  unfold rgC
  rw [← len]
  refine vals_of_get acc.toList _ fun j x hj => ?_
  obtain ⟨tk, rfl⟩ := h.2 j x (by rw [← hj, Array.getElem?_toList])
  exact ⟨tk, rfl⟩
theorem dqa_rgC {F : Hp} (lo c : Int) (n : Nat) : DqA F (rgC lo c n) (rangeC lo c n) := by
  unfold rgC rangeC
  have h : ∀ ks : List Nat, DqA F (ks.map fun k => V.int (lo + (k : Nat) * c)) (ks.map fun k => PyData.int (lo + (k : Nat) * c)) := fun ks => by
    induction ks with
    | nil => exact .nil
    | cons k ks ih => exact .cons (.int _) ih
  exact h _
def tTupG (ta : TA) : TE := fun σ H Q => ta σ H fun vs H1 => ∃ (i j c : Int) (n : Nat), vs = [.int i, .int j, .int c] ∧ RgG i j c n ∧ n ≤ 2 ^ 24 ∧ ∀ q, H1 q = none → Q (.ref q) (upd H1 q (.tup (rgC i c n)))
section
variable {X : Cx} {e1 e2 e3 : Expr} {p p2 pos p0 : Pos} {sa : SA} {ta : TA}
theorem pe_tupG (calm : X.calm = true) (hgt : Gl X "tuple") (hmt : X.mg "tuple" = none) (hg : Gl X "range") (hm : X.mg "range" = none) (ha : PA X [e1, e2, e3] ta)
    (hs : starEach [e1, e2, e3] X.env = (false, eval e1 X.env) :: starEach [e2, e3] X.env := by rfl) (hpl : (backTo p0 (starEach [e2, e3] X.env)).any (·.1) = false := by rfl)
    (na : starEach [.Call (.Name "range" p) [e1, e2, e3] [] p0] X.env = (false, eval (.Call (.Name "range" p) [e1, e2, e3] [] p0) X.env) :: starEach [] X.env := by rfl) :
    PE X (.Call (.Name "tuple" p2) [.Call (.Name "range" p) [e1, e2, e3] [] p0] [] pos) (tTupG ta) := by
  constructor
  intro pins s σ H Q inv given
  have arg : wpAny (model X.prog X.w) X.A (eval (.Call (.Name "range" p) [e1, e2, e3] [] p0) X.env) (fun x z => ∃ (rng : Addr) (i j c : Int) (n : Nat) (t u v : Tok) (H1 : Hp), x = .ref rng ∧ IsRange z.heap rng i j c t u v ∧ Inv X pins σ H1 z ∧ RgG i j c n ∧ n ≤ 2 ^ 24 ∧ ∀ q, H1 q = none → Q (.ref q) (upd H1 q (.tup (rgC i c n)))) X.xe s := by
    have args := ha.run p0 pins s σ H _ inv given
    refine Call_ (ld_blt inv hg hm boot_range (PyProof.Rows.callWith_type1 (thn args ?_) hs hpl))
    rintro us s1 ⟨_, H1, inv1, rel, i, j, c, n, rfl, ok, few, goal⟩
    cases rel with
    | cons r1 rel =>
      cases rel with
      | cons r2 rel =>
        cases rel with
        | cons r3 rel =>
          cases rel
          obtain ⟨tk1, rfl⟩ := r1
          obtain ⟨tk2, rfl⟩ := r2
          obtain ⟨tk3, rfl⟩ := r3
          refine call_range_3 ok.1 ?_ (.inl (PyProof.noPylong_of_log2 ok.2.1))
          exact ⟨_, i, j, c, n, _, _, _, H1, rfl, IsRange.new _ _ _ _ _ _ _, inv1.kept (t' := s1.toks) fun b o e => Heap.get?_push_of_some _ e, ok, few, goal⟩
  refine Call_ (ld_blt inv hgt hmt boot_tuple (PyProof.Rows.callWith_type1 (args_cons (thn arg ?_) na) na))
  rintro _ s1 ⟨rng, i, j, c, n, tk1, tk2, tk3, H1, rfl, isr, inv1, ok, few, goal⟩
  refine args_nil ?_
  have laid : ∀ (heap2 : Heap) (tk : Nat) (acc : Array Value), (∀ o ob, s1.heap.get? o = some ob → heap2.get? o = some ob) → Steps i c acc n →
      EP X pins σ Q (.ref heap2.objs.size) { s1 with heap := heap2.push { cls := .type "tuple", data := .seq acc }, toks := tk } := by
    intro heap2 tk acc keep h2
    have inv2 : Inv X pins σ H1 { s1 with heap := heap2, toks := tk } := inv1.kept keep
    refine ⟨.ref heap2.objs.size, upd H1 heap2.objs.size (.tup (rgC i c n)), ?_, rfl, goal _ (inv2.hok.fresh (Nat.le_refl _))⟩
    refine inv2.laid (t' := tk) (fun o ob e => Heap.get?_push_of_some _ e) (Nat.le_refl _) ?_
    refine ⟨?_, acc.toList, vals_rgC h2, ?_⟩
    · rw [rgC_length, sizeLine_eq]
      omega
    · rw [Array.toArray_toList]
      exact IsTup.new _ _
  cases sm : Builtin.Range.small i j c with
  | true => exact call_tuple_range (n := n) (inv1.ok.hd calm) isr sm ok.2.2 few laid
  | false => exact tuple_long (n := n) (inv1.ok.hd calm) isr sm ok.2.2 few laid
def cTupR (a : SA) : SE := fun ev st => (a ev st).bind fun p => match p.1 with
  | [.d (.int i), .d (.int j), .d (.int c)] => if c ≠ 0 ∧ c.natAbs.log2 < 9000 ∧ 0 ≤ Builtin.Range.rangeSize i j c ∧ Builtin.Range.rangeSize i j c ≤ 1000000 then some (.d (.tuple (rangeC i c (Builtin.Range.rangeSize i j c).toNat)), p.2) else none
  | _ => none
theorem se_tupR3 (calm : X.calm = true) (hgt : Gl X "tuple") (hmt : X.mg "tuple" = none) (hg : Gl X "range") (hm : X.mg "range" = none) (ha : PA X [e1, e2, e3] (tA X.K sa))
    (hs : starEach [e1, e2, e3] X.env = (false, eval e1 X.env) :: starEach [e2, e3] X.env := by rfl) (hpl : (backTo p0 (starEach [e2, e3] X.env)).any (·.1) = false := by rfl)
    (na : starEach [.Call (.Name "range" p) [e1, e2, e3] [] p0] X.env = (false, eval (.Call (.Name "range" p) [e1, e2, e3] [] p0) X.env) :: starEach [] X.env := by rfl) :
    PE X (.Call (.Name "tuple" p2) [.Call (.Name "range" p) [e1, e2, e3] [] p0] [] pos) (tI X.K (cTupR sa)) :=
  (pe_tupG calm hgt hmt hg hm ha hs hpl na).weak fun σ H Q ⟨ρ, F, ev, st, w, st', hr, sr, eq, post⟩ => by
    simp only [cTupR, Option.bind_eq_some_iff] at eq
    obtain ⟨⟨ws, st1⟩, q1, q2⟩ := eq
    refine ⟨ρ, F, ev, st, ws, st1, hr, sr, q1, fun vs ρ' F' H' x hr' wr => ?_⟩
    split at q2
    · rename_i i j c q
      cases q
      by_cases hb : c ≠ 0 ∧ c.natAbs.log2 < 9000 ∧ 0 ≤ Builtin.Range.rangeSize i j c ∧ Builtin.Range.rangeSize i j c ≤ 1000000
      · rw [if_pos hb] at q2
        cases q2
        cases wr with
        | cons w1 t =>
          cases w1
          cases t with
          | cons w2 t =>
            cases w2
            cases t with
            | cons w3 t =>
              cases w3
              cases t
              have rp := post.grow x hr'
              refine ⟨i, j, c, (Builtin.Range.rangeSize i j c).toNat, rfl, ⟨hb.1, hb.2.1, by have := hb.2.2.1; omega⟩, by have := hb.2.2.2; omega, fun q np => ?_⟩
              exact rp.tup hr'.sub (dqa_rgC i c _) q np
      · rw [if_neg hb] at q2
        cases q2
    · cases q2
end
end Cm

set_option Elab.async false
set_option linter.all false
set_option maxRecDepth 100000
set_option maxHeartbeats 4000000
/-! a truth beside a whole number; str of a number; sorted(set(x)) as a list of one's own -/
namespace Cm
open PySem PySem.Spec PyProof.Rows L2
theorem gt_truth (a : Bool) (b : Int) (u : Tok) : Gives (Builtin.«int.__gt__» ⟨[.bool a, .int b u], []⟩) (.val (Value.bool (decide ((if a = true then (1 : Int) else 0) > b)))) :=
  .of_wp fun M A E s Q go => by
    obtain ⟨hp, g, d, tk, os⟩ := s
    wp_walk
    exact ⟨_, rfl, go⟩
theorem cmp_gt_truth {P : Program} {w : World} {A : Around} {E : Value → Shared → Prop} {s : Shared} {a : Bool} {b : Int} {u : Tok} {Q : Value → Shared → Prop} (go : Q (.bool (decide (b01 a > b))) s) : wpAny (model P w) A (compareOp .Gt (.bool a) (.int b u)) Q E s := by
  show wpAny _ A (richCompare .Gt _ _) Q E s
  exact wpAny_richCompare_left (typeIs_bool' s a) (typeIs_int s b u) (by decide) F.sub_int_bool F.slot_bool_gt (call_gives F.slot_bool_gt (typeIs_bool' s a) F.entry_int_gt (F.args_int_gt_2 _ _) (gt_truth a b u) ⟨nofun, go⟩)
def fAddB : PyData → PyData → Option PyData
  | .bool a, .int b => some (.int (b01 a + b))
  | x, y => fAdd x y
def fSubB : PyData → PyData → Option PyData
  | .bool a, .int b => some (.int (b01 a - b))
  | x, y => fSubA x y
def fGtB : PyData → PyData → Option PyData
  | .bool a, .int b => some (.bool (decide (b01 a > b)))
  | x, y => fGt x y
def rBI (f : Int → Int → V) : R2 := fun x y H Q => ∃ k i, x = .bl k ∧ y = .int i ∧ Q (f (b01 k) i) H
theorem op_addBI {X : Cx} : OpR X (binaryOp .Add) (rBI fun i j => .int (i + j)) := by
  rintro pins s σ H x y v u Q I rx ry ⟨k, i, rfl, rfl, q⟩
  obtain ⟨t, rfl⟩ := ry
  cases rx
  exact PySem.IntBool.add_bool_int ⟨.int (b01 k + i), H, I.tok _, ⟨_, rfl⟩, q⟩
theorem op_subBI {X : Cx} : OpR X (binaryOp .Sub) (rBI fun i j => .int (i - j)) := by
  rintro pins s σ H x y v u Q I rx ry ⟨k, i, rfl, rfl, q⟩
  obtain ⟨t, rfl⟩ := ry
  cases rx
  exact PySem.IntBool.sub_bool_int ⟨.int (b01 k - i), H, I.tok _, ⟨_, rfl⟩, q⟩
theorem op_gtBI {X : Cx} : OpR X (compareOp .Gt) (rBI fun i j => .bl (decide (i > j))) := by
  rintro pins s σ H x y v u Q I rx ry ⟨k, i, rfl, rfl, q⟩
  obtain ⟨t, rfl⟩ := ry
  cases rx
  exact cmp_gt_truth ⟨.bl (decide (b01 k > i)), H, I, rfl, q⟩
abbrev rAddB (K : PySem.W.Frag) : R2 := fun x y H Q => rAdd K x y H Q ∨ rBI (fun i j => .int (i + j)) x y H Q
abbrev rSubB : R2 := fun x y H Q => rSubA x y H Q ∨ rBI (fun i j => .int (i - j)) x y H Q
abbrev rGtB : R2 := fun x y H Q => rI0 (fun i j => .bl (decide (j < i))) x y H Q ∨ rBI (fun i j => .bl (decide (i > j))) x y H Q
theorem op_addB {X : Cx} : OpR X (binaryOp .Add) (rAddB X.K) := op_addA.or op_addBI
theorem op_subB {X : Cx} : OpR X (binaryOp .Sub) rSubB := op_subA.or op_subBI
theorem op_gtB {X : Cx} : OpR X (compareOp .Gt) rGtB := op_gt.or op_gtBI
theorem snd_addB {K : PySem.W.Frag} : Snd2s (rAddB K) fAddB := fun F H v u x y z Q hs rx ry e q => by
  unfold fAddB at e
  split at e
  · cases e
    cases (rx.rdd (K := K)).bl
    cases (ry.rdd (K := K)).int
    exact .inr ⟨_, _, rfl, rfl, q.now hs (.int _)⟩
  · exact .inl (snd_add F H v u x y z Q hs rx ry e q)
theorem snd_subB {K : PySem.W.Frag} : Snd2 K rSubB fSubB := fun F H v u x y z Q hs rx ry e q => by
  unfold fSubB at e
  split at e
  · cases e
    cases rx.bl
    cases ry.int
    exact .inr ⟨_, _, rfl, rfl, q.now hs (.int _)⟩
  · exact .inl (snd_subA F H v u x y z Q hs rx ry e q)
theorem snd_gtB {K : PySem.W.Frag} : Snd2 K rGtB fGtB := fun F H v u x y z Q hs rx ry e q => by
  unfold fGtB at e
  split at e
  · cases e
    cases rx.bl
    cases ry.int
    exact .inr ⟨_, _, rfl, rfl, q.now hs (.bl _)⟩
  · exact .inl (snd_gt F H v u x y z Q hs rx ry e q)
@[simp] theorem fAddB_i (a b : Int) : fAddB (.int a) (.int b) = fAdd (.int a) (.int b) := rfl
@[simp] theorem fAddB_b (a : Bool) (b : Int) : fAddB (.bool a) (.int b) = some (.int (b01 a + b)) := rfl
@[simp] theorem fAddB_l (a b : List PyData) : fAddB (.list a) (.list b) = fAdd (.list a) (.list b) := rfl
@[simp] theorem fAddB_t (a b : List PyData) : fAddB (.tuple a) (.tuple b) = fAdd (.tuple a) (.tuple b) := rfl
@[simp] theorem fSubB_i (a b : Int) : fSubB (.int a) (.int b) = some (.int (a - b)) := rfl
@[simp] theorem fSubB_bi (a : Bool) (b : Int) : fSubB (.bool a) (.int b) = some (.int (b01 a - b)) := rfl
@[simp] theorem fSubB_ib (a : Int) (b : Bool) : fSubB (.int a) (.bool b) = some (.int (a - b01 b)) := rfl
@[simp] theorem fGtB_i (a b : Int) : fGtB (.int a) (.int b) = some (.bool (decide (b < a))) := rfl
@[simp] theorem fGtB_b (a : Bool) (b : Int) : fGtB (.bool a) (.int b) = some (.bool (decide (b01 a > b))) := rfl
/-! str of a number, of a truth -/
def fStr : List PyData → Option PyData
  | [.int i] => if i.natAbs.log2 < 1920 then some (.str (Str.ofString (toString i))) else none
  | [.bool b] => some (.str (if b then "True" else "False"))
  | _ => none
abbrev rStr : List V → Hp → VK → Prop := fun xs H Q => (∃ i, xs = [.int i] ∧ i.natAbs.log2 < 1920 ∧ Q (.str (toString i)) H) ∨ ∃ k : Bool, xs = [.bl k] ∧ Q (.str (if k then "True" else "False")) H
theorem call_str1 {X : Cx} : CallR X (.type "str") rStr := by
  intro pins s σ H xs us Q I r go
  rcases go with ⟨i, rfl, hz, q⟩ | ⟨k, rfl, q⟩
  · obtain ⟨u, rfl, t, rfl⟩ := vals1 r
    exact PySem.P.str_of_int hz ⟨.str (toString i), H, I.tok _, ⟨_, rfl⟩, q⟩
  · obtain ⟨u, rfl, r1⟩ := vals1 r
    cases r1
    exact PySem.P.str_of_bool ⟨.str (if k then "True" else "False"), H, I.tok _, ⟨_, rfl⟩, q⟩
theorem snd_str {K : PySem.W.Frag} : SndN K rStr fStr := fun F H vs xs z Q hs r e q => by
  unfold fStr at e
  split at e
  · split at e
    · rename_i hz
      cases e
      obtain ⟨v, rfl, r0⟩ := r.one
      cases r0.int
      exact .inl ⟨_, rfl, hz, q.now hs (.str _)⟩
    · cases e
  · cases e
    obtain ⟨v, rfl, r0⟩ := r.one
    cases r0.bl
    exact .inr ⟨_, rfl, q.now hs (.str _)⟩
  · cases e
/-! sorted(set(x)), to be changed -/
def cSetM (c : SE) : SE := fun ev st => (c ev st).bind fun p => (rd p.2 p.1).bind fun x => match fSetSorted x with
  | some (.list ys) => some (.l p.2.length, p.2 ++ [some ys])
  | _ => none
section
variable {X : Cx} {e : Expr} {p p2 q pos : Pos} {c : SE}
theorem se_sortSetM (hc : X.calm = true) (hg : Gl X "sorted") (hm : X.mg "sorted" = none) (hg2 : Gl X "set") (hm2 : X.mg "set" = none) (ha : PE X e (tI X.K c)) (he : Bare1 X e [] := by rfl)
    (he2 : Bare1 X (.Call (.Name "set" p2) [e] [] q) [] := by rfl) : PE X (.Call (.Name "sorted" p) [.Call (.Name "set" p2) [e] [] q] [] pos) (tI X.K (cSetM c)) := by
  have inner : PE X (.Call (.Name "set" p2) [e] [] q) _ := pe_callTy (cr_setI hc) hg2 hm2 PyProof.Rows.boot_set (pa_cons ha pa_nil he) (by decide) (by decide) he
  refine (pe_callB (cr_sortedSet hc) hg hm PyProof.Rows.boot_sorted (pa_cons inner pa_nil he2) (by decide) (by decide) he2).weak fun σ H Q ⟨ρ, F, ev, st, w, st', hr, sr, eq, post⟩ => ?_
  simp only [cSetM, Option.bind_eq_some_iff] at eq
  obtain ⟨⟨u, st1⟩, eu, d, ed, ez⟩ := eq
  refine ⟨ρ, F, ev, st, u, st1, hr, sr, eu, fun v ρ1 F1 H1 x1 hr1 wr => ?_⟩
  have rr := rd_ok (K := X.K) hr1 wr ed
  have fin : ∀ (a : Addr) (ns : List Int), v = .ref a → (SqL X.K H1 a (ns.map V.int) ∨ SqT X.K H1 a (ns.map V.int)) → ns.length < 64 → w = .l st1.length → st' = st1 ++ [some ((setI ns).map .int)] → rSetI X.w X.K [v] H1 fun x H2 => rSortedSet X.w [x] H2 Q := fun a ns ev' sq few e1 e2 => by
    subst ev' e1 e2
    refine ⟨a, ns, rfl, sq, few, fun p n le np => ⟨p, _, n, rfl, upd_same, by omega, fun ms p' asc mem _ np' => ?_⟩⟩
    have em : ms = setI ns := setI_uniq asc fun k => by rw [mem k, decide_eq_true_iff]
    subst em
    have g1 : Grow F1 H1 F1 (upd H1 p (SetO X.w p (fun j => decide (j ∈ ns)) n)) := .side hr1.sub np
    have hr2 := hr1.grow g1
    exact post _ _ _ _ ((x1.trans (.of g1)).trans (.push p')) (hr2.push np' DqA.ints) (.pushed hr2)
  split at ez
  · rename_i ys e0
    cases ez
    cases d with
    | list xs =>
      simp only [fSetSorted, Option.bind_eq_some_iff] at e0
      obtain ⟨ns, e1, e2⟩ := e0
      split at e2
      · rename_i few
        cases e2
        obtain ⟨a, vs, ea, sq, dq⟩ := rr.list hr1.sub
        rw [asInts_eq e1] at dq
        rw [dq.of_ints] at sq
        exact fin a ns ea (.inl sq) few rfl rfl
      · cases e2
    | tuple xs =>
      simp only [fSetSorted, Option.bind_eq_some_iff] at e0
      obtain ⟨ns, e1, e2⟩ := e0
      split at e2
      · rename_i few
        cases e2
        obtain ⟨a, vs, ea, sq, _, dq⟩ := rr.tup hr1.sub
        rw [asInts_eq e1] at dq
        rw [dq.of_ints] at sq
        exact fin a ns ea (.inr (SqT.of sq)) few rfl rfl
      · cases e2
    | _ => cases e0
  · cases ez
end
end Cm

set_option Elab.async false
set_option linter.all false
set_option maxRecDepth 100000
namespace Cm
open PySem PySem.Spec PyProof.Rows L2

/-! ### a dict of one's own, with ints for keys, that a def fills -/
abbrev KD := List (Int × PyData)
def putD (kd : KD) (k : Int) (x : PyData) : KD := if (kd.any fun q => decide (q.1 = k)) = true then kd.map (fun q => if q.1 = k then (q.1, x) else q) else kd ++ [(k, x)]
def getK (kd : KD) (k : Int) : Option PyData := (kd.find? fun q => decide (q.1 = k)).map (·.2)
section
variable {F F' : Hp}
theorem KR.length : ∀ {ks : List (Key × V)} {kd : KD}, KR F ks kd → ks.length = kd.length
  | _, _, .nil => rfl
  | _, _, .cons _ t => by simp [KR.length t]
theorem KR.keys : ∀ {ks : List (Key × V)} {kd : KD}, KR F ks kd → ks.map (·.1) = (kd.map (·.1)).map Sum.inl
  | _, _, .nil => rfl
  | _, _, .cons _ t => by simp [KR.keys t]
theorem KR.monoD (e : SamD F F') : ∀ {ks : List (Key × V)} {kd : KD}, KR F ks kd → KR F' ks kd
  | _, _, .nil => .nil
  | _, _, .cons h t => .cons (h.monoD e) (KR.monoD e t)
theorem KR.get {k : Int} {x : PyData} : ∀ {ks : List (Key × V)} {kd : KD}, KR F ks kd → getK kd k = some x → ∃ v, valV ks (.inl k) = some v ∧ Dq F v x
  | _, _, .nil, e => by cases e
  | _, _, .cons (i := i) (v := v) (d := d) (ks := ks) (kd := kd) h t, e => by
    by_cases hi : i = k
    · subst hi
      have : getK ((i, d) :: kd) i = some d := by simp [getK]
      rw [this] at e
      cases e
      exact ⟨v, valV_pos rfl, h⟩
    · have e1 : getK ((i, d) :: kd) k = getK kd k := by simp [getK, hi]
      rw [e1] at e
      obtain ⟨u, h1, h2⟩ := KR.get t e
      exact ⟨u, by rw [valV_neg (fun z => hi (Sum.inl.inj z))]; exact h1, h2⟩
theorem KR.any {k : Int} : ∀ {ks : List (Key × V)} {kd : KD}, KR F ks kd → (ks.any fun q => decide (q.1 = Sum.inl k)) = kd.any fun q => decide (q.1 = k)
  | _, _, .nil => rfl
  | _, _, .cons (i := i) _ t => by
    rw [List.any_cons, List.any_cons, KR.any t]
    congr 1
    simp
theorem KR.over {k : Int} {u : V} {x : PyData} (hd : Dq F u x) : ∀ {ks : List (Key × V)} {kd : KD}, KR F ks kd → KR F (ks.map fun q => if q.1 = Sum.inl k then (q.1, u) else q) (kd.map fun q => if q.1 = k then (q.1, x) else q)
  | _, _, .nil => .nil
  | _, _, .cons (i := i) h t => by
    rw [List.map_cons, List.map_cons]
    by_cases hi : i = k
    · rw [if_pos (show (Sum.inl i : Key) = Sum.inl k by rw [hi]), if_pos hi]
      exact .cons hd (KR.over hd t)
    · rw [if_neg (fun z => hi (Sum.inl.inj z)), if_neg hi]
      exact .cons h (KR.over hd t)
theorem KR.snoc {k : Int} {u : V} {x : PyData} (hd : Dq F u x) : ∀ {ks : List (Key × V)} {kd : KD}, KR F ks kd → KR F (ks ++ [(Sum.inl k, u)]) (kd ++ [(k, x)])
  | _, _, .nil => .cons hd .nil
  | _, _, .cons h t => .cons h (KR.snoc hd t)
theorem KR.put {k : Int} {u : V} {x : PyData} {ks : List (Key × V)} {kd : KD} (h : KR F ks kd) (hd : Dq F u x) : KR F (putK ks (Sum.inl k) u) (putD kd k x) := by
  unfold putK putD
  rw [h.any]
  split
  · exact h.over hd
  · exact h.snoc hd
end

/-- no slot shows a dict -/
def noK (ev : Ev) : Bool := ev.all fun w => match w with
  | some (.k _) => false
  | _ => true
/-- the slot's list number -/
def slotL (fi : Nat) (ev : Ev) : Option Nat := match ev[fi]? with
  | some (some (.l n)) => some n
  | _ => none
/-- the slots, the dict's one read as a dict -/
def vw (fi : Nat) (kd : KD) (ev : Ev) : Ev := ev.set fi (some (.k kd))
theorem slotL_get {fi k : Nat} {ev : Ev} (h : slotL fi ev = some k) : ev[fi]? = some (some (.l k)) := by
  unfold slotL at h
  split at h
  · rename_i n q
    cases h
    exact q
  · cases h
theorem slotL_of {fi k : Nat} {ev : Ev} (h : ev[fi]? = some (some (.l k))) : slotL fi ev = some k := by
  unfold slotL
  rw [h]

/-- as Ext, but for the dict at p -/
structure ExtP (p : Addr) (ρ : List Addr) (F : Hp) (ρ' : List Addr) (F' : Hp) : Prop where
  pre : ∀ (n : Nat) (a : Addr), ρ[n]? = some a → ρ'[n]? = some a
  same : ∀ a o, a ≠ p → F a = some o → F' a = some o
section
variable {p : Addr} {ρ ρ1 ρ2 : List Addr} {F F1 F2 : Hp} {K : PySem.W.Frag}
theorem ExtP.refl : ExtP p ρ F ρ F := ⟨fun _ _ h => h, fun _ _ _ h => h⟩
theorem ExtP.of (x : Ext ρ F ρ1 F1) : ExtP p ρ F ρ1 F1 := ⟨x.pre, fun a o _ h => x.same a o h⟩
theorem ExtP.trans (a : ExtP p ρ F ρ1 F1) (b : ExtP p ρ1 F1 ρ2 F2) : ExtP p ρ F ρ2 F2 := ⟨fun n x h => b.pre n x (a.pre n x h), fun c o n h => b.same c o n (a.same c o n h)⟩
theorem ExtP.ext (x : ExtP p ρ F ρ1 F1) (n : F p = none) : Ext ρ F ρ1 F1 := ⟨x.pre, fun a o h => x.same a o (ne_of_none h n) h⟩
theorem ExtP.samD {ks : List (Key × V)} (x : ExtP p ρ F ρ1 F1) (h : F p = some (.dK ks)) : SamD F F1 := fun a o e n => by
  by_cases ha : a = p
  · subst ha
    rw [h] at e
    cases e
    exact absurd rfl (n ks)
  · exact x.same a o ha e
theorem ExtP.put {o : HO} : ExtP p ρ F ρ (upd F p o) := ⟨fun _ _ h => h, fun a u n h => by rw [upd_ne n]; exact h⟩
theorem SR.but {ev : Ev} {σ : L2.St} (h : SR K ρ F ev σ) (nk : noK ev = true) (s : SamD F F1) : SR K ρ F1 ev σ := ⟨h.len, fun i w q => by
  obtain ⟨v, h1, h2⟩ := h.get i w q
  refine ⟨v, h1, ?_⟩
  have b := List.all_eq_true.mp nk (some w) (List.mem_of_getElem? q)
  cases w with
  | d x => exact Dq.monoD s h2
  | l n => exact h2
  | s ns =>
    obtain ⟨a, k1, k2⟩ := h2
    exact ⟨a, k1, s.seq k2⟩
  | k kd => cases b⟩
theorem HR.but {H : Hp} {st : Sto} {ks ks' : List (Key × V)} (h : HR ρ F H st) (e : F p = some (.dK ks)) : HR ρ (upd F p (.dK ks')) (upd H p (.dK ks')) st := by
  have sd : SamD F (upd F p (.dK ks')) := ExtP.samD (ρ := ρ) ExtP.put e
  refine ⟨upd_mono h.sub, fun n xs q => ?_, h.inj, h.len⟩
  obtain ⟨a, vs, h1, h2, h3, h4⟩ := h.cell n xs q
  have ha : a ≠ p := fun z => by
    subst z
    rw [e] at h3
    cases h3
  refine ⟨a, vs, h1, ?_, ?_, h4.monoD sd⟩
  · rw [upd_ne ha]
    exact h2
  · rw [upd_ne ha]
    exact h3
theorem HR.pushN {H : Hp} {st : Sto} {o : HO} (h : HR ρ F H st) (n : H p = none) : HR (ρ ++ [p]) (upd F p o) (upd H p o) (st ++ [none]) := by
  have old : ∀ (k : Nat) (ys : List PyData), (st ++ [none])[k]? = some (some ys) → k < st.length ∧ st[k]? = some (some ys) := fun k ys e => by
    rw [List.getElem?_append] at e
    split at e
    · rename_i hl
      exact ⟨hl, e⟩
    · rename_i hl
      by_cases hk : k = st.length
      · subst hk
        simp at e
      · rw [List.getElem?_eq_none (by simp; omega)] at e
        cases e
  have rold : ∀ (k : Nat) (a : Addr), k < st.length → (ρ ++ [p])[k]? = some a → ρ[k]? = some a := fun k a hl e => by
    rw [List.getElem?_append_left (by rw [h.len]; exact hl)] at e
    exact e
  refine ⟨upd_mono h.sub, fun k ys e => ?_, fun k m a e1 e2 ⟨y1, l1⟩ ⟨y2, l2⟩ => ?_, by simp [h.len]⟩
  · obtain ⟨hl, e⟩ := old k ys e
    obtain ⟨a, vs, h1, h2, h3, h4⟩ := h.cell k ys e
    have ha : a ≠ p := ne_of_none h2 n
    refine ⟨a, vs, ?_, by rw [upd_ne ha]; exact h2, by rw [upd_ne ha]; exact h3, h4.mono (same_upd (h.sub.free n))⟩
    rw [List.getElem?_append_left (by rw [h.len]; exact hl)]
    exact h1
  · obtain ⟨hk, q1⟩ := old k y1 l1
    obtain ⟨hm, q2⟩ := old m y2 l2
    exact h.inj k m a (rold k a hk e1) (rold m a hm e2) ⟨_, q1⟩ ⟨_, q2⟩
theorem Ext.pushN {o : HO} (n : F p = none) : Ext ρ F (ρ ++ [p]) (L2.upd F p o) := (Ext.push (F := F) p).trans (.upd n)
end

/-- the state: slots, store and the dict of slot fi, which stands at p -/
structure DR (K : PySem.W.Frag) (ρ : List Addr) (F H : Hp) (st : Sto) (ev : Ev) (σ : L2.St) (fi k : Nat) (p : Addr) (ks : List (Key × V)) (kd : KD) : Prop where
  hr : HR ρ F H st
  sr : SR K ρ F ev σ
  own : ev[fi]? = some (some (.l k))
  pl : ρ[k]? = some p
  fp : F p = some (.dK ks)
  kr : KR F ks kd
  nk : noK ev = true
inductive DOut where
  | nx (ev : Ev) (st : Sto) (kd : KD)
  | rt (w : U) (st : Sto)
  | bk (ev : Ev) (st : Sto) (kd : KD)
  | ct (ev : Ev) (st : Sto) (kd : KD)
abbrev DS := Ev → Sto → KD → Option DOut
def DOk (K : PySem.W.Frag) (ρ : List Addr) (F : Hp) (fi k : Nat) (p : Addr) (D : L2.Ends) : DOut → Prop
  | .nx ev st kd => ∀ σ' ρ' F' H' ks', ExtP p ρ F ρ' F' → DR K ρ' F' H' st ev σ' fi k p ks' kd → D.nx σ' H'
  | .rt w st => ∀ v ρ' F' H', ExtP p ρ F ρ' F' → HR ρ' F' H' st → WR K ρ' F' v w → D.rt v H'
  | .bk ev st kd => ∀ σ' ρ' F' H' ks', ExtP p ρ F ρ' F' → DR K ρ' F' H' st ev σ' fi k p ks' kd → D.bk σ' H'
  | .ct ev st kd => ∀ σ' ρ' F' H' ks', ExtP p ρ F ρ' F' → DR K ρ' F' H' st ev σ' fi k p ks' kd → D.ct σ' H'
def tDS (K : PySem.W.Frag) (fi : Nat) (c : DS) : TS := fun D σ H => ∃ ρ F ev st kd k p ks o, DR K ρ F H st ev σ fi k p ks kd ∧ c ev st kd = some o ∧ DOk K ρ F fi k p D o
section
variable {K : PySem.W.Frag} {ρ ρ1 : List Addr} {F F1 H H1 : Hp} {st st1 : Sto} {ev ev1 : Ev} {σ σ1 : L2.St} {fi k : Nat} {p : Addr} {ks : List (Key × V)} {kd : KD} {D : L2.Ends} {o : DOut}
theorem DOk.mono (h : DOk K ρ F fi k p D o) (x : ExtP p ρ F ρ1 F1) : DOk K ρ1 F1 fi k p D o := by
  cases o with
  | nx ev st kd => exact fun σ' ρ2 F2 H2 ks' x2 r => h σ' ρ2 F2 H2 ks' (x.trans x2) r
  | rt w st => exact fun v ρ2 F2 H2 x2 r w => h v ρ2 F2 H2 (x.trans x2) r w
  | bk ev st kd => exact fun σ' ρ2 F2 H2 ks' x2 r => h σ' ρ2 F2 H2 ks' (x.trans x2) r
  | ct ev st kd => exact fun σ' ρ2 F2 H2 ks' x2 r => h σ' ρ2 F2 H2 ks' (x.trans x2) r
/-- the state grew, the slots are others -/
theorem DR.go (r : DR K ρ F H st ev σ fi k p ks kd) (x : Ext ρ F ρ1 F1) (hr : HR ρ1 F1 H1 st1) (sr : SR K ρ1 F1 ev1 σ1) (hs : slotL fi ev1 = slotL fi ev) (nk : noK ev1 = true) : DR K ρ1 F1 H1 st1 ev1 σ1 fi k p ks kd :=
  ⟨hr, sr, slotL_get (hs.trans (slotL_of r.own)), x.pre _ _ r.pl, x.same _ _ r.fp, r.kr.mono x.same, nk⟩
theorem DR.stay (r : DR K ρ F H st ev σ fi k p ks kd) (x : Ext ρ F ρ1 F1) (hr : HR ρ1 F1 H1 st1) : DR K ρ1 F1 H1 st1 ev σ fi k p ks kd := r.go x hr (r.sr.mono x) rfl r.nk
theorem DR.slot (r : DR K ρ F H st ev σ fi k p ks kd) : σ[fi]? = some (some (.ref p)) := by
  obtain ⟨v, h1, a, h2, h3⟩ := r.sr.get fi _ r.own
  rw [r.pl] at h2
  cases h2
  subst h3
  exact h1
theorem DR.view (r : DR K ρ F H st ev σ fi k p ks kd) : SR K ρ F (vw fi kd ev) σ := by
  refine ⟨by simp [vw, r.sr.len], fun i w q => ?_⟩
  unfold vw at q
  rw [List.getElem?_set] at q
  split at q
  · rename_i hi
    subst hi
    split at q
    · cases q
      exact ⟨_, r.slot, p, ks, rfl, r.fp, r.kr⟩
    · cases q
  · exact r.sr.get i w q
theorem DR.put {i : Int} {x : PyData} {v : V} (r : DR K ρ F H st ev σ fi k p ks kd) (d : Dq F v x) : DR K ρ (upd F p (.dK (putK ks (Sum.inl i) v))) (upd H p (.dK (putK ks (Sum.inl i) v))) st ev σ fi k p (putK ks (Sum.inl i) v) (putD kd i x) := by
  have sd : SamD F (upd F p (.dK (putK ks (Sum.inl i) v))) := ExtP.samD (ρ := ρ) ExtP.put r.fp
  exact ⟨r.hr.but r.fp, r.sr.but r.nk sd, r.own, r.pl, upd_same, (r.kr.put d).monoD sd, r.nk⟩
end

/-! ### statements -/
def dpl (fi : Nat) (ev : Ev) (kd : KD) : Out → Option DOut
  | .nx ev' st' => if slotL fi ev' = slotL fi ev ∧ noK ev' = true then some (.nx ev' st' kd) else none
  | .rt w st' => some (.rt w st')
  | .bk ev' st' => if slotL fi ev' = slotL fi ev ∧ noK ev' = true then some (.bk ev' st' kd) else none
  | .ct ev' st' => if slotL fi ev' = slotL fi ev ∧ noK ev' = true then some (.ct ev' st' kd) else none
/-- statements that leave the dict alone -/
def dPlain (fi : Nat) (c : SS) : DS := fun ev st kd => (c ev st).bind (dpl fi ev kd)
def dSkip : DS := fun ev st kd => some (.nx ev st kd)
def dsq (b : DS) : DOut → Option DOut
  | .nx ev st kd => b ev st kd
  | o => some o
def dSeq (a b : DS) : DS := fun ev st kd => (a ev st kd).bind (dsq b)
def dif (a b : DS) (ev : Ev) (kd : KD) : Bool × Sto → Option DOut := fun q => if q.1 then a ev q.2 kd else b ev q.2 kd
def dIf (fi : Nat) (t : SB) (a b : DS) : DS := fun ev st kd => (t (vw fi kd ev) st).bind (dif a b ev kd)
def drt : U × Sto → Option DOut
  | (.k _, _) => none
  | (w, st) => some (.rt w st)
def dRet (fi : Nat) (e : SE) : DS := fun ev st kd => (e (vw fi kd ev) st).bind drt
def dst (fi i : Nat) (ev : Ev) (kd : KD) : U × Sto → Option DOut
  | (.k _, _) => none
  | (w, st) => if i = fi then none else some (.nx (ev.set i (some w)) st kd)
def dSet (fi i : Nat) (e : SE) : DS := fun ev st kd => (e (vw fi kd ev) st).bind (dst fi i ev kd)
def dpu2 (ev : Ev) (kd : KD) (x : PyData) : U × Sto → Option DOut
  | (.d (.int i), st) => if kd.length < lim then some (.nx ev st (putD kd i x)) else none
  | _ => none
def dpu (fi : Nat) (ke : SE) (ev : Ev) (kd : KD) : U × Sto → Option DOut
  | (.d x, st) => (ke (vw fi kd ev) st).bind (dpu2 ev kd x)
  | _ => none
/-- d[k] = v -/
def dPut (fi : Nat) (ke ve : SE) : DS := fun ev st kd => (ve (vw fi kd ev) st).bind (dpu fi ke ev kd)
def dLoop (fi : Nat) (g : GT) (b : DS) : List PyData → DS
  | [], ev, st, kd => some (.nx ev st kd)
  | x :: xs, ev, st, kd => (g x ev).bind fun ev1 => if slotL fi ev1 = slotL fi ev ∧ noK ev1 = true then (b ev1 st kd).bind fun o => match o with
    | .nx ev' st' kd' => dLoop fi g b xs ev' st' kd'
    | .ct ev' st' kd' => dLoop fi g b xs ev' st' kd'
    | .bk ev' st' kd' => some (.nx ev' st' kd')
    | .rt w st' => some (.rt w st') else none
def dfr (fi : Nat) (g : GT) (b : DS) (ev : Ev) (kd : KD) : Src × Sto → Option DOut
  | (.fix xs, st) => dLoop fi g b xs ev st kd
  | _ => none
def dFor (fi : Nat) (it : SI) (g : GT) (b : DS) : DS := fun ev st kd => (it (vw fi kd ev) st).bind (dfr fi g b ev kd)

section
variable {X : Cx} {e c tg iter : Expr} {s : Stmt} {ss ts : List Stmt} {pos : Pos} {ce : SE} {cb : SB} {a b : DS} {fi : Nat}
theorem dplain_ok {c : SS} {D : L2.Ends} {σ : L2.St} {H : Hp} (h : tDS X.K fi (dPlain fi c) D σ H) : tSS X.K c D σ H := by
  obtain ⟨ρ, F, ev, st, kd, k, p, ks, o, r, e, ok⟩ := h
  obtain ⟨o1, e1, e2⟩ := Option.bind_eq_some_iff.mp (show (c ev st).bind (dpl fi ev kd) = some o from e)
  refine ⟨ρ, F, ev, st, o1, r.hr, r.sr, e1, ?_⟩
  cases o1 with
  | rt w st' =>
    cases e2
    exact fun v ρ' F' H' x hr wr => ok v ρ' F' H' (.of x) hr wr
  | nx ev' st' =>
    simp only [dpl] at e2
    split at e2
    · rename_i hc
      cases e2
      exact fun σ' ρ' F' H' x hr sr => ok σ' ρ' F' H' _ (.of x) (r.go x hr sr hc.1 hc.2)
    · cases e2
  | bk ev' st' =>
    simp only [dpl] at e2
    split at e2
    · rename_i hc
      cases e2
      exact fun σ' ρ' F' H' x hr sr => ok σ' ρ' F' H' _ (.of x) (r.go x hr sr hc.1 hc.2)
    · cases e2
  | ct ev' st' =>
    simp only [dpl] at e2
    split at e2
    · rename_i hc
      cases e2
      exact fun σ' ρ' F' H' x hr sr => ok σ' ρ' F' H' _ (.of x) (r.go x hr sr hc.1 hc.2)
    · cases e2
theorem d_plain {c : SS} (h : PS X s (tSS X.K c)) : PS X s (tDS X.K fi (dPlain fi c)) := h.weak fun _ _ _ q => dplain_ok q
theorem d_nil : PSs X [] (tDS X.K fi dSkip) := pss_nil.weak fun D σ H ⟨ρ, F, ev, st, kd, k, p, ks, o, r, e, ok⟩ => by
  cases e
  exact ok σ ρ F H ks .refl r
theorem d_one (h : PS X s (tDS X.K fi a)) : PSs X [s] (tDS X.K fi a) := pss_one h
theorem d_cons (h1 : PS X s (tDS X.K fi a)) (h2 : PSs X ss (tDS X.K fi b)) : PSs X (s :: ss) (tDS X.K fi (dSeq a b)) := (pss_cons h1 h2).weak fun D σ H ⟨ρ, F, ev, st, kd, k, p, ks, o, r, e, ok⟩ => by
  obtain ⟨o1, e1, e2⟩ := Option.bind_eq_some_iff.mp (show (a ev st kd).bind (dsq b) = some o from e)
  refine ⟨ρ, F, ev, st, kd, k, p, ks, o1, r, e1, ?_⟩
  cases o1 with
  | nx ev' st' kd' => exact fun σ' ρ' F' H' ks' x r' => ⟨ρ', F', ev', st', kd', k, p, ks', o, r', e2, ok.mono x⟩
  | rt w st' => cases e2; exact ok
  | bk ev' st' kd' => cases e2; exact ok
  | ct ev' st' kd' => cases e2; exact ok
theorem d_if (hc : PT X c (tT X.K cb)) (ha : PSs X ss (tDS X.K fi a)) (hb : PSs X ts (tDS X.K fi b)) : PS X (.If c ss ts pos) (tDS X.K fi (dIf fi cb a b)) := (ps_if hc ha hb).weak fun D σ H ⟨ρ, F, ev, st, kd, k, p, ks, o, r, e, ok⟩ => by
  obtain ⟨⟨t, st1⟩, e1, e2⟩ := Option.bind_eq_some_iff.mp (show (cb (vw fi kd ev) st).bind (dif a b ev kd) = some o from e)
  refine ⟨ρ, F, _, st, t, st1, r.hr, r.view, e1, fun ρ' F' H' x h => ?_⟩
  cases t with
  | true => exact ⟨ρ', F', ev, st1, kd, k, p, ks, o, r.stay x h, e2, ok.mono (.of x)⟩
  | false => exact ⟨ρ', F', ev, st1, kd, k, p, ks, o, r.stay x h, e2, ok.mono (.of x)⟩
theorem d_ret (he : PE X e (tI X.K ce)) : PS X (.Return (some e) pos) (tDS X.K fi (dRet fi ce)) := (ps_ret he).weak fun D σ H ⟨ρ, F, ev, st, kd, k, p, ks, o, r, e, ok⟩ => by
  obtain ⟨⟨w, st1⟩, e1, e2⟩ := Option.bind_eq_some_iff.mp (show (ce (vw fi kd ev) st).bind drt = some o from e)
  have eo : some (DOut.rt w st1) = some o := by
    cases w with
    | k kd => cases e2
    | _ => exact e2
  cases eo
  exact ⟨ρ, F, _, st, w, st1, r.hr, r.view, e1, fun v ρ' F' H' x h wr => ok v ρ' F' H' (.of x) h wr⟩
theorem d_set {i : Nat} {x : Str} {pos' : Pos} (hN : X.N.Nodup) (hi : X.N[i]? = some x) (hx : Loc X.env.scope x) (he : PE X e (tI X.K ce)) (hs : swapsWith e (some (.Name x pos')) pos.line X.env = pure false := by rfl) (hf : X.fn x = true ∨ X.env.scope.names.lookup x = some .local := by first | exact .inl rfl | exact .inr rfl | assumption) :
    PS X (.Assign [.Name x pos'] e pos) (tDS X.K fi (dSet fi i ce)) := (ps_set hN hi hx he hs hf).weak fun D σ H ⟨ρ, F, ev, st, kd, k, p, ks, o, r, e, ok⟩ => by
  obtain ⟨⟨w, st1⟩, e1, e2⟩ := Option.bind_eq_some_iff.mp (show (ce (vw fi kd ev) st).bind (dst fi i ev kd) = some o from e)
  have hw : (∀ kd, w ≠ .k kd) ∧ i ≠ fi ∧ DOut.nx (ev.set i (some w)) st1 kd = o := by
    cases w with
    | k kd => cases e2
    | _ =>
      simp only [dst] at e2
      split at e2
      · cases e2
      · rename_i hi
        exact ⟨fun _ z => (nomatch z), hi, Option.some.inj e2⟩
  obtain ⟨w1, w2, w3⟩ := hw
  subst w3
  refine ⟨ρ, F, _, st, w, st1, r.hr, r.view, e1, fun v ρ' F' H' x h wr => ok _ ρ' F' H' ks (.of x) (r.go x h ((r.sr.mono x).set wr i) ?_ ?_)⟩
  · unfold slotL
    rw [List.getElem?_set_ne w2]
  · refine List.all_eq_true.mpr fun u hu => ?_
    rcases List.mem_or_eq_of_mem_set hu with h1 | h1
    · exact List.all_eq_true.mp r.nk u h1
    · subst h1
      cases w with
      | k kd => exact absurd rfl (w1 kd)
      | _ => rfl
theorem d_put {ko : Expr} {x : Str} {ck cv : SE} {pn pos' : Pos} {value : Expr} (hu : X.A.units + 1 < cLine) (hN : X.N[fi]? = some x) (hv : Vis X.env.scope x) (hd : (x == ("__debug__" : Str)) = false) (hcd : (x == ("__classdict__" : Str)) = false)
    (hk : PE X ko (tI X.K ck)) (he : PE X value (tI X.K cv)) (hs : swapsWith value (some (.Subscript (.Name x pn) ko pos')) pos.line X.env = pure false := by rfl) :
    PS X (.Assign [.Subscript (.Name x pn) ko pos'] value pos) (tDS X.K fi (dPut fi ck cv)) := (ps_dput hu (pe_var hN hv hd hcd) hk he hs).weak fun D σ H ⟨ρ, F, ev, st, kd, k, p, ks, o, r, e, ok⟩ => by
  obtain ⟨⟨w, st1⟩, e1, e2⟩ := Option.bind_eq_some_iff.mp (show (cv (vw fi kd ev) st).bind (dpu fi ck ev kd) = some o from e)
  cases w with
  | d z =>
    obtain ⟨⟨w2, st2⟩, e3, e4⟩ := Option.bind_eq_some_iff.mp (show (ck (vw fi kd ev) st1).bind (dpu2 ev kd z) = some o from e2)
    refine ⟨ρ, F, _, st, _, st1, r.hr, r.view, e1, fun v ρ1 F1 H1 x1 h1 wr1 => ⟨_, r.slot, ρ1, F1, _, st1, w2, st2, h1, (r.stay x1 h1).view, e3, fun y ρ2 F2 H2 x2 h2 wr2 => ?_⟩⟩
    cases w2 with
    | d q =>
      cases q with
      | int i =>
        simp only [dpu2] at e4
        split at e4
        · rename_i hl
          cases e4
          cases (show Dq F2 y (.int i) from wr2)
          have r2 := (r.stay x1 h1).stay x2 h2
          have dv : Dq F2 v z := Dq.mono x2.same wr1
          refine ⟨p, _, rfl, DPut.k (k := Sum.inl i) (h2.sub _ _ r2.fp) ?_, ok σ ρ2 _ _ _ ((ExtP.of (x1.trans x2)).trans ExtP.put) (r2.put dv)⟩
          rw [r2.kr.length]
          exact Nat.lt_of_lt_of_le hl (lim_le (Nat.le_refl _))
        · cases e4
      | _ => cases e4
    | _ => cases e4
  | _ => cases e2
theorem DOk.loop {K : PySem.W.Frag} {ρ : List Addr} {F : Hp} {k : Nat} {p : Addr} {D : L2.Ends} {N : L2.St → Hp → Prop} {o o' : DOut}
    (hn : ∀ ev st kd, (o = .nx ev st kd ∨ o = .ct ev st kd) → ∀ σ' ρ' F' H' ks', ExtP p ρ F ρ' F' → DR K ρ' F' H' st ev σ' fi k p ks' kd → N σ' H')
    (hb : ∀ ev st kd, o = .bk ev st kd → o' = .nx ev st kd) (hr : ∀ w st, o = .rt w st → o' = .rt w st) (ok : DOk K ρ F fi k p D o') : DOk K ρ F fi k p { D with nx := N, ct := N, bk := D.nx } o := by
  cases o with
  | nx ev st kd => exact hn ev st kd (.inl rfl)
  | ct ev st kd => exact hn ev st kd (.inr rfl)
  | bk ev st kd => rw [hb ev st kd rfl] at ok; exact ok
  | rt w st => rw [hr w st rfl] at ok; exact ok
theorem dfor_ok {g : GT} {ci : SI} {zs : List Nat} {D : L2.Ends} {σ : L2.St} {H : Hp} (h : tDS X.K fi (dFor fi ci g b) D σ H) : tFor (tIt X.K ci) (tG X.K zs g) (tDS X.K fi b) D σ H := by
  obtain ⟨ρ, F, ev, st, kd, k, p, ks, o, r, e, ok⟩ := h
  obtain ⟨⟨src, st'⟩, e1, e2⟩ := Option.bind_eq_some_iff.mp (show (ci (vw fi kd ev) st).bind (dfr fi g b ev kd) = some o from e)
  refine ⟨ρ, F, _, st, src, st', r.hr, r.view, e1, fun J ρ' F' H' x hr' y => ?_⟩
  cases src with
  | cell n => cases e2
  | fix xs =>
    have r' := r.stay x hr'
    refine ⟨fun i m σ H => m = xs.length - i ∧ i ≤ xs.length ∧ ∃ ρ1 F1 ev1 st1 kd1 ks1, ExtP p ρ' F' ρ1 F1 ∧ DR X.K ρ1 F1 H st1 ev1 σ fi k p ks1 kd1 ∧ dLoop fi g b (xs.drop i) ev1 st1 kd1 = some o, ⟨xs.length, rfl, Nat.zero_le _, ρ', F', ev, st', kd, ks, .refl, r', e2⟩, ?_⟩
    rintro i m σ1 H1 ⟨rfl, hi, ρ1, F1, ev1, st1, kd1, ks1, x1, r1, e3⟩
    obtain ⟨yg, ys⟩ := y F1 H1 (x1.samD r'.fp) r1.hr.sub
    by_cases hlt : i < xs.length
    · rw [List.drop_eq_getElem_cons hlt] at e3
      simp only [dLoop, Option.bind_eq_some_iff] at e3
      obtain ⟨ev2, e4, e5⟩ := e3
      split at e5
      · rename_i hc
        obtain ⟨o1, e6, e7⟩ := Option.bind_eq_some_iff.mp e5
        obtain ⟨go, yl⟩ := yg i xs[i] (List.getElem?_eq_getElem hlt)
        refine .inr ⟨go, fun σ H => ∃ ρ1 F1 ev1 st1 kd1 ks1, ExtP p ρ' F' ρ1 F1 ∧ DR X.K ρ1 F1 H st1 ev1 σ fi k p ks1 kd1 ∧ dLoop fi g b (xs.drop (i + 1)) ev1 st1 kd1 = some o, fun σ' H' w => ⟨xs.length - (i + 1), by omega, rfl, hlt, w⟩, fun v H2 yv => ?_⟩
        obtain ⟨F2, gr, d⟩ := yl v H2 yv
        have x2 : Ext ρ1 F1 ρ1 F2 := .of gr
        refine ⟨ρ1, F2, ev1, xs[i], ev2, gr.fh, r1.sr.mono x2, d, e4, fun σ3 sr3 _ => ⟨ρ1, F2, ev2, st1, kd1, k, p, ks1, o1, r1.go x2 (r1.hr.grow gr) sr3 hc.1 hc.2, e6, ?_⟩⟩
        have x12 : ExtP p ρ' F' ρ1 F2 := x1.trans (.of x2)
        refine DOk.loop (o' := o) (fun ev' st'' kd'' q σ' ρ'' F'' H'' ks'' x' r'' => ⟨ρ'', F'', ev', st'', kd'', ks'', x12.trans x', r'', ?_⟩) (fun ev' st'' kd'' q => ?_) (fun w st'' q => ?_) (ok.mono ((ExtP.of x).trans x12))
        · rcases q with q | q <;> (subst q; exact e7)
        · subst q; cases e7; rfl
        · subst q; cases e7; rfl
      · cases e5
    · have hx : i = xs.length := by omega
      subst hx
      rw [List.drop_length] at e3
      cases e3
      exact .inl ⟨ys, ok _ ρ1 F1 H1 ks1 ((ExtP.of x).trans x1) r1⟩
theorem d_for {g : GT} {ci : SI} {zs : List Nat} (hp : PassesOwn (model X.prog X.w) X.A X.env X.xe) (hc : X.calm = true) (hi : PI X tg iter (tIt X.K ci)) (hg : PG X tg (tG X.K zs g)) (hb : PSs X ss (tDS X.K fi b))
    (hs : ∀ x, foldedSetIterable iter X.env x = pure x := by exact fun _ => rfl) : PS X (.For tg iter ss [] pos) (tDS X.K fi (dFor fi ci g b)) := (ps_for hp hc hi hg hb hs).weak fun _ _ _ h => dfor_ok h
end

/-! ### reading -/
def gk2 (kd : KD) : U × Sto → Option (U × Sto)
  | (.d (.int i), st) => (getK kd i).map fun x => (.d x, st)
  | _ => none
def gk1 (b : SE) (ev : Ev) : U × Sto → Option (U × Sto)
  | (.k kd, st) => (b ev st).bind (gk2 kd)
  | _ => none
/-- d[k] -/
def cGetK (a b : SE) : SE := fun ev st => (a ev st).bind (gk1 b ev)
def sk1 : List U × Sto → Option (U × Sto)
  | ([.k kd], st) => if kd.length < 64 then some (.d (.list ((sortI (kd.map (·.1))).map .int)), st) else none
  | _ => none
/-- sorted(d) -/
def cSortK (a : SA) : SE := fun ev st => (a ev st).bind sk1
section
variable {X : Cx} {a b e : Expr} {es : List Expr} {ca cb : SE} {sa : SA} {p pos : Pos}
theorem se_getK (hu : X.A.units + 1 < cLine) (ha : PE X a (tI X.K ca)) (hb : PE X b (tI X.K cb)) (hs : NoSl b := by exact fun _ _ => rfl) : PE X (.Subscript a b pos) (tI X.K (cGetK ca cb)) :=
  (pe_dget hu ha hb hs).weak fun σ H Q ⟨ρ, F, ev, st, w, st', hr, sr, e, post⟩ => by
    obtain ⟨⟨w1, st1⟩, e1, e2⟩ := Option.bind_eq_some_iff.mp (show (ca ev st).bind (gk1 cb ev) = some (w, st') from e)
    cases w1 with
    | k kd =>
      obtain ⟨⟨w2, st3⟩, e3, e4⟩ := Option.bind_eq_some_iff.mp (show (cb ev st1).bind (gk2 kd) = some (w, st') from e2)
      cases w2 with
      | d q =>
        cases q with
        | int i =>
          obtain ⟨x, e5, e6⟩ := Option.map_eq_some_iff.mp e4
          cases e6
          refine ⟨ρ, F, ev, st, _, st1, hr, sr, e1, fun v1 ρ1 F1 H1 x1 hr1 wr1 => ⟨ρ1, F1, ev, st1, _, _, hr1, sr.mono x1, e3, fun v2 ρ2 F2 H2 x2 hr2 wr2 => ?_⟩⟩
          obtain ⟨ad, ks, k1, k2, k3⟩ := WR.mono x2 wr1
          cases (show Dq F2 v2 (.int i) from wr2)
          obtain ⟨v, k4, k5⟩ := k3.get e5
          refine ⟨ad, v, k1, ?_, post v ρ2 F2 H2 (x1.trans x2) hr2 k5⟩
          have g := DGet.k (k := Sum.inl i) (hr2.sub _ _ k2)
          rw [k4] at g
          exact g
        | _ => cases e4
      | _ => cases e4
    | _ => cases e2
theorem se_sortK (hc : X.calm = true) (hg : Gl X "sorted") (hm : X.mg "sorted" = none) (ha : PA X (e :: es) (tA X.K sa))
    (he : starEach (e :: es) X.env = (false, eval e X.env) :: starEach es X.env := by rfl) (hpl : (backTo pos (starEach es X.env)).any (·.1) = false := by rfl) : PE X (.Call (.Name "sorted" p) (e :: es) [] pos) (tI X.K (cSortK sa)) :=
  (pe_callB (call_sortedDI hc) hg hm PyProof.Rows.boot_sorted ha (by decide) (by decide) he hpl).weak fun σ H Q ⟨ρ, F, ev, st, w, st', hr, sr, e, post⟩ => by
    obtain ⟨⟨ws, st1⟩, e1, e2⟩ := Option.bind_eq_some_iff.mp (show (sa ev st).bind sk1 = some (w, st') from e)
    refine ⟨ρ, F, ev, st, ws, st1, hr, sr, e1, fun vs ρ' F' H' x h r => ?_⟩
    unfold sk1 at e2
    split at e2
    · rename_i kd st2 q
      cases q
      split at e2
      · rename_i hl
        cases e2
        cases r with
        | cons w1 t =>
          cases t
          obtain ⟨ad, ks, k1, k2, k3⟩ := w1
          subst k1
          refine ⟨ad, ks, kd.map (·.1), rfl, .inl (h.sub _ _ k2), k3.keys, by simpa using hl, fun ys p z1 z2 np => ?_⟩
          have ey := sortI_uniq z1 z2
          rw [← ey] at post
          exact (post.grow x h).lst h.sub DqA.ints p np
      · cases e2
    · cases e2
end

/-! ### laying: {} among the values of a row of names -/
def cNewK : SE := fun _ st => some (.l st.length, st ++ [none])
def tAK (K : PySem.W.Frag) (j : Nat) (sa : SA) : TA := fun σ H Q => ∃ ρ F ev st ws st' k, HR ρ F H st ∧ SR K ρ F ev σ ∧ sa ev st = some (ws, st') ∧ ws[j]? = some (.l k) ∧
  ∀ vs ρ' F' H' p, Ext ρ F ρ' F' → HR ρ' F' H' st' → WRs K ρ' F' vs ws → F p = none → ρ'[k]? = some p → F' p = some (.dK []) → Q vs H'
def dEnd : DOut → Option Out
  | .rt w st => some (.rt w st)
  | .nx ev st _ => some (.nx ev st)
  | _ => none
def lk : Option U → Option Nat
  | some (.l k) => some k
  | _ => none
def putUs (is : List Nat) (ev : Ev) (ws : List U) : Ev := (is.zip ws).foldl (fun ev q => ev.set q.1 (some q.2)) ev
def dgo2 (is : List Nat) (j : Nat) (rest : DS) (ev : Ev) (ws : List U) (st : Sto) : Option Nat → Option Out
  | some k => if ws.length = is.length ∧ slotL (is.getD j 0) (putUs is ev ws) = some k ∧ noK (putUs is ev ws) = true then (rest (putUs is ev ws) st []).bind dEnd else none
  | none => none
def dgo (is : List Nat) (j : Nat) (rest : DS) (ev : Ev) : List U × Sto → Option Out := fun q => dgo2 is j rest ev q.1 q.2 (lk q.1[j]?)
/-- x, .. = e, ..; rest of the def: the j-th value is {} -/
def dB (is : List Nat) (j : Nat) (sa : SA) (rest : DS) : SS := fun ev st => (sa ev st).bind (dgo is j rest ev)
section
variable {X : Cx} {e : Expr} {es : List Expr} {ce : SE} {r sa : SA} {pos : Pos} {j : Nat}
theorem ak_here {dp : Pos} (hr : PA X es (tA X.K r)) (hs : starEach (.Dict [] [] dp :: es) X.env = (false, eval (.Dict [] [] dp) X.env) :: starEach es X.env := by rfl) : PA X (.Dict [] [] dp :: es) (tAK X.K 0 (cCons cNewK r)) :=
  (pa_cons pe_dnewK hr hs).weak fun σ H Q ⟨ρ, F, ev, st, ws, st', k, hr, sr, e, hk, q⟩ => by
    simp only [cCons, cNewK, Option.bind_some, Option.map_eq_some_iff] at e
    obtain ⟨⟨us, st2⟩, e1, e2⟩ := e
    cases e2
    cases hk
    intro p np
    have nf : F p = none := hr.sub.free np
    have x0 : Ext ρ F (ρ ++ [p]) (upd F p (.dK [])) := .pushN nf
    have hp : (ρ ++ [p])[st.length]? = some p := by
      rw [List.getElem?_append_right (by rw [hr.len]; exact Nat.le_refl _), hr.len]
      simp
    refine ⟨ρ ++ [p], upd F p (.dK []), ev, st ++ [none], us, st2, hr.pushN np, sr.mono x0, e1, fun vs ρ2 F2 H2 x2 hr2 wr2 => ?_⟩
    exact q _ ρ2 F2 H2 p (x0.trans x2) hr2 (.cons ⟨p, x2.pre _ _ hp, rfl⟩ wr2) nf (x2.pre _ _ hp) (x2.same _ _ upd_same)
theorem ak_there (he : PE X e (tI X.K ce)) (hr : PA X es (tAK X.K j r)) (hs : starEach (e :: es) X.env = (false, eval e X.env) :: starEach es X.env := by rfl) : PA X (e :: es) (tAK X.K (j + 1) (cCons ce r)) :=
  (pa_cons he hr hs).weak fun σ H Q ⟨ρ, F, ev, st, ws, st', k, hr, sr, e, hk, q⟩ => by
    simp only [cCons, Option.bind_eq_some_iff, Option.map_eq_some_iff] at e
    obtain ⟨⟨w1, st1⟩, e1, ⟨us, st2⟩, e2, e3⟩ := e
    cases e3
    refine ⟨ρ, F, ev, st, w1, st1, hr, sr, e1, fun v1 ρ1 F1 H1 x1 hr1 wr1 => ⟨ρ1, F1, ev, st1, us, st2, k, hr1, sr.mono x1, e2, by simpa using hk, fun vs ρ2 F2 H2 p x2 hr2 wr2 n1 n2 n3 => ?_⟩⟩
    exact q _ ρ2 F2 H2 p (x1.trans x2) hr2 (.cons (wr1.mono x2) wr2) (x1.same.free n1) n2 n3
theorem dgo_ok {is : List Nat} {rest : DS} {ev : Ev} {st : Sto} {o : Out} (e : dB is j sa rest ev st = some o) : ∃ ws st' k, sa ev st = some (ws, st') ∧ ws[j]? = some (.l k) ∧ ws.length = is.length ∧ slotL (is.getD j 0) (putUs is ev ws) = some k ∧ noK (putUs is ev ws) = true ∧ (rest (putUs is ev ws) st' []).bind dEnd = some o := by
  obtain ⟨⟨ws, st'⟩, e1, e2⟩ := Option.bind_eq_some_iff.mp (show (sa ev st).bind (dgo is j rest ev) = some o from e)
  have e3 : dgo2 is j rest ev ws st' (lk ws[j]?) = some o := e2
  cases h : lk ws[j]? with
  | none =>
    rw [h] at e3
    cases e3
  | some k =>
    rw [h] at e3
    simp only [dgo2] at e3
    have hk : ws[j]? = some (.l k) := by
      unfold lk at h
      split at h
      · rename_i n q
        cases h
        exact q
      · cases h
    split at e3
    · rename_i hq
      exact ⟨ws, st', k, e1, hk, hq.1, hq.2.1, hq.2.2, e3⟩
    · cases e3
/-- behind the names are set -/
theorem d_start {K : PySem.W.Frag} {ρ ρ' : List Addr} {F F' H' : Hp} {ev' : Ev} {σ' : L2.St} {st' : Sto} {p : Addr} {fi k : Nat} {rest : DS} {D : L2.Ends} {o : Out} (x : Ext ρ F ρ' F') (hr : HR ρ' F' H' st') (sr : SR K ρ' F' ev' σ') (n1 : F p = none) (n2 : ρ'[k]? = some p) (n3 : F' p = some (.dK []))
    (hs : slotL fi ev' = some k) (nk : noK ev' = true) (e : (rest ev' st' []).bind dEnd = some o) (ok : OutOk K ρ F D o) : tDS K fi rest D σ' H' := by
  obtain ⟨o1, e1, e2⟩ := Option.bind_eq_some_iff.mp e
  refine ⟨ρ', F', ev', st', [], k, p, [], o1, ⟨hr, sr, slotL_get hs, n2, n3, .nil, nk⟩, e1, ?_⟩
  have x2 : ∀ {ρ2 : List Addr} {F2 : Hp}, ExtP p ρ' F' ρ2 F2 → Ext ρ F ρ2 F2 := fun y => ((ExtP.of x).trans y).ext n1
  cases o1 with
  | rt w st => cases e2; exact fun v ρ2 F2 H2 y hr2 wr => ok v ρ2 F2 H2 (x2 y) hr2 wr
  | nx ev st kd => cases e2; exact fun σ2 ρ2 F2 H2 ks2 y r2 => ok σ2 ρ2 F2 H2 (x2 y) r2.hr r2.sr
  | bk ev st kd => cases e2
  | ct ev st kd => cases e2
theorem d_par2 {i l : Nat} {x y : Str} {a b : Expr} {ss : List Stmt} {rest : DS} {px py pt : Pos} {kt k2 pt2} (hc : X.calm = true) (hN : X.N.Nodup) (hi : X.N[i]? = some x) (hl : X.N[l]? = some y) (hil : i ≠ l)
    (hx : X.env.scope.names.lookup x = some .local) (hy : X.env.scope.names.lookup y = some .local) (ha : PA X [a, b] (tAK X.K j sa))
    (hw : Swaps X (.Tuple [.Name x px, .Name y py] kt pt) (.Tuple [a, b] k2 pt2) (some [x, y])) (hb : PSs X ss (tDS X.K (([i, l] : List Nat).getD j 0) rest)) (hs : NoSole X (.Tuple [.Name x px, .Name y py] kt pt) (.Tuple [a, b] k2 pt2) pos := by rfl) :
    PSs X (.Assign [.Tuple [.Name x px, .Name y py] kt pt] (.Tuple [a, b] k2 pt2) pos :: ss) (tSS X.K (dB [i, l] j sa rest)) := (pss_cons (ps_par hc hN hi hl hil hx hy ha hw hs) hb).weak fun D σ H ⟨ρ, F, ev, st, o, hr, sr, e, ok⟩ => by
  obtain ⟨ws, st', k, e1, hk, q1, q2, q3, e2⟩ := dgo_ok e
  refine ⟨ρ, F, ev, st, ws, st', k, hr, sr, e1, hk, fun vs ρ' F' H' p x hr' wr n1 n2 n3 => ?_⟩
  cases wr with
  | nil => cases q1
  | cons w1 t =>
    cases t with
    | nil => cases q1
    | cons w2 t =>
      cases t with
      | nil => exact ⟨_, _, rfl, d_start x hr' (((sr.mono x).set w1 i).set w2 l) n1 n2 n3 q2 q3 e2 ok⟩
      | cons w3 t => simp at q1
theorem d_par3 {i l m : Nat} {x y z : Str} {a b c : Expr} {ss : List Stmt} {rest : DS} {px py pz pt : Pos} {kt k2 pt2} (hc : X.calm = true) (hN : X.N.Nodup) (hi : X.N[i]? = some x) (hl : X.N[l]? = some y) (hm : X.N[m]? = some z) (hil : i ≠ l) (him : i ≠ m) (hlm : l ≠ m)
    (hx : X.env.scope.names.lookup x = some .local) (hy : X.env.scope.names.lookup y = some .local) (hz : X.env.scope.names.lookup z = some .local) (ha : PA X [a, b, c] (tAK X.K j sa))
    (hw : Swaps X (.Tuple [.Name x px, .Name y py, .Name z pz] kt pt) (.Tuple [a, b, c] k2 pt2) (some [x, y, z])) (hb : PSs X ss (tDS X.K (([i, l, m] : List Nat).getD j 0) rest)) (hs : NoSole X (.Tuple [.Name x px, .Name y py, .Name z pz] kt pt) (.Tuple [a, b, c] k2 pt2) pos := by rfl) :
    PSs X (.Assign [.Tuple [.Name x px, .Name y py, .Name z pz] kt pt] (.Tuple [a, b, c] k2 pt2) pos :: ss) (tSS X.K (dB [i, l, m] j sa rest)) := (pss_cons (ps_par3 hc hN hi hl hm hil him hlm hx hy hz ha hw hs) hb).weak fun D σ H ⟨ρ, F, ev, st, o, hr, sr, e, ok⟩ => by
  obtain ⟨ws, st', k, e1, hk, q1, q2, q3, e2⟩ := dgo_ok e
  refine ⟨ρ, F, ev, st, ws, st', k, hr, sr, e1, hk, fun vs ρ' F' H' p x hr' wr n1 n2 n3 => ?_⟩
  cases wr with
  | nil => cases q1
  | cons w1 t =>
    cases t with
    | nil => cases q1
    | cons w2 t =>
      cases t with
      | nil => cases q1
      | cons w3 t =>
        cases t with
        | nil => exact ⟨_, _, _, rfl, d_start x hr' ((((sr.mono x).set w1 i).set w2 l).set w3 m) n1 n2 n3 q2 q3 e2 ok⟩
        | cons w4 t => simp at q1
end

/-! ### lazy stepping -/
@[simp] theorem dPlain_ap (fi : Nat) (c : SS) (ev : Ev) (st : Sto) (kd : KD) : dPlain fi c ev st kd = (c ev st).bind (dpl fi ev kd) := rfl
@[simp] theorem dpl_nx (fi : Nat) (ev ev' : Ev) (st : Sto) (kd : KD) : dpl fi ev kd (.nx ev' st) = if slotL fi ev' = slotL fi ev ∧ noK ev' = true then some (.nx ev' st kd) else none := rfl
@[simp] theorem dpl_rt (fi : Nat) (ev : Ev) (w : U) (st : Sto) (kd : KD) : dpl fi ev kd (.rt w st) = some (.rt w st) := rfl
@[simp] theorem dSkip_ap (ev : Ev) (st : Sto) (kd : KD) : dSkip ev st kd = some (.nx ev st kd) := rfl
@[simp] theorem dSeq_ap (a b : DS) (ev : Ev) (st : Sto) (kd : KD) : dSeq a b ev st kd = (a ev st kd).bind (dsq b) := rfl
@[simp] theorem dsq_nx (b : DS) (ev : Ev) (st : Sto) (kd : KD) : dsq b (.nx ev st kd) = b ev st kd := rfl
@[simp] theorem dsq_rt (b : DS) (w : U) (st : Sto) : dsq b (.rt w st) = some (.rt w st) := rfl
@[simp] theorem dIf_ap (fi : Nat) (t : SB) (a b : DS) (ev : Ev) (st : Sto) (kd : KD) : dIf fi t a b ev st kd = (t (vw fi kd ev) st).bind (dif a b ev kd) := rfl
@[simp] theorem dif_ap (a b : DS) (ev : Ev) (kd : KD) (t : Bool) (st : Sto) : dif a b ev kd (t, st) = if t = true then a ev st kd else b ev st kd := rfl
@[simp] theorem dRet_ap (fi : Nat) (e : SE) (ev : Ev) (st : Sto) (kd : KD) : dRet fi e ev st kd = (e (vw fi kd ev) st).bind drt := rfl
@[simp] theorem drt_d (x : PyData) (st : Sto) : drt (.d x, st) = some (.rt (.d x) st) := rfl
@[simp] theorem drt_l (n : Nat) (st : Sto) : drt (.l n, st) = some (.rt (.l n) st) := rfl
@[simp] theorem dSet_ap (fi i : Nat) (e : SE) (ev : Ev) (st : Sto) (kd : KD) : dSet fi i e ev st kd = (e (vw fi kd ev) st).bind (dst fi i ev kd) := rfl
@[simp] theorem dst_d (fi i : Nat) (ev : Ev) (kd : KD) (x : PyData) (st : Sto) : dst fi i ev kd (.d x, st) = if i = fi then none else some (.nx (ev.set i (some (.d x))) st kd) := rfl
@[simp] theorem dst_l (fi i : Nat) (ev : Ev) (kd : KD) (n : Nat) (st : Sto) : dst fi i ev kd (.l n, st) = if i = fi then none else some (.nx (ev.set i (some (.l n))) st kd) := rfl
@[simp] theorem dPut_ap (fi : Nat) (ke ve : SE) (ev : Ev) (st : Sto) (kd : KD) : dPut fi ke ve ev st kd = (ve (vw fi kd ev) st).bind (dpu fi ke ev kd) := rfl
@[simp] theorem dpu_d (fi : Nat) (ke : SE) (ev : Ev) (kd : KD) (x : PyData) (st : Sto) : dpu fi ke ev kd (.d x, st) = (ke (vw fi kd ev) st).bind (dpu2 ev kd x) := rfl
@[simp] theorem dpu2_i (ev : Ev) (kd : KD) (x : PyData) (i : Int) (st : Sto) : dpu2 ev kd x (.d (.int i), st) = if kd.length < lim then some (.nx ev st (putD kd i x)) else none := rfl
@[simp] theorem dFor_ap (fi : Nat) (it : SI) (g : GT) (b : DS) (ev : Ev) (st : Sto) (kd : KD) : dFor fi it g b ev st kd = (it (vw fi kd ev) st).bind (dfr fi g b ev kd) := rfl
@[simp] theorem dfr_f (fi : Nat) (g : GT) (b : DS) (ev : Ev) (kd : KD) (xs : List PyData) (st : Sto) : dfr fi g b ev kd (.fix xs, st) = dLoop fi g b xs ev st kd := rfl
@[simp] theorem cNewK_ap (ev : Ev) (st : Sto) : cNewK ev st = some (.l st.length, ex st [none]) := rfl
@[simp] theorem dEnd_rt (w : U) (st : Sto) : dEnd (.rt w st) = some (.rt w st) := rfl
@[simp] theorem dEnd_nx (ev : Ev) (st : Sto) (kd : KD) : dEnd (.nx ev st kd) = some (.nx ev st) := rfl
@[simp] theorem dB_ap (is : List Nat) (j : Nat) (sa : SA) (rest : DS) (ev : Ev) (st : Sto) : dB is j sa rest ev st = (sa ev st).bind (dgo is j rest ev) := rfl
@[simp] theorem dgo_ap (is : List Nat) (j : Nat) (rest : DS) (ev : Ev) (ws : List U) (st : Sto) : dgo is j rest ev (ws, st) = dgo2 is j rest ev ws st (lk ws[j]?) := rfl
@[simp] theorem dgo2_s (is : List Nat) (j : Nat) (rest : DS) (ev : Ev) (ws : List U) (st : Sto) (k : Nat) : dgo2 is j rest ev ws st (some k) = if ws.length = is.length ∧ slotL (is.getD j 0) (putUs is ev ws) = some k ∧ noK (putUs is ev ws) = true then (rest (putUs is ev ws) st []).bind dEnd else none := rfl
@[simp] theorem lk_l (k : Nat) : lk (some (.l k)) = some k := rfl
@[simp] theorem putUs_nil (ev : Ev) (ws : List U) : putUs [] ev ws = ev := rfl
@[simp] theorem putUs_cons (i : Nat) (is : List Nat) (ev : Ev) (w : U) (ws : List U) : putUs (i :: is) ev (w :: ws) = putUs is (ev.set i (some w)) ws := rfl
@[simp] theorem vw_ap (fi : Nat) (kd : KD) (ev : Ev) : vw fi kd ev = ev.set fi (some (.k kd)) := rfl
def sl1 : Option (Option U) → Option Nat
  | some (some (.l n)) => some n
  | _ => none
@[simp] theorem sl1_l (n : Nat) : sl1 (some (some (.l n))) = some n := rfl
@[simp] theorem slotL_ap (fi : Nat) (ev : Ev) : slotL fi ev = sl1 ev[fi]? := rfl
def nk1 : Option U → Bool
  | some (.k _) => false
  | _ => true
@[simp] theorem nk1_n : nk1 none = true := rfl
@[simp] theorem nk1_d (x : PyData) : nk1 (some (.d x)) = true := rfl
@[simp] theorem nk1_l (n : Nat) : nk1 (some (.l n)) = true := rfl
@[simp] theorem nk1_m (o : Option PyData) : nk1 (o.map U.d) = true := by cases o <;> rfl
@[simp] theorem noK_nil : noK [] = true := rfl
@[simp] theorem noK_cons (w : Option U) (ws : Ev) : noK (w :: ws) = (nk1 w && noK ws) := by
  unfold noK
  rw [List.all_cons]
  congr 1
@[simp] theorem cGetK_ap (a b : SE) (ev : Ev) (st : Sto) : cGetK a b ev st = (a ev st).bind (gk1 b ev) := rfl
@[simp] theorem gk1_k (b : SE) (ev : Ev) (kd : KD) (st : Sto) : gk1 b ev (.k kd, st) = (b ev st).bind (gk2 kd) := rfl
@[simp] theorem gk2_i (kd : KD) (i : Int) (st : Sto) : gk2 kd (.d (.int i), st) = toD st (getK kd i) := by
  show (getK kd i).map (fun x => (U.d x, st)) = _
  exact toD_eq _ _
@[simp] theorem cSortK_ap (a : SA) (ev : Ev) (st : Sto) : cSortK a ev st = (a ev st).bind sk1 := rfl
@[simp] theorem sk1_k (kd : KD) (st : Sto) : sk1 ([.k kd], st) = if kd.length < 64 then some (.d (.list ((sortI (kd.map (·.1))).map .int)), st) else none := rfl
theorem dLoop_abs {T S : Type} {fi : Nat} {g : GT} {b : DS} (Θ : T → Prop) (evOf : T → S → Ev) (stOf : T → S → Sto) (kdOf : S → KD) (P : List PyData → S → Prop)
    (h : ∀ x xs s, P (x :: xs) s → ∃ s', P xs s' ∧ ∀ θ, Θ θ → ∃ ev1, g x (evOf θ s) = some ev1 ∧ (slotL fi ev1 = slotL fi (evOf θ s) ∧ noK ev1 = true) ∧ b ev1 (stOf θ s) (kdOf s) = some (.nx (evOf θ s') (stOf θ s') (kdOf s'))) :
    ∀ (xs : List PyData) (s : S), P xs s → ∃ s', P [] s' ∧ ∀ θ, Θ θ → dLoop fi g b xs (evOf θ s) (stOf θ s) (kdOf s) = some (.nx (evOf θ s') (stOf θ s') (kdOf s'))
  | [], s, p => ⟨s, p, fun θ _ => rfl⟩
  | x :: xs, s, p => by
    obtain ⟨s1, p1, e1⟩ := h x xs s p
    obtain ⟨s2, p2, e2⟩ := dLoop_abs Θ evOf stOf kdOf P h xs s1 p1
    refine ⟨s2, p2, fun θ t => ?_⟩
    obtain ⟨ev1, a1, a2, a3⟩ := e1 θ t
    simp only [dLoop, a1, Option.bind_some, if_pos a2, a3, e2 θ t]
theorem putD_len (kd : KD) (k : Int) (x : PyData) : (putD kd k x).length ≤ kd.length + 1 := by
  unfold putD
  split
  · rw [List.length_map]
    omega
  · rw [List.length_append]
    exact Nat.le_refl _
theorem putD_mem {kd : KD} {k : Int} {x : PyData} {q : Int × PyData} (h : q ∈ putD kd k x) : q = (k, x) ∨ ∃ q0 ∈ kd, q0.1 = q.1 ∧ (q0 = q ∨ q.2 = x) := by
  unfold putD at h
  split at h
  · obtain ⟨q0, h0, e⟩ := List.mem_map.mp h
    split at e
    · rename_i hk
      subst e
      exact .inr ⟨q0, h0, rfl, .inr rfl⟩
    · subst e
      exact .inr ⟨q0, h0, rfl, .inl rfl⟩
  · rcases List.mem_append.mp h with h | h
    · exact .inr ⟨q, h, rfl, .inl rfl⟩
    · exact .inl (List.mem_singleton.mp h)
theorem putD_nodup {kd : KD} {k : Int} {x : PyData} (h : (kd.map (·.1)).Nodup) : ((putD kd k x).map (·.1)).Nodup := by
  unfold putD
  split
  · have e : (kd.map fun q => if q.1 = k then (q.1, x) else q).map (·.1) = kd.map (·.1) := by
      rw [List.map_map]
      apply List.map_congr_left
      intro q _
      show (if q.1 = k then (q.1, x) else q).1 = q.1
      split <;> rfl
    rw [e]
    exact h
  · rename_i hn
    rw [List.map_append, List.nodup_append]
    refine ⟨h, by simp, fun a ha b hb => ?_⟩
    simp only [List.map_cons, List.map_nil, List.mem_singleton] at hb
    subst hb
    intro e
    subst e
    obtain ⟨q, hq, e⟩ := List.mem_map.mp ha
    exact hn (List.any_eq_true.mpr ⟨q, hq, by simpa using e⟩)
end Cm

set_option Elab.async false
set_option linter.all false
set_option maxRecDepth 100000
set_option maxHeartbeats 4000000
namespace My
open PySem PySem.Spec PyProof.Rows L2 Cm
/- slots of _law_box: 0 _law_script, 1 _law_k, 2 _law_cell -/
def b__law_box : SS :=
  (cSeq (cSet 2 (cIf (cB (cD2 fLt (cVar 1) (cCall fLen (cCons (cVar 0) cNil)))) (cD2 fIx (cVar 0) (cVar 1)) (cD (.int 0))))
  (cRet (cLstM (cCons (cD2s fMul (cCall fAbs (cCons (cVar 2) cNil)) (cCall fInt (cCons (cD2 fGe (cCall fAbs (cCons (cVar 2) cNil)) (cD2 fPow (cD (.int 10)) (cD (.int 18)))) cNil))) (cCons (cD2s fAdd (cD2s fAdd (cD2 fMod (cCall fInt (cCons (cVar 2) cNil)) (cD (.int 2305843009213693951))) (cD2s fMul (cD (.int 39373)) (cVar 1))) (cD (.int 937))) (cCons (cD (.int 0)) cNil))))))
def f__law_box : FS := defSO 3 b__law_box
/- slots of _law_same: 0 _law_got, 1 _law_due, 2 _law_mine, 3 _law_its -/
def b__law_same (g : FS) : SS :=
  (cSeq (cIfS (cTr (cIsi ["list", "tuple"] (cVar 1))) (cSeq (cIfS (bOr (cB (cD2 fNe (cIsi ["list"] (cVar 0)) (cIsi ["list"] (cVar 1)))) (cB (cD2 fNe (cIsi ["tuple"] (cVar 0)) (cIsi ["tuple"] (cVar 1))))) (cRet (cD (.bool false))) cSkip)
  (cRet (cAnd (cD2 fEq (cCall fLen (cCons (cVar 0) cNil)) (cCall fLen (cCons (cVar 1) cNil))) (cCall fAll (cCons (cLc (iZip2 (cCons (cVar 0) (cCons (cVar 1) cNil))) (gT (gsCons (gN 2) (gsCons (gN 3) gsNil))) bYes (cDef 2 g (cCons (cVar 2) (cCons (cVar 3) cNil))) [2, 3]) cNil))))) cSkip)
  (cSeq (cIfS (bOr (cB (cD2 fIs (cVar 1) (cD .none))) (cTr (cIsi ["bool", "str"] (cVar 1)))) (cRet (cAnd (cD2 fEq (cVar 0) (cVar 1)) (cAnd (cD2 fEq (cIsi ["bool"] (cVar 0)) (cIsi ["bool"] (cVar 1))) (cD2 fEq (cD2 fIs (cVar 0) (cD .none)) (cD2 fIs (cVar 1) (cD .none)))))) cSkip)
  (cRet (cAnd (cIsi ["int"] (cVar 0)) (cAnd (cNot (cIsi ["bool"] (cVar 0))) (cD2 fEq (cVar 0) (cVar 1)))))))
def f__law_same : Nat → FS
  | 0 => fNo
  | d + 1 => defS 4 (b__law_same (f__law_same d))
/- slots of ascends: 0 row, 1 one, 2 other -/
def b_ascends : SS :=
  (cRet (cCall fAll (cCons (cLc (iZip2 (cCons (cVar 0) (cCons (cSl (cVar 0) (oSome (cD (.int 1))) oNone) cNil))) (gT (gsCons (gN 1) (gsCons (gN 2) gsNil))) bYes (cD2 fLt (cVar 1) (cVar 2)) [1, 2]) cNil)))
def f_ascends : FS := defS 3 b_ascends
/- slots of is_number: 0 thing, 1 least -/
def b_is_number : SS :=
  (cRet (cAnd (cIsi ["int"] (cVar 0)) (cAnd (cNot (cIsi ["bool"] (cVar 0))) (cD2 fGe (cVar 0) (cVar 1)))))
def f_is_number : FS := defS 2 b_is_number
/- slots of is_tuple: 0 thing, 1 many -/
def b_is_tuple : SS :=
  (cRet (cAnd (cIsi ["tuple"] (cVar 0)) (cD2 fEq (cCall fLen (cCons (cVar 0) cNil)) (cVar 1))))
def f_is_tuple : FS := defS 2 b_is_tuple
/- slots of is_offer: 0 thing -/
def b_is_offer : SS :=
  (cRet (cAnd (cDef 2 f_is_tuple (cCons (cVar 0) (cCons (cD (.int 2)) cNil))) (cAnd (cDef 2 f_is_number (cCons (cD2 fIx (cVar 0) (cD (.int 0))) (cCons (cD (.int 1)) cNil))) (cDef 2 f_is_number (cCons (cD2 fIx (cVar 0) (cD (.int 1))) (cCons (cD (.int 0)) cNil))))))
def f_is_offer : FS := defS 1 b_is_offer
/- slots of is_offers: 0 thing, 1 limit, 2 price, 3 offer -/
def b_is_offers : SS :=
  (cSeq (cIfS (bOr (bNot (cTr (cIsi ["tuple"] (cVar 0)))) (bNot (cTr (cCall fAll (cCons (cLc (iSeq (cVar 0)) (gN 3) bYes (cDef 1 f_is_offer (cCons (cVar 3) cNil)) [3]) cNil))))) (cRet (cD (.bool false))) cSkip)
  (cRet (cDef 1 f_ascends (cCons (cLc (iSeq (cVar 0)) (gT (gsCons (gN 1) (gsCons (gN 2) gsNil))) bYes (cVar 1) [1, 2]) cNil))))
def f_is_offers : FS := defS 4 b_is_offers
/- slots of _law_by_hand_right: 0 _law_many_so, 1 _law_fine, 2 _law_odd, 3 _law_heard, 4 _law_k, 5 _law_own -/
def b__law_by_hand_right : SS :=
  (cSeq (cSet 0 (cCall fTuple (cCons (cLc (iRange2 (cCons (cD (.int 1)) (cCons (cD (.int 61)) cNil))) (gN 4) bYes (cTup (cCons (cVar 4) (cCons (cD (.int 0)) cNil))) [4]) cNil)))
  (cSeq (cSet 1 (cLst (cCons (cTup cNil) (cCons (cTup (cCons (cTup (cCons (cD (.int 1)) (cCons (cD (.int 0)) cNil))) cNil)) (cCons (cTup (cCons (cTup (cCons (cD (.int 3)) (cCons (cD (.int 5)) cNil))) (cCons (cTup (cCons (cD (.int 4)) (cCons (cD (.int 0)) cNil))) (cCons (cTup (cCons (cD (.int 9)) (cCons (cD2 fPow (cD (.int 10)) (cD (.int 64))) cNil))) cNil)))) (cCons (cTup (cCons (cTup (cCons (cD2 fPow (cD (.int 10)) (cD (.int 64))) (cCons (cD (.int 1)) cNil))) cNil)) (cCons (cVar 0) cNil)))))))
  (cSeq (cSet 2 (cLstM (cCons (cTup (cCons (cTup (cCons (cD (.int 0)) (cCons (cD (.int 1)) cNil))) cNil)) (cCons (cTup (cCons (cTup (cCons (cD (.int 3)) (cCons (cD2 fSub (cD (.int 0)) (cD (.int 1))) cNil))) cNil)) (cCons (cTup (cCons (cTup (cCons (cD (.int 3)) (cCons (cD (.int 1)) cNil))) (cCons (cTup (cCons (cD (.int 3)) (cCons (cD (.int 2)) cNil))) cNil))) (cCons (cTup (cCons (cTup (cCons (cD (.int 4)) (cCons (cD (.int 1)) cNil))) (cCons (cTup (cCons (cD (.int 3)) (cCons (cD (.int 1)) cNil))) cNil))) (cCons (cLst (cCons (cTup (cCons (cD (.int 3)) (cCons (cD (.int 1)) cNil))) cNil)) (cCons (cTup (cCons (cLst (cCons (cD (.int 3)) (cCons (cD (.int 1)) cNil))) cNil)) (cCons (cTup (cCons (cTup (cCons (cD (.int 3)) cNil)) cNil)) (cCons (cTup (cCons (cTup (cCons (cD (.int 3)) (cCons (cD (.int 1)) (cCons (cD (.int 1)) cNil)))) cNil)) cNil))))))))))
  (cSeq (cSet 2 (cAddM (cVar 2) (cLst (cCons (cD .none) (cCons (cTup (cCons (cTup (cCons (cD (.bool true)) (cCons (cD (.int 1)) cNil))) cNil)) (cCons (cTup (cCons (cTup (cCons (cD (.int 3)) (cCons (cD (.bool true)) cNil))) cNil)) (cCons (cTup (cCons (cTup (cCons (cD (.int 3)) (cCons (cD .none) cNil))) cNil)) (cCons (cTup (cCons (cTup (cCons (cD .none) (cCons (cD (.int 3)) cNil))) cNil)) (cCons (cTup (cCons (cD (.int 3)) (cCons (cD (.int 1)) cNil))) (cCons (cD (.int 3)) (cCons (cD (.str "")) (cCons (cTup (cCons (cTup (cCons (cD (.int 3)) (cCons (cTup (cCons (cD (.int 1)) cNil)) cNil))) cNil)) cNil))))))))))))
  (cSeq (cExpr (cM mAppend (cVar 2) (cCons (cD2s fAdd (cVar 0) (cTup (cCons (cTup (cCons (cD (.int 60)) (cCons (cD (.int 1)) cNil))) cNil))) cNil)))
  (cSeq (cSet 2 (cAddM (cVar 2) (cLst (cCons (cTup (cCons (cTup (cCons (cTup (cCons (cD (.int 3)) (cCons (cD (.int 1)) cNil))) cNil)) cNil)) (cCons (cTup (cCons (cTup (cCons (cD (.int 3)) (cCons (cD (.int 1)) cNil))) (cCons (cD .none) cNil))) (cCons (cTup (cCons (cTup (cCons (cD (.int 3)) (cCons (cD (.int 1)) cNil))) (cCons (cTup (cCons (cD (.int 4)) cNil)) cNil))) (cCons (cTup (cCons (cTup (cCons (cD (.int 3)) (cCons (cD (.str "1")) cNil))) cNil)) (cCons (cTup (cCons (cTup (cCons (cD2 fSub (cD (.int 0)) (cD (.int 3))) (cCons (cD (.int 1)) cNil))) cNil)) cNil))))))))
  (cSeq (cSet 3 (cD2s fAdd (cLc (iSeq (cD2s fAdd (cVar 1) (cVar 2))) (gN 5) bYes (cDef 1 f_is_offers (cCons (cVar 5) cNil)) [5]) (cLc (iSeq (cD2s fAdd (cVar 1) (cVar 2))) (gN 5) bYes (cDefK 1 0 1 [0] f_is_offers cNil (cCons (cVar 5) cNil)) [5])))
  (cRet (cDef 2 (f__law_same 16) (cCons (cVar 3) (cCons (cD2s fMul (cD2s fAdd (cD2s fMul (cLst (cCons (cD (.bool true)) cNil)) (cCall fLen (cCons (cVar 1) cNil))) (cD2s fMul (cLst (cCons (cD (.bool false)) cNil)) (cCall fLen (cCons (cVar 2) cNil)))) (cD (.int 2))) cNil)))))))))))
def f__law_by_hand_right : FS := defS 6 b__law_by_hand_right
/- slots of _law_cells: 0 _law_script, 1 _law_most_so, 2 _law_cells_here, 3 _law_k, 4 _law_cell, 5 _law_at_so -/
def b__law_cells : SS :=
  (cSeq (cSet 2 (cOr (cListM (cCons (cSl (cVar 0) oNone (oSome (cVar 1))) cNil)) (cLstM (cCons (cD (.int 0)) cNil))))
  (cSeq (cFor (iEnum1 (cCons (cSl (cVar 0) (oSome (cVar 1)) (oSome (cD (.int 63)))) cNil)) (gT (gsCons (gN 3) (gsCons (gN 4) gsNil))) (cSeq (cSet 5 (cD2 fMod (cCall fInt (cCons (cVar 3) cNil)) (cVar 1)))
  (cSetIx (cVar 2) (cVar 5) (cD2s fAdd (cD2 fIx (cVar 2) (cVar 5)) (cD2s fMul (cVar 4) (cD2s fAdd (cVar 3) (cD (.int 2))))))))
  (cRet (cVar 2))))
def f__law_cells : FS := defS 6 b__law_cells
/- slots of _law_take: 0 _law_box_here, 1 _law_below, 2 _law_once, 3 _law_far, 4 _law_twice, 5 _law_drawn -/
def b__law_take : SS :=
  (cSeq (cIfS (cB (cD2 fGt (cD2 fIx (cVar 0) (cD (.int 0))) (cD (.int 0)))) (cSeq (cSet 5 (cD2 fMod (cCall fInt (cCons (cD2 fIx (cVar 0) (cD (.int 0))) cNil)) (cVar 1)))
  (cSeq (cSetIx (cVar 0) (cD (.int 0)) (cD2 fDiv (cD2 fIx (cVar 0) (cD (.int 0))) (cVar 1)))
  (cRet (cVar 5)))) cSkip)
  (cSeq (cSetIx (cVar 0) (cD (.int 2)) (cD2s fAdd (cD2 fIx (cVar 0) (cD (.int 2))) (cD (.int 1))))
  (cSeq (cSet 2 (cD2 fMod (cCall fInt (cCons (cD2s fMul (cD2s fAdd (cD2 fIx (cVar 0) (cD (.int 1))) (cD2s fMul (cD (.int 48271)) (cD2 fIx (cVar 0) (cD (.int 2))))) (cD2s fAdd (cD (.int 39373)) (cD2 fIx (cVar 0) (cD (.int 2))))) cNil)) (cD (.int 2147483647))))
  (cSeq (cSet 3 (cD2s fAdd (cD2 fMod (cCall fInt (cCons (cVar 2) cNil)) (cD (.int 40009))) (cD (.int 7))))
  (cSeq (cSet 4 (cD2 fMod (cCall fInt (cCons (cD2s fMul (cD2s fAdd (cD2s fAdd (cVar 2) (cD2 fIx (cVar 0) (cD (.int 2)))) (cD2 fDiv (cD2 fIx (cVar 0) (cD (.int 1))) (cD (.int 1000003)))) (cVar 3)) cNil)) (cD (.int 2147483629))))
  (cRet (cD2 fMod (cCall fInt (cCons (cD2 fDiv (cD2 fMod (cCall fInt (cCons (cD2s fAdd (cD2s fMul (cVar 4) (cD (.int 48271))) (cVar 2)) cNil)) (cD (.int 2147483587))) (cD (.int 64))) cNil)) (cVar 1))))))))
def f__law_take : FS := defS 6 b__law_take
/- slots of _law_of: 0 _law_box_here, 1 _law_some -/
def b__law_of : SS :=
  (cRet (cD2 fIx (cVar 1) (cDef 2 f__law_take (cCons (cVar 0) (cCons (cCall fLen (cCons (cVar 1) cNil)) cNil)))))
def f__law_of : FS := defS 2 b__law_of
/- slots of _law_bent: 0 _law_box_here, 1 _law_mat, 2 _law_way_so, 3 _law_spot, 4 _law_head, 5 _law_here, 6 _law_tail, 7 _law_odd, 8 _law_own -/
def b__law_bent : SS :=
  (cSeq (cIfS (bOr (bNot (cTr (cIsi ["tuple"] (cVar 1)))) (cB (cD2 fNe (cLc (iSeq (cVar 1)) (gN 8) (bOr (bNot (cTr (cIsi ["tuple"] (cVar 8)))) (cB (cD2 fNe (cCall fLen (cCons (cVar 8) cNil)) (cD (.int 2))))) (cVar 8) [8]) (cLst cNil)))) (cRet (cVar 1)) cSkip)
  (cSeq (cParN [2, 3] (cCons (cDef 2 f__law_take (cCons (cVar 0) (cCons (cD (.int 11)) cNil))) (cCons (cDef 2 f__law_take (cCons (cVar 0) (cCons (cD2s fAdd (cCall fLen (cCons (cVar 1) cNil)) (cD (.int 1))) cNil))) cNil)))
  (cSeq (cParN [4, 5, 6] (cCons (cSl (cVar 1) oNone (oSome (cVar 3))) (cCons (cSl (cVar 1) (oSome (cVar 3)) (oSome (cD2s fAdd (cVar 3) (cD (.int 1))))) (cCons (cSl (cVar 1) (oSome (cD2s fAdd (cVar 3) (cD (.int 1)))) oNone) cNil))))
  (cSeq (cIfS (cB (cD2 fEq (cVar 2) (cD (.int 0)))) (cRet (cD2s fAdd (cVar 4) (cVar 6))) cSkip)
  (cSeq (cIfS (cB (cD2 fEq (cVar 2) (cD (.int 1)))) (cRet (cD2s fAdd (cD2s fAdd (cD2s fAdd (cVar 4) (cVar 5)) (cVar 5)) (cVar 6))) cSkip)
  (cSeq (cIfS (cB (cD2 fEq (cVar 2) (cD (.int 2)))) (cRet (cD1 fRevA (cVar 1))) cSkip)
  (cSeq (cIfS (cB (cD2 fEq (cVar 2) (cD (.int 3)))) (cSeq (cSet 7 (cDef 2 f__law_of (cCons (cVar 0) (cCons (cLst (cCons (cD2 fSub (cD (.int 0)) (cD (.int 1))) (cCons (cD (.bool true)) (cCons (cD (.bool false)) (cCons (cD .none) (cCons (cD (.str "3")) (cCons (cTup (cCons (cD (.int 3)) cNil)) (cCons (cLst (cCons (cD (.int 3)) cNil)) (cCons (cD2 fPow (cD (.int 10)) (cD (.int 64))) (cCons (cD (.int 0)) cNil)))))))))) cNil))))
  (cRet (cD2s fAdd (cD2s fAdd (cVar 4) (cCall fTuple (cCons (cLc (iSeq (cVar 5)) (gN 8) bYes (cTup (cCons (cD2 fIx (cVar 8) (cD (.int 0))) (cCons (cVar 7) cNil))) [8]) cNil))) (cVar 6)))) cSkip)
  (cSeq (cIfS (cB (cD2 fEq (cVar 2) (cD (.int 4)))) (cSeq (cSet 7 (cDef 2 f__law_of (cCons (cVar 0) (cCons (cLst (cCons (cD2 fSub (cD (.int 0)) (cD (.int 1))) (cCons (cD (.bool true)) (cCons (cD .none) (cCons (cD (.str "3")) (cCons (cTup (cCons (cD (.int 3)) cNil)) (cCons (cD2 fPow (cD (.int 10)) (cD (.int 64))) (cCons (cD (.int 0)) (cCons (cD (.int 1)) cNil))))))))) cNil))))
  (cRet (cD2s fAdd (cD2s fAdd (cVar 4) (cCall fTuple (cCons (cLc (iSeq (cVar 5)) (gN 8) bYes (cTup (cCons (cVar 7) (cCons (cD2 fIx (cVar 8) (cD (.int 1))) cNil))) [8]) cNil))) (cVar 6)))) cSkip)
  (cSeq (cIfS (cB (cD2 fEq (cVar 2) (cD (.int 5)))) (cRet (cD2s fAdd (cD2s fAdd (cVar 4) (cCall fTuple (cCons (cLc (iSeq (cVar 5)) (gN 8) bYes (cCall fList (cCons (cVar 8) cNil)) [8]) cNil))) (cVar 6))) cSkip)
  (cSeq (cIfS (cB (cD2 fEq (cVar 2) (cD (.int 6)))) (cRet (cD2s fAdd (cD2s fAdd (cVar 4) (cCall fTuple (cCons (cLc (iSeq (cVar 5)) (gN 8) bYes (cD2 fIx (cVar 8) (cD (.int 0))) [8]) cNil))) (cVar 6))) cSkip)
  (cSeq (cIfS (cB (cD2 fEq (cVar 2) (cD (.int 7)))) (cRet (cD2s fAdd (cD2s fAdd (cVar 4) (cCall fTuple (cCons (cLc (iSeq (cVar 5)) (gN 8) bYes (cD2s fAdd (cVar 8) (cSl (cVar 8) oNone (oSome (cD (.int 1))))) [8]) cNil))) (cVar 6))) cSkip)
  (cSeq (cIfS (cB (cD2 fEq (cVar 2) (cD (.int 8)))) (cRet (cD2s fAdd (cD2s fAdd (cVar 4) (cCall fTuple (cCons (cLc (iSeq (cVar 5)) (gN 8) bYes (cD1 fRevA (cVar 8)) [8]) cNil))) (cVar 6))) cSkip)
  (cRet (cDef 2 f__law_of (cCons (cVar 0) (cCons (cLst (cCons (cCall fList (cCons (cVar 1) cNil)) (cCons (cD .none) (cCons (cD (.int 0)) (cCons (cTup (cCons (cVar 1) cNil)) (cCons (cD (.str "")) (cCons (cD2s fAdd (cD2s fAdd (cVar 4) (cTup (cCons (cD .none) cNil))) (cVar 6)) (cCons (cD2s fAdd (cD2s fAdd (cVar 4) (cTup (cCons (cTup cNil) cNil))) (cVar 6)) (cCons (cVar 1) cNil))))))))) cNil))))))))))))))))
def f__law_bent : FS := defS 9 b__law_bent
/- slots of _law_tops: 0 _law_way_here, 1 _law_found, 2 _law_limit_so -/
def b__law_tops : SS :=
  (cSeq (cSet 1 (cLstM cNil))
  (cSeq (cFor (iSeq (cVar 0)) (gN 2) (cIfS (bOr (cB (cD2 fEq (cVar 1) (cLst cNil))) (cB (cD2 fLt (cVar 2) (cD2 fIx (cVar 1) (cD1 fNeg (cD (.int 1))))))) (cExpr (cM mAppend (cVar 1) (cCons (cVar 2) cNil))) cSkip))
  (cRet (cCall fTuple (cCons (cVar 1) cNil)))))
def f__law_tops : FS := defS 3 b__law_tops
/- slots of _law_blocks: 0 _law_way_here, 1 _law_low_here, 2 _law_tops_here, 3 _law_found, 4 _law_limit_so -/
def b__law_blocks : SS :=
  (cSeq (cSet 2 (cDef 1 f__law_tops (cCons (cVar 0) cNil)))
  (cSeq (cIfS (bAnd (cB (cD2 fNe (cVar 2) (cTup cNil))) (cB (cD2 fLt (cD2 fIx (cVar 2) (cD1 fNeg (cD (.int 1)))) (cD2s fMul (cD (.int 2)) (cVar 1))))) (cRet (cD .none)) cSkip)
  (cSeq (cSet 3 (cLstM cNil))
  (cSeq (cFor (iSeq (cD1 fRevA (cVar 2))) (gN 4) (cIfS (bAnd (cB (cD2 fNe (cVar 3) (cLst cNil))) (cB (cD2 fLe (cD2 fSub (cVar 4) (cD2 fIx (cD2 fIx (cVar 3) (cD1 fNeg (cD (.int 1)))) (cD (.int 1)))) (cVar 1)))) (cSetIx (cVar 3) (cD1 fNeg (cD (.int 1))) (cTup (cCons (cD2 fIx (cD2 fIx (cVar 3) (cD1 fNeg (cD (.int 1)))) (cD (.int 0))) (cCons (cVar 4) cNil)))) (cExpr (cM mAppend (cVar 3) (cCons (cTup (cCons (cVar 4) (cCons (cVar 4) cNil))) cNil)))))
  (cRet (cCall fTuple (cCons (cVar 3) cNil)))))))
def f__law_blocks : FS := defS 5 b__law_blocks
/- slots of _law_deals: 0 _law_box_here, 1 _law_way_here, 2 _law_low_here, 3 _law_most, 4 _law_block_so, 5 _law_own, 6 _law_turn, 7 _law_dear, 8 _law_some, 9 _law_spots -/
def b__law_deals : SS :=
  (dB [8, 9] 1 (cCons (cLst (cCons (cD2s fAdd (cD (.int 1)) (cDef 2 f__law_take (cCons (cVar 0) (cCons (cD2s fMul (cD (.int 2)) (cVar 2)) cNil)))) cNil)) (cCons cNewK cNil))
  (dSeq (dPlain 9 (cFor (iSeq (cOr (cDef 2 f__law_blocks (cCons (cVar 1) (cCons (cVar 2) cNil))) (cTup cNil))) (gN 4) (cSet 8 (cD2s fAdd (cCall fList (cCons (cVar 4) cNil)) (cVar 8)))))
  (dSeq (dFor 9 (iSeq (cVar 8)) (gN 5) (dIf 9 (cB (cD2 fGt (cDef 2 f__law_take (cCons (cVar 0) (cCons (cD (.int 8)) cNil))) (cD (.int 0)))) (dPut 9 (cVar 5) (cD (.bool true))) dSkip))
  (dSeq (dFor 9 (iRange1 (cCons (cDef 2 f__law_take (cCons (cVar 0) (cCons (cVar 3) cNil))) cNil)) (gN 6) (dSeq (dPlain 9 (cSet 5 (cD2s fAdd (cDef 2 f__law_of (cCons (cVar 0) (cCons (cVar 8) cNil))) (cD2s fMul (cDef 2 f__law_of (cCons (cVar 0) (cCons (cLst (cCons (cD (.int 1)) (cCons (cVar 2) (cCons (cDef 2 f__law_take (cCons (cVar 0) (cCons (cD2s fAdd (cD2s fMul (cD (.int 2)) (cVar 2)) (cD (.int 1))) cNil))) cNil)))) cNil))) (cDef 2 f__law_of (cCons (cVar 0) (cCons (cLst (cCons (cD (.int 1)) (cCons (cD2 fSub (cD (.int 0)) (cD (.int 1))) cNil))) cNil)))))))
  (dPut 9 (cCall fMax (cCons (cD (.int 1)) (cCons (cVar 5) cNil))) (cD (.bool true)))))
  (dSeq (dPlain 9 (cSet 7 (cDef 2 f__law_of (cCons (cVar 0) (cCons (cLst (cCons (cD (.int 2)) (cCons (cD (.int 10)) (cCons (cD2 fPow (cD (.int 10)) (cD (.int 30))) cNil)))) cNil)))))
  (dRet 9 (cCall fTuple (cCons (cLc (iSeq (cSl (cSortK (cCons (cVar 9) cNil)) oNone (oSome (cVar 3)))) (gN 5) bYes (cTup (cCons (cVar 5) (cCons (cDef 2 f__law_take (cCons (cVar 0) (cCons (cVar 7) cNil))) cNil))) [5]) cNil))))))))
def f__law_deals : FS := defS 10 b__law_deals
/- slots of _law_is_fine: 0 _law_mat, 1 _law_own, 2 _law_k, 3 _law_bit -/
def b__law_is_fine : SS :=
  (cSeq (cIfS (bNot (cTr (cIsi ["tuple"] (cVar 0)))) (cRet (cD (.bool false))) cSkip)
  (cSeq (cFor (iSeq (cVar 0)) (gN 1) (cSeq (cIfS (bOr (bNot (cTr (cIsi ["tuple"] (cVar 1)))) (cB (cD2 fNe (cCall fLen (cCons (cVar 1) cNil)) (cD (.int 2))))) (cRet (cD (.bool false))) cSkip)
  (cSeq (cIfS (cB (cD2 fNe (cLc (iSeq (cVar 1)) (gN 3) (bOr (bNot (cTr (cIsi ["int"] (cVar 3)))) (cTr (cIsi ["bool"] (cVar 3)))) (cVar 3) [3]) (cLst cNil))) (cRet (cD (.bool false))) cSkip)
  (cIfS (bOr (cB (cD2 fLt (cD2 fIx (cVar 1) (cD (.int 0))) (cD (.int 1)))) (cB (cD2 fLt (cD2 fIx (cVar 1) (cD (.int 1))) (cD (.int 0))))) (cRet (cD (.bool false))) cSkip))))
  (cRet (cD2 fEq (cLc (iRange2 (cCons (cD (.int 1)) (cCons (cCall fLen (cCons (cVar 0) cNil)) cNil))) (gN 2) (bNot (cB (cD2 fLt (cD2 fIx (cD2 fIx (cVar 0) (cD2 fSub (cVar 2) (cD (.int 1)))) (cD (.int 0))) (cD2 fIx (cD2 fIx (cVar 0) (cVar 2)) (cD (.int 0)))))) (cVar 2) [2]) (cLst cNil)))))
def f__law_is_fine : FS := defS 4 b__law_is_fine
/- slots of _law_low: 0 _law_box_here, 1 _law_way_so -/
def b__law_low : SS :=
  (cSeq (cSet 1 (cDef 2 f__law_take (cCons (cVar 0) (cCons (cD (.int 8)) cNil))))
  (cSeq (cIfS (cB (cD2 fEq (cVar 1) (cD (.int 0)))) (cRet (cD2s fAdd (cD (.int 1)) (cDef 2 f__law_take (cCons (cVar 0) (cCons (cD2 fPow (cD (.int 10)) (cD (.int 18))) cNil))))) cSkip)
  (cSeq (cIfS (cB (cD2 fEq (cVar 1) (cD (.int 1)))) (cRet (cD2 fSub (cD2 fPow (cD (.int 10)) (cD (.int 59))) (cDef 2 f__law_take (cCons (cVar 0) (cCons (cD (.int 1000)) cNil))))) cSkip)
  (cRet (cDef 2 f__law_of (cCons (cVar 0) (cCons (cLst (cCons (cD (.int 1)) (cCons (cD (.int 1)) (cCons (cD (.int 2)) (cCons (cD (.int 3)) (cCons (cD (.int 7)) (cCons (cD (.int 10)) cNil))))))) cNil)))))))
def f__law_low : FS := defS 2 b__law_low
/- slots of _law_rising: 0 _law_box_here, 1 _law_low_here, 2 _law_most, 3 _law_found, 4 _law_turn, 5 _law_gap -/
def b__law_rising : SS :=
  (cSeq (cSet 3 (cLstM (cCons (cDef 2 f__law_of (cCons (cVar 0) (cCons (cLst (cCons (cD2s fMul (cD (.int 2)) (cVar 1)) (cCons (cD2s fMul (cD (.int 2)) (cVar 1)) (cCons (cD2s fAdd (cD2s fMul (cD (.int 2)) (cVar 1)) (cD (.int 1))) (cCons (cD2s fMul (cD (.int 3)) (cVar 1)) (cCons (cD2s fAdd (cD2s fMul (cD (.int 3)) (cVar 1)) (cD (.int 1))) (cCons (cD2s fAdd (cD (.int 1)) (cDef 2 f__law_take (cCons (cVar 0) (cCons (cD2s fMul (cD (.int 4)) (cVar 1)) cNil)))) cNil))))))) cNil))) cNil)))
  (cSeq (cFor (iRange1 (cCons (cDef 2 f__law_take (cCons (cVar 0) (cCons (cVar 2) cNil))) cNil)) (gN 4) (cSeq (cSet 5 (cDef 2 f__law_of (cCons (cVar 0) (cCons (cLst (cCons (cD (.int 1)) (cCons (cCall fMax (cCons (cD (.int 1)) (cCons (cD2 fSub (cVar 1) (cD (.int 1))) cNil))) (cCons (cVar 1) (cCons (cD2s fAdd (cVar 1) (cD (.int 1))) (cCons (cD2s fMul (cD (.int 2)) (cVar 1)) (cCons (cD2s fAdd (cD2s fMul (cD (.int 2)) (cVar 1)) (cD (.int 1))) (cCons (cD2s fAdd (cD (.int 1)) (cDef 2 f__law_take (cCons (cVar 0) (cCons (cD2s fMul (cD (.int 4)) (cVar 1)) cNil)))) cNil)))))))) cNil))))
  (cExpr (cM mAppend (cVar 3) (cCons (cD2s fAdd (cD2 fIx (cVar 3) (cD1 fNeg (cD (.int 1)))) (cVar 5)) cNil)))))
  (cRet (cVar 3))))
def f__law_rising : FS := defS 6 b__law_rising
/- slots of _law_way: 0 _law_box_here, 1 _law_low_here, 2 _law_most, 3 _law_way_here, 4 _law_turn, 5 _law_spot -/
def b__law_way : SS :=
  (cSeq (cIfS (cB (cD2 fEq (cDef 2 f__law_take (cCons (cVar 0) (cCons (cD (.int 16)) cNil))) (cD (.int 0)))) (cRet (cTup cNil)) cSkip)
  (cSeq (cSet 3 (cRevM (cDef 3 f__law_rising (cCons (cVar 0) (cCons (cVar 1) (cCons (cVar 2) cNil))))))
  (cSeq (cFor (iRange1 (cCons (cDef 2 f__law_take (cCons (cVar 0) (cCons (cD (.int 3)) cNil))) cNil)) (gN 4) (cSeq (cSet 5 (cD2s fAdd (cD (.int 1)) (cDef 2 f__law_take (cCons (cVar 0) (cCons (cCall fLen (cCons (cVar 3) cNil)) cNil)))))
  (cExpr (cM mIns (cVar 3) (cCons (cVar 5) (cCons (cD2s fAdd (cCall fMin (cCons (cSl (cVar 3) oNone (oSome (cVar 5))) cNil)) (cDef 2 f__law_take (cCons (cVar 0) (cCons (cD2s fAdd (cD2s fMul (cD (.int 2)) (cVar 1)) (cD (.int 1))) cNil)))) cNil))))))
  (cRet (cCall fTuple (cCons (cVar 3) cNil))))))
def f__law_way : FS := defS 6 b__law_way
/- slots of _law_right: 0 _law_box_here, 1 _law_low_here, 2 _law_base_so, 3 _law_turn, 4 _law_once, 5 _law_mat, 6 _law_was, 7 _law_due -/
def b__law_right : SS :=
  (cSeq (cSet 1 (cDef 1 f__law_low (cCons (cVar 0) cNil)))
  (cSeq (cSet 2 (cDef 4 f__law_deals (cCons (cVar 0) (cCons (cDef 3 f__law_way (cCons (cVar 0) (cCons (cVar 1) (cCons (cD (.int 5)) cNil)))) (cCons (cVar 1) (cCons (cD (.int 8)) cNil))))))
  (cSeq (cFor (iRange1 (cCons (cD (.int 8)) cNil)) (gN 3) (cSeq (cSet 4 (cDef 2 f__law_bent (cCons (cVar 0) (cCons (cVar 2) cNil))))
  (cFor (iSeq (cTup (cCons (cVar 2) (cCons (cVar 4) (cCons (cDef 2 f__law_bent (cCons (cVar 0) (cCons (cVar 4) cNil))) cNil))))) (gN 5) (cSeq (cParN [6, 7] (cCons (cCall fRepr (cCons (cVar 5) cNil)) (cCons (cDef 1 f__law_is_fine (cCons (cVar 5) cNil)) cNil)))
  (cIfS (bOr (bNot (cTr (cDef 2 (f__law_same 16) (cCons (cLst (cCons (cDef 1 f_is_offers (cCons (cVar 5) cNil)) (cCons (cDefK 1 0 1 [0] f_is_offers cNil (cCons (cVar 5) cNil)) cNil))) (cCons (cLst (cCons (cVar 7) (cCons (cVar 7) cNil))) cNil))))) (cB (cD2 fNeS (cCall fRepr (cCons (cVar 5) cNil)) (cVar 6)))) (cRet (cD (.bool false))) cSkip)))))
  (cRet (cD (.bool true))))))
def f__law_right : FS := defS 8 b__law_right
/- slots of law: 0 _law_script, 1 _law_cells_here, 2 _law_k, 3 _law_box_here, 4 _law_turn -/
def b_law : SS :=
  (cSeq (cSet 1 (cDef 2 f__law_cells (cCons (cVar 0) (cCons (cD (.int 3)) cNil))))
  (cSeq (cFor (iRange1 (cCons (cCall fLen (cCons (cVar 1) cNil)) cNil)) (gN 2) (cSeq (cSet 3 (cDef 2 f__law_box (cCons (cVar 1) (cCons (cVar 2) cNil))))
  (cIfS (bOr (bNot (cTr (cDef 0 f__law_by_hand_right cNil))) (bNot (cTr (cCall fAll (cCons (cLc (iRange1 (cCons (cD (.int 4)) cNil)) (gN 4) bYes (cDef 1 f__law_right (cCons (cVar 3) cNil)) [4]) cNil))))) (cRet (cD (.bool false))) cSkip)))
  (cRet (cD (.bool true)))))
def f_law : FS := defS 5 b_law
end My

set_option Elab.async false
set_option linter.all false
set_option maxRecDepth 100000
set_option maxHeartbeats 4000000
namespace My
open PySem PySem.Spec PyProof.Rows L2 Cm
def top (i : Nat) : Stmt := PySem.Challenge.pw_cutsmaller_k37_offers_or_not.main.body.getD i (.Pass ⟨0, 0, 0, 0⟩)
abbrev s__law_box : Stmt := top 8
abbrev N__law_box : List Str := ["_law_script", "_law_k", "_law_cell"]
theorem sc__law_box : FnScope N__law_box ["_law_script", "_law_k"] (defScope s__law_box) := ⟨rfl, rfl, rfl, by decide +kernel, rfl, by decide +kernel, by decide +kernel⟩
abbrev s__law_same : Stmt := top 12
abbrev N__law_same : List Str := ["_law_got", "_law_due", "_law_mine", "_law_its"]
theorem sc__law_same : FnScope N__law_same ["_law_got", "_law_due"] (defScope s__law_same) := ⟨rfl, rfl, rfl, by decide +kernel, rfl, by decide +kernel, by decide +kernel⟩
abbrev s_ascends : Stmt := top 3
abbrev N_ascends : List Str := ["row", "one", "other"]
theorem sc_ascends : FnScope N_ascends ["row"] (defScope s_ascends) := ⟨rfl, rfl, rfl, by decide +kernel, rfl, by decide +kernel, by decide +kernel⟩
abbrev s_is_number : Stmt := top 1
abbrev N_is_number : List Str := ["thing", "least"]
theorem sc_is_number : FnScope N_is_number ["thing", "least"] (defScope s_is_number) := ⟨rfl, rfl, rfl, by decide +kernel, rfl, by decide +kernel, by decide +kernel⟩
abbrev s_is_tuple : Stmt := top 2
abbrev N_is_tuple : List Str := ["thing", "many"]
theorem sc_is_tuple : FnScope N_is_tuple ["thing", "many"] (defScope s_is_tuple) := ⟨rfl, rfl, rfl, by decide +kernel, rfl, by decide +kernel, by decide +kernel⟩
abbrev s_is_offer : Stmt := top 5
abbrev N_is_offer : List Str := ["thing"]
theorem sc_is_offer : FnScope N_is_offer ["thing"] (defScope s_is_offer) := ⟨rfl, rfl, rfl, by decide +kernel, rfl, by decide +kernel, by decide +kernel⟩
abbrev s_is_offers : Stmt := top 6
abbrev N_is_offers : List Str := ["thing", "limit", "price", "offer"]
theorem sc_is_offers : FnScope N_is_offers ["thing"] (defScope s_is_offers) := ⟨rfl, rfl, rfl, by decide +kernel, rfl, by decide +kernel, by decide +kernel⟩
abbrev s__law_by_hand_right : Stmt := top 21
abbrev N__law_by_hand_right : List Str := ["_law_many_so", "_law_fine", "_law_odd", "_law_heard", "_law_k", "_law_own"]
theorem sc__law_by_hand_right : FnScope N__law_by_hand_right [] (defScope s__law_by_hand_right) := ⟨rfl, rfl, rfl, by decide +kernel, rfl, by decide +kernel, by decide +kernel⟩
abbrev s__law_cells : Stmt := top 10
abbrev N__law_cells : List Str := ["_law_script", "_law_most_so", "_law_cells_here", "_law_k", "_law_cell", "_law_at_so"]
theorem sc__law_cells : FnScope N__law_cells ["_law_script", "_law_most_so"] (defScope s__law_cells) := ⟨rfl, rfl, rfl, by decide +kernel, rfl, by decide +kernel, by decide +kernel⟩
abbrev s__law_take : Stmt := top 9
abbrev N__law_take : List Str := ["_law_box_here", "_law_below", "_law_once", "_law_far", "_law_twice", "_law_drawn"]
theorem sc__law_take : FnScope N__law_take ["_law_box_here", "_law_below"] (defScope s__law_take) := ⟨rfl, rfl, rfl, by decide +kernel, rfl, by decide +kernel, by decide +kernel⟩
abbrev s__law_of : Stmt := top 11
abbrev N__law_of : List Str := ["_law_box_here", "_law_some"]
theorem sc__law_of : FnScope N__law_of ["_law_box_here", "_law_some"] (defScope s__law_of) := ⟨rfl, rfl, rfl, by decide +kernel, rfl, by decide +kernel, by decide +kernel⟩
abbrev s__law_bent : Stmt := top 20
abbrev N__law_bent : List Str := ["_law_box_here", "_law_mat", "_law_way_so", "_law_spot", "_law_head", "_law_here", "_law_tail", "_law_odd", "_law_own"]
theorem sc__law_bent : FnScope N__law_bent ["_law_box_here", "_law_mat"] (defScope s__law_bent) := ⟨rfl, rfl, rfl, by decide +kernel, rfl, by decide +kernel, by decide +kernel⟩
abbrev s__law_tops : Stmt := top 13
abbrev N__law_tops : List Str := ["_law_way_here", "_law_found", "_law_limit_so"]
theorem sc__law_tops : FnScope N__law_tops ["_law_way_here"] (defScope s__law_tops) := ⟨rfl, rfl, rfl, by decide +kernel, rfl, by decide +kernel, by decide +kernel⟩
abbrev s__law_blocks : Stmt := top 14
abbrev N__law_blocks : List Str := ["_law_way_here", "_law_low_here", "_law_tops_here", "_law_found", "_law_limit_so"]
theorem sc__law_blocks : FnScope N__law_blocks ["_law_way_here", "_law_low_here"] (defScope s__law_blocks) := ⟨rfl, rfl, rfl, by decide +kernel, rfl, by decide +kernel, by decide +kernel⟩
abbrev s__law_deals : Stmt := top 18
abbrev N__law_deals : List Str := ["_law_box_here", "_law_way_here", "_law_low_here", "_law_most", "_law_block_so", "_law_own", "_law_turn", "_law_dear", "_law_some", "_law_spots"]
theorem sc__law_deals : FnScope N__law_deals ["_law_box_here", "_law_way_here", "_law_low_here", "_law_most"] (defScope s__law_deals) := ⟨rfl, rfl, rfl, by decide +kernel, rfl, by decide +kernel, by decide +kernel⟩
abbrev s__law_is_fine : Stmt := top 19
abbrev N__law_is_fine : List Str := ["_law_mat", "_law_own", "_law_k", "_law_bit"]
theorem sc__law_is_fine : FnScope N__law_is_fine ["_law_mat"] (defScope s__law_is_fine) := ⟨rfl, rfl, rfl, by decide +kernel, rfl, by decide +kernel, by decide +kernel⟩
abbrev s__law_low : Stmt := top 15
abbrev N__law_low : List Str := ["_law_box_here", "_law_way_so"]
theorem sc__law_low : FnScope N__law_low ["_law_box_here"] (defScope s__law_low) := ⟨rfl, rfl, rfl, by decide +kernel, rfl, by decide +kernel, by decide +kernel⟩
abbrev s__law_rising : Stmt := top 16
abbrev N__law_rising : List Str := ["_law_box_here", "_law_low_here", "_law_most", "_law_found", "_law_turn", "_law_gap"]
theorem sc__law_rising : FnScope N__law_rising ["_law_box_here", "_law_low_here", "_law_most"] (defScope s__law_rising) := ⟨rfl, rfl, rfl, by decide +kernel, rfl, by decide +kernel, by decide +kernel⟩
abbrev s__law_way : Stmt := top 17
abbrev N__law_way : List Str := ["_law_box_here", "_law_low_here", "_law_most", "_law_way_here", "_law_turn", "_law_spot"]
theorem sc__law_way : FnScope N__law_way ["_law_box_here", "_law_low_here", "_law_most"] (defScope s__law_way) := ⟨rfl, rfl, rfl, by decide +kernel, rfl, by decide +kernel, by decide +kernel⟩
abbrev s__law_right : Stmt := top 22
abbrev N__law_right : List Str := ["_law_box_here", "_law_low_here", "_law_base_so", "_law_turn", "_law_once", "_law_mat", "_law_was", "_law_due"]
theorem sc__law_right : FnScope N__law_right ["_law_box_here"] (defScope s__law_right) := ⟨rfl, rfl, rfl, by decide +kernel, rfl, by decide +kernel, by decide +kernel⟩
abbrev s_law : Stmt := top 23
abbrev N_law : List Str := ["_law_script", "_law_cells_here", "_law_k", "_law_box_here", "_law_turn"]
theorem sc_law : FnScope N_law ["_law_script"] (defScope s_law) := ⟨rfl, rfl, rfl, by decide +kernel, rfl, by decide +kernel, by decide +kernel⟩
/-- what the top has left: names that are free, constants -/
structure Zs (mg : Str → Option Value) : Prop where
  z_abs : mg "abs" = none
  z_all : mg "all" = none
  z_bool : mg "bool" = none
  z_enumerate : mg "enumerate" = none
  z_int : mg "int" = none
  z_isinstance : mg "isinstance" = none
  z_len : mg "len" = none
  z_list : mg "list" = none
  z_max : mg "max" = none
  z_min : mg "min" = none
  z_range : mg "range" = none
  z_repr : mg "repr" = none
  z_sorted : mg "sorted" = none
  z_str : mg "str" = none
  z_tuple : mg "tuple" = none
  z_zip : mg "zip" = none
section
variable {P : Program} {w : World} {K : PySem.W.Frag} {mg : Str → Option Value} {base : Heap}
theorem ok__law_box (Z : Zs mg) (h : At K mg "_law_box" s__law_box)   : Cal P w K mg base 1 "_law_box" s__law_box ["_law_script", "_law_k"] f__law_box :=
  .of h (fun a fd F hm => def_okO (x := "_law_box") (st := s__law_box) (N := N__law_box) (ps := ["_law_script", "_law_k"]) (b := b__law_box) (k := 0) F sc__law_box fun cdv A outer s H E hr =>
      by
        refine ss_cons ?_ ?_
        · refine s_set (i := 2) sc__law_box.nd rfl (.inl rfl) ?_
          refine se_if ?_ ?_ se_int
          · refine st_cmp (op_ltA hr) snd_lt (se_var (i := 1)) ?_ (nomark _)
            refine se_callB call_lenA snd_len (by rfl) Z.z_len PySem.boot_len ?_
            exact (sa_cons (se_var (i := 0)) sa_nil)
          · exact (se_ix ix_seq snd_ix (se_var (i := 0)) (se_var (i := 1)))
        · refine ss_one ?_
          refine s_ret ?_
          refine se_lstM ?_
          refine sa_cons ?_ ?_
          · refine se_ops op_mulA snd_mul ?_ ?_
            · refine se_callB call_abs snd_abs (by rfl) Z.z_abs PyProof.Rows.boot_abs ?_
              exact (sa_cons (se_var (i := 2)) sa_nil)
            · refine se_callTy call_int1 snd_int (by rfl) Z.z_int PyProof.Rows.boot_int ?_
              refine sa_cons ?_ sa_nil
              refine se_cmp op_ge snd_ge ?_ ?_ (nomark _)
              · refine se_callB call_abs snd_abs (by rfl) Z.z_abs PyProof.Rows.boot_abs ?_
                exact (sa_cons (se_var (i := 2)) sa_nil)
              · exact (se_op op_pow snd_pow se_int se_int)
          · refine sa_cons ?_ ?_
            · refine se_ops op_addA snd_add ?_ se_int
              refine se_ops op_addA snd_add ?_ ?_
              · refine se_op op_mod snd_mod ?_ se_int
                refine se_callTy call_int1 snd_int (by rfl) Z.z_int PyProof.Rows.boot_int ?_
                exact (sa_cons (se_var (i := 2)) sa_nil)
              · exact (se_ops op_mulA snd_mul se_int (se_var (i := 1)))
            · exact (sa_cons se_int sa_nil)) (fun _ _ _ _ _ _ us hl => match us, hl with | [_, _], _ => rfl)
theorem ok__law_same (Z : Zs mg) (h : At K mg "_law_same" s__law_same)   : ∀ d : Nat, Cal P w K mg base (1 + d) "_law_same" s__law_same ["_law_got", "_law_due"] (f__law_same d)
  | 0 => .of h (fun _ _ _ _ => def_none) (fun _ _ _ _ _ _ us hl => match us, hl with | [_, _], _ => rfl)
  | d + 1 => .of h (fun a fd F hm => by
    have ih := ok__law_same Z h  d
    exact def_okD (x := "_law_same") (st := s__law_same) (N := N__law_same) (ps := ["_law_got", "_law_due"]) (b := b__law_same (f__law_same d)) F sc__law_same fun cdv A outer s H E hr =>
      by
        refine ss_cons ?_ ?_
        · refine s_if ?_ ?_ ss_nil
          · exact (st_tr (se_isi2 (by rfl) Z.z_isinstance (by rfl) Z.z_list PyProof.Rows.boot_list (by decide) (by rfl) Z.z_tuple PyProof.Rows.boot_tuple (by decide) (se_var (i := 1))))
          · refine ss_cons ?_ ?_
            · refine s_if ?_ ?_ ss_nil
              · refine PW.pt ?_
                refine st_or ?_ ?_
                · refine st_cmp (op_neD hr.units) snd_ne ?_ ?_ (nomark _)
                  · exact (se_isi (by rfl) Z.z_isinstance (by rfl) Z.z_list PyProof.Rows.boot_list (by decide) (se_var (i := 0)))
                  · exact (se_isi (by rfl) Z.z_isinstance (by rfl) Z.z_list PyProof.Rows.boot_list (by decide) (se_var (i := 1)))
                · refine st_or1 ?_
                  refine st_cmp (op_neD hr.units) snd_ne ?_ ?_ (nomark _)
                  · exact (se_isi (by rfl) Z.z_isinstance (by rfl) Z.z_tuple PyProof.Rows.boot_tuple (by decide) (se_var (i := 0)))
                  · exact (se_isi (by rfl) Z.z_isinstance (by rfl) Z.z_tuple PyProof.Rows.boot_tuple (by decide) (se_var (i := 1)))
              · exact (ss_one (s_ret se_bl))
            · refine ss_one ?_
              refine s_ret ?_
              refine se_and ?_ ?_
              · refine se_cmp (op_eqD hr.units) snd_eq ?_ ?_ (nomark _)
                · refine se_callB call_lenA snd_len (by rfl) Z.z_len PySem.boot_len ?_
                  exact (sa_cons (se_var (i := 0)) sa_nil)
                · refine se_callB call_lenA snd_len (by rfl) Z.z_len PySem.boot_len ?_
                  exact (sa_cons (se_var (i := 1)) sa_nil)
              · refine pe_one ?_
                refine se_callB (cr_all rfl) snd_all (by rfl) Z.z_all PyProof.Rows.boot_all ?_
                refine sa_cons ?_ sa_nil
                refine se_lc (own := [("_law_mine", 2), ("_law_its", 3)]) rfl sc__law_same.nd ?_ (blkOk_by (own := [("_law_mine", 2), ("_law_its", 3)]) (N := N__law_same) (sc := defScope s__law_same) (by decide +kernel)) (fun _ _ _ _ _ => ?_) (fun _ _ _ _ _ => ts_nil) (fun _ _ _ _ _ => ?_)
                · refine i_zip (by rfl) Z.z_zip ?_
                  refine sa_cons (se_var (i := 0)) ?_
                  exact (sa_cons (se_var (i := 1)) sa_nil)
                · refine g_tup rfl ?_ ?_
                  · refine gs_cons (g_name (i := 2) (by decide) sc__law_same.nd rfl (.inl rfl)) ?_
                    exact (gs_cons (g_name (i := 3) (by decide) sc__law_same.nd rfl (.inl rfl)) gs_nil)
                  · exact (gs_len (gs_len gs_len0 _) _)
                · refine se_cal (ps := ["_law_got", "_law_due"]) (fs := (f__law_same d)) ih hr (by rfl) ?_
                  refine sa_cons (se_var (i := 2)) ?_
                  exact (sa_cons (se_var (i := 3)) sa_nil)
        · refine ss_cons ?_ ?_
          · refine s_if ?_ ?_ ss_nil
            · refine PW.pt ?_
              refine st_or ?_ ?_
              · exact (st_cmp op_isA snd_is (se_var (i := 1)) se_non (nomark _))
              · refine st_or1 ?_
                exact (st_tr (se_isi2 (by rfl) Z.z_isinstance (by rfl) Z.z_bool (by decide +kernel) (by decide) (by rfl) Z.z_str PyProof.Rows.boot_str (by decide) (se_var (i := 1))))
            · refine ss_one ?_
              refine s_ret ?_
              refine se_and ?_ ?_
              · exact (se_cmp (op_eqD hr.units) snd_eq (se_var (i := 0)) (se_var (i := 1)) (nomark _))
              · refine se_and ?_ ?_
                · refine se_cmp (op_eqD hr.units) snd_eq ?_ ?_ (nomark _)
                  · exact (se_isi (by rfl) Z.z_isinstance (by rfl) Z.z_bool (by decide +kernel) (by decide) (se_var (i := 0)))
                  · exact (se_isi (by rfl) Z.z_isinstance (by rfl) Z.z_bool (by decide +kernel) (by decide) (se_var (i := 1)))
                · refine pe_one ?_
                  refine se_cmp (op_eqD hr.units) snd_eq ?_ ?_ (nomark _)
                  · exact (se_cmp op_isA snd_is (se_var (i := 0)) se_non (nomark _))
                  · exact (se_cmp op_isA snd_is (se_var (i := 1)) se_non (nomark _))
          · refine ss_one ?_
            refine s_ret ?_
            refine se_and ?_ ?_
            · exact (se_isi (by rfl) Z.z_isinstance (by rfl) Z.z_int PyProof.Rows.boot_int (by decide) (se_var (i := 0)))
            · refine se_and ?_ ?_
              · exact (se_not (se_isi (by rfl) Z.z_isinstance (by rfl) Z.z_bool (by decide +kernel) (by decide) (se_var (i := 0))))
              · refine pe_one ?_
                exact (se_cmp (op_eqD hr.units) snd_eq (se_var (i := 0)) (se_var (i := 1)) (nomark _))) (fun _ _ _ _ _ _ us hl => match us, hl with | [_, _], _ => rfl)
theorem ok_ascends (Z : Zs mg) (h : At K mg "ascends" s_ascends)   : Cal P w K mg base 1 "ascends" s_ascends ["row"] f_ascends :=
  .of h (fun a fd F hm => def_okD (x := "ascends") (st := s_ascends) (N := N_ascends) (ps := ["row"]) (b := b_ascends) (k := 0) F sc_ascends fun cdv A outer s H E hr =>
      by
        refine ss_one ?_
        refine s_ret ?_
        refine se_callB (cr_all rfl) snd_all (by rfl) Z.z_all PyProof.Rows.boot_all ?_
        refine sa_cons ?_ sa_nil
        refine se_lc (own := [("one", 1), ("other", 2)]) rfl sc_ascends.nd ?_ (blkOk_by (own := [("one", 1), ("other", 2)]) (N := N_ascends) (sc := defScope s_ascends) (by decide +kernel)) (fun _ _ _ _ _ => ?_) (fun _ _ _ _ _ => ts_nil) (fun _ _ _ _ _ => ?_)
        · refine i_zip (by rfl) Z.z_zip ?_
          refine sa_cons (se_var (i := 0)) ?_
          refine sa_cons ?_ sa_nil
          refine se_sl (se_var (i := 0)) ?_ so_none
          exact (so_some se_int)
        · refine g_tup rfl ?_ ?_
          · refine gs_cons (g_name (i := 1) (by decide) sc_ascends.nd rfl (.inl rfl)) ?_
            exact (gs_cons (g_name (i := 2) (by decide) sc_ascends.nd rfl (.inl rfl)) gs_nil)
          · exact (gs_len (gs_len gs_len0 _) _)
        · exact (se_cmp (op_ltA hr) snd_lt (se_var (i := 1)) (se_var (i := 2)) (nomark _))) (fun _ _ _ _ _ _ us hl => match us, hl with | [_], _ => rfl)
theorem ok_is_number (Z : Zs mg) (h : At K mg "is_number" s_is_number)   : Cal P w K mg base 1 "is_number" s_is_number ["thing", "least"] f_is_number :=
  .of h (fun a fd F hm => def_okD (x := "is_number") (st := s_is_number) (N := N_is_number) (ps := ["thing", "least"]) (b := b_is_number) (k := 0) F sc_is_number fun cdv A outer s H E hr =>
      by
        refine ss_one ?_
        refine s_ret ?_
        refine se_and ?_ ?_
        · exact (se_isi (by rfl) Z.z_isinstance (by rfl) Z.z_int PyProof.Rows.boot_int (by decide) (se_var (i := 0)))
        · refine se_and ?_ ?_
          · exact (se_not (se_isi (by rfl) Z.z_isinstance (by rfl) Z.z_bool (by decide +kernel) (by decide) (se_var (i := 0))))
          · refine pe_one ?_
            exact (se_cmp op_ge snd_ge (se_var (i := 0)) (se_var (i := 1)) (nomark _))) (fun _ _ _ _ _ _ us hl => match us, hl with | [_, _], _ => rfl)
theorem ok_is_tuple (Z : Zs mg) (h : At K mg "is_tuple" s_is_tuple)   : Cal P w K mg base 1 "is_tuple" s_is_tuple ["thing", "many"] f_is_tuple :=
  .of h (fun a fd F hm => def_okD (x := "is_tuple") (st := s_is_tuple) (N := N_is_tuple) (ps := ["thing", "many"]) (b := b_is_tuple) (k := 0) F sc_is_tuple fun cdv A outer s H E hr =>
      by
        refine ss_one ?_
        refine s_ret ?_
        refine se_and ?_ ?_
        · exact (se_isi (by rfl) Z.z_isinstance (by rfl) Z.z_tuple PyProof.Rows.boot_tuple (by decide) (se_var (i := 0)))
        · refine pe_one ?_
          refine se_cmp (op_eqD hr.units) snd_eq ?_ (se_var (i := 1)) (nomark _)
          refine se_callB call_lenA snd_len (by rfl) Z.z_len PySem.boot_len ?_
          exact (sa_cons (se_var (i := 0)) sa_nil)) (fun _ _ _ _ _ _ us hl => match us, hl with | [_, _], _ => rfl)
theorem ok_is_offer (Z : Zs mg) (h : At K mg "is_offer" s_is_offer) (c_is_number : Cal P w K mg base 1 "is_number" s_is_number ["thing", "least"] f_is_number) (c_is_tuple : Cal P w K mg base 1 "is_tuple" s_is_tuple ["thing", "many"] f_is_tuple)  : Cal P w K mg base 2 "is_offer" s_is_offer ["thing"] f_is_offer :=
  .of h (fun a fd F hm => def_okD (x := "is_offer") (st := s_is_offer) (N := N_is_offer) (ps := ["thing"]) (b := b_is_offer) (k := 1) F sc_is_offer fun cdv A outer s H E hr =>
      by
        refine ss_one ?_
        refine s_ret ?_
        refine se_and ?_ ?_
        · refine se_cal (ps := ["thing", "many"]) (fs := f_is_tuple) c_is_tuple (hr.mono (by decide)) (by rfl) ?_
          refine sa_cons (se_var (i := 0)) ?_
          exact (sa_cons se_int sa_nil)
        · refine se_and ?_ ?_
          · refine se_cal (ps := ["thing", "least"]) (fs := f_is_number) c_is_number (hr.mono (by decide)) (by rfl) ?_
            refine sa_cons ?_ ?_
            · exact (se_ix ix_seq snd_ix (se_var (i := 0)) se_int)
            · exact (sa_cons se_int sa_nil)
          · refine pe_one ?_
            refine se_cal (ps := ["thing", "least"]) (fs := f_is_number) c_is_number (hr.mono (by decide)) (by rfl) ?_
            refine sa_cons ?_ ?_
            · exact (se_ix ix_seq snd_ix (se_var (i := 0)) se_int)
            · exact (sa_cons se_int sa_nil)) (fun _ _ _ _ _ _ us hl => match us, hl with | [_], _ => rfl)
theorem ok_is_offers (Z : Zs mg) (h : At K mg "is_offers" s_is_offers) (c_ascends : Cal P w K mg base 1 "ascends" s_ascends ["row"] f_ascends) (c_is_offer : Cal P w K mg base 2 "is_offer" s_is_offer ["thing"] f_is_offer)  : Cal P w K mg base 3 "is_offers" s_is_offers ["thing"] f_is_offers :=
  .of h (fun a fd F hm => def_okD (x := "is_offers") (st := s_is_offers) (N := N_is_offers) (ps := ["thing"]) (b := b_is_offers) (k := 2) F sc_is_offers fun cdv A outer s H E hr =>
      by
        refine ss_cons ?_ ?_
        · refine s_if ?_ ?_ ss_nil
          · refine PW.pt ?_
            refine st_or ?_ ?_
            · refine st_not ?_
              exact (st_tr (se_isi (by rfl) Z.z_isinstance (by rfl) Z.z_tuple PyProof.Rows.boot_tuple (by decide) (se_var (i := 0))))
            · refine st_or1 ?_
              refine st_not ?_
              refine st_tr ?_
              refine se_callB (cr_all rfl) snd_all (by rfl) Z.z_all PyProof.Rows.boot_all ?_
              refine sa_cons ?_ sa_nil
              refine se_lc (own := [("offer", 3)]) rfl sc_is_offers.nd ?_ (blkOk_by (own := [("offer", 3)]) (N := N_is_offers) (sc := defScope s_is_offers) (by decide +kernel)) (fun _ _ _ _ _ => (g_name (i := 3) (by decide) sc_is_offers.nd rfl (.inl rfl))) (fun _ _ _ _ _ => ts_nil) (fun _ _ _ _ _ => ?_)
              · exact (i_seq (se_var (i := 0)))
              · refine se_cal (ps := ["thing"]) (fs := f_is_offer) c_is_offer (hr.mono (by decide)) (by rfl) ?_
                exact (sa_cons (se_var (i := 3)) sa_nil)
          · exact (ss_one (s_ret se_bl))
        · refine ss_one ?_
          refine s_ret ?_
          refine se_cal (ps := ["row"]) (fs := f_ascends) c_ascends (hr.mono (by decide)) (by rfl) ?_
          refine sa_cons ?_ sa_nil
          refine se_lc (own := [("limit", 1), ("price", 2)]) rfl sc_is_offers.nd ?_ (blkOk_by (own := [("limit", 1), ("price", 2)]) (N := N_is_offers) (sc := defScope s_is_offers) (by decide +kernel)) (fun _ _ _ _ _ => ?_) (fun _ _ _ _ _ => ts_nil) (fun _ _ _ _ _ => (se_var (i := 1)))
          · exact (i_seq (se_var (i := 0)))
          · refine g_tup rfl ?_ ?_
            · refine gs_cons (g_name (i := 1) (by decide) sc_is_offers.nd rfl (.inl rfl)) ?_
              exact (gs_cons (g_name (i := 2) (by decide) sc_is_offers.nd rfl (.inl rfl)) gs_nil)
            · exact (gs_len (gs_len gs_len0 _) _)) (fun _ _ _ _ _ _ us hl => match us, hl with | [_], _ => rfl)
theorem ok__law_by_hand_right (Z : Zs mg) (h : At K mg "_law_by_hand_right" s__law_by_hand_right) (c__law_same : Cal P w K mg base 17 "_law_same" s__law_same ["_law_got", "_law_due"] (f__law_same 16)) (c_is_offers : Cal P w K mg base 3 "is_offers" s_is_offers ["thing"] f_is_offers)  : Cal P w K mg base 18 "_law_by_hand_right" s__law_by_hand_right [] f__law_by_hand_right :=
  .of h (fun a fd F hm => def_okD (x := "_law_by_hand_right") (st := s__law_by_hand_right) (N := N__law_by_hand_right) (ps := []) (b := b__law_by_hand_right) (k := 17) F sc__law_by_hand_right fun cdv A outer s H E hr =>
      by
        refine ss_cons ?_ ?_
        · refine s_set (i := 0) sc__law_by_hand_right.nd rfl (.inl rfl) ?_
          refine se_callTy call_tuple_of snd_tuple (by rfl) Z.z_tuple PyProof.Rows.boot_tuple ?_
          refine sa_cons ?_ sa_nil
          refine se_lc (own := [("_law_k", 4)]) rfl sc__law_by_hand_right.nd ?_ (blkOk_by (own := [("_law_k", 4)]) (N := N__law_by_hand_right) (sc := defScope s__law_by_hand_right) (by decide +kernel)) (fun _ _ _ _ _ => (g_name (i := 4) (by decide) sc__law_by_hand_right.nd rfl (.inl rfl))) (fun _ _ _ _ _ => ts_nil) (fun _ _ _ _ _ => ?_)
          · refine i_range2 (by rfl) Z.z_range ?_
            refine sa_cons se_int ?_
            exact (sa_cons se_int sa_nil)
          · refine se_tup ?_
            refine sa_cons (se_var (i := 4)) ?_
            exact (sa_cons se_int sa_nil)
        · refine ss_cons ?_ ?_
          · refine s_set (i := 1) sc__law_by_hand_right.nd rfl (.inl rfl) ?_
            refine se_lst ?_
            refine sa_cons ?_ ?_
            · exact (se_tup sa_nil)
            · refine sa_cons ?_ ?_
              · refine se_tup ?_
                refine sa_cons ?_ sa_nil
                refine se_tup ?_
                refine sa_cons se_int ?_
                exact (sa_cons se_int sa_nil)
              · refine sa_cons ?_ ?_
                · refine se_tup ?_
                  refine sa_cons ?_ ?_
                  · refine se_tup ?_
                    refine sa_cons se_int ?_
                    exact (sa_cons se_int sa_nil)
                  · refine sa_cons ?_ ?_
                    · refine se_tup ?_
                      refine sa_cons se_int ?_
                      exact (sa_cons se_int sa_nil)
                    · refine sa_cons ?_ sa_nil
                      refine se_tup ?_
                      refine sa_cons se_int ?_
                      refine sa_cons ?_ sa_nil
                      exact (se_op op_pow snd_pow se_int se_int)
                · refine sa_cons ?_ ?_
                  · refine se_tup ?_
                    refine sa_cons ?_ sa_nil
                    refine se_tup ?_
                    refine sa_cons ?_ ?_
                    · exact (se_op op_pow snd_pow se_int se_int)
                    · exact (sa_cons se_int sa_nil)
                  · exact (sa_cons (se_var (i := 0)) sa_nil)
          · refine ss_cons ?_ ?_
            · refine s_set (i := 2) sc__law_by_hand_right.nd rfl (.inl rfl) ?_
              refine se_lstM ?_
              refine sa_cons ?_ ?_
              · refine se_tup ?_
                refine sa_cons ?_ sa_nil
                refine se_tup ?_
                refine sa_cons se_int ?_
                exact (sa_cons se_int sa_nil)
              · refine sa_cons ?_ ?_
                · refine se_tup ?_
                  refine sa_cons ?_ sa_nil
                  refine se_tup ?_
                  refine sa_cons se_int ?_
                  refine sa_cons ?_ sa_nil
                  exact (se_op op_sub snd_sub se_int se_int)
                · refine sa_cons ?_ ?_
                  · refine se_tup ?_
                    refine sa_cons ?_ ?_
                    · refine se_tup ?_
                      refine sa_cons se_int ?_
                      exact (sa_cons se_int sa_nil)
                    · refine sa_cons ?_ sa_nil
                      refine se_tup ?_
                      refine sa_cons se_int ?_
                      exact (sa_cons se_int sa_nil)
                  · refine sa_cons ?_ ?_
                    · refine se_tup ?_
                      refine sa_cons ?_ ?_
                      · refine se_tup ?_
                        refine sa_cons se_int ?_
                        exact (sa_cons se_int sa_nil)
                      · refine sa_cons ?_ sa_nil
                        refine se_tup ?_
                        refine sa_cons se_int ?_
                        exact (sa_cons se_int sa_nil)
                    · refine sa_cons ?_ ?_
                      · refine se_lst ?_
                        refine sa_cons ?_ sa_nil
                        refine se_tup ?_
                        refine sa_cons se_int ?_
                        exact (sa_cons se_int sa_nil)
                      · refine sa_cons ?_ ?_
                        · refine se_tup ?_
                          refine sa_cons ?_ sa_nil
                          refine se_lst ?_
                          refine sa_cons se_int ?_
                          exact (sa_cons se_int sa_nil)
                        · refine sa_cons ?_ ?_
                          · refine se_tup ?_
                            refine sa_cons ?_ sa_nil
                            refine se_tup ?_
                            exact (sa_cons se_int sa_nil)
                          · refine sa_cons ?_ sa_nil
                            refine se_tup ?_
                            refine sa_cons ?_ sa_nil
                            refine se_tup ?_
                            refine sa_cons se_int ?_
                            refine sa_cons se_int ?_
                            exact (sa_cons se_int sa_nil)
            · refine ss_cons ?_ ?_
              · refine s_set (i := 2) sc__law_by_hand_right.nd rfl (.inl rfl) ?_
                refine se_addM (se_var (i := 2)) ?_
                refine se_lst ?_
                refine sa_cons se_non ?_
                refine sa_cons ?_ ?_
                · refine se_tup ?_
                  refine sa_cons ?_ sa_nil
                  refine se_tup ?_
                  refine sa_cons se_bl ?_
                  exact (sa_cons se_int sa_nil)
                · refine sa_cons ?_ ?_
                  · refine se_tup ?_
                    refine sa_cons ?_ sa_nil
                    refine se_tup ?_
                    refine sa_cons se_int ?_
                    exact (sa_cons se_bl sa_nil)
                  · refine sa_cons ?_ ?_
                    · refine se_tup ?_
                      refine sa_cons ?_ sa_nil
                      refine se_tup ?_
                      refine sa_cons se_int ?_
                      exact (sa_cons se_non sa_nil)
                    · refine sa_cons ?_ ?_
                      · refine se_tup ?_
                        refine sa_cons ?_ sa_nil
                        refine se_tup ?_
                        refine sa_cons se_non ?_
                        exact (sa_cons se_int sa_nil)
                      · refine sa_cons ?_ ?_
                        · refine se_tup ?_
                          refine sa_cons se_int ?_
                          exact (sa_cons se_int sa_nil)
                        · refine sa_cons se_int ?_
                          refine sa_cons se_str ?_
                          refine sa_cons ?_ sa_nil
                          refine se_tup ?_
                          refine sa_cons ?_ sa_nil
                          refine se_tup ?_
                          refine sa_cons se_int ?_
                          refine sa_cons ?_ sa_nil
                          refine se_tup ?_
                          exact (sa_cons se_int sa_nil)
              · refine ss_cons ?_ ?_
                · refine s_expr ?_
                  refine se_meth PySem.F.plainAttrs_list PySem.F.slot_list_append PySem.F.type_list_append mt_append snd_append (se_var (i := 2)) ?_
                  refine sa_cons ?_ sa_nil
                  refine se_ops op_addA snd_add (se_var (i := 0)) ?_
                  refine se_tup ?_
                  refine sa_cons ?_ sa_nil
                  refine se_tup ?_
                  refine sa_cons se_int ?_
                  exact (sa_cons se_int sa_nil)
                · refine ss_cons ?_ ?_
                  · refine s_set (i := 2) sc__law_by_hand_right.nd rfl (.inl rfl) ?_
                    refine se_addM (se_var (i := 2)) ?_
                    refine se_lst ?_
                    refine sa_cons ?_ ?_
                    · refine se_tup ?_
                      refine sa_cons ?_ sa_nil
                      refine se_tup ?_
                      refine sa_cons ?_ sa_nil
                      refine se_tup ?_
                      refine sa_cons se_int ?_
                      exact (sa_cons se_int sa_nil)
                    · refine sa_cons ?_ ?_
                      · refine se_tup ?_
                        refine sa_cons ?_ ?_
                        · refine se_tup ?_
                          refine sa_cons se_int ?_
                          exact (sa_cons se_int sa_nil)
                        · exact (sa_cons se_non sa_nil)
                      · refine sa_cons ?_ ?_
                        · refine se_tup ?_
                          refine sa_cons ?_ ?_
                          · refine se_tup ?_
                            refine sa_cons se_int ?_
                            exact (sa_cons se_int sa_nil)
                          · refine sa_cons ?_ sa_nil
                            refine se_tup ?_
                            exact (sa_cons se_int sa_nil)
                        · refine sa_cons ?_ ?_
                          · refine se_tup ?_
                            refine sa_cons ?_ sa_nil
                            refine se_tup ?_
                            refine sa_cons se_int ?_
                            exact (sa_cons se_str sa_nil)
                          · refine sa_cons ?_ sa_nil
                            refine se_tup ?_
                            refine sa_cons ?_ sa_nil
                            refine se_tup ?_
                            refine sa_cons ?_ ?_
                            · exact (se_op op_sub snd_sub se_int se_int)
                            · exact (sa_cons se_int sa_nil)
                  · refine ss_cons ?_ ?_
                    · refine s_set (i := 3) sc__law_by_hand_right.nd rfl (.inl rfl) ?_
                      refine se_ops op_addA snd_add ?_ ?_
                      · refine se_lc (own := [("_law_own", 5)]) rfl sc__law_by_hand_right.nd ?_ (blkOk_by (own := [("_law_own", 5)]) (N := N__law_by_hand_right) (sc := defScope s__law_by_hand_right) (by decide +kernel)) (fun _ _ _ _ _ => (g_name (i := 5) (by decide) sc__law_by_hand_right.nd rfl (.inl rfl))) (fun _ _ _ _ _ => ts_nil) (fun _ _ _ _ _ => ?_)
                        · refine i_seq ?_
                          exact (se_ops op_addA snd_add (se_var (i := 1)) (se_var (i := 2)))
                        · refine se_cal (ps := ["thing"]) (fs := f_is_offers) c_is_offers (hr.mono (by decide)) (by rfl) ?_
                          exact (sa_cons (se_var (i := 5)) sa_nil)
                      · refine se_lc (own := [("_law_own", 5)]) rfl sc__law_by_hand_right.nd ?_ (blkOk_by (own := [("_law_own", 5)]) (N := N__law_by_hand_right) (sc := defScope s__law_by_hand_right) (by decide +kernel)) (fun _ _ _ _ _ => (g_name (i := 5) (by decide) sc__law_by_hand_right.nd rfl (.inl rfl))) (fun _ _ _ _ _ => ts_nil) (fun _ _ _ _ _ => ?_)
                        · refine i_seq ?_
                          exact (se_ops op_addA snd_add (se_var (i := 1)) (se_var (i := 2)))
                        · refine se_calK0 (ps := ["thing"]) (fs := f_is_offers) (ks := ["thing"]) [0] c_is_offers (hr.mono (by decide)) (by rfl) (fun _ _ _ _ _ _ us ws h1 h2 => match us, h1, ws, h2 with | [], _, [_], _ => rfl) ?_
                          exact (sk_cons (se_var (i := 5)) sk_nil)
                    · refine ss_one ?_
                      refine s_ret ?_
                      refine se_cal (ps := ["_law_got", "_law_due"]) (fs := (f__law_same 16)) c__law_same (hr.mono (by decide)) (by rfl) ?_
                      refine sa_cons (se_var (i := 3)) ?_
                      refine sa_cons ?_ sa_nil
                      refine se_ops op_mulA snd_mul ?_ se_int
                      refine se_ops op_addA snd_add ?_ ?_
                      · refine se_ops op_mulA snd_mul ?_ ?_
                        · refine se_lst ?_
                          exact (sa_cons se_bl sa_nil)
                        · refine se_callB call_lenA snd_len (by rfl) Z.z_len PySem.boot_len ?_
                          exact (sa_cons (se_var (i := 1)) sa_nil)
                      · refine se_ops op_mulA snd_mul ?_ ?_
                        · refine se_lst ?_
                          exact (sa_cons se_bl sa_nil)
                        · refine se_callB call_lenA snd_len (by rfl) Z.z_len PySem.boot_len ?_
                          exact (sa_cons (se_var (i := 2)) sa_nil)) (fun _ _ _ _ _ _ us hl => match us, hl with | [], _ => rfl)
theorem ok__law_cells (Z : Zs mg) (h : At K mg "_law_cells" s__law_cells)   : Cal P w K mg base 1 "_law_cells" s__law_cells ["_law_script", "_law_most_so"] f__law_cells :=
  .of h (fun a fd F hm => def_okD (x := "_law_cells") (st := s__law_cells) (N := N__law_cells) (ps := ["_law_script", "_law_most_so"]) (b := b__law_cells) (k := 0) F sc__law_cells fun cdv A outer s H E hr =>
      by
        refine ss_cons ?_ ?_
        · refine s_set (i := 2) sc__law_cells.nd rfl (.inl rfl) ?_
          refine se_or ?_ ?_
          · refine se_listM (by rfl) Z.z_list ?_
            refine sa_cons ?_ sa_nil
            refine se_sl (se_var (i := 0)) so_none ?_
            exact (so_some (se_var (i := 1)))
          · refine pe_one ?_
            refine se_lstM ?_
            exact (sa_cons se_int sa_nil)
        · refine ss_cons ?_ ?_
          · refine s_for (zs := [3, 4]) PassesOwn.never rfl ?_ ?_ ?_
            · refine i_enum (by rfl) Z.z_enumerate ?_
              refine sa_cons ?_ sa_nil
              refine se_sl (se_var (i := 0)) ?_ ?_
              · exact (so_some (se_var (i := 1)))
              · exact (so_some se_int)
            · refine g_tup rfl ?_ ?_
              · refine gs_cons (g_name (i := 3) (by decide) sc__law_cells.nd rfl (.inl rfl)) ?_
                exact (gs_cons (g_name (i := 4) (by decide) sc__law_cells.nd rfl (.inl rfl)) gs_nil)
              · exact (gs_len (gs_len gs_len0 _) _)
            · refine ss_cons ?_ ?_
              · refine s_set (i := 5) sc__law_cells.nd rfl (.inl rfl) ?_
                refine se_op op_mod snd_mod ?_ (se_var (i := 1))
                refine se_callTy call_int1 snd_int (by rfl) Z.z_int PyProof.Rows.boot_int ?_
                exact (sa_cons (se_var (i := 3)) sa_nil)
              · refine ss_one ?_
                refine s_setIx ?_ (se_var (i := 2)) (se_var (i := 5))
                refine se_ops op_addA snd_add ?_ ?_
                · exact (se_ix ix_seq snd_ix (se_var (i := 2)) (se_var (i := 5)))
                · refine se_ops op_mulA snd_mul (se_var (i := 4)) ?_
                  exact (se_ops op_addA snd_add (se_var (i := 3)) se_int)
          · exact (ss_one (s_ret (se_var (i := 2))))) (fun _ _ _ _ _ _ us hl => match us, hl with | [_, _], _ => rfl)
theorem ok__law_take (Z : Zs mg) (h : At K mg "_law_take" s__law_take)   : Cal P w K mg base 1 "_law_take" s__law_take ["_law_box_here", "_law_below"] f__law_take :=
  .of h (fun a fd F hm => def_okD (x := "_law_take") (st := s__law_take) (N := N__law_take) (ps := ["_law_box_here", "_law_below"]) (b := b__law_take) (k := 0) F sc__law_take fun cdv A outer s H E hr =>
      by
        refine ss_cons ?_ ?_
        · refine s_if ?_ ?_ ss_nil
          · refine st_cmp op_gt snd_gt ?_ se_int (nomark _)
            exact (se_ix ix_seq snd_ix (se_var (i := 0)) se_int)
          · refine ss_cons ?_ ?_
            · refine s_set (i := 5) sc__law_take.nd rfl (.inl rfl) ?_
              refine se_op op_mod snd_mod ?_ (se_var (i := 1))
              refine se_callTy call_int1 snd_int (by rfl) Z.z_int PyProof.Rows.boot_int ?_
              refine sa_cons ?_ sa_nil
              exact (se_ix ix_seq snd_ix (se_var (i := 0)) se_int)
            · refine ss_cons ?_ ?_
              · refine s_setIx ?_ (se_var (i := 0)) se_int
                refine se_op op_fdivW snd_div ?_ (se_var (i := 1))
                exact (se_ix ix_seq snd_ix (se_var (i := 0)) se_int)
              · exact (ss_one (s_ret (se_var (i := 5))))
        · refine ss_cons ?_ ?_
          · refine s_setIx ?_ (se_var (i := 0)) se_int
            refine se_ops op_addA snd_add ?_ se_int
            exact (se_ix ix_seq snd_ix (se_var (i := 0)) se_int)
          · refine ss_cons ?_ ?_
            · refine s_set (i := 2) sc__law_take.nd rfl (.inl rfl) ?_
              refine se_op op_mod snd_mod ?_ se_int
              refine se_callTy call_int1 snd_int (by rfl) Z.z_int PyProof.Rows.boot_int ?_
              refine sa_cons ?_ sa_nil
              refine se_ops op_mulA snd_mul ?_ ?_
              · refine se_ops op_addA snd_add ?_ ?_
                · exact (se_ix ix_seq snd_ix (se_var (i := 0)) se_int)
                · refine se_ops op_mulA snd_mul se_int ?_
                  exact (se_ix ix_seq snd_ix (se_var (i := 0)) se_int)
              · refine se_ops op_addA snd_add se_int ?_
                exact (se_ix ix_seq snd_ix (se_var (i := 0)) se_int)
            · refine ss_cons ?_ ?_
              · refine s_set (i := 3) sc__law_take.nd rfl (.inl rfl) ?_
                refine se_ops op_addA snd_add ?_ se_int
                refine se_op op_mod snd_mod ?_ se_int
                refine se_callTy call_int1 snd_int (by rfl) Z.z_int PyProof.Rows.boot_int ?_
                exact (sa_cons (se_var (i := 2)) sa_nil)
              · refine ss_cons ?_ ?_
                · refine s_set (i := 4) sc__law_take.nd rfl (.inl rfl) ?_
                  refine se_op op_mod snd_mod ?_ se_int
                  refine se_callTy call_int1 snd_int (by rfl) Z.z_int PyProof.Rows.boot_int ?_
                  refine sa_cons ?_ sa_nil
                  refine se_ops op_mulA snd_mul ?_ (se_var (i := 3))
                  refine se_ops op_addA snd_add ?_ ?_
                  · refine se_ops op_addA snd_add (se_var (i := 2)) ?_
                    exact (se_ix ix_seq snd_ix (se_var (i := 0)) se_int)
                  · refine se_op op_fdivW snd_div ?_ se_int
                    exact (se_ix ix_seq snd_ix (se_var (i := 0)) se_int)
                · refine ss_one ?_
                  refine s_ret ?_
                  refine se_op op_mod snd_mod ?_ (se_var (i := 1))
                  refine se_callTy call_int1 snd_int (by rfl) Z.z_int PyProof.Rows.boot_int ?_
                  refine sa_cons ?_ sa_nil
                  refine se_op op_fdivW snd_div ?_ se_int
                  refine se_op op_mod snd_mod ?_ se_int
                  refine se_callTy call_int1 snd_int (by rfl) Z.z_int PyProof.Rows.boot_int ?_
                  refine sa_cons ?_ sa_nil
                  refine se_ops op_addA snd_add ?_ (se_var (i := 2))
                  exact (se_ops op_mulA snd_mul (se_var (i := 4)) se_int)) (fun _ _ _ _ _ _ us hl => match us, hl with | [_, _], _ => rfl)
theorem ok__law_of (Z : Zs mg) (h : At K mg "_law_of" s__law_of) (c__law_take : Cal P w K mg base 1 "_law_take" s__law_take ["_law_box_here", "_law_below"] f__law_take)  : Cal P w K mg base 2 "_law_of" s__law_of ["_law_box_here", "_law_some"] f__law_of :=
  .of h (fun a fd F hm => def_okD (x := "_law_of") (st := s__law_of) (N := N__law_of) (ps := ["_law_box_here", "_law_some"]) (b := b__law_of) (k := 1) F sc__law_of fun cdv A outer s H E hr =>
      by
        refine ss_one ?_
        refine s_ret ?_
        refine se_ix ix_seq snd_ix (se_var (i := 1)) ?_
        refine se_cal (ps := ["_law_box_here", "_law_below"]) (fs := f__law_take) c__law_take (hr.mono (by decide)) (by rfl) ?_
        refine sa_cons (se_var (i := 0)) ?_
        refine sa_cons ?_ sa_nil
        refine se_callB call_lenA snd_len (by rfl) Z.z_len PySem.boot_len ?_
        exact (sa_cons (se_var (i := 1)) sa_nil)) (fun _ _ _ _ _ _ us hl => match us, hl with | [_, _], _ => rfl)
theorem ok__law_bent (Z : Zs mg) (h : At K mg "_law_bent" s__law_bent) (c__law_of : Cal P w K mg base 2 "_law_of" s__law_of ["_law_box_here", "_law_some"] f__law_of) (c__law_take : Cal P w K mg base 1 "_law_take" s__law_take ["_law_box_here", "_law_below"] f__law_take)  : Cal P w K mg base 3 "_law_bent" s__law_bent ["_law_box_here", "_law_mat"] f__law_bent :=
  .of h (fun a fd F hm => def_okD (x := "_law_bent") (st := s__law_bent) (N := N__law_bent) (ps := ["_law_box_here", "_law_mat"]) (b := b__law_bent) (k := 2) F sc__law_bent fun cdv A outer s H E hr =>
      by
        refine ss_cons ?_ ?_
        · refine s_if ?_ ?_ ss_nil
          · refine PW.pt ?_
            refine st_or ?_ ?_
            · refine st_not ?_
              exact (st_tr (se_isi (by rfl) Z.z_isinstance (by rfl) Z.z_tuple PyProof.Rows.boot_tuple (by decide) (se_var (i := 1))))
            · refine st_or1 ?_
              refine st_cmp (op_neD hr.units) snd_ne ?_ ?_ (nomark _)
              · refine se_lc (own := [("_law_own", 8)]) rfl sc__law_bent.nd ?_ (blkOk_by (own := [("_law_own", 8)]) (N := N__law_bent) (sc := defScope s__law_bent) (by decide +kernel)) (fun _ _ _ _ _ => (g_name (i := 8) (by decide) sc__law_bent.nd rfl (.inl rfl))) (fun _ _ _ _ _ => ?_) (fun _ _ _ _ _ => (se_var (i := 8)))
                · exact (i_seq (se_var (i := 1)))
                · refine ts_one ?_
                  refine PW.pt ?_
                  refine st_or ?_ ?_
                  · refine st_not ?_
                    exact (st_tr (se_isi (by rfl) Z.z_isinstance (by rfl) Z.z_tuple PyProof.Rows.boot_tuple (by decide) (se_var (i := 8))))
                  · refine st_or1 ?_
                    refine st_cmp (op_neD hr.units) snd_ne ?_ se_int (nomark _)
                    refine se_callB call_lenA snd_len (by rfl) Z.z_len PySem.boot_len ?_
                    exact (sa_cons (se_var (i := 8)) sa_nil)
              · exact (se_lst sa_nil)
          · exact (ss_one (s_ret (se_var (i := 1))))
        · refine ss_cons ?_ ?_
          · refine s_par (i := 2) (j := 3) rfl sc__law_bent.nd rfl rfl (by decide) rfl rfl ?_ (by rfl)
            refine sa_cons ?_ ?_
            · refine se_cal (ps := ["_law_box_here", "_law_below"]) (fs := f__law_take) c__law_take (hr.mono (by decide)) (by rfl) ?_
              refine sa_cons (se_var (i := 0)) ?_
              exact (sa_cons se_int sa_nil)
            · refine sa_cons ?_ sa_nil
              refine se_cal (ps := ["_law_box_here", "_law_below"]) (fs := f__law_take) c__law_take (hr.mono (by decide)) (by rfl) ?_
              refine sa_cons (se_var (i := 0)) ?_
              refine sa_cons ?_ sa_nil
              refine se_ops op_addA snd_add ?_ se_int
              refine se_callB call_lenA snd_len (by rfl) Z.z_len PySem.boot_len ?_
              exact (sa_cons (se_var (i := 1)) sa_nil)
          · refine ss_cons ?_ ?_
            · refine s_par3 (i := 4) (j := 5) (l := 6) rfl sc__law_bent.nd rfl rfl rfl (by decide) (by decide) (by decide) rfl rfl rfl ?_ (by rfl)
              refine sa_cons ?_ ?_
              · refine se_sl (se_var (i := 1)) so_none ?_
                exact (so_some (se_var (i := 3)))
              · refine sa_cons ?_ ?_
                · refine se_sl (se_var (i := 1)) ?_ ?_
                  · exact (so_some (se_var (i := 3)))
                  · refine so_some ?_
                    exact (se_ops op_addA snd_add (se_var (i := 3)) se_int)
                · refine sa_cons ?_ sa_nil
                  refine se_sl (se_var (i := 1)) ?_ so_none
                  refine so_some ?_
                  exact (se_ops op_addA snd_add (se_var (i := 3)) se_int)
            · refine ss_cons ?_ ?_
              · refine s_if ?_ ?_ ss_nil
                · exact (st_cmp (op_eqD hr.units) snd_eq (se_var (i := 2)) se_int (nomark _))
                · refine ss_one ?_
                  refine s_ret ?_
                  exact (se_ops op_addA snd_add (se_var (i := 4)) (se_var (i := 6)))
              · refine ss_cons ?_ ?_
                · refine s_if ?_ ?_ ss_nil
                  · exact (st_cmp (op_eqD hr.units) snd_eq (se_var (i := 2)) se_int (nomark _))
                  · refine ss_one ?_
                    refine s_ret ?_
                    refine se_ops op_addA snd_add ?_ (se_var (i := 6))
                    refine se_ops op_addA snd_add ?_ (se_var (i := 5))
                    exact (se_ops op_addA snd_add (se_var (i := 4)) (se_var (i := 5)))
                · refine ss_cons ?_ ?_
                  · refine s_if ?_ ?_ ss_nil
                    · exact (st_cmp (op_eqD hr.units) snd_eq (se_var (i := 2)) se_int (nomark _))
                    · refine ss_one ?_
                      exact (s_ret (se_revA (se_var (i := 1))))
                  · refine ss_cons ?_ ?_
                    · refine s_if ?_ ?_ ss_nil
                      · exact (st_cmp (op_eqD hr.units) snd_eq (se_var (i := 2)) se_int (nomark _))
                      · refine ss_cons ?_ ?_
                        · refine s_set (i := 7) sc__law_bent.nd rfl (.inr rfl) ?_
                          refine se_cal (ps := ["_law_box_here", "_law_some"]) (fs := f__law_of) c__law_of (hr.mono (by decide)) (by rfl) ?_
                          refine sa_cons (se_var (i := 0)) ?_
                          refine sa_cons ?_ sa_nil
                          refine se_lst ?_
                          refine sa_cons ?_ ?_
                          · exact (se_op op_sub snd_sub se_int se_int)
                          · refine sa_cons se_bl ?_
                            refine sa_cons se_bl ?_
                            refine sa_cons se_non ?_
                            refine sa_cons se_str ?_
                            refine sa_cons ?_ ?_
                            · refine se_tup ?_
                              exact (sa_cons se_int sa_nil)
                            · refine sa_cons ?_ ?_
                              · refine se_lst ?_
                                exact (sa_cons se_int sa_nil)
                              · refine sa_cons ?_ ?_
                                · exact (se_op op_pow snd_pow se_int se_int)
                                · exact (sa_cons se_int sa_nil)
                        · refine ss_one ?_
                          refine s_ret ?_
                          refine se_ops op_addA snd_add ?_ (se_var (i := 6))
                          refine se_ops op_addA snd_add (se_var (i := 4)) ?_
                          refine se_callTy call_tuple_of snd_tuple (by rfl) Z.z_tuple PyProof.Rows.boot_tuple ?_
                          refine sa_cons ?_ sa_nil
                          refine se_lc (own := [("_law_own", 8)]) rfl sc__law_bent.nd ?_ (blkOk_by (own := [("_law_own", 8)]) (N := N__law_bent) (sc := defScope s__law_bent) (by decide +kernel)) (fun _ _ _ _ _ => (g_name (i := 8) (by decide) sc__law_bent.nd rfl (.inl rfl))) (fun _ _ _ _ _ => ts_nil) (fun _ _ _ _ _ => ?_)
                          · exact (i_seq (se_var (i := 5)))
                          · refine se_tup ?_
                            refine sa_cons ?_ ?_
                            · exact (se_ix ix_seq snd_ix (se_var (i := 8)) se_int)
                            · exact (sa_cons (se_var (i := 7)) sa_nil)
                    · refine ss_cons ?_ ?_
                      · refine s_if ?_ ?_ ss_nil
                        · exact (st_cmp (op_eqD hr.units) snd_eq (se_var (i := 2)) se_int (nomark _))
                        · refine ss_cons ?_ ?_
                          · refine s_set (i := 7) sc__law_bent.nd rfl (.inr rfl) ?_
                            refine se_cal (ps := ["_law_box_here", "_law_some"]) (fs := f__law_of) c__law_of (hr.mono (by decide)) (by rfl) ?_
                            refine sa_cons (se_var (i := 0)) ?_
                            refine sa_cons ?_ sa_nil
                            refine se_lst ?_
                            refine sa_cons ?_ ?_
                            · exact (se_op op_sub snd_sub se_int se_int)
                            · refine sa_cons se_bl ?_
                              refine sa_cons se_non ?_
                              refine sa_cons se_str ?_
                              refine sa_cons ?_ ?_
                              · refine se_tup ?_
                                exact (sa_cons se_int sa_nil)
                              · refine sa_cons ?_ ?_
                                · exact (se_op op_pow snd_pow se_int se_int)
                                · refine sa_cons se_int ?_
                                  exact (sa_cons se_int sa_nil)
                          · refine ss_one ?_
                            refine s_ret ?_
                            refine se_ops op_addA snd_add ?_ (se_var (i := 6))
                            refine se_ops op_addA snd_add (se_var (i := 4)) ?_
                            refine se_callTy call_tuple_of snd_tuple (by rfl) Z.z_tuple PyProof.Rows.boot_tuple ?_
                            refine sa_cons ?_ sa_nil
                            refine se_lc (own := [("_law_own", 8)]) rfl sc__law_bent.nd ?_ (blkOk_by (own := [("_law_own", 8)]) (N := N__law_bent) (sc := defScope s__law_bent) (by decide +kernel)) (fun _ _ _ _ _ => (g_name (i := 8) (by decide) sc__law_bent.nd rfl (.inl rfl))) (fun _ _ _ _ _ => ts_nil) (fun _ _ _ _ _ => ?_)
                            · exact (i_seq (se_var (i := 5)))
                            · refine se_tup ?_
                              refine sa_cons (se_var (i := 7)) ?_
                              refine sa_cons ?_ sa_nil
                              exact (se_ix ix_seq snd_ix (se_var (i := 8)) se_int)
                      · refine ss_cons ?_ ?_
                        · refine s_if ?_ ?_ ss_nil
                          · exact (st_cmp (op_eqD hr.units) snd_eq (se_var (i := 2)) se_int (nomark _))
                          · refine ss_one ?_
                            refine s_ret ?_
                            refine se_ops op_addA snd_add ?_ (se_var (i := 6))
                            refine se_ops op_addA snd_add (se_var (i := 4)) ?_
                            refine se_callTy call_tuple_of snd_tuple (by rfl) Z.z_tuple PyProof.Rows.boot_tuple ?_
                            refine sa_cons ?_ sa_nil
                            refine se_lc (own := [("_law_own", 8)]) rfl sc__law_bent.nd ?_ (blkOk_by (own := [("_law_own", 8)]) (N := N__law_bent) (sc := defScope s__law_bent) (by decide +kernel)) (fun _ _ _ _ _ => (g_name (i := 8) (by decide) sc__law_bent.nd rfl (.inl rfl))) (fun _ _ _ _ _ => ts_nil) (fun _ _ _ _ _ => ?_)
                            · exact (i_seq (se_var (i := 5)))
                            · refine se_callTy call_list_of snd_list (by rfl) Z.z_list PyProof.Rows.boot_list ?_
                              exact (sa_cons (se_var (i := 8)) sa_nil)
                        · refine ss_cons ?_ ?_
                          · refine s_if ?_ ?_ ss_nil
                            · exact (st_cmp (op_eqD hr.units) snd_eq (se_var (i := 2)) se_int (nomark _))
                            · refine ss_one ?_
                              refine s_ret ?_
                              refine se_ops op_addA snd_add ?_ (se_var (i := 6))
                              refine se_ops op_addA snd_add (se_var (i := 4)) ?_
                              refine se_callTy call_tuple_of snd_tuple (by rfl) Z.z_tuple PyProof.Rows.boot_tuple ?_
                              refine sa_cons ?_ sa_nil
                              refine se_lc (own := [("_law_own", 8)]) rfl sc__law_bent.nd ?_ (blkOk_by (own := [("_law_own", 8)]) (N := N__law_bent) (sc := defScope s__law_bent) (by decide +kernel)) (fun _ _ _ _ _ => (g_name (i := 8) (by decide) sc__law_bent.nd rfl (.inl rfl))) (fun _ _ _ _ _ => ts_nil) (fun _ _ _ _ _ => ?_)
                              · exact (i_seq (se_var (i := 5)))
                              · exact (se_ix ix_seq snd_ix (se_var (i := 8)) se_int)
                          · refine ss_cons ?_ ?_
                            · refine s_if ?_ ?_ ss_nil
                              · exact (st_cmp (op_eqD hr.units) snd_eq (se_var (i := 2)) se_int (nomark _))
                              · refine ss_one ?_
                                refine s_ret ?_
                                refine se_ops op_addA snd_add ?_ (se_var (i := 6))
                                refine se_ops op_addA snd_add (se_var (i := 4)) ?_
                                refine se_callTy call_tuple_of snd_tuple (by rfl) Z.z_tuple PyProof.Rows.boot_tuple ?_
                                refine sa_cons ?_ sa_nil
                                refine se_lc (own := [("_law_own", 8)]) rfl sc__law_bent.nd ?_ (blkOk_by (own := [("_law_own", 8)]) (N := N__law_bent) (sc := defScope s__law_bent) (by decide +kernel)) (fun _ _ _ _ _ => (g_name (i := 8) (by decide) sc__law_bent.nd rfl (.inl rfl))) (fun _ _ _ _ _ => ts_nil) (fun _ _ _ _ _ => ?_)
                                · exact (i_seq (se_var (i := 5)))
                                · refine se_ops op_addA snd_add (se_var (i := 8)) ?_
                                  refine se_sl (se_var (i := 8)) so_none ?_
                                  exact (so_some se_int)
                            · refine ss_cons ?_ ?_
                              · refine s_if ?_ ?_ ss_nil
                                · exact (st_cmp (op_eqD hr.units) snd_eq (se_var (i := 2)) se_int (nomark _))
                                · refine ss_one ?_
                                  refine s_ret ?_
                                  refine se_ops op_addA snd_add ?_ (se_var (i := 6))
                                  refine se_ops op_addA snd_add (se_var (i := 4)) ?_
                                  refine se_callTy call_tuple_of snd_tuple (by rfl) Z.z_tuple PyProof.Rows.boot_tuple ?_
                                  refine sa_cons ?_ sa_nil
                                  refine se_lc (own := [("_law_own", 8)]) rfl sc__law_bent.nd ?_ (blkOk_by (own := [("_law_own", 8)]) (N := N__law_bent) (sc := defScope s__law_bent) (by decide +kernel)) (fun _ _ _ _ _ => (g_name (i := 8) (by decide) sc__law_bent.nd rfl (.inl rfl))) (fun _ _ _ _ _ => ts_nil) (fun _ _ _ _ _ => ?_)
                                  · exact (i_seq (se_var (i := 5)))
                                  · exact (se_revA (se_var (i := 8)))
                              · refine ss_one ?_
                                refine s_ret ?_
                                refine se_cal (ps := ["_law_box_here", "_law_some"]) (fs := f__law_of) c__law_of (hr.mono (by decide)) (by rfl) ?_
                                refine sa_cons (se_var (i := 0)) ?_
                                refine sa_cons ?_ sa_nil
                                refine se_lst ?_
                                refine sa_cons ?_ ?_
                                · refine se_callTy call_list_of snd_list (by rfl) Z.z_list PyProof.Rows.boot_list ?_
                                  exact (sa_cons (se_var (i := 1)) sa_nil)
                                · refine sa_cons se_non ?_
                                  refine sa_cons se_int ?_
                                  refine sa_cons ?_ ?_
                                  · refine se_tup ?_
                                    exact (sa_cons (se_var (i := 1)) sa_nil)
                                  · refine sa_cons se_str ?_
                                    refine sa_cons ?_ ?_
                                    · refine se_ops op_addA snd_add ?_ (se_var (i := 6))
                                      refine se_ops op_addA snd_add (se_var (i := 4)) ?_
                                      refine se_tup ?_
                                      exact (sa_cons se_non sa_nil)
                                    · refine sa_cons ?_ ?_
                                      · refine se_ops op_addA snd_add ?_ (se_var (i := 6))
                                        refine se_ops op_addA snd_add (se_var (i := 4)) ?_
                                        refine se_tup ?_
                                        refine sa_cons ?_ sa_nil
                                        exact (se_tup sa_nil)
                                      · exact (sa_cons (se_var (i := 1)) sa_nil)) (fun _ _ _ _ _ _ us hl => match us, hl with | [_, _], _ => rfl)
theorem ok__law_tops (Z : Zs mg) (h : At K mg "_law_tops" s__law_tops)   : Cal P w K mg base 1 "_law_tops" s__law_tops ["_law_way_here"] f__law_tops :=
  .of h (fun a fd F hm => def_okD (x := "_law_tops") (st := s__law_tops) (N := N__law_tops) (ps := ["_law_way_here"]) (b := b__law_tops) (k := 0) F sc__law_tops fun cdv A outer s H E hr =>
      by
        refine ss_cons ?_ ?_
        · exact (s_set (i := 1) sc__law_tops.nd rfl (.inl rfl) (se_lstM sa_nil))
        · refine ss_cons ?_ ?_
          · refine s_for (zs := [2]) PassesOwn.never rfl ?_ (g_name (i := 2) (by decide) sc__law_tops.nd rfl (.inl rfl)) ?_
            · exact (i_seq (se_var (i := 0)))
            · refine ss_one ?_
              refine s_if ?_ ?_ ss_nil
              · refine PW.pt ?_
                refine st_or ?_ ?_
                · refine st_cmp (op_eqD hr.units) snd_eq (se_var (i := 1)) ?_ (nomark _)
                  exact (se_lst sa_nil)
                · refine st_or1 ?_
                  refine st_cmp (op_ltA hr) snd_lt (se_var (i := 2)) ?_ (nomark _)
                  refine se_ix ix_seq snd_ix (se_var (i := 1)) ?_
                  exact (se_un un_neg snd_neg se_int)
              · refine ss_one ?_
                refine s_expr ?_
                refine se_meth PySem.F.plainAttrs_list PySem.F.slot_list_append PySem.F.type_list_append mt_append snd_append (se_var (i := 1)) ?_
                exact (sa_cons (se_var (i := 2)) sa_nil)
          · refine ss_one ?_
            refine s_ret ?_
            refine se_callTy call_tuple_of snd_tuple (by rfl) Z.z_tuple PyProof.Rows.boot_tuple ?_
            exact (sa_cons (se_var (i := 1)) sa_nil)) (fun _ _ _ _ _ _ us hl => match us, hl with | [_], _ => rfl)
theorem ok__law_blocks (Z : Zs mg) (h : At K mg "_law_blocks" s__law_blocks) (c__law_tops : Cal P w K mg base 1 "_law_tops" s__law_tops ["_law_way_here"] f__law_tops)  : Cal P w K mg base 2 "_law_blocks" s__law_blocks ["_law_way_here", "_law_low_here"] f__law_blocks :=
  .of h (fun a fd F hm => def_okD (x := "_law_blocks") (st := s__law_blocks) (N := N__law_blocks) (ps := ["_law_way_here", "_law_low_here"]) (b := b__law_blocks) (k := 1) F sc__law_blocks fun cdv A outer s H E hr =>
      by
        refine ss_cons ?_ ?_
        · refine s_set (i := 2) sc__law_blocks.nd rfl (.inl rfl) ?_
          refine se_cal (ps := ["_law_way_here"]) (fs := f__law_tops) c__law_tops (hr.mono (by decide)) (by rfl) ?_
          exact (sa_cons (se_var (i := 0)) sa_nil)
        · refine ss_cons ?_ ?_
          · refine s_if ?_ ?_ ss_nil
            · refine PW.pt ?_
              refine st_and ?_ ?_
              · refine st_cmp (op_neD hr.units) snd_ne (se_var (i := 2)) ?_ (nomark _)
                exact (se_tup sa_nil)
              · refine st_and1 ?_
                refine st_cmp (op_ltA hr) snd_lt ?_ ?_ (nomark _)
                · refine se_ix ix_seq snd_ix (se_var (i := 2)) ?_
                  exact (se_un un_neg snd_neg se_int)
                · exact (se_ops op_mulA snd_mul se_int (se_var (i := 1)))
            · exact (ss_one (s_ret se_non))
          · refine ss_cons ?_ ?_
            · exact (s_set (i := 3) sc__law_blocks.nd rfl (.inl rfl) (se_lstM sa_nil))
            · refine ss_cons ?_ ?_
              · refine s_for (zs := [4]) PassesOwn.never rfl ?_ (g_name (i := 4) (by decide) sc__law_blocks.nd rfl (.inl rfl)) ?_
                · exact (i_seq (se_revA (se_var (i := 2))))
                · refine ss_one ?_
                  refine s_if ?_ ?_ ?_
                  · refine PW.pt ?_
                    refine st_and ?_ ?_
                    · refine st_cmp (op_neD hr.units) snd_ne (se_var (i := 3)) ?_ (nomark _)
                      exact (se_lst sa_nil)
                    · refine st_and1 ?_
                      refine st_cmp op_le snd_le ?_ (se_var (i := 1)) (nomark _)
                      refine se_op op_sub snd_sub (se_var (i := 4)) ?_
                      refine se_ix ix_seq snd_ix ?_ se_int
                      refine se_ix ix_seq snd_ix (se_var (i := 3)) ?_
                      exact (se_un un_neg snd_neg se_int)
                  · refine ss_one ?_
                    refine s_setIx ?_ (se_var (i := 3)) ?_
                    · refine se_tup ?_
                      refine sa_cons ?_ ?_
                      · refine se_ix ix_seq snd_ix ?_ se_int
                        refine se_ix ix_seq snd_ix (se_var (i := 3)) ?_
                        exact (se_un un_neg snd_neg se_int)
                      · exact (sa_cons (se_var (i := 4)) sa_nil)
                    · exact (se_un un_neg snd_neg se_int)
                  · refine ss_one ?_
                    refine s_expr ?_
                    refine se_meth PySem.F.plainAttrs_list PySem.F.slot_list_append PySem.F.type_list_append mt_append snd_append (se_var (i := 3)) ?_
                    refine sa_cons ?_ sa_nil
                    refine se_tup ?_
                    refine sa_cons (se_var (i := 4)) ?_
                    exact (sa_cons (se_var (i := 4)) sa_nil)
              · refine ss_one ?_
                refine s_ret ?_
                refine se_callTy call_tuple_of snd_tuple (by rfl) Z.z_tuple PyProof.Rows.boot_tuple ?_
                exact (sa_cons (se_var (i := 3)) sa_nil)) (fun _ _ _ _ _ _ us hl => match us, hl with | [_, _], _ => rfl)
theorem ok__law_deals (Z : Zs mg) (h : At K mg "_law_deals" s__law_deals) (c__law_blocks : Cal P w K mg base 2 "_law_blocks" s__law_blocks ["_law_way_here", "_law_low_here"] f__law_blocks) (c__law_of : Cal P w K mg base 2 "_law_of" s__law_of ["_law_box_here", "_law_some"] f__law_of) (c__law_take : Cal P w K mg base 1 "_law_take" s__law_take ["_law_box_here", "_law_below"] f__law_take)  : Cal P w K mg base 3 "_law_deals" s__law_deals ["_law_box_here", "_law_way_here", "_law_low_here", "_law_most"] f__law_deals :=
  .of h (fun a fd F hm => def_okD (x := "_law_deals") (st := s__law_deals) (N := N__law_deals) (ps := ["_law_box_here", "_law_way_here", "_law_low_here", "_law_most"]) (b := b__law_deals) (k := 2) F sc__law_deals fun cdv A outer s H E hr =>
      by
        refine d_par2 (i := 8) (l := 9) (j := 1) rfl sc__law_deals.nd rfl rfl (by decide) rfl rfl ?_ (by rfl) ?_
        · refine ak_there ?_ ?_
          · refine se_lst ?_
            refine sa_cons ?_ sa_nil
            refine se_ops op_addA snd_add se_int ?_
            refine se_cal (ps := ["_law_box_here", "_law_below"]) (fs := f__law_take) c__law_take (hr.mono (by decide)) (by rfl) ?_
            refine sa_cons (se_var (i := 0)) ?_
            refine sa_cons ?_ sa_nil
            exact (se_ops op_mulA snd_mul se_int (se_var (i := 2)))
          · exact (ak_here sa_nil)
        · refine d_cons ?_ ?_
          · refine d_plain ?_
            refine s_for (zs := [4]) PassesOwn.never rfl ?_ (g_name (i := 4) (by decide) sc__law_deals.nd rfl (.inl rfl)) ?_
            · refine i_seq ?_
              refine se_or ?_ ?_
              · refine se_cal (ps := ["_law_way_here", "_law_low_here"]) (fs := f__law_blocks) c__law_blocks (hr.mono (by decide)) (by rfl) ?_
                refine sa_cons (se_var (i := 1)) ?_
                exact (sa_cons (se_var (i := 2)) sa_nil)
              · exact (pe_one (se_tup sa_nil))
            · refine ss_one ?_
              refine s_set (i := 8) sc__law_deals.nd rfl (.inl rfl) ?_
              refine se_ops op_addA snd_add ?_ (se_var (i := 8))
              refine se_callTy call_list_of snd_list (by rfl) Z.z_list PyProof.Rows.boot_list ?_
              exact (sa_cons (se_var (i := 4)) sa_nil)
          · refine d_cons ?_ ?_
            · refine d_for (zs := [5]) PassesOwn.never rfl ?_ (g_name (i := 5) (by decide) sc__law_deals.nd rfl (.inl rfl)) ?_
              · exact (i_seq (se_var (i := 8)))
              · refine d_one ?_
                refine d_if ?_ ?_ d_nil
                · refine st_cmp op_gt snd_gt ?_ se_int (nomark _)
                  refine se_cal (ps := ["_law_box_here", "_law_below"]) (fs := f__law_take) c__law_take (hr.mono (by decide)) (by rfl) ?_
                  refine sa_cons (se_var (i := 0)) ?_
                  exact (sa_cons se_int sa_nil)
                · refine d_one ?_
                  exact (d_put (hu_of hr) (by rfl) (by first | exact Or.inl rfl | exact Or.inr (Or.inl rfl) | exact Or.inr (Or.inr rfl)) (by decide) (by decide) (se_var (i := 5)) se_bl)
            · refine d_cons ?_ ?_
              · refine d_for (zs := [6]) PassesOwn.never rfl ?_ (g_name (i := 6) (by decide) sc__law_deals.nd rfl (.inl rfl)) ?_
                · refine i_range1 (by rfl) Z.z_range ?_
                  refine sa_cons ?_ sa_nil
                  refine se_cal (ps := ["_law_box_here", "_law_below"]) (fs := f__law_take) c__law_take (hr.mono (by decide)) (by rfl) ?_
                  refine sa_cons (se_var (i := 0)) ?_
                  exact (sa_cons (se_var (i := 3)) sa_nil)
                · refine d_cons ?_ ?_
                  · refine d_plain ?_
                    refine s_set (i := 5) sc__law_deals.nd rfl (.inl rfl) ?_
                    refine se_ops op_addA snd_add ?_ ?_
                    · refine se_cal (ps := ["_law_box_here", "_law_some"]) (fs := f__law_of) c__law_of (hr.mono (by decide)) (by rfl) ?_
                      refine sa_cons (se_var (i := 0)) ?_
                      exact (sa_cons (se_var (i := 8)) sa_nil)
                    · refine se_ops op_mulA snd_mul ?_ ?_
                      · refine se_cal (ps := ["_law_box_here", "_law_some"]) (fs := f__law_of) c__law_of (hr.mono (by decide)) (by rfl) ?_
                        refine sa_cons (se_var (i := 0)) ?_
                        refine sa_cons ?_ sa_nil
                        refine se_lst ?_
                        refine sa_cons se_int ?_
                        refine sa_cons (se_var (i := 2)) ?_
                        refine sa_cons ?_ sa_nil
                        refine se_cal (ps := ["_law_box_here", "_law_below"]) (fs := f__law_take) c__law_take (hr.mono (by decide)) (by rfl) ?_
                        refine sa_cons (se_var (i := 0)) ?_
                        refine sa_cons ?_ sa_nil
                        refine se_ops op_addA snd_add ?_ se_int
                        exact (se_ops op_mulA snd_mul se_int (se_var (i := 2)))
                      · refine se_cal (ps := ["_law_box_here", "_law_some"]) (fs := f__law_of) c__law_of (hr.mono (by decide)) (by rfl) ?_
                        refine sa_cons (se_var (i := 0)) ?_
                        refine sa_cons ?_ sa_nil
                        refine se_lst ?_
                        refine sa_cons se_int ?_
                        refine sa_cons ?_ sa_nil
                        exact (se_op op_sub snd_sub se_int se_int)
                  · refine d_one ?_
                    refine d_put (hu_of hr) (by rfl) (by first | exact Or.inl rfl | exact Or.inr (Or.inl rfl) | exact Or.inr (Or.inr rfl)) (by decide) (by decide) ?_ se_bl
                    refine se_callB (call_maxA rfl hr) snd_max (by rfl) Z.z_max PyProof.Rows.boot_max ?_
                    refine sa_cons se_int ?_
                    exact (sa_cons (se_var (i := 5)) sa_nil)
              · refine d_cons ?_ ?_
                · refine d_plain ?_
                  refine s_set (i := 7) sc__law_deals.nd rfl (.inr rfl) ?_
                  refine se_cal (ps := ["_law_box_here", "_law_some"]) (fs := f__law_of) c__law_of (hr.mono (by decide)) (by rfl) ?_
                  refine sa_cons (se_var (i := 0)) ?_
                  refine sa_cons ?_ sa_nil
                  refine se_lst ?_
                  refine sa_cons se_int ?_
                  refine sa_cons se_int ?_
                  refine sa_cons ?_ sa_nil
                  exact (se_op op_pow snd_pow se_int se_int)
                · refine d_one ?_
                  refine d_ret ?_
                  refine se_callTy call_tuple_of snd_tuple (by rfl) Z.z_tuple PyProof.Rows.boot_tuple ?_
                  refine sa_cons ?_ sa_nil
                  refine se_lc (own := [("_law_own", 5)]) rfl sc__law_deals.nd ?_ (blkOk_by (own := [("_law_own", 5)]) (N := N__law_deals) (sc := defScope s__law_deals) (by decide +kernel)) (fun _ _ _ _ _ => (g_name (i := 5) (by decide) sc__law_deals.nd rfl (.inl rfl))) (fun _ _ _ _ _ => ts_nil) (fun _ _ _ _ _ => ?_)
                  · refine i_seq ?_
                    refine se_sl ?_ so_none ?_
                    · refine se_sortK rfl (by rfl) Z.z_sorted ?_
                      exact (sa_cons (se_var (i := 9)) sa_nil)
                    · exact (so_some (se_var (i := 3)))
                  · refine se_tup ?_
                    refine sa_cons (se_var (i := 5)) ?_
                    refine sa_cons ?_ sa_nil
                    refine se_cal (ps := ["_law_box_here", "_law_below"]) (fs := f__law_take) c__law_take (hr.mono (by decide)) (by rfl) ?_
                    refine sa_cons (se_var (i := 0)) ?_
                    exact (sa_cons (se_var (i := 7)) sa_nil)) (fun _ _ _ _ _ _ us hl => match us, hl with | [_, _, _, _], _ => rfl)
theorem ok__law_is_fine (Z : Zs mg) (h : At K mg "_law_is_fine" s__law_is_fine)   : Cal P w K mg base 1 "_law_is_fine" s__law_is_fine ["_law_mat"] f__law_is_fine :=
  .of h (fun a fd F hm => def_okD (x := "_law_is_fine") (st := s__law_is_fine) (N := N__law_is_fine) (ps := ["_law_mat"]) (b := b__law_is_fine) (k := 0) F sc__law_is_fine fun cdv A outer s H E hr =>
      by
        refine ss_cons ?_ ?_
        · refine s_if ?_ ?_ ss_nil
          · refine st_not ?_
            exact (st_tr (se_isi (by rfl) Z.z_isinstance (by rfl) Z.z_tuple PyProof.Rows.boot_tuple (by decide) (se_var (i := 0))))
          · exact (ss_one (s_ret se_bl))
        · refine ss_cons ?_ ?_
          · refine s_for (zs := [1]) PassesOwn.never rfl ?_ (g_name (i := 1) (by decide) sc__law_is_fine.nd rfl (.inl rfl)) ?_
            · exact (i_seq (se_var (i := 0)))
            · refine ss_cons ?_ ?_
              · refine s_if ?_ ?_ ss_nil
                · refine PW.pt ?_
                  refine st_or ?_ ?_
                  · refine st_not ?_
                    exact (st_tr (se_isi (by rfl) Z.z_isinstance (by rfl) Z.z_tuple PyProof.Rows.boot_tuple (by decide) (se_var (i := 1))))
                  · refine st_or1 ?_
                    refine st_cmp (op_neD hr.units) snd_ne ?_ se_int (nomark _)
                    refine se_callB call_lenA snd_len (by rfl) Z.z_len PySem.boot_len ?_
                    exact (sa_cons (se_var (i := 1)) sa_nil)
                · exact (ss_one (s_ret se_bl))
              · refine ss_cons ?_ ?_
                · refine s_if ?_ ?_ ss_nil
                  · refine st_cmp (op_neD hr.units) snd_ne ?_ ?_ (nomark _)
                    · refine se_lc (own := [("_law_bit", 3)]) rfl sc__law_is_fine.nd ?_ (blkOk_by (own := [("_law_bit", 3)]) (N := N__law_is_fine) (sc := defScope s__law_is_fine) (by decide +kernel)) (fun _ _ _ _ _ => (g_name (i := 3) (by decide) sc__law_is_fine.nd rfl (.inl rfl))) (fun _ _ _ _ _ => ?_) (fun _ _ _ _ _ => (se_var (i := 3)))
                      · exact (i_seq (se_var (i := 1)))
                      · refine ts_one ?_
                        refine PW.pt ?_
                        refine st_or ?_ ?_
                        · refine st_not ?_
                          exact (st_tr (se_isi (by rfl) Z.z_isinstance (by rfl) Z.z_int PyProof.Rows.boot_int (by decide) (se_var (i := 3))))
                        · refine st_or1 ?_
                          exact (st_tr (se_isi (by rfl) Z.z_isinstance (by rfl) Z.z_bool (by decide +kernel) (by decide) (se_var (i := 3))))
                    · exact (se_lst sa_nil)
                  · exact (ss_one (s_ret se_bl))
                · refine ss_one ?_
                  refine s_if ?_ ?_ ss_nil
                  · refine PW.pt ?_
                    refine st_or ?_ ?_
                    · refine st_cmp (op_ltA hr) snd_lt ?_ se_int (nomark _)
                      exact (se_ix ix_seq snd_ix (se_var (i := 1)) se_int)
                    · refine st_or1 ?_
                      refine st_cmp (op_ltA hr) snd_lt ?_ se_int (nomark _)
                      exact (se_ix ix_seq snd_ix (se_var (i := 1)) se_int)
                  · exact (ss_one (s_ret se_bl))
          · refine ss_one ?_
            refine s_ret ?_
            refine se_cmp (op_eqD hr.units) snd_eq ?_ ?_ (nomark _)
            · refine se_lc (own := [("_law_k", 2)]) rfl sc__law_is_fine.nd ?_ (blkOk_by (own := [("_law_k", 2)]) (N := N__law_is_fine) (sc := defScope s__law_is_fine) (by decide +kernel)) (fun _ _ _ _ _ => (g_name (i := 2) (by decide) sc__law_is_fine.nd rfl (.inl rfl))) (fun _ _ _ _ _ => ?_) (fun _ _ _ _ _ => (se_var (i := 2)))
              · refine i_range2 (by rfl) Z.z_range ?_
                refine sa_cons se_int ?_
                refine sa_cons ?_ sa_nil
                refine se_callB call_lenA snd_len (by rfl) Z.z_len PySem.boot_len ?_
                exact (sa_cons (se_var (i := 0)) sa_nil)
              · refine ts_one ?_
                refine st_not ?_
                refine st_cmp (op_ltA hr) snd_lt ?_ ?_ (nomark _)
                · refine se_ix ix_seq snd_ix ?_ se_int
                  refine se_ix ix_seq snd_ix (se_var (i := 0)) ?_
                  exact (se_op op_sub snd_sub (se_var (i := 2)) se_int)
                · refine se_ix ix_seq snd_ix ?_ se_int
                  exact (se_ix ix_seq snd_ix (se_var (i := 0)) (se_var (i := 2)))
            · exact (se_lst sa_nil)) (fun _ _ _ _ _ _ us hl => match us, hl with | [_], _ => rfl)
theorem ok__law_low (Z : Zs mg) (h : At K mg "_law_low" s__law_low) (c__law_of : Cal P w K mg base 2 "_law_of" s__law_of ["_law_box_here", "_law_some"] f__law_of) (c__law_take : Cal P w K mg base 1 "_law_take" s__law_take ["_law_box_here", "_law_below"] f__law_take)  : Cal P w K mg base 3 "_law_low" s__law_low ["_law_box_here"] f__law_low :=
  .of h (fun a fd F hm => def_okD (x := "_law_low") (st := s__law_low) (N := N__law_low) (ps := ["_law_box_here"]) (b := b__law_low) (k := 2) F sc__law_low fun cdv A outer s H E hr =>
      by
        refine ss_cons ?_ ?_
        · refine s_set (i := 1) sc__law_low.nd rfl (.inl rfl) ?_
          refine se_cal (ps := ["_law_box_here", "_law_below"]) (fs := f__law_take) c__law_take (hr.mono (by decide)) (by rfl) ?_
          refine sa_cons (se_var (i := 0)) ?_
          exact (sa_cons se_int sa_nil)
        · refine ss_cons ?_ ?_
          · refine s_if ?_ ?_ ss_nil
            · exact (st_cmp (op_eqD hr.units) snd_eq (se_var (i := 1)) se_int (nomark _))
            · refine ss_one ?_
              refine s_ret ?_
              refine se_ops op_addA snd_add se_int ?_
              refine se_cal (ps := ["_law_box_here", "_law_below"]) (fs := f__law_take) c__law_take (hr.mono (by decide)) (by rfl) ?_
              refine sa_cons (se_var (i := 0)) ?_
              refine sa_cons ?_ sa_nil
              exact (se_op op_pow snd_pow se_int se_int)
          · refine ss_cons ?_ ?_
            · refine s_if ?_ ?_ ss_nil
              · exact (st_cmp (op_eqD hr.units) snd_eq (se_var (i := 1)) se_int (nomark _))
              · refine ss_one ?_
                refine s_ret ?_
                refine se_op op_sub snd_sub ?_ ?_
                · exact (se_op op_pow snd_pow se_int se_int)
                · refine se_cal (ps := ["_law_box_here", "_law_below"]) (fs := f__law_take) c__law_take (hr.mono (by decide)) (by rfl) ?_
                  refine sa_cons (se_var (i := 0)) ?_
                  exact (sa_cons se_int sa_nil)
            · refine ss_one ?_
              refine s_ret ?_
              refine se_cal (ps := ["_law_box_here", "_law_some"]) (fs := f__law_of) c__law_of (hr.mono (by decide)) (by rfl) ?_
              refine sa_cons (se_var (i := 0)) ?_
              refine sa_cons ?_ sa_nil
              refine se_lst ?_
              refine sa_cons se_int ?_
              refine sa_cons se_int ?_
              refine sa_cons se_int ?_
              refine sa_cons se_int ?_
              refine sa_cons se_int ?_
              exact (sa_cons se_int sa_nil)) (fun _ _ _ _ _ _ us hl => match us, hl with | [_], _ => rfl)
theorem ok__law_rising (Z : Zs mg) (h : At K mg "_law_rising" s__law_rising) (c__law_of : Cal P w K mg base 2 "_law_of" s__law_of ["_law_box_here", "_law_some"] f__law_of) (c__law_take : Cal P w K mg base 1 "_law_take" s__law_take ["_law_box_here", "_law_below"] f__law_take)  : Cal P w K mg base 3 "_law_rising" s__law_rising ["_law_box_here", "_law_low_here", "_law_most"] f__law_rising :=
  .of h (fun a fd F hm => def_okD (x := "_law_rising") (st := s__law_rising) (N := N__law_rising) (ps := ["_law_box_here", "_law_low_here", "_law_most"]) (b := b__law_rising) (k := 2) F sc__law_rising fun cdv A outer s H E hr =>
      by
        refine ss_cons ?_ ?_
        · refine s_set (i := 3) sc__law_rising.nd rfl (.inl rfl) ?_
          refine se_lstM ?_
          refine sa_cons ?_ sa_nil
          refine se_cal (ps := ["_law_box_here", "_law_some"]) (fs := f__law_of) c__law_of (hr.mono (by decide)) (by rfl) ?_
          refine sa_cons (se_var (i := 0)) ?_
          refine sa_cons ?_ sa_nil
          refine se_lst ?_
          refine sa_cons ?_ ?_
          · exact (se_ops op_mulA snd_mul se_int (se_var (i := 1)))
          · refine sa_cons ?_ ?_
            · exact (se_ops op_mulA snd_mul se_int (se_var (i := 1)))
            · refine sa_cons ?_ ?_
              · refine se_ops op_addA snd_add ?_ se_int
                exact (se_ops op_mulA snd_mul se_int (se_var (i := 1)))
              · refine sa_cons ?_ ?_
                · exact (se_ops op_mulA snd_mul se_int (se_var (i := 1)))
                · refine sa_cons ?_ ?_
                  · refine se_ops op_addA snd_add ?_ se_int
                    exact (se_ops op_mulA snd_mul se_int (se_var (i := 1)))
                  · refine sa_cons ?_ sa_nil
                    refine se_ops op_addA snd_add se_int ?_
                    refine se_cal (ps := ["_law_box_here", "_law_below"]) (fs := f__law_take) c__law_take (hr.mono (by decide)) (by rfl) ?_
                    refine sa_cons (se_var (i := 0)) ?_
                    refine sa_cons ?_ sa_nil
                    exact (se_ops op_mulA snd_mul se_int (se_var (i := 1)))
        · refine ss_cons ?_ ?_
          · refine s_for (zs := [4]) PassesOwn.never rfl ?_ (g_name (i := 4) (by decide) sc__law_rising.nd rfl (.inl rfl)) ?_
            · refine i_range1 (by rfl) Z.z_range ?_
              refine sa_cons ?_ sa_nil
              refine se_cal (ps := ["_law_box_here", "_law_below"]) (fs := f__law_take) c__law_take (hr.mono (by decide)) (by rfl) ?_
              refine sa_cons (se_var (i := 0)) ?_
              exact (sa_cons (se_var (i := 2)) sa_nil)
            · refine ss_cons ?_ ?_
              · refine s_set (i := 5) sc__law_rising.nd rfl (.inl rfl) ?_
                refine se_cal (ps := ["_law_box_here", "_law_some"]) (fs := f__law_of) c__law_of (hr.mono (by decide)) (by rfl) ?_
                refine sa_cons (se_var (i := 0)) ?_
                refine sa_cons ?_ sa_nil
                refine se_lst ?_
                refine sa_cons se_int ?_
                refine sa_cons ?_ ?_
                · refine se_callB (call_maxA rfl hr) snd_max (by rfl) Z.z_max PyProof.Rows.boot_max ?_
                  refine sa_cons se_int ?_
                  refine sa_cons ?_ sa_nil
                  exact (se_op op_sub snd_sub (se_var (i := 1)) se_int)
                · refine sa_cons (se_var (i := 1)) ?_
                  refine sa_cons ?_ ?_
                  · exact (se_ops op_addA snd_add (se_var (i := 1)) se_int)
                  · refine sa_cons ?_ ?_
                    · exact (se_ops op_mulA snd_mul se_int (se_var (i := 1)))
                    · refine sa_cons ?_ ?_
                      · refine se_ops op_addA snd_add ?_ se_int
                        exact (se_ops op_mulA snd_mul se_int (se_var (i := 1)))
                      · refine sa_cons ?_ sa_nil
                        refine se_ops op_addA snd_add se_int ?_
                        refine se_cal (ps := ["_law_box_here", "_law_below"]) (fs := f__law_take) c__law_take (hr.mono (by decide)) (by rfl) ?_
                        refine sa_cons (se_var (i := 0)) ?_
                        refine sa_cons ?_ sa_nil
                        exact (se_ops op_mulA snd_mul se_int (se_var (i := 1)))
              · refine ss_one ?_
                refine s_expr ?_
                refine se_meth PySem.F.plainAttrs_list PySem.F.slot_list_append PySem.F.type_list_append mt_append snd_append (se_var (i := 3)) ?_
                refine sa_cons ?_ sa_nil
                refine se_ops op_addA snd_add ?_ (se_var (i := 5))
                refine se_ix ix_seq snd_ix (se_var (i := 3)) ?_
                exact (se_un un_neg snd_neg se_int)
          · exact (ss_one (s_ret (se_var (i := 3))))) (fun _ _ _ _ _ _ us hl => match us, hl with | [_, _, _], _ => rfl)
theorem ok__law_way (Z : Zs mg) (h : At K mg "_law_way" s__law_way) (c__law_rising : Cal P w K mg base 3 "_law_rising" s__law_rising ["_law_box_here", "_law_low_here", "_law_most"] f__law_rising) (c__law_take : Cal P w K mg base 1 "_law_take" s__law_take ["_law_box_here", "_law_below"] f__law_take)  : Cal P w K mg base 4 "_law_way" s__law_way ["_law_box_here", "_law_low_here", "_law_most"] f__law_way :=
  .of h (fun a fd F hm => def_okD (x := "_law_way") (st := s__law_way) (N := N__law_way) (ps := ["_law_box_here", "_law_low_here", "_law_most"]) (b := b__law_way) (k := 3) F sc__law_way fun cdv A outer s H E hr =>
      by
        refine ss_cons ?_ ?_
        · refine s_if ?_ ?_ ss_nil
          · refine st_cmp (op_eqD hr.units) snd_eq ?_ se_int (nomark _)
            refine se_cal (ps := ["_law_box_here", "_law_below"]) (fs := f__law_take) c__law_take (hr.mono (by decide)) (by rfl) ?_
            refine sa_cons (se_var (i := 0)) ?_
            exact (sa_cons se_int sa_nil)
          · refine ss_one ?_
            exact (s_ret (se_tup sa_nil))
        · refine ss_cons ?_ ?_
          · refine s_set (i := 3) sc__law_way.nd rfl (.inl rfl) ?_
            refine se_revM ?_
            refine se_cal (ps := ["_law_box_here", "_law_low_here", "_law_most"]) (fs := f__law_rising) c__law_rising (hr.mono (by decide)) (by rfl) ?_
            refine sa_cons (se_var (i := 0)) ?_
            refine sa_cons (se_var (i := 1)) ?_
            exact (sa_cons (se_var (i := 2)) sa_nil)
          · refine ss_cons ?_ ?_
            · refine s_for (zs := [4]) PassesOwn.never rfl ?_ (g_name (i := 4) (by decide) sc__law_way.nd rfl (.inl rfl)) ?_
              · refine i_range1 (by rfl) Z.z_range ?_
                refine sa_cons ?_ sa_nil
                refine se_cal (ps := ["_law_box_here", "_law_below"]) (fs := f__law_take) c__law_take (hr.mono (by decide)) (by rfl) ?_
                refine sa_cons (se_var (i := 0)) ?_
                exact (sa_cons se_int sa_nil)
              · refine ss_cons ?_ ?_
                · refine s_set (i := 5) sc__law_way.nd rfl (.inl rfl) ?_
                  refine se_ops op_addA snd_add se_int ?_
                  refine se_cal (ps := ["_law_box_here", "_law_below"]) (fs := f__law_take) c__law_take (hr.mono (by decide)) (by rfl) ?_
                  refine sa_cons (se_var (i := 0)) ?_
                  refine sa_cons ?_ sa_nil
                  refine se_callB call_lenA snd_len (by rfl) Z.z_len PySem.boot_len ?_
                  exact (sa_cons (se_var (i := 3)) sa_nil)
                · refine ss_one ?_
                  refine s_expr ?_
                  refine se_meth PySem.F.plainAttrs_list PySem.F.slot_list_insert PySem.F.type_list_insert mt_ins snd_ins (se_var (i := 3)) ?_
                  refine sa_cons (se_var (i := 5)) ?_
                  refine sa_cons ?_ sa_nil
                  refine se_ops op_addA snd_add ?_ ?_
                  · refine se_callB (call_minA rfl hr) snd_min (by rfl) Z.z_min PyProof.Rows.boot_min ?_
                    refine sa_cons ?_ sa_nil
                    refine se_sl (se_var (i := 3)) so_none ?_
                    exact (so_some (se_var (i := 5)))
                  · refine se_cal (ps := ["_law_box_here", "_law_below"]) (fs := f__law_take) c__law_take (hr.mono (by decide)) (by rfl) ?_
                    refine sa_cons (se_var (i := 0)) ?_
                    refine sa_cons ?_ sa_nil
                    refine se_ops op_addA snd_add ?_ se_int
                    exact (se_ops op_mulA snd_mul se_int (se_var (i := 1)))
            · refine ss_one ?_
              refine s_ret ?_
              refine se_callTy call_tuple_of snd_tuple (by rfl) Z.z_tuple PyProof.Rows.boot_tuple ?_
              exact (sa_cons (se_var (i := 3)) sa_nil)) (fun _ _ _ _ _ _ us hl => match us, hl with | [_, _, _], _ => rfl)
theorem ok__law_right (Z : Zs mg) (h : At K mg "_law_right" s__law_right) (c__law_bent : Cal P w K mg base 3 "_law_bent" s__law_bent ["_law_box_here", "_law_mat"] f__law_bent) (c__law_deals : Cal P w K mg base 3 "_law_deals" s__law_deals ["_law_box_here", "_law_way_here", "_law_low_here", "_law_most"] f__law_deals) (c__law_is_fine : Cal P w K mg base 1 "_law_is_fine" s__law_is_fine ["_law_mat"] f__law_is_fine) (c__law_low : Cal P w K mg base 3 "_law_low" s__law_low ["_law_box_here"] f__law_low) (c__law_same : Cal P w K mg base 17 "_law_same" s__law_same ["_law_got", "_law_due"] (f__law_same 16)) (c__law_way : Cal P w K mg base 4 "_law_way" s__law_way ["_law_box_here", "_law_low_here", "_law_most"] f__law_way) (c_is_offers : Cal P w K mg base 3 "is_offers" s_is_offers ["thing"] f_is_offers)  : CalG P w K mg base 18 "_law_right" s__law_right ["_law_box_here"] f__law_right :=
  .of h (fun a fd F hm => def_okG (x := "_law_right") (st := s__law_right) (N := N__law_right) (ps := ["_law_box_here"]) (b := b__law_right) (k := 17) F sc__law_right fun cdv A outer s H E hq hr =>
      by
        refine ss_cons ?_ ?_
        · refine s_set (i := 1) sc__law_right.nd rfl (.inl rfl) ?_
          refine se_cal (ps := ["_law_box_here"]) (fs := f__law_low) c__law_low (hr.mono (by decide)) (by rfl) ?_
          exact (sa_cons (se_var (i := 0)) sa_nil)
        · refine ss_cons ?_ ?_
          · refine s_set (i := 2) sc__law_right.nd rfl (.inl rfl) ?_
            refine se_cal (ps := ["_law_box_here", "_law_way_here", "_law_low_here", "_law_most"]) (fs := f__law_deals) c__law_deals (hr.mono (by decide)) (by rfl) ?_
            refine sa_cons (se_var (i := 0)) ?_
            refine sa_cons ?_ ?_
            · refine se_cal (ps := ["_law_box_here", "_law_low_here", "_law_most"]) (fs := f__law_way) c__law_way (hr.mono (by decide)) (by rfl) ?_
              refine sa_cons (se_var (i := 0)) ?_
              refine sa_cons (se_var (i := 1)) ?_
              exact (sa_cons se_int sa_nil)
            · refine sa_cons (se_var (i := 1)) ?_
              exact (sa_cons se_int sa_nil)
          · refine ss_cons ?_ ?_
            · refine s_for (zs := [3]) PassesOwn.never rfl ?_ (g_name (i := 3) (by decide) sc__law_right.nd rfl (.inl rfl)) ?_
              · refine i_range1 (by rfl) Z.z_range ?_
                exact (sa_cons se_int sa_nil)
              · refine ss_cons ?_ ?_
                · refine s_set (i := 4) sc__law_right.nd rfl (.inl rfl) ?_
                  refine se_cal (ps := ["_law_box_here", "_law_mat"]) (fs := f__law_bent) c__law_bent (hr.mono (by decide)) (by rfl) ?_
                  refine sa_cons (se_var (i := 0)) ?_
                  exact (sa_cons (se_var (i := 2)) sa_nil)
                · refine ss_one ?_
                  refine s_for (zs := [5]) PassesOwn.never rfl ?_ (g_name (i := 5) (by decide) sc__law_right.nd rfl (.inl rfl)) ?_
                  · refine i_seq ?_
                    refine se_tup ?_
                    refine sa_cons (se_var (i := 2)) ?_
                    refine sa_cons (se_var (i := 4)) ?_
                    refine sa_cons ?_ sa_nil
                    refine se_cal (ps := ["_law_box_here", "_law_mat"]) (fs := f__law_bent) c__law_bent (hr.mono (by decide)) (by rfl) ?_
                    refine sa_cons (se_var (i := 0)) ?_
                    exact (sa_cons (se_var (i := 4)) sa_nil)
                  · refine ss_cons ?_ ?_
                    · refine s_par (i := 6) (j := 7) rfl sc__law_right.nd rfl rfl (by decide) rfl rfl ?_ (by rfl)
                      refine sa_cons ?_ ?_
                      · refine se_callB (call_repr hq hr.rep) snd_repr (by rfl) Z.z_repr PyProof.Rows.boot_repr ?_
                        exact (sa_cons (se_var (i := 5)) sa_nil)
                      · refine sa_cons ?_ sa_nil
                        refine se_cal (ps := ["_law_mat"]) (fs := f__law_is_fine) c__law_is_fine (hr.mono (by decide)) (by rfl) ?_
                        exact (sa_cons (se_var (i := 5)) sa_nil)
                    · refine ss_one ?_
                      refine s_if ?_ ?_ ss_nil
                      · refine PW.pt ?_
                        refine st_or ?_ ?_
                        · refine st_not ?_
                          refine st_tr ?_
                          refine se_cal (ps := ["_law_got", "_law_due"]) (fs := (f__law_same 16)) c__law_same (hr.mono (by decide)) (by rfl) ?_
                          refine sa_cons ?_ ?_
                          · refine se_lst ?_
                            refine sa_cons ?_ ?_
                            · refine se_cal (ps := ["thing"]) (fs := f_is_offers) c_is_offers (hr.mono (by decide)) (by rfl) ?_
                              exact (sa_cons (se_var (i := 5)) sa_nil)
                            · refine sa_cons ?_ sa_nil
                              refine se_calK0 (ps := ["thing"]) (fs := f_is_offers) (ks := ["thing"]) [0] c_is_offers (hr.mono (by decide)) (by rfl) (fun _ _ _ _ _ _ us ws h1 h2 => match us, h1, ws, h2 with | [], _, [_], _ => rfl) ?_
                              exact (sk_cons (se_var (i := 5)) sk_nil)
                          · refine sa_cons ?_ sa_nil
                            refine se_lst ?_
                            refine sa_cons (se_var (i := 7)) ?_
                            exact (sa_cons (se_var (i := 7)) sa_nil)
                        · refine st_or1 ?_
                          refine st_cmp op_ne snd_neS ?_ (se_var (i := 6)) (nomark _)
                          refine se_callB (call_repr hq hr.rep) snd_repr (by rfl) Z.z_repr PyProof.Rows.boot_repr ?_
                          exact (sa_cons (se_var (i := 5)) sa_nil)
                      · exact (ss_one (s_ret se_bl))
            · exact (ss_one (s_ret se_bl))) (fun _ _ _ _ _ _ us hl => match us, hl with | [_], _ => rfl)
theorem ok_law (Z : Zs mg) (h : At K mg "law" s_law) (c__law_box : Cal P w K mg base 1 "_law_box" s__law_box ["_law_script", "_law_k"] f__law_box) (c__law_by_hand_right : Cal P w K mg base 18 "_law_by_hand_right" s__law_by_hand_right [] f__law_by_hand_right) (c__law_cells : Cal P w K mg base 1 "_law_cells" s__law_cells ["_law_script", "_law_most_so"] f__law_cells) (c__law_right : CalG P w K mg base 18 "_law_right" s__law_right ["_law_box_here"] f__law_right)  : CalG P w K mg base 19 "law" s_law ["_law_script"] f_law :=
  .of h (fun a fd F hm => def_okG (x := "law") (st := s_law) (N := N_law) (ps := ["_law_script"]) (b := b_law) (k := 18) F sc_law fun cdv A outer s H E hq hr =>
      by
        refine ss_cons ?_ ?_
        · refine s_set (i := 1) sc_law.nd rfl (.inl rfl) ?_
          refine se_cal (ps := ["_law_script", "_law_most_so"]) (fs := f__law_cells) c__law_cells (hr.mono (by decide)) (by rfl) ?_
          refine sa_cons (se_var (i := 0)) ?_
          exact (sa_cons se_int sa_nil)
        · refine ss_cons ?_ ?_
          · refine s_for (zs := [2]) PassesOwn.never rfl ?_ (g_name (i := 2) (by decide) sc_law.nd rfl (.inl rfl)) ?_
            · refine i_range1 (by rfl) Z.z_range ?_
              refine sa_cons ?_ sa_nil
              refine se_callB call_lenA snd_len (by rfl) Z.z_len PySem.boot_len ?_
              exact (sa_cons (se_var (i := 1)) sa_nil)
            · refine ss_cons ?_ ?_
              · refine s_set (i := 3) sc_law.nd rfl (.inr rfl) ?_
                refine se_cal (ps := ["_law_script", "_law_k"]) (fs := f__law_box) c__law_box (hr.mono (by decide)) (by rfl) ?_
                refine sa_cons (se_var (i := 1)) ?_
                exact (sa_cons (se_var (i := 2)) sa_nil)
              · refine ss_one ?_
                refine s_if ?_ ?_ ss_nil
                · refine PW.pt ?_
                  refine st_or ?_ ?_
                  · exact (st_not (st_tr (se_cal0 (ps := []) (fs := f__law_by_hand_right) c__law_by_hand_right (hr.mono (by decide)) (by rfl))))
                  · refine st_or1 ?_
                    refine st_not ?_
                    refine st_tr ?_
                    refine se_callB (cr_all rfl) snd_all (by rfl) Z.z_all PyProof.Rows.boot_all ?_
                    refine sa_cons ?_ sa_nil
                    refine se_lc (own := [("_law_turn", 4)]) rfl sc_law.nd ?_ (blkOk_by (own := [("_law_turn", 4)]) (N := N_law) (sc := defScope s_law) (by decide +kernel)) (fun _ _ _ _ _ => (g_name (i := 4) (by decide) sc_law.nd rfl (.inl rfl))) (fun _ _ _ _ _ => ts_nil) (fun _ _ _ _ _ => ?_)
                    · refine i_range1 (by rfl) Z.z_range ?_
                      exact (sa_cons se_int sa_nil)
                    · refine se_calG (ps := ["_law_box_here"]) (fs := f__law_right) c__law_right hq (hr.mono (by decide)) (by rfl) ?_
                      exact (sa_cons (se_var (i := 3)) sa_nil)
                · exact (ss_one (s_ret se_bl))
          · exact (ss_one (s_ret se_bl))) (fun _ _ _ _ _ _ us hl => match us, hl with | [_], _ => rfl)
end
/-! ### the head: facts by names, the run -/
def dd__law_box : He.DefD := ⟨("_law_box", none), "_law_box", "_law_box", defArgs s__law_box, defBody s__law_box, defScope s__law_box, [], []⟩
def dd__law_same : He.DefD := ⟨("_law_same", none), "_law_same", "_law_same", defArgs s__law_same, defBody s__law_same, defScope s__law_same, [], []⟩
def dd_ascends : He.DefD := ⟨("ascends", none), "ascends", "ascends", defArgs s_ascends, defBody s_ascends, defScope s_ascends, [], []⟩
def dd_is_number : He.DefD := ⟨("is_number", none), "is_number", "is_number", defArgs s_is_number, defBody s_is_number, defScope s_is_number, [], []⟩
def dd_is_tuple : He.DefD := ⟨("is_tuple", none), "is_tuple", "is_tuple", defArgs s_is_tuple, defBody s_is_tuple, defScope s_is_tuple, [], []⟩
def dd_is_offer : He.DefD := ⟨("is_offer", none), "is_offer", "is_offer", defArgs s_is_offer, defBody s_is_offer, defScope s_is_offer, [], []⟩
def dd_is_offers : He.DefD := ⟨("is_offers", none), "is_offers", "is_offers", defArgs s_is_offers, defBody s_is_offers, defScope s_is_offers, [], []⟩
def dd__law_by_hand_right : He.DefD := ⟨("_law_by_hand_right", none), "_law_by_hand_right", "_law_by_hand_right", defArgs s__law_by_hand_right, defBody s__law_by_hand_right, defScope s__law_by_hand_right, [], []⟩
def dd__law_cells : He.DefD := ⟨("_law_cells", none), "_law_cells", "_law_cells", defArgs s__law_cells, defBody s__law_cells, defScope s__law_cells, [], []⟩
def dd__law_take : He.DefD := ⟨("_law_take", none), "_law_take", "_law_take", defArgs s__law_take, defBody s__law_take, defScope s__law_take, [], []⟩
def dd__law_of : He.DefD := ⟨("_law_of", none), "_law_of", "_law_of", defArgs s__law_of, defBody s__law_of, defScope s__law_of, [], []⟩
def dd__law_bent : He.DefD := ⟨("_law_bent", none), "_law_bent", "_law_bent", defArgs s__law_bent, defBody s__law_bent, defScope s__law_bent, [], []⟩
def dd__law_tops : He.DefD := ⟨("_law_tops", none), "_law_tops", "_law_tops", defArgs s__law_tops, defBody s__law_tops, defScope s__law_tops, [], []⟩
def dd__law_blocks : He.DefD := ⟨("_law_blocks", none), "_law_blocks", "_law_blocks", defArgs s__law_blocks, defBody s__law_blocks, defScope s__law_blocks, [], []⟩
def dd__law_deals : He.DefD := ⟨("_law_deals", none), "_law_deals", "_law_deals", defArgs s__law_deals, defBody s__law_deals, defScope s__law_deals, [], []⟩
def dd__law_is_fine : He.DefD := ⟨("_law_is_fine", none), "_law_is_fine", "_law_is_fine", defArgs s__law_is_fine, defBody s__law_is_fine, defScope s__law_is_fine, [], []⟩
def dd__law_low : He.DefD := ⟨("_law_low", none), "_law_low", "_law_low", defArgs s__law_low, defBody s__law_low, defScope s__law_low, [], []⟩
def dd__law_rising : He.DefD := ⟨("_law_rising", none), "_law_rising", "_law_rising", defArgs s__law_rising, defBody s__law_rising, defScope s__law_rising, [], []⟩
def dd__law_way : He.DefD := ⟨("_law_way", none), "_law_way", "_law_way", defArgs s__law_way, defBody s__law_way, defScope s__law_way, [], []⟩
def dd__law_right : He.DefD := ⟨("_law_right", none), "_law_right", "_law_right", defArgs s__law_right, defBody s__law_right, defScope s__law_right, [], []⟩
def dd_law : He.DefD := ⟨("law", none), "law", "law", defArgs s_law, defBody s_law, defScope s_law, [], []⟩
def fn : List He.DefD := [dd__law_box, dd__law_same, dd_ascends, dd_is_number, dd_is_tuple, dd_is_offer, dd_is_offers, dd__law_by_hand_right, dd__law_cells, dd__law_take, dd__law_of, dd__law_bent, dd__law_tops, dd__law_blocks, dd__law_deals, dd__law_is_fine, dd__law_low, dd__law_rising, dd__law_way, dd__law_right, dd_law]
def fa : List He.Fa := [.glo "_law_box", .glo "_law_same", .glo "ascends", .glo "is_number", .glo "is_tuple", .glo "is_offer", .glo "is_offers", .glo "_law_by_hand_right", .glo "_law_cells", .glo "_law_take", .glo "_law_of", .glo "_law_bent", .glo "_law_tops", .glo "_law_blocks", .glo "_law_deals", .glo "_law_is_fine", .glo "_law_low", .glo "_law_rising", .glo "_law_way", .glo "_law_right", .glo "law", .free "abs", .free "all", .free "bool", .free "enumerate", .free "int", .free "isinstance", .free "len", .free "list", .free "max", .free "min", .free "range", .free "repr", .free "sorted", .free "str", .free "tuple", .free "zip"]
def loose : List Str := (["is_number", "is_tuple", "ascends", "is_offer", "is_offers", "_law_box", "_law_take", "_law_cells", "_law_of", "_law_same", "_law_tops", "_law_blocks", "_law_low", "_law_rising", "_law_way", "_law_deals", "_law_is_fine", "_law_bent", "_law_by_hand_right", "_law_right"] : List Str)
abbrev R : PySem.W.OpenRow := PySem.W.OpenLaw.row PySem.Challenge.rw_cutsmaller_k37_offers_or_not
abbrev hk : PySem.W.Hook := He.hookD 4 fa fn
def ob (s : PySem.W.SharedT) : He.AlD := He.obsDG 4 fa fn (HandSHeadRun.getT s)
theorem ob_eq (s : PySem.W.SharedT) : ob s = hk.obs s.abs := He.obsDG_eq (HandSHeadRun.getT_eq s)
theorem run (w : World) : HandSHeadRun.RunEq R (PySem.W.view R.prog [23]) hk ob 4000 loose w := by
  intro os
  kernel_rfl
theorem facts {P : Program} {w : World} {K : PySem.W.Frag} {h : Heap} {mg : Str → Option Value} {f : Addr} (X : K.In h) (G : h.Ns mainGlobals mg) (hfa : mg ("law" : Str) = some (.ref f)) (c : He.SaysD fa fn K) :
    ∃ fd : FuncData, (∀ (s : Shared) (v : Value), BindsTo s fd ⟨[v], []⟩ [("_law_script", v)]) ∧ ∀ base : Heap, K.In base → base.Ns mainGlobals mg → FnG P w K mg base 19 f fd ["_law_script"] (spF K f_law 1) := by
  have Z : Zs mg := ⟨He.free_ok X G (c.fact 21 (f := .free "abs") rfl), He.free_ok X G (c.fact 22 (f := .free "all") rfl), He.free_ok X G (c.fact 23 (f := .free "bool") rfl), He.free_ok X G (c.fact 24 (f := .free "enumerate") rfl), He.free_ok X G (c.fact 25 (f := .free "int") rfl), He.free_ok X G (c.fact 26 (f := .free "isinstance") rfl), He.free_ok X G (c.fact 27 (f := .free "len") rfl), He.free_ok X G (c.fact 28 (f := .free "list") rfl), He.free_ok X G (c.fact 29 (f := .free "max") rfl), He.free_ok X G (c.fact 30 (f := .free "min") rfl), He.free_ok X G (c.fact 31 (f := .free "range") rfl), He.free_ok X G (c.fact 32 (f := .free "repr") rfl), He.free_ok X G (c.fact 33 (f := .free "sorted") rfl), He.free_ok X G (c.fact 34 (f := .free "str") rfl), He.free_ok X G (c.fact 35 (f := .free "tuple") rfl), He.free_ok X G (c.fact 36 (f := .free "zip") rfl)⟩
  have h__law_box : At K mg "_law_box" s__law_box := by
    obtain ⟨fd, F⟩ := c.def_ 0 (d := dd__law_box) rfl
    exact ⟨_, fd, F, He.glo_ok X G (c.fact 0 (f := .glo "_law_box") rfl)⟩
  have h__law_same : At K mg "_law_same" s__law_same := by
    obtain ⟨fd, F⟩ := c.def_ 1 (d := dd__law_same) rfl
    exact ⟨_, fd, F, He.glo_ok X G (c.fact 1 (f := .glo "_law_same") rfl)⟩
  have h_ascends : At K mg "ascends" s_ascends := by
    obtain ⟨fd, F⟩ := c.def_ 2 (d := dd_ascends) rfl
    exact ⟨_, fd, F, He.glo_ok X G (c.fact 2 (f := .glo "ascends") rfl)⟩
  have h_is_number : At K mg "is_number" s_is_number := by
    obtain ⟨fd, F⟩ := c.def_ 3 (d := dd_is_number) rfl
    exact ⟨_, fd, F, He.glo_ok X G (c.fact 3 (f := .glo "is_number") rfl)⟩
  have h_is_tuple : At K mg "is_tuple" s_is_tuple := by
    obtain ⟨fd, F⟩ := c.def_ 4 (d := dd_is_tuple) rfl
    exact ⟨_, fd, F, He.glo_ok X G (c.fact 4 (f := .glo "is_tuple") rfl)⟩
  have h_is_offer : At K mg "is_offer" s_is_offer := by
    obtain ⟨fd, F⟩ := c.def_ 5 (d := dd_is_offer) rfl
    exact ⟨_, fd, F, He.glo_ok X G (c.fact 5 (f := .glo "is_offer") rfl)⟩
  have h_is_offers : At K mg "is_offers" s_is_offers := by
    obtain ⟨fd, F⟩ := c.def_ 6 (d := dd_is_offers) rfl
    exact ⟨_, fd, F, He.glo_ok X G (c.fact 6 (f := .glo "is_offers") rfl)⟩
  have h__law_by_hand_right : At K mg "_law_by_hand_right" s__law_by_hand_right := by
    obtain ⟨fd, F⟩ := c.def_ 7 (d := dd__law_by_hand_right) rfl
    exact ⟨_, fd, F, He.glo_ok X G (c.fact 7 (f := .glo "_law_by_hand_right") rfl)⟩
  have h__law_cells : At K mg "_law_cells" s__law_cells := by
    obtain ⟨fd, F⟩ := c.def_ 8 (d := dd__law_cells) rfl
    exact ⟨_, fd, F, He.glo_ok X G (c.fact 8 (f := .glo "_law_cells") rfl)⟩
  have h__law_take : At K mg "_law_take" s__law_take := by
    obtain ⟨fd, F⟩ := c.def_ 9 (d := dd__law_take) rfl
    exact ⟨_, fd, F, He.glo_ok X G (c.fact 9 (f := .glo "_law_take") rfl)⟩
  have h__law_of : At K mg "_law_of" s__law_of := by
    obtain ⟨fd, F⟩ := c.def_ 10 (d := dd__law_of) rfl
    exact ⟨_, fd, F, He.glo_ok X G (c.fact 10 (f := .glo "_law_of") rfl)⟩
  have h__law_bent : At K mg "_law_bent" s__law_bent := by
    obtain ⟨fd, F⟩ := c.def_ 11 (d := dd__law_bent) rfl
    exact ⟨_, fd, F, He.glo_ok X G (c.fact 11 (f := .glo "_law_bent") rfl)⟩
  have h__law_tops : At K mg "_law_tops" s__law_tops := by
    obtain ⟨fd, F⟩ := c.def_ 12 (d := dd__law_tops) rfl
    exact ⟨_, fd, F, He.glo_ok X G (c.fact 12 (f := .glo "_law_tops") rfl)⟩
  have h__law_blocks : At K mg "_law_blocks" s__law_blocks := by
    obtain ⟨fd, F⟩ := c.def_ 13 (d := dd__law_blocks) rfl
    exact ⟨_, fd, F, He.glo_ok X G (c.fact 13 (f := .glo "_law_blocks") rfl)⟩
  have h__law_deals : At K mg "_law_deals" s__law_deals := by
    obtain ⟨fd, F⟩ := c.def_ 14 (d := dd__law_deals) rfl
    exact ⟨_, fd, F, He.glo_ok X G (c.fact 14 (f := .glo "_law_deals") rfl)⟩
  have h__law_is_fine : At K mg "_law_is_fine" s__law_is_fine := by
    obtain ⟨fd, F⟩ := c.def_ 15 (d := dd__law_is_fine) rfl
    exact ⟨_, fd, F, He.glo_ok X G (c.fact 15 (f := .glo "_law_is_fine") rfl)⟩
  have h__law_low : At K mg "_law_low" s__law_low := by
    obtain ⟨fd, F⟩ := c.def_ 16 (d := dd__law_low) rfl
    exact ⟨_, fd, F, He.glo_ok X G (c.fact 16 (f := .glo "_law_low") rfl)⟩
  have h__law_rising : At K mg "_law_rising" s__law_rising := by
    obtain ⟨fd, F⟩ := c.def_ 17 (d := dd__law_rising) rfl
    exact ⟨_, fd, F, He.glo_ok X G (c.fact 17 (f := .glo "_law_rising") rfl)⟩
  have h__law_way : At K mg "_law_way" s__law_way := by
    obtain ⟨fd, F⟩ := c.def_ 18 (d := dd__law_way) rfl
    exact ⟨_, fd, F, He.glo_ok X G (c.fact 18 (f := .glo "_law_way") rfl)⟩
  have h__law_right : At K mg "_law_right" s__law_right := by
    obtain ⟨fd, F⟩ := c.def_ 19 (d := dd__law_right) rfl
    exact ⟨_, fd, F, He.glo_ok X G (c.fact 19 (f := .glo "_law_right") rfl)⟩
  have h_law : At K mg "law" s_law := by
    obtain ⟨fd, F⟩ := c.def_ 20 (d := dd_law) rfl
    exact ⟨_, fd, F, He.glo_ok X G (c.fact 20 (f := .glo "law") rfl)⟩
  obtain ⟨a, fd, F, hm⟩ := id h_law
  have ea : a = f := by
    rw [hm] at hfa
    injection hfa with hfa
    injection hfa
  subst ea
  have b := FunD.bindsA (ps := ["_law_script"]) F fun _ _ _ _ _ _ us hl => match us, hl with | [_], _ => rfl
  refine ⟨fd, fun s v => b s [v] rfl, fun base _ _ => ?_⟩
  have c__law_box := ok__law_box (P := P) (w := w) (base := base) Z h__law_box 
  have c__law_same := ok__law_same (P := P) (w := w) (base := base) Z h__law_same  16
  have c_ascends := ok_ascends (P := P) (w := w) (base := base) Z h_ascends 
  have c_is_number := ok_is_number (P := P) (w := w) (base := base) Z h_is_number 
  have c_is_tuple := ok_is_tuple (P := P) (w := w) (base := base) Z h_is_tuple 
  have c_is_offer := ok_is_offer (P := P) (w := w) (base := base) Z h_is_offer c_is_number c_is_tuple
  have c_is_offers := ok_is_offers (P := P) (w := w) (base := base) Z h_is_offers c_ascends c_is_offer
  have c__law_by_hand_right := ok__law_by_hand_right (P := P) (w := w) (base := base) Z h__law_by_hand_right c__law_same c_is_offers
  have c__law_cells := ok__law_cells (P := P) (w := w) (base := base) Z h__law_cells 
  have c__law_take := ok__law_take (P := P) (w := w) (base := base) Z h__law_take 
  have c__law_of := ok__law_of (P := P) (w := w) (base := base) Z h__law_of c__law_take
  have c__law_bent := ok__law_bent (P := P) (w := w) (base := base) Z h__law_bent c__law_of c__law_take
  have c__law_tops := ok__law_tops (P := P) (w := w) (base := base) Z h__law_tops 
  have c__law_blocks := ok__law_blocks (P := P) (w := w) (base := base) Z h__law_blocks c__law_tops
  have c__law_deals := ok__law_deals (P := P) (w := w) (base := base) Z h__law_deals c__law_blocks c__law_of c__law_take
  have c__law_is_fine := ok__law_is_fine (P := P) (w := w) (base := base) Z h__law_is_fine 
  have c__law_low := ok__law_low (P := P) (w := w) (base := base) Z h__law_low c__law_of c__law_take
  have c__law_rising := ok__law_rising (P := P) (w := w) (base := base) Z h__law_rising c__law_of c__law_take
  have c__law_way := ok__law_way (P := P) (w := w) (base := base) Z h__law_way c__law_rising c__law_take
  have c__law_right := ok__law_right (P := P) (w := w) (base := base) Z h__law_right c__law_bent c__law_deals c__law_is_fine c__law_low c__law_same c__law_way c_is_offers
  have c_law := ok_law (P := P) (w := w) (base := base) Z h_law c__law_box c__law_by_hand_right c__law_cells c__law_right
  exact c_law.pick F hm
end My

set_option Elab.async false
set_option linter.all false
set_option maxRecDepth 100000
set_option maxHeartbeats 4000000
namespace My
open PySem PySem.Spec PyProof.Rows L2 Cm
def lo (k : Int) : Prop := 1 ≤ k ∧ k.natAbs.log2 < 9000
def once (y n : Int) : Int := ((y + 48271 * n) * (39373 + n)) % 2147483647
def twice (y n : Int) : Int := ((once y n + n + y / 1000003) * (once y n % 40009 + 7)) % 2147483629
def drawn (y n k : Int) : Int := ((twice y n * 48271 + once y n) % 2147483587 / 64) % k
theorem take_spec {m : Nat} {B : Bx} {k : Int} (h : BxOk m B) (hm : m < 1000000000000) (hk : lo k) : ∃ (r : Int) (B' : Bx), 0 ≤ r ∧ r < k ∧ BxOk (m + 1) B' ∧
    ∀ (st L : Sto) (b : Nat), b < st.length → f__law_take [.l b, .d (.int k)] (ex (st.set b (some (lay B))) L) = some (.d (.int r), ex (st.set b (some (lay B'))) L) := by
  obtain ⟨x0, y0, n0, n1, m1⟩ := h
  obtain ⟨k1, k2⟩ := hk
  have kp : 0 < k := by omega
  by_cases hx : 0 < B.x
  · refine ⟨B.x % k, ⟨B.x / k, B.y, B.n⟩, Int.emod_nonneg _ (by omega), Int.emod_lt_of_pos _ kp, ⟨Int.ediv_nonneg x0 (by omega), y0, n0, by show B.n ≤ _; omega, by omega⟩, ?_⟩
    intro st L b hb
    simp [f__law_take, defS_ap, b__law_take, ex_box hb, lay, fIx, atI, ixN, hx, kp, k2, ex_setb hb]
  · refine ⟨drawn B.y (B.n + 1) k, ⟨B.x, B.y, B.n + 1⟩, ?_, ?_, ⟨x0, y0, by show 0 ≤ B.n + 1; omega, by show B.n + 1 ≤ _; omega, by omega⟩, ?_⟩
    rotate_left 2
    · intro st L b hb
      have o1 : mulOk 48271 (B.n + 1) = true := mul_smallL (by omega) (by omega)
      have o2 : ∀ z, mulOk z (39373 + (B.n + 1)) = true := fun z => mul_small (by omega) (by omega)
      have o3 : ∀ z w : Int, mulOk z (w % 40009 + 7) = true := fun z w => mul_small (by omega) (by omega)
      have o4 : ∀ z : Int, mulOk z 48271 = true := fun z => mul_small (by omega) (by omega)
      have l1 : Nat.log2 1000003 < 9000 := by decide
      have l2 : Nat.log2 64 < 9000 := by decide
      simp [f__law_take, defS_ap, b__law_take, ex_box hb, lay, fIx, atI, ixN, hx, kp, k2, ex_setb hb, o1, o2, o3, o4, l1, l2, drawn, twice, once]
    · exact Int.emod_nonneg _ (by omega)
    · exact Int.emod_lt_of_pos _ kp
theorem lo_of {k : Int} (h1 : 1 ≤ k) (h2 : k ≤ 100000000000000000000000000000000000000000000000000) : lo k := by
  refine ⟨h1, ?_⟩
  have h3 : k.natAbs ≤ 100000000000000000000000000000000000000000000000000 := by omega
  rw [Nat.log2_lt (by omega)]
  exact Nat.lt_of_le_of_lt h3 (by decide +kernel)
/-- what a function of the box gives: a value for which R holds, and a box that has drawn c times more at most -/
def Dr (f : FS) (ws : List U) (m c : Nat) (B : Bx) (R : PyData → Prop) : Prop := ∃ (x : PyData) (B' : Bx), R x ∧ BxOk (m + c) B' ∧
    ∀ (st L : Sto) (b : Nat), b < st.length → f (.l b :: ws) (ex (st.set b (some (lay B))) L) = some (.d x, ex (st.set b (some (lay B'))) L)
theorem dr_lift {f : FS} {ws : List U} {B B' : Bx} {x : PyData} (h : ∀ (st : Sto) (b : Nat), b < st.length → f (.l b :: ws) (ex (st.set b (some (lay B))) []) = some (.d x, st.set b (some (lay B')))) :
    ∀ (st L : Sto) (b : Nat), b < st.length → f (.l b :: ws) (ex (st.set b (some (lay B))) L) = some (.d x, ex (st.set b (some (lay B'))) L) := by
  intro st L b hb
  have := h (st ++ L) b (by simp; omega)
  rw [List.set_append_left _ _ hb, List.set_append_left _ _ hb] at this
  simpa [ex] using this
theorem pure_lift {f : FS} {ws : List U} {x : PyData} (h : ∀ st : Sto, f ws (ex st []) = some (.d x, st)) (st : Sto) : f ws st = some (.d x, st) := by
  have := h st
  rwa [← ex_nil st] at this
theorem of_spec {m : Nat} {B : Bx} {xs : List PyData} (h : BxOk m B) (hm : m < 1000000000000) (h1 : 1 ≤ xs.length) (h2 : xs.length ≤ 1000000) : Dr f__law_of [.d (.list xs)] m 1 B (· ∈ xs) := by
  obtain ⟨r, B', r0, r1, hB, e⟩ := take_spec (k := xs.length) h hm (lo_of (by omega) (by omega))
  obtain ⟨k, rfl⟩ : ∃ k : Nat, r = k := ⟨r.toNat, by omega⟩
  have hk : k < xs.length := by omega
  refine ⟨xs[k], B', List.getElem_mem hk, hB, ?_⟩
  apply dr_lift
  intro st b hb
  simp [f__law_of, defS_ap, b__law_of, e _ _ _ hb, hk]
structure Pos where
  st : Sto
  b : Nat
def Pos.ok (θ : Pos) : Prop := θ.b < θ.st.length
@[simp] theorem ex_ex (st L M : Sto) : ex (ex st L) M = ex st (L ++ M) := by simp [ex]
theorem take_df {l h h' : Int} (h1 : 1 ≤ l) (h2 : h ≤ 10000000000000000000000000000000000000000000000000000000000000000000000000000000000000000000000000000) (e : h - 1 = h') : DF f__law_take [Iz (some l) (some h)] (Iz (some 0) (some h')) 1 := fun xs m B hx hb hm => by
  cases hx with
  | cons q t =>
    cases t
    obtain ⟨k, rfl, q1, q2⟩ := q
    simp only [LoB, HiB] at q1 q2
    have lk : lo k := by
      refine ⟨by omega, ?_⟩
      have h3 : k.natAbs ≤ 10000000000000000000000000000000000000000000000000000000000000000000000000000000000000000000000000000 := by omega
      rw [Nat.log2_lt (by omega)]
      exact Nat.lt_of_le_of_lt h3 (by decide +kernel)
    have hm' : m < 1000000000000 := by simp only [Mx] at hm; omega
    obtain ⟨r, B', r0, r1, hB, f⟩ := take_spec hb hm' lk
    refine ⟨.int r, B', ⟨r, rfl, ?_, ?_⟩, hB, fun st L b hb => f st L b hb⟩
    · simp only [LoB]
      omega
    · simp only [HiB]
      omega
theorem of_df {e : Pd} {lo hi : Nat} (h1 : 1 ≤ lo) (h2 : hi ≤ 1000000) : DF f__law_of [Ls e lo hi] e 1 := fun xs m B hx hb hm => by
  cases hx with
  | cons q t =>
    cases t
    obtain ⟨ys, rfl, c1, c2, c3⟩ := q
    have hm' : m < 1000000000000 := by simp only [Mx] at hm; omega
    obtain ⟨z, B', hz, hB, f⟩ := of_spec (xs := ys) hb hm' (by omega) (by omega)
    exact ⟨z, B', c3 z hz, hB, fun st L b hb => f st L b hb⟩
end My

set_option Elab.async false
set_option linter.all false
set_option maxRecDepth 100000
set_option maxHeartbeats 4000000
namespace My
open PySem PySem.Spec PyProof.Rows L2 Cm
theorem cut_to (xs : List PyData) {i : Int} (h : 0 ≤ i) : Cm.cutD xs none (some i) = xs.take i.toNat := by
  obtain ⟨k, rfl⟩ : ∃ k : Nat, i = k := ⟨i.toNat, by omega⟩
  unfold Cm.cutD
  rw [HT.sIx_none, HT.sIx_nat]
  simp only [List.drop_zero, Nat.sub_zero, Int.toNat_natCast]
  rw [List.take_eq_take_iff]
  omega
theorem cut_from (xs : List PyData) {i : Int} (h : 0 ≤ i) : Cm.cutD xs (some i) none = xs.drop i.toNat := by
  obtain ⟨k, rfl⟩ : ∃ k : Nat, i = k := ⟨i.toNat, by omega⟩
  unfold Cm.cutD
  rw [HT.sIx_none, HT.sIx_nat, Int.toNat_natCast, List.take_of_length_le (by rw [List.length_drop]; omega)]
  by_cases hk : k ≤ xs.length
  · rw [Nat.min_eq_left hk]
  · rw [Nat.min_eq_right (by omega), List.drop_of_length_le (by omega), List.drop_of_length_le (by omega)]
theorem cut_both (xs : List PyData) {i j : Int} (h : 0 ≤ i) (h2 : 0 ≤ j) : Cm.cutD xs (some i) (some j) = (xs.drop i.toNat).take (j.toNat - i.toNat) := by
  obtain ⟨k, rfl⟩ : ∃ k : Nat, i = k := ⟨i.toNat, by omega⟩
  obtain ⟨l, rfl⟩ : ∃ l : Nat, j = l := ⟨j.toNat, by omega⟩
  unfold Cm.cutD
  rw [HT.sIx_nat, HT.sIx_nat, Int.toNat_natCast, Int.toNat_natCast]
  by_cases hk : k ≤ xs.length
  · rw [Nat.min_eq_left hk, List.take_eq_take_iff, List.length_drop]
    omega
  · rw [List.drop_of_length_le (i := k) (by omega), List.drop_of_length_le (i := min k xs.length) (by omega)]
    simp
theorem enumD_mem : ∀ {xs : List PyData} {i : Nat} {y : PyData}, y ∈ enumD i xs → ∃ (k : Nat) (x : PyData), i ≤ k ∧ k < i + xs.length ∧ x ∈ xs ∧ y = .tuple [.int (k : Nat), x]
  | [], _, _, h => by cases h
  | x :: xs, i, y, h => by
    rcases List.mem_cons.mp h with rfl | h
    · exact ⟨i, x, Nat.le_refl _, by simp, by simp, rfl⟩
    · obtain ⟨k, z, a, b, c, d⟩ := enumD_mem h
      exact ⟨k, z, by omega, by simp; omega, by simp [c], d⟩
@[simp] theorem enumD_len : ∀ (xs : List PyData) (i : Nat), (enumD i xs).length = xs.length
  | [], _ => rfl
  | x :: xs, i => by simp [enumD, enumD_len xs]
theorem cells_spec (ns : List Int) (w : Nat) (w1 : 1 ≤ w) (w2 : w ≤ 1000) (st : Sto) : ∃ cs : List Int, 1 ≤ cs.length ∧ cs.length ≤ w ∧
    f__law_cells [.s ns, .d (.int (w : Nat))] (ex st []) = some (.d (.list (cs.map .int)), st) := by
  by_cases hn : ns = []
  · subst hn
    refine ⟨[0], by simp, by simp; omega, ?_⟩
    simp [f__law_cells, defS_ap, b__law_cells, cut_to, cut_both, enumD, forL]
  · obtain ⟨s', ⟨h1, h2, _⟩, e⟩ := forL_abs (T := Unit) (S := List Int × Option U × Option U × Option U)
      (g := (gT (gsCons (gN 3) (gsCons (gN 4) gsNil)))) (b := (cSeq (cSet 5 (cD2 fMod (cCall fInt (cCons (cVar 3) cNil)) (cVar 1))) (cSetIx (cVar 2) (cVar 5) (cD2s fAdd (cD2 fIx (cVar 2) (cVar 5)) (cD2s fMul (cVar 4) (cD2s fAdd (cVar 3) (cD (.int 2))))))))
      (fun _ => True) (fun _ s => [some (.s ns), some (.d (.int (w : Nat))), some (.l st.length), s.2.1, s.2.2.1, s.2.2.2])
      (fun _ s => ex st [some (s.1.map .int)])
      (fun rest s => 1 ≤ s.1.length ∧ s.1.length ≤ w ∧ (rest ≠ [] → s.1.length = w) ∧ ∀ y ∈ rest, ∃ (k : Nat) (c : Int), k < 1000 ∧ y = .tuple [.int (k : Nat), .int c]) (by
        rintro x xs ⟨cs, t3, t4, t5⟩ ⟨l1, l2, l3, hr⟩
        obtain ⟨k, c, hk, rfl⟩ := hr x List.mem_cons_self
        simp only [] at l1 l2 l3
        have hw : cs.length = w := l3 (by simp)
        have hw' : (0 : Int) < w := by omega
        have hw0 : 0 < w := by omega
        have m0 : 0 ≤ (k : Int) % w := Int.emod_nonneg _ (by omega)
        have m1 : (k : Int) % w < w := Int.emod_lt_of_pos _ hw'
        obtain ⟨j, hj⟩ : ∃ j : Nat, (k : Int) % w = j := ⟨((k : Int) % w).toNat, by omega⟩
        have hj' : j < cs.length := by omega
        refine ⟨(cs.set j (cs[j] + c * ((k : Int) + 2)), some (.d (.int (k : Nat))), some (.d (.int c)), some (.d (.int (j : Nat)))), ⟨by simpa using l1, by simpa using l2, by intro _; simpa using hw, fun y hy => hr y (List.mem_cons_of_mem _ hy)⟩, ?_⟩
        intro _ _
        have o1 : ∀ z : Int, mulOk z ((k : Int) + 2) = true := fun z => mul_small (by omega) (by omega)
        have o2 : ixN cs.length (j : Int) = some j := by simp [ixN, hj']
        refine ⟨_, rfl, ?_⟩
        simp [hw', hw0, hj, o1, o2, hj'])
      (enumD 0 (Cm.cutD (ns.map .int) (some (w : Nat)) (some 63))) (ns.take w, none, none, none) (by
        refine ⟨?_, ?_, ?_, ?_⟩
        · have := List.length_pos_iff.mpr hn
          simp; omega
        · simp; omega
        · intro hne
          have hne' : (enumD 0 (Cm.cutD (ns.map PyData.int) (some (w : Nat)) (some 63))).length ≠ 0 := by
            intro h0
            exact hne (List.length_eq_zero_iff.mp h0)
          rw [enumD_len, cut_both _ (by omega) (by omega)] at hne'
          simp at hne' ⊢
          omega
        · intro y hy
          obtain ⟨k, x, a, b, c, d⟩ := enumD_mem hy
          rw [cut_both _ (by omega) (by omega)] at b c
          have c' := List.mem_of_mem_drop (List.mem_of_mem_take c)
          simp only [List.mem_map] at c'
          obtain ⟨z, _, rfl⟩ := c'
          simp at b
          exact ⟨k, z, by omega, d⟩)
    obtain ⟨cs, t3, t4, t5⟩ := s'
    refine ⟨cs, h1, h2, ?_⟩
    have e' := e () trivial
    have w0 : w ≠ 0 := by omega
    simp at e'
    simp [f__law_cells, defS_ap, b__law_cells, cut_to, hn, w0, e']
theorem box_spec (cs : List Int) (k : Nat) (hk : k < cs.length) (h2 : k < 1000) (st : Sto) : ∃ B : Bx, BxOk 0 B ∧ f__law_box [.d (.list (cs.map .int)), .d (.int (k : Nat))] (ex st []) = some (.l st.length, ex st [some (lay B)]) := by
  refine ⟨⟨(if cs[k] < 0 then -cs[k] else cs[k]) * (if 1000000000000000000 ≤ (if cs[k] < 0 then -cs[k] else cs[k]) then 1 else 0), cs[k] % 2305843009213693951 + 39373 * (k : Int) + 937, 0⟩, ⟨?_, ?_, ?_, ?_, ?_⟩, ?_⟩
  · refine Int.mul_nonneg ?_ ?_
    · split <;> omega
    · split <;> omega
  · show 0 ≤ cs[k] % 2305843009213693951 + 39373 * (k : Int) + 937
    omega
  · exact Int.le_refl _
  · exact Int.le_refl _
  · omega
  · have o1 : ∀ (z w : Int), mulOk z (if w ≤ z then 1 else 0) = true := fun z w => mul_small (by split <;> omega) (by split <;> omega)
    have o2 : ∀ z : Int, mulOk 39373 z = true := fun z => mul_smallL (by omega) (by omega)
    simp [f__law_box, defSO_ap, b__law_box, hk, o1, o2, lay]
    rfl
end My

set_option Elab.async false
set_option linter.all false
set_option maxRecDepth 100000
set_option maxHeartbeats 4000000
namespace My
open PySem PySem.Spec PyProof.Rows L2 Cm
/-- the law of the running least -/
def recStep (acc : List Int) (l : Int) : List Int := match acc.getLast? with
  | none => acc ++ [l]
  | some m => if l < m then acc ++ [l] else acc
def recs (row : List Int) : List Int := row.foldl recStep []
theorem recs_snoc (row : List Int) (l : Int) : recs (row ++ [l]) = recStep (recs row) l := by simp [recs]
theorem minI_snoc (row : List Int) (l : Int) : minI (row ++ [l]) = match minI row with
  | none => some l
  | some m => some (if l < m then l else m) := by
  cases row with
  | nil => rfl
  | cons x xs => simp [minI]
theorem snoc_ind {P : List Int → Prop} (h0 : P []) (h1 : ∀ xs x, P xs → P (xs ++ [x])) : ∀ xs, P xs := by
  intro xs
  rw [← List.reverse_reverse xs]
  induction xs.reverse with
  | nil => exact h0
  | cons y ys ih => rw [List.reverse_cons]; exact h1 _ _ ih
theorem recs_last : ∀ row : List Int, (recs row).getLast? = minI row := by
  refine snoc_ind rfl ?_
  intro xs x ih
  rw [recs_snoc, minI_snoc, ← ih, recStep]
  cases h : (recs xs).getLast? with
  | none => simp
  | some m =>
    by_cases c : x < m
    · simp [c]
    · simp [c, h]
theorem recs_len : ∀ row : List Int, (recs row).length ≤ row.length := by
  refine snoc_ind (by simp [recs]) ?_
  intro xs x ih
  rw [recs_snoc, recStep]
  split
  · simp; exact ih
  · split
    · simp; exact ih
    · simp; omega
theorem recs_idem : ∀ row : List Int, recs (recs row) = recs row := by
  refine snoc_ind rfl ?_
  intro xs x ih
  rw [recs_snoc]
  have key : recs (recStep (recs xs) x) = recStep (recs xs) x := by
    have h := recs_last xs
    rw [recStep]
    cases hl : (recs xs).getLast? with
    | none => simp only []; rw [recs_snoc, ih, recStep, hl]
    | some m =>
      by_cases c : x < m
      · simp only [c, if_true]; rw [recs_snoc, ih, recStep, hl]; simp [c]
      · simp only [c, if_false]; exact ih
  exact key
theorem recs_wide (row : List Int) (k sp : Nat) (more : Int) (h1 : k < sp) (h2 : sp ≤ row.length) (hk : k < row.length) (h : row[k] ≤ more) : recs (row.take sp ++ [more] ++ row.drop sp) = recs row := by
  have e : recs (row.take sp ++ [more]) = recs (row.take sp) := by
    rw [recs_snoc, recStep, recs_last]
    cases hm : minI (row.take sp) with
    | none =>
      exfalso
      have : row.take sp = [] := by
        cases ht : row.take sp with
        | nil => rfl
        | cons x xs => rw [ht] at hm; cases hm
      have := congrArg List.length this
      rw [List.length_take, List.length_nil] at this
      omega
    | some m =>
      have := (minI_spec hm).2 row[k] (by
        rw [List.mem_iff_getElem]
        exact ⟨k, by simp; omega, by simp⟩)
      have hn : ¬ more < m := by omega
      simp only [hn, if_false]
  unfold recs at e ⊢
  rw [List.foldl_append, e, ← List.foldl_append, List.take_append_drop]
theorem minI_some {xs : List Int} (h : xs ≠ []) : ∃ m, minI xs = some m := by
  cases xs with
  | nil => exact absurd rfl h
  | cons x xs => exact ⟨_, rfl⟩
end My

set_option Elab.async false
set_option linter.all false
set_option maxRecDepth 100000
set_option maxHeartbeats 4000000
namespace My
open PySem PySem.Spec PyProof.Rows L2 Cm
/-- a list or a tuple of these -/
def Sq (x : PyData) (xs : List PyData) : Prop := x = .tuple xs ∨ x = .list xs
abbrev iL (ns : List Int) : List PyData := ns.map .int
abbrev nL (ns : List Nat) : List PyData := ns.map fun n => .int (n : Nat)
theorem fIx_last (ys : List Int) (z : Int) : fIx (.list (iL (ys ++ [z]))) (.int (-1)) = some (.int z) := by
  have : (-(((iL (ys ++ [z])).length : Nat) : Int) ≤ -1) := by simp; omega
  have e : ((-1 : Int) + (((iL (ys ++ [z])).length : Nat) : Int)).toNat = ys.length := by simp; omega
  simp only [fIx, atI, ixN, if_neg (by decide : ¬ (0 : Int) ≤ -1), if_pos this, e, Option.bind_some]
  simp
theorem filter_yes {α : Type} (xs : List α) : xs.filter (fun _ => true) = xs := List.filter_eq_self.mpr (by intros; rfl)
@[simp] theorem allD_map (xs : List PyData) : allD (xs.map U.d) = some xs := by
  have := allD_app xs []
  simpa using this
theorem lcC_pure {g : GT} {tt : SB} {te : SE} {ev : Ev} (c : PyData → Bool) (f : PyData → PyData) (st : Sto) (n : Nat) (xs : List PyData) (hn : st[n]? = some (some xs))
    (h : ∀ x ∈ xs, ∀ acc, ∃ ev1, g x ev = some ev1 ∧ tt ev1 (ex st [some acc]) = some (c x, ex st [some acc]) ∧ (c x = true → te ev1 (ex st [some acc]) = some (.d (f x), ex st [some acc]))) :
    ∀ (k i : Nat) (acc : List PyData), xs.length - i < k → acc.length + (xs.length - i) ≤ lim → lcC g tt te ev n k i st acc = some (acc ++ ((xs.drop i).filter c).map f, st)
  | 0, i, acc, hk, _ => by omega
  | k + 1, i, acc, hk, hl => by
    obtain ⟨hb, e0⟩ := List.getElem?_eq_some_iff.mp hn
    have g0 : (st ++ [some acc])[n]? = some (some xs) := by rw [List.getElem?_append_left hb, hn]
    by_cases hi : i < xs.length
    · obtain ⟨ev1, e1, e2, e3⟩ := h xs[i] (List.getElem_mem hi) acc
      have e2' : tt ev1 (st ++ [some acc]) = some (c xs[i], ex st [some acc]) := e2
      have g1 : (ex st [some acc])[st.length]? = some (some acc) := by rw [ex_get0]; rfl
      have g2 : (ex st [some acc]).take st.length = st := by simp
      have g3 : xs[i]? = some xs[i] := List.getElem?_eq_getElem hi
      rw [List.drop_eq_getElem_cons hi]
      by_cases t : c xs[i] = true
      · have := lcC_pure c f st n xs hn h k (i + 1) (acc ++ [f xs[i]]) (by omega) (by simp; simp at hl; omega)
        have ha : acc.length < lim := by omega
        simp only [lcC, g0, g3, e1, e2', t, e3 t, g1, g2, Option.bind_some, if_pos ha, if_true, this]
        rw [List.filter_cons_of_pos t, List.map_cons, List.append_assoc]
        rfl
      · have := lcC_pure c f st n xs hn h k (i + 1) acc (by omega) (by omega)
        have t' : c xs[i] = false := by simpa using t
        simp only [lcC, g0, g3, e1, e2', t', g1, g2, Option.bind_some, this]
        rw [List.filter_cons_of_neg t]
        rfl
    · have g3 : xs[i]? = none := List.getElem?_eq_none (by omega)
      simp only [lcC, g0, g3]
      rw [List.drop_of_length_le (by omega)]
      simp
end My

set_option Elab.async false
set_option linter.all false
set_option maxRecDepth 100000
set_option maxHeartbeats 4000000
namespace My
open PySem PySem.Spec PyProof.Rows L2 Cm
theorem same_int (d : Nat) (i : Int) (st : Sto) : f__law_same (d + 1) [.d (.int i), .d (.int i)] st = some (.d (.bool true), st) := by
  revert st
  apply pure_lift
  intro st
  simp [f__law_same, defS_ap, b__law_same, known, isaT, isNone]
theorem all_true (xs : List PyData) : asBools (xs.map fun _ => PyData.bool true) = some (xs.map fun _ => true) := by
  have := asBools_map (xs.map fun _ => true)
  simpa [Function.comp_def] using this
def SameOk (d : Nat) (x : PyData) : Prop := ∀ st : Sto, f__law_same d [.d x, .d x] st = some (.d (.bool true), st)
theorem same_seq (d : Nat) {x : PyData} {xs : List PyData} (hx : Sq x xs) (h : ∀ y ∈ xs, SameOk d y) (hl : xs.length ≤ 1000) : SameOk (d + 1) x := by
  unfold SameOk
  apply pure_lift
  intro st
  have lc := lcL_pure (g := gT (gsCons (gN 2) (gsCons (gN 3) gsNil))) (tt := bYes) (te := cDef 2 (f__law_same d) (cCons (cVar 2) (cCons (cVar 3) cNil))) (ev := [some (.d x), some (.d x), none, none])
    (fun _ => true) (fun _ => .bool true) (ex st []) (zipD xs xs) [] (by
      intro z hz acc
      unfold zipD at hz
      rw [List.zipWith_self] at hz
      obtain ⟨q, hq, rfl⟩ := List.mem_map.mp hz
      refine ⟨_, rfl, rfl, fun _ => ?_⟩
      simp [h q hq _]) (by simp [zipD]; omega)
  rw [List.nil_append, filter_yes] at lc
  have ha := all_true (zipD xs xs)
  rcases hx with rfl | rfl <;> simp -implicitDefEqProofs [f__law_same, defS_ap, b__law_same, known, isaT, isNone, lc, ha]
theorem same_ints {d : Nat} {x : PyData} {ns : List Int} (hx : Sq x (iL ns)) (hl : ns.length ≤ 1000) : SameOk (d + 2) x :=
  same_seq (d + 1) hx (fun y hy => by
    obtain ⟨i, _, rfl⟩ := List.mem_map.mp hy
    exact same_int d i) (by simpa using hl)
end My

set_option Elab.async false
set_option linter.all false
set_option maxRecDepth 100000
set_option maxHeartbeats 4000000
namespace My
open PySem PySem.Spec PyProof.Rows L2 Cm
theorem canAll : ∀ {xs : List PyData}, (∀ x ∈ xs, x.canLay0 = true) → PyData.canLayAll0 xs = true
  | [], _ => rfl
  | x :: xs, h => by
    rw [PyData.canLayAll0, h x List.mem_cons_self, canAll (fun y hy => h y (List.mem_cons_of_mem _ hy))]
    rfl
theorem depAll {k : Nat} : ∀ {xs : List PyData}, (∀ x ∈ xs, x.depth ≤ k) → PyData.depthAll xs ≤ k
  | [], _ => Nat.zero_le _
  | x :: xs, h => by
    rw [PyData.depthAll]
    exact Nat.max_le.mpr ⟨h x List.mem_cons_self, depAll (fun y hy => h y (List.mem_cons_of_mem _ hy))⟩
def Shp (k : Nat) (x : PyData) : Prop := x.canLay0 = true ∧ x.depth ≤ k
theorem shp_int (i : Int) : Shp 0 (.int i) := ⟨rfl, Nat.le_refl _⟩
theorem shp_seq {k : Nat} {x : PyData} {xs : List PyData} (hx : Sq x xs) (h : ∀ y ∈ xs, Shp k y) : Shp (k + 1) x := by
  rcases hx with rfl | rfl
  · refine ⟨?_, ?_⟩
    · rw [PyData.canLay0]; exact canAll (fun y hy => (h y hy).1)
    · rw [PyData.depth]; exact Nat.succ_le_succ (depAll (fun y hy => (h y hy).2))
  · refine ⟨?_, ?_⟩
    · rw [PyData.canLay0]; exact canAll (fun y hy => (h y hy).1)
    · rw [PyData.depth]; exact Nat.succ_le_succ (depAll (fun y hy => (h y hy).2))
theorem shp_shaped {k : Nat} {x : PyData} (h : Shp k x) (hk : k ≤ 64) : SeqAt.shaped x = true := by
  unfold SeqAt.shaped
  rw [h.1, decide_eq_true (Nat.le_trans h.2 hk)]
  rfl
theorem shp_ints {x : PyData} {ns : List Int} (hx : Sq x (iL ns)) : Shp 1 x := shp_seq hx (fun y hy => by
  obtain ⟨i, _, rfl⟩ := List.mem_map.mp hy
  exact shp_int i)
theorem eq_self {k : Nat} {x : PyData} (h : Shp k x) (hk : k ≤ 64) : fEq x x = some (.bool true) := by
  unfold fEq
  rw [shp_shaped h hk, SeqAt.eqv_refl x h.1]
  rfl
theorem ne_self {k : Nat} {x : PyData} (h : Shp k x) (hk : k ≤ 64) : fNe x x = some (.bool false) := by
  unfold fNe
  rw [shp_shaped h hk, SeqAt.eqv_refl x h.1]
  rfl
end My

set_option Elab.async false
set_option linter.all false
set_option maxRecDepth 100000
set_option maxHeartbeats 4000000
namespace My
open PySem PySem.Spec PyProof.Rows L2 Cm
def trues (k : Nat) : List PyData := List.replicate k (.bool true)
theorem trues_snoc (k : Nat) : trues k ++ [.bool true] = trues (k + 1) := by simp [trues, List.replicate_succ']
theorem trues_all (k : Nat) : fAll [.list (trues k)] = some (.bool true) := by
  have : trues k = (List.replicate k true).map .bool := by simp [trues]
  rw [this, fAll_l, asBools_map]
  simp
theorem box_form (Z : Sto) (v : Option (List PyData)) : ex Z [v] = ex ((Z ++ [none]).set Z.length v) [] := by
  simp [ex, List.set_append]
end My

set_option Elab.async false
set_option linter.all false
set_option maxRecDepth 100000
set_option maxHeartbeats 4000000
namespace My
open PySem PySem.Spec PyProof.Rows L2 Cm
/-- blocks joined -/
def jstep (l : Int) (acc : List (Int × Int)) (p : Int × Int) : List (Int × Int) := match acc.getLast? with
  | none => acc ++ [p]
  | some q => if p.1 - q.2 ≤ l then acc.dropLast ++ [(q.1, p.2)] else acc ++ [p]
def joinB (l : Int) (ps : List (Int × Int)) : List (Int × Int) := ps.foldl (jstep l) []
def lone (row : List Int) (l : Int) : Bool := row.any fun x => decide (x < 2 * l)
def dbl (ns : List Int) : List (Int × Int) := ns.map fun x => (x, x)
def fil (row : List Int) (l : Int) : Option (List (Int × Int)) := if lone row l then none else some (joinB l (dbl (sortI (recs row))))
def bD : Option (List (Int × Int)) → PyData
  | none => .none
  | some ps => .tuple (ps.map Cm.pairD)
theorem jstep_len (l : Int) (acc : List (Int × Int)) (p : Int × Int) : (jstep l acc p).length ≤ acc.length + 1 := by
  unfold jstep
  split
  · simp
  · split
    · simp
    · simp
theorem joinB_len (l : Int) (ps : List (Int × Int)) : (joinB l ps).length ≤ ps.length := by
  have key : ∀ (ps acc : List (Int × Int)), (ps.foldl (jstep l) acc).length ≤ acc.length + ps.length := by
    intro ps
    induction ps with
    | nil => intro acc; simp
    | cons p ps ih =>
      intro acc
      have := ih (jstep l acc p)
      have := jstep_len l acc p
      simp only [List.foldl_cons, List.length_cons]
      omega
  have := key ps []
  simpa [joinB] using this
theorem sortI_len (ns : List Int) : (sortI ns).length = ns.length := (sortI_perm ns).length_eq
theorem fIx_lastD (ys : List PyData) (z : PyData) : fIx (.list (ys ++ [z])) (.int (-1)) = some z := by
  have : (-((((ys ++ [z]).length : Nat)) : Int) ≤ -1) := by simp; omega
  have e : ((-1 : Int) + ((((ys ++ [z]).length : Nat)) : Int)).toNat = ys.length := by simp; omega
  simp only [fIx, atI, ixN, if_neg (by decide : ¬ (0 : Int) ≤ -1), if_pos this, e, Option.bind_some]
  simp
theorem ixN_last (n : Nat) : ixN (n + 1) (-1) = some n := by
  have : (-(((n + 1 : Nat)) : Int) ≤ -1) := by omega
  have e : ((-1 : Int) + (((n + 1 : Nat)) : Int)).toNat = n := by omega
  simp only [ixN, if_neg (by decide : ¬ (0 : Int) ≤ -1), if_pos this, e]
theorem set_last {α : Type} (ys : List α) (z w : α) : (ys ++ [z]).set ys.length w = ys ++ [w] := by simp
theorem lone_rec (row : List Int) (l : Int) : lone (recs row) l = lone row l := by
  have h : ∀ row : List Int, lone row l = match minI row with
    | none => false
    | some m => decide (m < 2 * l) := by
    refine snoc_ind rfl ?_
    intro xs x ih
    have e : lone (xs ++ [x]) l = (lone xs l || decide (x < 2 * l)) := by simp [lone]
    rw [e, ih, minI_snoc]
    cases minI xs with
    | none => simp
    | some m =>
      by_cases c : x < m
      · by_cases d : m < 2 * l
        · have : x < 2 * l := by omega
          simp [c, d, this]
        · simp [c, d]
      · by_cases d : x < 2 * l
        · have : m < 2 * l := by omega
          simp [c, d, this]
        · simp [c, d]
  rw [h, h]
  have : minI (recs row) = minI row := by rw [← recs_last (recs row), recs_idem, recs_last]
  rw [this]
theorem fil_recs (row : List Int) (l : Int) : fil (recs row) l = fil row l := by
  unfold fil
  rw [lone_rec, recs_idem]
theorem dbl_len (ns : List Int) : (dbl ns).length = ns.length := by simp [dbl]
theorem fil_len {row : List Int} {l : Int} {ps : List (Int × Int)} (h : fil row l = some ps) : ps.length ≤ row.length := by
  unfold fil at h
  split at h
  · cases h
  · cases h
    have := joinB_len l (dbl (sortI (recs row)))
    rw [dbl_len, sortI_len] at this
    have := recs_len row
    omega
theorem dbl_D (ns : List Int) : (dbl ns).map Cm.pairD = ns.map fun x => PyData.tuple [.int x, .int x] := by simp [dbl, Cm.pairD, Function.comp_def]
theorem sorted_intsL (ns : List Int) : fSorted [.list (ns.map .int)] = some (.list ((sortI ns).map .int)) := by
  simp only [fSorted, asInts_map]
theorem sorted_intsT (ns : List Int) : fSorted [.tuple (ns.map .int)] = some (.list ((sortI ns).map .int)) := by
  simp only [fSorted, asInts_map, Option.map_some]
end My

set_option Elab.async false
set_option linter.all false
set_option maxRecDepth 100000
set_option maxHeartbeats 4000000
namespace My
open PySem PySem.Spec PyProof.Rows L2 Cm
theorem lone_min (l : Int) : ∀ row : List Int, lone row l = match minI row with
    | none => false
    | some m => decide (m < 2 * l) := by
  refine snoc_ind rfl ?_
  intro xs x ih
  have e : lone (xs ++ [x]) l = (lone xs l || decide (x < 2 * l)) := by simp [lone]
  rw [e, ih, minI_snoc]
  cases minI xs with
  | none => simp
  | some m =>
    by_cases c : x < m
    · by_cases d : m < 2 * l
      · have : x < 2 * l := by omega
        simp [c, d, this]
      · simp [c, d]
    · by_cases d : x < 2 * l
      · have : m < 2 * l := by omega
        simp [c, d, this]
      · simp [c, d]
theorem shp_pair (p : Int × Int) : Shp 1 (Cm.pairD p) := shp_seq (.inl rfl) (fun y hy => by
  simp at hy
  rcases hy with rfl | rfl <;> exact shp_int _)
theorem shp_pairs {x : PyData} {ps : List (Int × Int)} (hx : Sq x (ps.map Cm.pairD)) : Shp 2 x := shp_seq hx (fun y hy => by
  obtain ⟨p, _, rfl⟩ := List.mem_map.mp hy
  exact shp_pair p)
theorem shp_up {k k' : Nat} {x : PyData} (h : Shp k x) (hk : k ≤ k') : Shp k' x := ⟨h.1, Nat.le_trans h.2 hk⟩
theorem shp_none : Shp 0 .none := ⟨rfl, Nat.le_refl _⟩
theorem shp_bool (b : Bool) : Shp 0 (.bool b) := ⟨rfl, Nat.le_refl _⟩
theorem shp_bD (o : Option (List (Int × Int))) : Shp 2 (bD o) := by
  cases o with
  | none => exact shp_up shp_none (by omega)
  | some ps => exact shp_pairs (.inl rfl)
theorem shp_nilL : Shp 1 (.list []) := shp_seq (.inr rfl) (fun y hy => by cases hy)
theorem shp_nilT : Shp 1 (.tuple []) := shp_seq (.inl rfl) (fun y hy => by cases hy)
theorem fNe_nilL {k : Nat} {A : List PyData} (h : Shp k (.list A)) (hk : k ≤ 64) : fNe (.list A) (.list []) = some (.bool !A.isEmpty) := by
  unfold fNe
  rw [shp_shaped h hk, shp_shaped shp_nilL (by omega)]
  cases A <;> rfl
theorem fNe_nilT {k : Nat} {A : List PyData} (h : Shp k (.tuple A)) (hk : k ≤ 64) : fNe (.tuple A) (.tuple []) = some (.bool !A.isEmpty) := by
  unfold fNe
  rw [shp_shaped h hk, shp_shaped shp_nilT (by omega)]
  cases A <;> rfl
theorem fEq_nilT {k : Nat} {A : List PyData} (h : Shp k (.tuple A)) (hk : k ≤ 64) : fEq (.tuple A) (.tuple []) = some (.bool A.isEmpty) := by
  unfold fEq
  rw [shp_shaped h hk, shp_shaped shp_nilT (by omega)]
  cases A <;> rfl
end My

set_option Elab.async false
set_option linter.all false
set_option maxRecDepth 100000
set_option maxHeartbeats 4000000
namespace My
open PySem PySem.Spec PyProof.Rows L2 Cm
theorem recs_desc : ∀ row : List Int, (recs row).Pairwise (· > ·) := by
  refine snoc_ind List.Pairwise.nil ?_
  intro xs x ih
  rw [recs_snoc, recStep]
  cases h : (recs xs).getLast? with
  | none =>
    have h0 : recs xs = [] := List.getLast?_eq_none_iff.mp h
    simp [h0]
  | some m =>
    by_cases c : x < m
    · simp only [c, if_true]
      rw [List.pairwise_append]
      refine ⟨ih, by simp, ?_⟩
      intro a ha b hb
      have hb' : b = x := by simpa using hb
      subst hb'
      have hm : ∀ a ∈ recs xs, m ≤ a := by
        intro a ha
        obtain ⟨ys, hy⟩ : ∃ ys, recs xs = ys ++ [m] := by
          rw [List.getLast?_eq_some_iff] at h
          exact h
        rw [hy] at ih ha
        rcases List.mem_append.mp ha with ha | ha
        · have := (List.pairwise_append.mp ih).2.2 a ha m (by simp)
          omega
        · have : a = m := by simpa using ha
          omega
      have := hm a ha
      omega
    · simp only [c, if_false]
      exact ih
theorem sort_recs (row : List Int) : sortI (recs row) = (recs row).reverse := by
  refine (sortI_uniq (List.reverse_perm _) ?_).symm
  rw [List.pairwise_reverse]
  exact (recs_desc row).imp (fun h => by omega)
theorem recs_sub {row : List Int} : ∀ x ∈ recs row, x ∈ row := by
  have : ∀ row : List Int, ∀ x ∈ recs row, x ∈ row := by
    refine snoc_ind (by intro x h; cases h) ?_
    intro xs y ih x hx
    rw [recs_snoc, recStep] at hx
    split at hx
    · rcases List.mem_append.mp hx with hx | hx
      · exact List.mem_append_left _ (ih x hx)
      · exact List.mem_append_right _ hx
    · split at hx
      · rcases List.mem_append.mp hx with hx | hx
        · exact List.mem_append_left _ (ih x hx)
        · exact List.mem_append_right _ hx
      · exact List.mem_append_left _ (ih x hx)
  exact this row
/-- numbers one by one -/
def rstep (acc : List (Int × Int)) (n : Int) : List (Int × Int) := match acc.getLast? with
  | none => acc ++ [(n, n)]
  | some q => if q.2 = n - 1 then acc.dropLast ++ [(q.1, n)] else acc ++ [(n, n)]
def runsL (ns : List Int) : List (Int × Int) := ns.foldl rstep []
def rangeI (a : Int) (k : Nat) : List Int := (List.range k).map fun (j : Nat) => a + (j : Int)
theorem rangeI_succ (a : Int) (k : Nat) : rangeI a (k + 1) = rangeI a k ++ [a + (k : Int)] := by simp [rangeI, List.range_succ]
theorem rangeI_mem {a : Int} {k : Nat} {n : Int} : n ∈ rangeI a k ↔ a ≤ n ∧ n < a + k := by
  unfold rangeI
  rw [List.mem_map]
  constructor
  · rintro ⟨j, hj, rfl⟩
    have := List.mem_range.mp hj
    omega
  · rintro ⟨h1, h2⟩
    exact ⟨(n - a).toNat, List.mem_range.mpr (by omega), by omega⟩
theorem rangeI_asc (a : Int) (k : Nat) : (rangeI a k).Pairwise (· < ·) := by
  unfold rangeI
  rw [List.pairwise_map]
  exact (List.pairwise_lt_range (n := k)).imp (fun h => by omega)
def numsD (l : Int) : List Int → List Int
  | [] => []
  | [a] => [a]
  | b :: a :: rest => numsD l (a :: rest) ++ (if b - a ≤ l then rangeI (a + 1) (b - a).toNat else [b])
def hasGo (l n : Int) : List Int → Option Bool
  | b :: a :: rest => if a < n ∧ n < b then some (decide (b - a ≤ l)) else hasGo l n (a :: rest)
  | _ => none
def hasB (fs : List Int) (l n : Int) : Bool := fs.contains n || (hasGo l n fs).getD false
theorem runs_run (q a : Int) (acc : List (Int × Int)) : ∀ k : Nat, 0 < k → (rangeI (a + 1) k).foldl rstep (acc ++ [(q, a)]) = acc ++ [(q, a + k)]
  | 0, h => by omega
  | 1, _ => by simp [rangeI, rstep]
  | k + 2, _ => by
    rw [rangeI_succ, List.foldl_append, runs_run q a acc (k + 1) (by omega)]
    have : a + ((k + 1 : Nat) : Int) = a + 1 + ((k + 1 : Nat) : Int) - 1 := by omega
    simp only [List.foldl_cons, List.foldl_nil, rstep, List.getLast?_concat, List.dropLast_concat, if_pos this]
    congr 2
    congr 1
    omega
theorem runs_nums {l : Int} (hl : 1 ≤ l) : ∀ fs : List Int, fs.Pairwise (· > ·) → runsL (numsD l fs) = joinB l (dbl fs.reverse) ∧ ∀ b rest, fs = b :: rest → ∃ acc q, joinB l (dbl fs.reverse) = acc ++ [(q, b)]
  | [], _ => ⟨rfl, by intro b rest h; cases h⟩
  | [a], _ => ⟨by simp [runsL, numsD, rstep, joinB, dbl, jstep], by intro b rest h; cases h; exact ⟨[], a, by simp [joinB, dbl, jstep]⟩⟩
  | b :: a :: rest, h => by
    have h' := List.pairwise_cons.mp h
    have hab : a < b := h'.1 a (by simp)
    obtain ⟨ih1, ih2⟩ := runs_nums hl (a :: rest) h'.2
    obtain ⟨acc, q, e⟩ := ih2 a rest rfl
    have ej : joinB l (dbl (b :: a :: rest).reverse) = jstep l (joinB l (dbl (a :: rest).reverse)) (b, b) := by simp [joinB, dbl]
    have er : runsL (numsD l (b :: a :: rest)) = (if b - a ≤ l then rangeI (a + 1) (b - a).toNat else [b]).foldl rstep (runsL (numsD l (a :: rest))) := by simp [runsL, numsD]
    rw [er, ej, ih1, e]
    by_cases c : b - a ≤ l
    · have := runs_run q a acc (b - a).toNat (by omega)
      have e2 : a + ((b - a).toNat : Int) = b := by omega
      rw [if_pos c, this, e2]
      have ej2 : jstep l (acc ++ [(q, a)]) (b, b) = acc ++ [(q, b)] := by simp [jstep, c]
      rw [ej2]
      exact ⟨rfl, by intro b' r' h; cases h; exact ⟨acc, q, rfl⟩⟩
    · rw [if_neg c]
      have ej2 : jstep l (acc ++ [(q, a)]) (b, b) = acc ++ [(q, a)] ++ [(b, b)] := by simp [jstep, c]
      rw [ej2]
      refine ⟨?_, by intro b' r' h; cases h; exact ⟨acc ++ [(q, a)], b, rfl⟩⟩
      have : ¬ a = b - 1 := by omega
      simp [rstep, this]
theorem nums_le {l : Int} : ∀ {fs : List Int}, fs.Pairwise (· > ·) → ∀ b rest, fs = b :: rest → ∀ n ∈ numsD l fs, n ≤ b
  | [], _, b, rest, e, _, _ => by cases e
  | [a], _, b, rest, e, n, hn => by
    cases e
    have : n = a := by simpa [numsD] using hn
    omega
  | c :: a :: r, h, b, rest, e, n, hn => by
    cases e
    have h' := List.pairwise_cons.mp h
    have hab : a < c := h'.1 a (by simp)
    rw [numsD] at hn
    rcases List.mem_append.mp hn with hn | hn
    · have := nums_le h'.2 a r rfl n hn
      omega
    · split at hn
      · have := rangeI_mem.mp hn
        omega
      · have : n = c := by simpa using hn
        omega
theorem nums_asc {l : Int} : ∀ {fs : List Int}, fs.Pairwise (· > ·) → (numsD l fs).Pairwise (· < ·)
  | [], _ => List.Pairwise.nil
  | [a], _ => by simp [numsD]
  | b :: a :: r, h => by
    have h' := List.pairwise_cons.mp h
    have hab : a < b := h'.1 a (by simp)
    rw [numsD, List.pairwise_append]
    refine ⟨nums_asc h'.2, ?_, ?_⟩
    · split
      · exact rangeI_asc _ _
      · simp
    · intro x hx y hy
      have := nums_le h'.2 a r rfl x hx
      split at hy
      · have := rangeI_mem.mp hy
        omega
      · have : y = b := by simpa using hy
        omega
theorem nums_ge {l : Int} : ∀ {fs : List Int}, fs.Pairwise (· > ·) → (∀ x ∈ fs, 1 ≤ x) → ∀ n ∈ numsD l fs, 1 ≤ n
  | [], _, _, n, hn => by cases hn
  | [a], _, hp, n, hn => by
    have : n = a := by simpa [numsD] using hn
    have := hp a (by simp)
    omega
  | b :: a :: r, h, hp, n, hn => by
    have h' := List.pairwise_cons.mp h
    rw [numsD] at hn
    rcases List.mem_append.mp hn with hn | hn
    · exact nums_ge h'.2 (fun x hx => hp x (List.mem_cons_of_mem _ hx)) n hn
    · have h1 := hp a (by simp)
      have h2 := hp b (by simp)
      split at hn
      · have := rangeI_mem.mp hn
        omega
      · have : n = b := by simpa using hn
        omega
theorem hasGo_below {l n : Int} : ∀ {fs : List Int}, fs.Pairwise (· > ·) → ∀ b rest, fs = b :: rest → b ≤ n → hasGo l n fs = none
  | [], _, b, rest, e, _ => by cases e
  | [a], _, b, rest, e, _ => rfl
  | c :: a :: r, h, b, rest, e, hb => by
    cases e
    have h' := List.pairwise_cons.mp h
    have hab : a < c := h'.1 a (by simp)
    rw [hasGo, if_neg (by omega)]
    exact hasGo_below h'.2 a r rfl (by omega)
theorem nums_has {l n : Int} (hl : 1 ≤ l) : ∀ {fs : List Int}, fs.Pairwise (· > ·) → (n ∈ numsD l fs ↔ hasB fs l n = true)
  | [], _ => by simp [numsD, hasB, hasGo]
  | [a], _ => by simp [numsD, hasB, hasGo]
  | b :: a :: r, h => by
    have h' := List.pairwise_cons.mp h
    have hab : a < b := h'.1 a (by simp)
    have ih := nums_has (n := n) hl h'.2
    have hle := nums_le (l := l) h'.2 a r rfl
    have hmem : n ∈ (a :: r) → n ≤ a := by
      intro hn
      rcases List.mem_cons.mp hn with rfl | hn
      · omega
      · have := (List.pairwise_cons.mp h'.2).1 n hn
        omega
    rw [numsD, List.mem_append, ih]
    have e1 : hasB (b :: a :: r) l n = (decide (n = b) || (a :: r).contains n || (hasGo l n (b :: a :: r)).getD false) := by
      simp [hasB, List.contains_cons, Bool.or_assoc, BEq.comm]
    have e2 : hasB (a :: r) l n = ((a :: r).contains n || (hasGo l n (a :: r)).getD false) := rfl
    by_cases c1 : n ≤ a
    · have g : hasGo l n (b :: a :: r) = hasGo l n (a :: r) := by rw [hasGo, if_neg (by omega)]
      have nb : ¬ n = b := by omega
      rw [e1, e2, g]
      constructor
      · rintro (h1 | h1)
        · simp only [nb, decide_false, Bool.false_or]; exact h1
        · exfalso
          split at h1
          · have := rangeI_mem.mp h1
            omega
          · have : n = b := by simpa using h1
            omega
      · intro h1
        left
        simpa only [nb, decide_false, Bool.false_or] using h1
    · have g0 : hasGo l n (a :: r) = none := hasGo_below h'.2 a r rfl (by omega)
      have c0 : (a :: r).contains n = false := by
        rw [Bool.eq_false_iff]
        intro hc
        have := hmem (List.contains_iff_mem.mp hc)
        omega
      have e3 : hasB (a :: r) l n = false := by rw [e2, c0, g0]; rfl
      rw [e1, e3, c0]
      by_cases c2 : n = b
      · subst c2
        simp only [decide_true, Bool.true_or, iff_true]
        right
        split
        · exact rangeI_mem.mpr (by omega)
        · simp
      · by_cases c3 : n < b
        · have g : hasGo l n (b :: a :: r) = some (decide (b - a ≤ l)) := by rw [hasGo, if_pos (by omega)]
          rw [g]
          by_cases c4 : b - a ≤ l
          · simp only [c4, if_true, decide_true, Option.getD_some, Bool.or_true, iff_true]
            right
            exact rangeI_mem.mpr (by omega)
          · simp [c4, c2]
        · have g : hasGo l n (b :: a :: r) = none := hasGo_below h b (a :: r) rfl (by omega)
          rw [g]
          by_cases c4 : b - a ≤ l
          · have : ¬ n ∈ rangeI (a + 1) (b - a).toNat := by intro hh; have := rangeI_mem.mp hh; omega
            simp [c4, this, c2]
          · simp [c4, c2]
theorem asc_ext {xs ys : List Int} (hx : xs.Pairwise (· < ·)) (hy : ys.Pairwise (· < ·)) (h : ∀ n, n ∈ xs ↔ n ∈ ys) : xs = ys := by
  have nx : xs.Nodup := hx.imp (fun h => by omega)
  have ny : ys.Nodup := hy.imp (fun h => by omega)
  have p : xs.Perm ys := (List.perm_ext_iff_of_nodup nx ny).mpr h
  exact p.eq_of_pairwise (fun a b _ _ h1 h2 => by omega) hx hy
theorem filter_nums {l : Int} (hl : 1 ≤ l) {fs : List Int} (h : fs.Pairwise (· > ·)) (hp : ∀ x ∈ fs, 1 ≤ x) (M : Nat) (hM : ∀ x ∈ fs, x ≤ M) : (rangeI 1 M).filter (hasB fs l) = numsD l fs := by
  refine asc_ext ((rangeI_asc 1 M).filter _) (nums_asc h) ?_
  intro n
  rw [List.mem_filter, rangeI_mem, nums_has hl h]
  constructor
  · exact fun h => h.2
  · intro hn
    refine ⟨?_, hn⟩
    have hm := (nums_has hl h).mpr hn
    have h1 := nums_ge h hp n hm
    cases fs with
    | nil => cases hm
    | cons b rest =>
      have := nums_le h b rest rfl n hm
      have := hM b (by simp)
      omega
end My

set_option Elab.async false
set_option linter.all false
set_option maxRecDepth 100000
set_option maxHeartbeats 4000000
namespace My
open PySem PySem.Spec PyProof.Rows L2 Cm
theorem fEq_nilL {k : Nat} {A : List PyData} (h : Shp k (.list A)) (hk : k ≤ 64) : fEq (.list A) (.list []) = some (.bool A.isEmpty) := by
  unfold fEq
  rw [shp_shaped h hk, shp_shaped shp_nilL (by omega)]
  cases A <;> rfl
theorem fIx_lastT (ys : List PyData) (z : PyData) : fIx (.tuple (ys ++ [z])) (.int (-1)) = some z := by
  have : (-((((ys ++ [z]).length : Nat)) : Int) ≤ -1) := by simp; omega
  have e : ((-1 : Int) + ((((ys ++ [z]).length : Nat)) : Int)).toNat = ys.length := by simp; omega
  simp only [fIx, atI, ixN, if_neg (by decide : ¬ (0 : Int) ≤ -1), if_pos this, e, Option.bind_some]
  simp
theorem tops_spec {row : List Int} (hl : row.length ≤ 1000) (st : Sto) : f__law_tops [.d (.tuple (iL row))] st = some (.d (.tuple (iL (recs row))), st) := by
  revert st
  apply pure_lift
  intro st
  obtain ⟨s', ⟨d, r2, p1, p2, p3⟩, e⟩ := forL_abs (T := Unit) (S := List Int × Option U)
    (g := (gN 2)) (b := (cIfS (bOr (cB (cD2 fEq (cVar 1) (cLst cNil))) (cB (cD2 fLt (cVar 2) (cD2 fIx (cVar 1) (cD1 fNeg (cD (.int 1))))))) (cExpr (cM mAppend (cVar 1) (cCons (cVar 2) cNil))) cSkip))
    (fun _ => True) (fun _ s => [some (.d (.tuple (iL row))), some (.l st.length), s.2]) (fun _ s => ex st [some (iL s.1)])
    (fun rest s => ∃ d r2, row = d ++ r2 ∧ rest = iL r2 ∧ s.1 = recs d) (by
      rintro y ys ⟨acc, t⟩ ⟨d, r2, h1, h2, h3⟩
      cases r2 with
      | nil => cases h2
      | cons l r2 =>
        obtain ⟨rfl, rfl⟩ : y = .int l ∧ ys = iL r2 := by simpa [iL] using h2
        simp only [] at h3
        subst h3
        refine ⟨(recs (d ++ [l]), some (.d (.int l))), ⟨d ++ [l], r2, by simp [h1], rfl, rfl⟩, ?_⟩
        intro _ _
        refine ⟨_, rfl, ?_⟩
        have hlen : (recs d).length ≤ 1000 := by
          have := recs_len d
          have : d.length ≤ row.length := by rw [h1]; simp
          omega
        have hlen1 : (recs d).length < 1000000 := by omega
        have hlen2 : (recs d).length + 1 ≤ 1000000 := by omega
        have n0 := fEq_nilL (shp_ints (x := .list (iL (recs d))) (.inr rfl)) (by omega)
        rw [recs_snoc, recStep]
        rcases List.eq_nil_or_concat (recs d) with h0 | ⟨zs, z, h0⟩
        · rw [h0] at n0
          simp at n0
          simp [h0, n0]
        · rw [List.concat_eq_append] at h0
          have hz : (recs d).getLast? = some z := by rw [h0]; simp
          have hi : fIx (.list (iL (recs d))) (.int (-1)) = some (.int z) := by rw [h0]; exact fIx_last zs z
          have hie : (iL (recs d)).isEmpty = false := by rw [h0]; cases zs <;> rfl
          rw [hie] at n0
          simp only [hz]
          by_cases c : l < z
          · rw [if_pos c]
            have eA : iL (recs d ++ [l]) = iL (recs d) ++ [.int l] := by simp
            rw [eA]
            have lA : (iL (recs d)).length = (recs d).length := by simp
            rw [← lA] at hlen1 hlen2
            generalize iL (recs d) = A at n0 hi hlen1 hlen2
            simp -implicitDefEqProofs [n0, hi, c, hlen1, hlen2]
          · rw [if_neg c]
            generalize iL (recs d) = A at n0 hi
            simp -implicitDefEqProofs [n0, hi, c])
    (iL row) ([], none) ⟨[], row, rfl, rfl, rfl⟩
  have hr : r2 = [] := by cases r2 with
    | nil => rfl
    | cons => cases p2
  subst hr
  simp at p1
  obtain ⟨acc, t⟩ := s'
  simp only [] at p3
  subst p1 p3
  have e' := e () trivial
  simp at e'
  simp -implicitDefEqProofs [f__law_tops, defS_ap, b__law_tops, e']
theorem lblocks_spec {row : List Int} {l : Int} (hl : row.length ≤ 1000) (st : Sto) : f__law_blocks [.d (.tuple (iL row)), .d (.int l)] st = some (.d (bD (fil row l)), st) := by
  have h2 := tops_spec hl
  have hrl : (recs row).length ≤ 1000 := by have := recs_len row; omega
  have n0 := fNe_nilT (shp_ints (x := .tuple (iL (recs row))) (.inl rfl)) (by omega)
  have o1 : ∀ z, mulOk 2 z = true := fun z => mul_smallL (by omega) (by omega)
  have hlm := lone_min l row
  have hla := recs_last row
  have rv : (iL (recs row)).reverse = iL (sortI (recs row)) := by rw [sort_recs]; unfold iL; rw [List.map_reverse]
  revert st
  apply pure_lift
  intro st
  obtain ⟨s', ⟨d, r2, p1, p2, p3⟩, e⟩ := forL_abs (T := Unit) (S := List (Int × Int) × Option U)
    (g := (gN 4)) (b := (cIfS (bAnd (cB (cD2 fNe (cVar 3) (cLst cNil))) (cB (cD2 fLe (cD2 fSub (cVar 4) (cD2 fIx (cD2 fIx (cVar 3) (cD1 fNeg (cD (.int 1)))) (cD (.int 1)))) (cVar 1)))) (cSetIx (cVar 3) (cD1 fNeg (cD (.int 1))) (cTup (cCons (cD2 fIx (cD2 fIx (cVar 3) (cD1 fNeg (cD (.int 1)))) (cD (.int 0))) (cCons (cVar 4) cNil)))) (cExpr (cM mAppend (cVar 3) (cCons (cTup (cCons (cVar 4) (cCons (cVar 4) cNil))) cNil)))))
    (fun _ => True) (fun _ s => [some (.d (.tuple (iL row))), some (.d (.int l)), some (.d (.tuple (iL (recs row)))), some (.l st.length), s.2]) (fun _ s => ex st [some (s.1.map Cm.pairD)])
    (fun rest s => ∃ d r2, sortI (recs row) = d ++ r2 ∧ rest = iL r2 ∧ s.1 = joinB l (dbl d)) (by
      rintro y ys ⟨acc, t⟩ ⟨d, r2, h1, h2, h3⟩
      cases r2 with
      | nil => cases h2
      | cons i r2 =>
        obtain ⟨rfl, rfl⟩ : y = .int i ∧ ys = iL r2 := by simpa using h2
        simp only [] at h3
        subst h3
        refine ⟨(joinB l (dbl (d ++ [i])), some (.d (.int i))), ⟨d ++ [i], r2, by simp [h1], rfl, rfl⟩, ?_⟩
        intro _ _
        refine ⟨_, rfl, ?_⟩
        have hlen : (joinB l (dbl d)).length ≤ 1000 := by
          have := joinB_len l (dbl d)
          have h3 := congrArg List.length h1
          rw [sortI_len] at h3
          simp at h3
          rw [dbl_len] at this
          omega
        have hlen1 : (joinB l (dbl d)).length < 1000000 := by omega
        have hlen2 : (joinB l (dbl d)).length + 1 ≤ 1000000 := by omega
        have e0 : joinB l (dbl (d ++ [i])) = jstep l (joinB l (dbl d)) (i, i) := by simp [joinB, dbl]
        have nA := fNe_nilL (shp_pairs (x := .list ((joinB l (dbl d)).map Cm.pairD)) (.inr rfl)) (by omega)
        rw [e0, jstep]
        rcases List.eq_nil_or_concat (joinB l (dbl d)) with h0 | ⟨zs, z, h0⟩
        · rw [h0] at nA
          simp at nA
          simp [h0, nA, Cm.pairD]
        · rw [List.concat_eq_append] at h0
          have hz : (joinB l (dbl d)).getLast? = some z := by rw [h0]; simp
          have hd : (joinB l (dbl d)).dropLast = zs := by rw [h0]; simp
          have hi : fIx (.list ((joinB l (dbl d)).map Cm.pairD)) (.int (-1)) = some (Cm.pairD z) := by rw [h0, List.map_append]; exact fIx_lastD _ _
          have hl2 : (joinB l (dbl d)).length = zs.length + 1 := by rw [h0]; simp
          have hn : ixN ((joinB l (dbl d)).length) (-1) = some zs.length := by rw [hl2]; exact ixN_last _
          have hs : ((joinB l (dbl d)).map Cm.pairD).set zs.length (.tuple [.int z.1, .int i]) = (zs ++ [(z.1, i)]).map Cm.pairD := by
            rw [h0, List.map_append, List.map_append]
            have := set_last (zs.map Cm.pairD) (Cm.pairD z) (.tuple [.int z.1, .int i])
            rw [List.length_map] at this
            exact this
          have f0 : fIx (Cm.pairD z) (.int 0) = some (.int z.1) := rfl
          have f1 : fIx (Cm.pairD z) (.int 1) = some (.int z.2) := rfl
          simp only [hz, hd]
          have hR : (joinB l (dbl d) ++ [(i, i)]).map Cm.pairD = (joinB l (dbl d)).map Cm.pairD ++ [.tuple [.int i, .int i]] := by rw [List.map_append]; rfl
          generalize hA : (joinB l (dbl d)).map Cm.pairD = A at hi hs hR nA ⊢
          have hAl : A.length = (joinB l (dbl d)).length := by rw [← hA, List.length_map]
          have hAn : ¬ A = [] := by intro h; rw [h] at hAl; simp at hAl; omega
          rw [← hAl] at hn hlen1 hlen2
          by_cases c : i - z.2 ≤ l
          · simp only [if_pos c, ← hs]
            simp [nA, hAn, hi, f0, f1, c, hn]
          · simp only [if_neg c, hR]
            simp [nA, hAn, hi, f0, f1, c, hlen1, hlen2])
    (iL (sortI (recs row))) ([], none) ⟨[], sortI (recs row), rfl, rfl, rfl⟩
  have hr : r2 = [] := by cases r2 with
    | nil => rfl
    | cons => cases p2
  subst hr
  simp only [List.append_nil] at p1
  obtain ⟨acc, t⟩ := s'
  simp only [] at p3
  rw [← p1] at p3
  subst p3
  have e' := e () trivial
  rw [← rv] at e'
  simp only [List.map_nil] at e'
  cases hm : minI row with
  | none =>
    have hr0 : recs row = [] := by
      rw [hm] at hla
      exact List.getLast?_eq_none_iff.mp hla
    have hlo : lone row l = false := by rw [hlm, hm]
    have hi0 : (iL (recs row)).isEmpty = true := by rw [hr0]; rfl
    rw [hi0] at n0
    have fl : bD (fil row l) = .tuple ((joinB l (dbl (sortI (recs row)))).map Cm.pairD) := by unfold fil; rw [hlo]; rfl
    rw [fl]
    generalize iL (recs row) = RR at h2 n0 e'
    generalize (joinB l (dbl (sortI (recs row)))).map Cm.pairD = JJ at e'
    simp -implicitDefEqProofs [f__law_blocks, defS_ap, b__law_blocks, h2, n0, e']
  | some m =>
    obtain ⟨zs, hzs⟩ : ∃ zs, recs row = zs ++ [m] := by
      rw [hm, List.getLast?_eq_some_iff] at hla
      exact hla
    have il : fIx (.tuple (iL (recs row))) (.int (-1)) = some (.int m) := by
      rw [hzs, iL, List.map_append]
      exact fIx_lastT _ _
    have hi0 : (iL (recs row)).isEmpty = false := by rw [hzs]; cases zs <;> rfl
    rw [hi0] at n0
    by_cases c : m < 2 * l
    · have hlo : lone row l = true := by rw [hlm, hm]; simp [c]
      have fl : bD (fil row l) = .none := by unfold fil; rw [hlo]; rfl
      rw [fl]
      generalize iL (recs row) = RR at h2 n0 il
      simp -implicitDefEqProofs [f__law_blocks, defS_ap, b__law_blocks, h2, n0, il, o1, c]
    · have hlo : lone row l = false := by rw [hlm, hm]; simp [c]
      have fl : bD (fil row l) = .tuple ((joinB l (dbl (sortI (recs row)))).map Cm.pairD) := by unfold fil; rw [hlo]; rfl
      rw [fl]
      generalize iL (recs row) = RR at h2 n0 il e'
      generalize (joinB l (dbl (sortI (recs row)))).map Cm.pairD = JJ at e'
      simp -implicitDefEqProofs [f__law_blocks, defS_ap, b__law_blocks, h2, n0, il, o1, c, e']
end My

set_option Elab.async false
set_option linter.all false
set_option maxRecDepth 100000
set_option maxHeartbeats 4000000
namespace My
open PySem PySem.Spec PyProof.Rows L2 Cm
/-! things: what repr tells without an end -/
mutual
def wt : PyData → Nat
  | .list xs => wtA xs + 3
  | .tuple xs => wtA xs + 3
  | .none => 4
  | .bool _ => 5
  | .int i => (PyData.shown (.int i)).length
  | .str s => (PyData.shown (.str s)).length
  | .dict kvs => (PyData.shown (.dict kvs)).length
def wtA : List PyData → Nat
  | [] => 0
  | x :: xs => wt x + 2 + wtA xs
end
theorem wtA_app (xs ys : List PyData) : wtA (xs ++ ys) = wtA xs + wtA ys := by
  induction xs with
  | nil => simp [wtA]
  | cons x xs ih => simp only [List.cons_append, wtA, ih]; omega
theorem wtA_sub {xs ys : List PyData} (h : List.Sublist xs ys) : wtA xs ≤ wtA ys := by
  induction h with
  | slnil => exact Nat.le_refl _
  | cons x _ ih => simp only [wtA]; omega
  | cons_cons x _ ih => simp only [wtA]; omega
theorem wtA_len (xs : List PyData) : 2 * xs.length ≤ wtA xs := by
  induction xs with
  | nil => exact Nat.le_refl _
  | cons x xs ih => simp only [wtA, List.length_cons]; omega
theorem wtA_mem {xs : List PyData} {x : PyData} (h : x ∈ xs) : wt x ≤ wtA xs := by
  induction xs with
  | nil => cases h
  | cons y ys ih =>
    simp only [wtA]
    rcases List.mem_cons.mp h with rfl | h
    · omega
    · have := ih h
      omega
mutual
theorem shown_wt : ∀ x : PyData, x.shown.length ≤ wt x
  | .none => by simp only [wt]; decide
  | .bool b => by simp only [wt]; cases b <;> decide
  | .int i => by simp only [wt]; exact Nat.le_refl _
  | .str s => by simp only [wt]; exact Nat.le_refl _
  | .dict kvs => by simp only [wt]; exact Nat.le_refl _
  | .list xs => by
    have h := shown_wtA xs
    have e := PySem.listText_len_le (PyData.shownAll xs)
    simp only [wt]
    show (listText (PyData.shownAll xs)).length ≤ _
    omega
  | .tuple xs => by
    have h := shown_wtA xs
    have e := PySem.tupleText_len_le (PyData.shownAll xs)
    simp only [wt]
    show (tupleText (PyData.shownAll xs)).length ≤ _
    omega
theorem shown_wtA : ∀ xs : List PyData, ((PyData.shownAll xs).map (·.length)).sum + 2 * (PyData.shownAll xs).length ≤ wtA xs
  | [] => by simp [PyData.shownAll, wtA]
  | x :: xs => by
    have h1 := shown_wt x
    have h2 := shown_wtA xs
    simp only [PyData.shownAll, wtA, List.map_cons, List.sum_cons, List.length_cons]
    omega
end
structure Th (d n : Nat) (x : PyData) : Prop where
  sh : x.showable = true
  cl : x.canLay0 = true
  dep : x.depth ≤ d
  len : wt x ≤ n
structure ThA (d n : Nat) (xs : List PyData) : Prop where
  sh : PyData.showableAll xs = true
  cl : PyData.canLayAll0 xs = true
  dep : PyData.depthAll xs ≤ d
  len : wtA xs ≤ n
section
variable {d n d' n' : Nat} {x : PyData} {xs ys : List PyData}
theorem Th.mono (h : Th d n x) (h1 : d ≤ d') (h2 : n ≤ n') : Th d' n' x := ⟨h.sh, h.cl, Nat.le_trans h.dep h1, Nat.le_trans h.len h2⟩
theorem ThA.mono (h : ThA d n xs) (h1 : d ≤ d') (h2 : n ≤ n') : ThA d' n' xs := ⟨h.sh, h.cl, Nat.le_trans h.dep h1, Nat.le_trans h.len h2⟩
theorem Th.nd (h : Th d n x) : x.hasDict = false := PyData.hasDict_of_canLay x h.cl
theorem Th.shp (h : Th d n x) : Shp d x := ⟨h.cl, h.dep⟩
theorem Th.ok (h : Th d n x) (h1 : d ≤ 60) (h2 : n ≤ 1000000) : reprOk x = true := by
  have a := h.dep
  have b := h.len
  have c := shown_wt x
  unfold reprOk
  rw [h.sh, h.nd, decide_eq_true (by omega : x.depth ≤ 60), decide_eq_true (by show _ ≤ 1000000; omega : x.shown.length ≤ lim)]
  rfl
theorem th_none : Th 0 4 .none := ⟨rfl, rfl, Nat.le_refl _, by simp only [wt]; omega⟩
theorem th_bool (b : Bool) : Th 0 5 (.bool b) := ⟨rfl, rfl, Nat.le_refl _, by simp only [wt]; omega⟩
theorem th_int {i : Int} (h : i.natAbs < 10 ^ 100) : Th 0 101 (.int i) := by
  refine ⟨?_, rfl, Nat.le_refl _, ?_⟩
  · simp only [PyData.showable, decide_eq_true_eq]
    by_cases z : i.natAbs = 0
    · rw [z]
      decide
    · rw [Nat.log2_lt z]
      exact Nat.lt_of_lt_of_le h (by decide)
  · have e := PySem.int_text_length_le10 (k := 100) (by decide) h
    simp only [wt]
    show (PySem.Str.ofString (toString i)).length ≤ _
    rw [PySem.ofString_length]
    exact e
theorem tha_nil : ThA 0 0 [] := ⟨rfl, rfl, Nat.le_refl _, Nat.le_refl _⟩
theorem tha_cons (h : Th d n x) (t : ThA d n' xs) : ThA d (n + 2 + n') (x :: xs) := by
  have a := h.dep
  have b := t.dep
  have c := h.len
  have e := t.len
  exact ⟨by simp only [PyData.showableAll, h.sh, t.sh, Bool.and_self], by simp only [PyData.canLayAll0, h.cl, t.cl, Bool.and_self], by simp only [PyData.depthAll]; omega, by simp only [wtA]; omega⟩
theorem tha_app (h : ThA d n xs) (t : ThA d n' ys) : ThA d (n + n') (xs ++ ys) := by
  induction xs generalizing n with
  | nil => exact t.mono (Nat.le_refl _) (Nat.le_add_left _ _)
  | cons x xs ih =>
    have a := h.sh
    have b := h.cl
    have c := h.dep
    have e := h.len
    simp only [PyData.showableAll, Bool.and_eq_true] at a
    simp only [PyData.canLayAll0, Bool.and_eq_true] at b
    simp only [PyData.depthAll] at c
    simp only [wtA] at e
    have h1 : Th d (wt x) x := ⟨a.1, b.1, by omega, Nat.le_refl _⟩
    have h2 := ih (n := wtA xs) ⟨a.2, b.2, by omega, Nat.le_refl _⟩
    exact (tha_cons h1 h2).mono (Nat.le_refl _) (by omega)
theorem tha_sub (s : List.Sublist xs ys) (h : ThA d n ys) : ThA d n xs := by
  have q := wtA_sub s
  have l := h.len
  have h1 := h.sh
  have h2 := h.cl
  have h3 := h.dep
  refine ⟨?_, ?_, ?_, by omega⟩
  · clear q l h h2 h3
    induction s with
    | slnil => rfl
    | cons x s ih =>
      simp only [PyData.showableAll, Bool.and_eq_true] at h1
      exact ih h1.2
    | cons_cons x s ih =>
      simp only [PyData.showableAll, Bool.and_eq_true] at h1 ⊢
      exact ⟨h1.1, ih h1.2⟩
  · clear q l h h1 h3
    induction s with
    | slnil => rfl
    | cons x s ih =>
      simp only [PyData.canLayAll0, Bool.and_eq_true] at h2
      exact ih h2.2
    | cons_cons x s ih =>
      simp only [PyData.canLayAll0, Bool.and_eq_true] at h2 ⊢
      exact ⟨h2.1, ih h2.2⟩
  · clear q l h h1 h2
    induction s with
    | slnil => exact Nat.zero_le _
    | cons x s ih =>
      simp only [PyData.depthAll] at h3
      exact ih (by omega)
    | cons_cons x s ih =>
      simp only [PyData.depthAll] at h3 ⊢
      have := ih (by omega)
      omega
theorem th_of (hx : Sq x xs) (h : ThA d n xs) : Th (d + 1) (n + 3) x := by
  have a := h.dep
  have b := h.len
  rcases hx with rfl | rfl
  · exact ⟨by simpa only [PyData.showable] using h.sh, by simpa only [PyData.canLay0] using h.cl, by simp only [PyData.depth]; omega, by simp only [wt]; omega⟩
  · exact ⟨by simpa only [PyData.showable] using h.sh, by simpa only [PyData.canLay0] using h.cl, by simp only [PyData.depth]; omega, by simp only [wt]; omega⟩
theorem Th.items (hx : Sq x xs) (h : Th d n x) : ThA d n xs := by
  have a := h.dep
  have b := h.len
  have c := h.sh
  have e := h.cl
  rcases hx with rfl | rfl
  · exact ⟨by simpa only [PyData.showable] using c, by simpa only [PyData.canLay0] using e, by simp only [PyData.depth] at a; omega, by simp only [wt] at b; omega⟩
  · exact ⟨by simpa only [PyData.showable] using c, by simpa only [PyData.canLay0] using e, by simp only [PyData.depth] at a; omega, by simp only [wt] at b; omega⟩
theorem ThA.mem (h : ThA d n xs) (hm : x ∈ xs) : Th d n x := by
  have s : List.Sublist [x] xs := List.singleton_sublist.mpr hm
  have q := tha_sub s h
  have a := q.sh
  have b := q.cl
  have c := q.dep
  have e := q.len
  simp only [PyData.showableAll, Bool.and_true] at a
  simp only [PyData.canLayAll0, Bool.and_true] at b
  simp only [PyData.depthAll] at c
  simp only [wtA] at e
  exact ⟨a, b, by omega, by omega⟩
theorem tha_all {m : Nat} (h : ∀ y ∈ xs, Th d n y) (hm : xs.length ≤ m) : ThA d ((n + 2) * m) xs := by
  have main : ThA d ((n + 2) * xs.length) xs := by
    clear hm
    induction xs with
    | nil => exact tha_nil.mono (Nat.zero_le _) (Nat.zero_le _)
    | cons y ys ih =>
      have := tha_cons (h y List.mem_cons_self) (ih fun z hz => h z (List.mem_cons_of_mem _ hz))
      exact this.mono (Nat.le_refl _) (by rw [List.length_cons, Nat.mul_succ]; omega)
  exact main.mono (Nat.le_refl _) (Nat.mul_le_mul_left _ hm)
theorem th_len (hx : Sq x xs) (h : Th d n x) : xs.length ≤ n := by
  have a := (Th.items hx h).len
  have b := wtA_len xs
  omega
theorem tha_ints {ns : List Int} {m : Nat} (h : ∀ i ∈ ns, i.natAbs < 10 ^ 100) (hm : ns.length ≤ m) : ThA 0 (103 * m) (iL ns) := tha_all (fun y hy => by
  obtain ⟨i, hi, rfl⟩ := List.mem_map.mp hy
  exact th_int (h i hi)) (by rw [List.length_map]; exact hm)
theorem th_row {ns : List Int} {m : Nat} (hx : Sq x (iL ns)) (h : ∀ i ∈ ns, i.natAbs < 10 ^ 100) (hm : ns.length ≤ m) : Th 1 (103 * m + 3) x := th_of hx (tha_ints h hm)
end
theorem ty_some {y : PyData} (h : y.hasDict = false) : ∃ t, tyD y = some t := by
  cases y with
  | dict z => cases h
  | none => exact ⟨_, rfl⟩
  | bool b => exact ⟨_, rfl⟩
  | int i => exact ⟨_, rfl⟩
  | str s => exact ⟨_, rfl⟩
  | list xs => exact ⟨_, rfl⟩
  | tuple xs => exact ⟨_, rfl⟩
/-- a whole number, no truth, not below l -/
def numB (l : Int) : PyData → Bool
  | .int i => decide (l ≤ i)
  | _ => false
theorem asInts_all {xs : List PyData} {l : Int} (h : ∀ y ∈ xs, numB l y = true) : ∃ ns : List Int, xs = iL ns ∧ ∀ i ∈ ns, l ≤ i := by
  induction xs with
  | nil => exact ⟨[], rfl, by simp⟩
  | cons x xs ih =>
    obtain ⟨ns, rfl, hn⟩ := ih fun y hy => h y (List.mem_cons_of_mem _ hy)
    have := h x List.mem_cons_self
    cases x with
    | int i =>
      refine ⟨i :: ns, rfl, fun j hj => ?_⟩
      rcases List.mem_cons.mp hj with rfl | hj
      · simpa [numB] using this
      · exact hn j hj
    | none => cases this
    | bool b => cases this
    | str s => cases this
    | list z => cases this
    | tuple z => cases this
    | dict z => cases this
section
variable {d n : Nat} {x : PyData} {xs : List PyData}
theorem Th.in1 (hx : Sq x xs) (h : Th (d + 1) n x) : ThA d (wtA xs) xs ∧ wtA xs + 3 ≤ n := by
  have a := h.dep
  have b := h.len
  have c := h.sh
  have e := h.cl
  rcases hx with rfl | rfl
  · exact ⟨⟨by simpa only [PyData.showable] using c, by simpa only [PyData.canLay0] using e, by simp only [PyData.depth] at a; omega, Nat.le_refl _⟩, by simp only [wt] at b; omega⟩
  · exact ⟨⟨by simpa only [PyData.showable] using c, by simpa only [PyData.canLay0] using e, by simp only [PyData.depth] at a; omega, Nat.le_refl _⟩, by simp only [wt] at b; omega⟩
theorem Th.dep0 (hx : Sq x xs) (h : Th 0 n x) : False := by
  have a := h.dep
  rcases hx with rfl | rfl <;> simp only [PyData.depth] at a <;> omega
theorem wtA_cut (xs : List PyData) (i : Nat) (hi : i < xs.length) : wtA (xs.take i) + (wt xs[i] + 2) + wtA (xs.drop (i + 1)) = wtA xs := by
  have e : xs = xs.take i ++ (xs[i] :: xs.drop (i + 1)) := by
    rw [List.getElem_cons_drop, List.take_append_drop]
  have h := congrArg wtA e
  rw [wtA_app] at h
  simp only [wtA] at h
  omega
/-- a thing with another item in the place of one -/
theorem th_put {y : PyData} {k : Nat} (h : ThA d n xs) (i : Nat) (hi : i < xs.length) (hy : Th d (wt xs[i] + k) y) (hn : wtA xs ≤ n) : ThA d (wtA xs + k) (xs.take i ++ [y] ++ xs.drop (i + 1)) := by
  have c := wtA_cut xs i hi
  have h0 : ThA d (wtA xs) xs := ⟨h.sh, h.cl, h.dep, Nat.le_refl _⟩
  have t1 := tha_sub (List.take_sublist i xs) h0
  have t2 := tha_sub (List.drop_sublist (i + 1) xs) h0
  have s1 : ThA d (wtA (xs.take i)) (xs.take i) := ⟨t1.sh, t1.cl, t1.dep, Nat.le_refl _⟩
  have s2 : ThA d (wtA (xs.drop (i + 1))) (xs.drop (i + 1)) := ⟨t2.sh, t2.cl, t2.dep, Nat.le_refl _⟩
  have one : ThA d (wt xs[i] + k + 2 + 0) [y] := tha_cons hy (tha_nil.mono (Nat.zero_le _) (Nat.le_refl _))
  exact (tha_app (tha_app s1 one) s2).mono (Nat.le_refl _) (by omega)
end
end My

set_option Elab.async false
set_option linter.all false
set_option maxRecDepth 100000
set_option maxHeartbeats 4000000
namespace My
open PySem PySem.Spec PyProof.Rows L2 Cm
/-! whole numbers at any depth -/
mutual
def bi (M : Nat) : PyData → Bool
  | .int i => decide (i.natAbs ≤ M)
  | .tuple xs => biA M xs
  | .list xs => biA M xs
  | _ => true
def biA (M : Nat) : List PyData → Bool
  | [] => true
  | x :: xs => bi M x && biA M xs
end
theorem biA_iff {M : Nat} : ∀ {xs : List PyData}, biA M xs = true ↔ ∀ y ∈ xs, bi M y = true
  | [] => by simp [biA]
  | x :: xs => by simp [biA, biA_iff (xs := xs)]
theorem bi_seq {M : Nat} {x : PyData} {xs : List PyData} (hx : Sq x xs) : bi M x = biA M xs := by
  rcases hx with rfl | rfl <;> simp only [bi]
mutual
theorem bi_up {M N : Nat} (h : M ≤ N) : ∀ x : PyData, bi M x = true → bi N x = true
  | .int i, q => by
    simp only [bi, decide_eq_true_eq] at q ⊢
    omega
  | .tuple xs, q => by
    simp only [bi] at q ⊢
    exact biA_up h xs q
  | .list xs, q => by
    simp only [bi] at q ⊢
    exact biA_up h xs q
  | .none, _ => rfl
  | .bool _, _ => rfl
  | .str _, _ => rfl
  | .dict _, _ => rfl
theorem biA_up {M N : Nat} (h : M ≤ N) : ∀ xs : List PyData, biA M xs = true → biA N xs = true
  | [], _ => rfl
  | x :: xs, q => by
    simp only [biA, Bool.and_eq_true] at q ⊢
    exact ⟨bi_up h x q.1, biA_up h xs q.2⟩
end
theorem tha_nil' {d : Nat} : ThA d 0 [] := tha_nil.mono (Nat.zero_le _) (Nat.le_refl _)
theorem wtA_rev : ∀ xs : List PyData, wtA xs.reverse = wtA xs
  | [] => rfl
  | x :: xs => by
    rw [List.reverse_cons, wtA_app, wtA_rev xs]
    simp only [wtA]
    omega
theorem th_self {d n : Nat} {x : PyData} (h : Th d n x) : Th d (wt x) x := ⟨h.sh, h.cl, h.dep, Nat.le_refl _⟩
theorem tha_self {d n : Nat} {xs : List PyData} (h : ThA d n xs) : ThA d (wtA xs) xs := ⟨h.sh, h.cl, h.dep, Nat.le_refl _⟩
theorem tha_rev {d n : Nat} {xs : List PyData} (h : ThA d n xs) : ThA d (wtA xs) xs.reverse := by
  have key : ∀ {ys : List PyData}, ThA d (wtA ys) ys → ThA d (wtA ys.reverse) ys.reverse := by
    intro ys
    induction ys with
    | nil => intro h; exact h
    | cons y ys ih =>
      intro h
      have h1 := ThA.mem h (x := y) List.mem_cons_self
      have h2 := tha_self (tha_sub (List.sublist_cons_self y ys) h)
      rw [List.reverse_cons]
      refine tha_self (tha_app (ih h2) (tha_cons h1 tha_nil'))
  have := key (tha_self h)
  rwa [wtA_rev] at this
theorem cps_sign (s : String) : ∀ c ∈ (Str.ofString s).cps.toList, c < 1114112 := by
  intro c hc
  have e : (Str.ofString s).cps.toList = s.toList.map (·.toNat) := by
    rw [PySem.Str.ofString_eq_toList]
  rw [e] at hc
  obtain ⟨ch, _, rfl⟩ := List.mem_map.mp hc
  have := ch.valid
  have h2 : ch.toNat < 1114112 := by
    rcases this with q | q
    · have : ch.toNat < 0xd800 := q
      omega
    · have : ch.toNat < 0x110000 := q.2
      omega
  omega
theorem cps_small (s : String) : ∀ c ∈ (Str.ofString s).cps.toList, c < 16 ^ 8 := fun c hc => by
  have := cps_sign s c hc
  omega
theorem th_text {s : String} (h : (Str.ofString s).length ≤ 200) : Th 0 2100 (.str (Str.ofString s)) := by
  have ok : (Str.ofString s).cps.all (· < 1114112) = true := by
    rw [← Array.all_toList, List.all_eq_true]
    exact fun c hc => decide_eq_true (cps_sign s c hc)
  refine ⟨rfl, by simpa only [PyData.canLay0, PyData.strOk] using ok, Nat.le_refl _, ?_⟩
  have := PySem.StrLaws.reprText_len (Str.ofString s) (cps_small s)
  show (PyData.shown (.str (Str.ofString s))).length ≤ _
  show (reprText (Str.ofString s)).length ≤ _
  omega
theorem th_intext {i : Int} (h : i.natAbs < 10 ^ 100) : Th 0 2100 (.str (Str.ofString (toString i))) := by
  refine th_text ?_
  have e := PySem.int_text_length_le10 (k := 100) (by decide) h
  rw [PySem.ofString_length]
  exact Nat.le_trans e (by omega)
end My

set_option Elab.async false
set_option linter.all false
set_option maxRecDepth 100000
set_option maxHeartbeats 4000000
namespace My
open PySem PySem.Spec PyProof.Rows L2 Cm
/-! offers or not, of any thing -/
theorem bools_all {α : Type} (xs : List α) (f : α → Bool) : fAll [.list (xs.map fun y => .bool (f y))] = some (.bool (xs.all f)) := by
  rw [fAll_l]
  have : asBools (xs.map fun y => PyData.bool (f y)) = some (xs.map f) := by
    have := asBools_map (xs.map f)
    rw [List.map_map] at this
    exact this
  rw [this]
  show some (PyData.bool ((xs.map f).all id)) = _
  rw [List.all_map]
  rfl
theorem isnum_spec {y : PyData} (h : y.hasDict = false) (l : Int) (st : Sto) : f_is_number [.d y, .d (.int l)] st = some (.d (.bool (numB l y)), st) := by
  revert st
  apply pure_lift
  intro st
  cases y with
  | dict z => cases h
  | none => simp [f_is_number, defS_ap, b_is_number, known, isaT, tyD, numB]
  | bool b => cases b <;> simp [f_is_number, defS_ap, b_is_number, known, isaT, tyD, numB]
  | int i =>
    by_cases c : l ≤ i
    · simp [f_is_number, defS_ap, b_is_number, known, isaT, tyD, numB, c]
    · simp [f_is_number, defS_ap, b_is_number, known, isaT, tyD, numB, c]
  | str s => simp [f_is_number, defS_ap, b_is_number, known, isaT, tyD, numB]
  | list xs => simp [f_is_number, defS_ap, b_is_number, known, isaT, tyD, numB]
  | tuple xs => simp [f_is_number, defS_ap, b_is_number, known, isaT, tyD, numB]
def isP2 : PyData → Bool
  | .tuple [_, _] => true
  | _ => false
def okP : PyData → Bool
  | .tuple [.int a, .int b] => decide (1 ≤ a) && decide (0 ≤ b)
  | _ => false
theorem len2_eq (zs : List PyData) : fEq (.int (zs.length : Nat)) (.int 2) = some (.bool (isP2 (.tuple zs))) := by
  rw [fEq_int]
  congr 2
  match zs with
  | [] => rfl
  | [a] => rfl
  | [a, b] => rfl
  | a :: b :: c :: cs =>
    show ((_ : Int) == 2) = false
    have : ((a :: b :: c :: cs).length : Int) ≠ 2 := by
      simp only [List.length_cons]
      omega
    simpa using this
theorem len2_ne (zs : List PyData) : fNe (.int (zs.length : Nat)) (.int 2) = some (.bool (!isP2 (.tuple zs))) := by
  match zs with
  | [] => rfl
  | [a] => rfl
  | [a, b] => rfl
  | a :: b :: c :: cs =>
    have h3 : (((a :: b :: c :: cs).length : Int) != 2) = true := by
      simp only [bne_iff_ne, List.length_cons]
      omega
    show some (PyData.bool (((a :: b :: c :: cs).length : Int) != 2)) = _
    rw [h3]
    rfl
theorem tup2_spec {d n : Nat} {y : PyData} (h : Th d n y) (st : Sto) : f_is_tuple [.d y, .d (.int 2)] st = some (.d (.bool (isP2 y)), st) := by
  revert st
  apply pure_lift
  intro st
  cases y with
  | dict z => exact absurd h.nd (by simp [PyData.hasDict])
  | none => simp [f_is_tuple, defS_ap, b_is_tuple, known, isaT, tyD, isP2]
  | bool b => simp [f_is_tuple, defS_ap, b_is_tuple, known, isaT, tyD, isP2]
  | int i => simp [f_is_tuple, defS_ap, b_is_tuple, known, isaT, tyD, isP2]
  | str s => simp [f_is_tuple, defS_ap, b_is_tuple, known, isaT, tyD, isP2]
  | list xs => simp [f_is_tuple, defS_ap, b_is_tuple, known, isaT, tyD, isP2]
  | tuple zs =>
    have fl : fLen [.tuple zs] = some (.int (zs.length : Nat)) := rfl
    have fe := len2_eq zs
    simp -implicitDefEqProofs [-fLen_t, f_is_tuple, defS_ap, b_is_tuple, known, isaT, tyD, fl, fe]
theorem ok_two (a b : PyData) : okP (.tuple [a, b]) = (numB 1 a && numB 0 b) := by
  cases a <;> cases b <;> simp [okP, numB]
theorem ok_p2 {y : PyData} (h : isP2 y = false) : okP y = false := by
  cases hk : okP y with
  | false => rfl
  | true =>
    unfold okP at hk
    split at hk
    · cases h
    · cases hk
theorem p2_is {y : PyData} (h : isP2 y = true) : ∃ a b, y = .tuple [a, b] := by
  unfold isP2 at h
  split at h
  · exact ⟨_, _, rfl⟩
  · cases h
theorem offer_spec {d n : Nat} {y : PyData} (h : Th d n y) (st : Sto) : f_is_offer [.d y] st = some (.d (.bool (okP y)), st) := by
  have k2 := tup2_spec h
  revert st
  apply pure_lift
  intro st
  cases c : isP2 y with
  | false =>
    rw [c] at k2
    rw [ok_p2 c]
    simp -implicitDefEqProofs [f_is_offer, defS_ap, b_is_offer, k2]
  | true =>
    rw [c] at k2
    obtain ⟨a, b, rfl⟩ := p2_is c
    have hab := Th.items (.inl rfl) h
    have na := isnum_spec (ThA.mem hab (x := a) (by simp)).nd 1
    have nb := isnum_spec (ThA.mem hab (x := b) (by simp)).nd 0
    have i0 : fIx (.tuple [a, b]) (.int 0) = some a := rfl
    have i1 : fIx (.tuple [a, b]) (.int 1) = some b := rfl
    rw [ok_two]
    generalize numB 1 a = A at *
    generalize numB 0 b = B at *
    cases A <;> simp -implicitDefEqProofs [f_is_offer, defS_ap, b_is_offer, k2, i0, i1, na, nb]
def prI : PyData → Option (Int × Int)
  | .tuple [.int a, .int b] => some (a, b)
  | _ => none
def ascI (ns : List Int) : Bool := (ns.zip (ns.drop 1)).all fun p => decide (p.1 < p.2)
def offB : PyData → Bool
  | .tuple xs => xs.all okP && ascI ((xs.filterMap prI).map (·.1))
  | _ => false
theorem ok_pairs : ∀ {xs : List PyData}, xs.all okP = true → ∃ ms : List (Int × Int), xs = ms.map Cm.pairD
  | [], _ => ⟨[], rfl⟩
  | y :: ys, h => by
    rw [List.all_cons, Bool.and_eq_true] at h
    obtain ⟨ms, rfl⟩ := ok_pairs h.2
    have h1 := h.1
    unfold okP at h1
    split at h1
    · rename_i a b
      exact ⟨(a, b) :: ms, rfl⟩
    · cases h1
theorem prI_map (ms : List (Int × Int)) : (ms.map Cm.pairD).filterMap prI = ms := by
  induction ms with
  | nil => rfl
  | cons m ms ih =>
    rw [List.map_cons, List.filterMap_cons]
    have : prI (Cm.pairD m) = some m := rfl
    rw [this, ih]
theorem zip_ints : ∀ (ms ns : List Int), zipD (iL ms) (iL ns) = (ms.zip ns).map fun p => .tuple [.int p.1, .int p.2]
  | [], _ => by simp [zipD]
  | _ :: _, [] => by simp [zipD]
  | m :: ms, n :: ns => by
    have ih := zip_ints ms ns
    unfold zipD iL at ih ⊢
    simp only [List.map_cons, List.zipWith_cons_cons, List.zip_cons_cons, ih]
def onLt : PyData → PyData
  | .tuple [.int a, .int b] => .bool (decide (a < b))
  | z => z
theorem asc_spec {ns : List Int} (hl : ns.length ≤ 900000) (st : Sto) : f_ascends [.d (.list (iL ns))] st = some (.d (.bool (ascI ns)), st) := by
  revert st
  apply pure_lift
  intro st
  have ct : Cm.cutD (iL ns) (some 1) none = iL (ns.drop 1) := by
    rw [cut_from _ (by omega)]
    unfold iL
    rw [List.map_drop]
    rfl
  have ez := zip_ints ns (ns.drop 1)
  have c3 := lcL_pure (g := (gT (gsCons (gN 1) (gsCons (gN 2) gsNil)))) (te := (cD2 fLt (cVar 1) (cVar 2))) (tt := bYes) (ev := [some (.d (.list (iL ns))), none, none]) (fun _ => true) onLt (ex st []) (zipD (iL ns) (iL (ns.drop 1))) [] (by
    intro z hz acc
    rw [ez] at hz
    obtain ⟨p, _, rfl⟩ := List.mem_map.mp hz
    have eo : onLt (.tuple [.int p.1, .int p.2]) = .bool (decide (p.1 < p.2)) := rfl
    rw [eo]
    refine ⟨[some (.d (.list (iL ns))), some (.d (.int p.1)), some (.d (.int p.2))], rfl, rfl, fun _ => ?_⟩
    generalize iL ns = MM at *
    by_cases c : p.1 < p.2 <;> simp [c]) (by
      rw [ez]
      simp only [lim, List.length_nil, List.length_map, List.length_zip]
      omega)
  rw [List.nil_append, filter_yes, ez, List.map_map] at c3
  have y3 := bools_all (ns.zip (ns.drop 1)) fun p => decide (p.1 < p.2)
  have e3 : (onLt ∘ fun p : Int × Int => PyData.tuple [.int p.1, .int p.2]) = fun p => .bool (decide (p.1 < p.2)) := rfl
  rw [e3] at c3
  rw [← ez] at c3
  show _ = some (U.d (.bool ((ns.zip (ns.drop 1)).all fun p => decide (p.1 < p.2))), st)
  clear ez e3
  generalize (ns.zip (ns.drop 1)).map (fun p => PyData.bool (decide (p.1 < p.2))) = L3 at *
  generalize (ns.zip (ns.drop 1)).all (fun p => decide (p.1 < p.2)) = A3 at *
  generalize iL (ns.drop 1) = DR at *
  generalize iL ns = MM at *
  simp -implicitDefEqProofs [-fAll_l, f_ascends, defS_ap, b_ascends, ct, c3, y3]
theorem offers_spec {d n : Nat} {x : PyData} (h : Th d n x) (hn : n ≤ 900000) (st : Sto) : f_is_offers [.d x] st = some (.d (.bool (offB x)), st) := by
  revert st
  apply pure_lift
  intro st
  cases x with
  | dict z => exact absurd h.nd (by simp [PyData.hasDict])
  | none => simp [f_is_offers, defS_ap, b_is_offers, known, isaT, tyD, offB]
  | bool b => simp [f_is_offers, defS_ap, b_is_offers, known, isaT, tyD, offB]
  | int i => simp [f_is_offers, defS_ap, b_is_offers, known, isaT, tyD, offB]
  | str s => simp [f_is_offers, defS_ap, b_is_offers, known, isaT, tyD, offB]
  | list xs => simp [f_is_offers, defS_ap, b_is_offers, known, isaT, tyD, offB]
  | tuple xs =>
    have hi := Th.items (.inl rfl) h
    have lx := th_len (.inl rfl) h
    have ef : offB (.tuple xs) = (xs.all okP && ascI ((xs.filterMap prI).map (·.1))) := rfl
    rw [ef]
    have c1 := lcL_pure (g := (gN 3)) (te := (cDef 1 f_is_offer (cCons (cVar 3) cNil))) (tt := bYes) (ev := [some (.d (.tuple xs)), none, none, none]) (fun _ => true) (fun z => .bool (okP z)) (ex st []) xs [] (by
      intro z hz acc
      have ks := offer_spec (ThA.mem hi hz)
      refine ⟨_, rfl, rfl, fun _ => ?_⟩
      simp -implicitDefEqProofs [ks]) (by simp only [lim, List.length_nil]; omega)
    rw [List.nil_append, filter_yes] at c1
    have y1 := bools_all xs okP
    cases a1 : xs.all okP with
    | false =>
      rw [a1] at y1
      rw [Bool.false_and]
      generalize xs.map (fun z => PyData.bool (okP z)) = L1 at *
      simp -implicitDefEqProofs [-fAll_l, f_is_offers, defS_ap, b_is_offers, known, isaT, tyD, c1, y1]
    | true =>
      rw [a1] at y1
      rw [Bool.true_and]
      obtain ⟨ms, rfl⟩ := ok_pairs a1
      rw [prI_map]
      rw [List.length_map] at lx
      have c2 := lcL_pure (g := (gT (gsCons (gN 1) (gsCons (gN 2) gsNil)))) (te := (cVar 1)) (tt := bYes) (ev := [some (.d (.tuple (ms.map Cm.pairD))), none, none, none]) (fun _ => true) (fun z => match prI z with
        | some p => .int p.1
        | none => z) (ex st []) (ms.map Cm.pairD) [] (by
        intro z hz acc
        obtain ⟨p, _, rfl⟩ := List.mem_map.mp hz
        refine ⟨_, rfl, rfl, fun _ => ?_⟩
        have e : prI (Cm.pairD p) = some p := rfl
        rw [e]
        generalize ms.map Cm.pairD = MM at *
        simp) (by simp only [lim, List.length_nil, List.length_map]; omega)
      rw [List.nil_append, filter_yes, List.map_map] at c2
      have e2 : ms.map ((fun z => match prI z with
        | some p => PyData.int p.1
        | none => z) ∘ Cm.pairD) = iL (ms.map (·.1)) := by
        unfold iL
        rw [List.map_map]
        rfl
      rw [e2] at c2
      have sa := asc_spec (ns := ms.map (·.1)) (by rw [List.length_map]; omega)
      clear hi e2
      generalize iL (ms.map (·.1)) = NN at *
      generalize ascI (ms.map (·.1)) = AA at *
      generalize (ms.map Cm.pairD).map (fun z => PyData.bool (okP z)) = L1 at *
      generalize ms.map Cm.pairD = MM at *
      simp -implicitDefEqProofs [-fAll_l, f_is_offers, defS_ap, b_is_offers, known, isaT, tyD, c1, y1, c2, sa]
end My

set_option Elab.async false
set_option linter.all false
set_option maxRecDepth 100000
set_option maxHeartbeats 4000000
namespace My
open PySem PySem.Spec PyProof.Rows L2 Cm
/-! the law's own look -/
theorem forL_test {g : GT} {b : SS} (c : PyData → Bool) (evOf : Option U → Ev) (st : Sto) (w : U) : ∀ (xs : List PyData) (t : Option U), (∀ x ∈ xs, ∀ t, ∃ ev1 t', g x (evOf t) = some ev1 ∧ b ev1 st = if c x then some (.nx (evOf t') st) else some (.rt w st)) →
    ∃ t', forL g b xs (evOf t) st = if xs.all c then some (.nx (evOf t') st) else some (.rt w st)
  | [], t, _ => ⟨t, rfl⟩
  | x :: xs, t, h => by
    obtain ⟨ev1, t1, e1, e2⟩ := h x List.mem_cons_self t
    cases hc : c x with
    | false =>
      refine ⟨t, ?_⟩
      rw [hc] at e2
      simp only [forL, e1, Option.bind_some, e2, Bool.false_eq_true, if_false, List.all_cons, hc, Bool.false_and]
    | true =>
      rw [hc] at e2
      obtain ⟨t', ih⟩ := forL_test c evOf st w xs t1 fun y hy => h y (List.mem_cons_of_mem _ hy)
      refine ⟨t', ?_⟩
      simp only [forL, e1, Option.bind_some, e2, if_true, List.all_cons, hc, Bool.true_and]
      exact ih
def notN : PyData → Bool
  | .int _ => false
  | _ => true
def badI (ns : List Int) : PyData → Bool
  | .int k => match ns[k.toNat - 1]?, ns[k.toNat]? with
    | some a, some b => !decide (a < b)
    | _, _ => false
  | _ => false
theorem asc_all (ns : List Int) : ((rangeD 1 (ns.length - 1)).filter (badI ns)).isEmpty = ascI ns := by
  rw [Bool.eq_iff_iff, List.isEmpty_iff, List.filter_eq_nil_iff]
  unfold ascI
  rw [List.all_eq_true]
  have at1 : ∀ k : Nat, (h : k + 1 < ns.length) → badI ns (.int (1 + (k : Nat))) = !decide (ns[k]'(by omega) < ns[k + 1]) := fun k h => by
    have e : (1 + ((k : Nat) : Int)).toNat = k + 1 := by omega
    show (match ns[(1 + ((k : Nat) : Int)).toNat - 1]?, ns[(1 + ((k : Nat) : Int)).toNat]? with
      | some a, some b => !decide (a < b)
      | _, _ => false) = _
    rw [e, Nat.add_sub_cancel, List.getElem?_eq_getElem h, List.getElem?_eq_getElem (by omega)]
  constructor
  · intro h p hp
    obtain ⟨k, hk, rfl⟩ := List.mem_iff_getElem.mp hp
    rw [List.length_zip, List.length_drop] at hk
    have h1 := h (.int (1 + (k : Nat))) (rangeD_mem.mpr ⟨k, by omega, rfl⟩)
    rw [at1 k (by omega)] at h1
    rw [List.getElem_zip]
    simp only [List.getElem_drop]
    have e : 1 + k = k + 1 := Nat.add_comm _ _
    simp only [e]
    simpa using h1
  · intro h z hz
    obtain ⟨k, hk, rfl⟩ := rangeD_mem.mp hz
    rw [at1 k (by omega)]
    have hm : (ns[k]'(by omega), ns[k + 1]'(by omega)) ∈ ns.zip (ns.drop 1) := by
      have : (ns.zip (ns.drop 1))[k]'(by rw [List.length_zip, List.length_drop]; omega) = (ns[k]'(by omega), ns[k + 1]'(by omega)) := by
        rw [List.getElem_zip]
        simp only [List.getElem_drop]
        have e : 1 + k = k + 1 := Nat.add_comm _ _
        simp only [e]
      rw [← this]
      exact List.getElem_mem _
    have := h _ hm
    rw [decide_eq_true_eq] at this
    dsimp only at this
    simp [this]
theorem shp_sub {xs : List PyData} (h : ∀ y ∈ xs, ∃ i : Int, y = .int i) : Shp 1 (.list xs) := shp_seq (.inr rfl) (fun y hy => by
  obtain ⟨i, rfl⟩ := h y hy
  exact shp_int i)
theorem fine_one {d n : Nat} {y : PyData} (M : PyData) (h : Th d n y) (hd : d ≤ 60) (st : Sto) (t : Option U) : ∃ ev1 t', gN 1 y [some (.d M), t, none, none] = some ev1 ∧
    (cSeq (cIfS (bOr (bNot (cTr (cIsi ["tuple"] (cVar 1)))) (cB (cD2 fNe (cCall fLen (cCons (cVar 1) cNil)) (cD (.int 2))))) (cRet (cD (.bool false))) cSkip)
  (cSeq (cIfS (cB (cD2 fNe (cLc (iSeq (cVar 1)) (gN 3) (bOr (bNot (cTr (cIsi ["int"] (cVar 3)))) (cTr (cIsi ["bool"] (cVar 3)))) (cVar 3) [3]) (cLst cNil))) (cRet (cD (.bool false))) cSkip)
  (cIfS (bOr (cB (cD2 fLt (cD2 fIx (cVar 1) (cD (.int 0))) (cD (.int 1)))) (cB (cD2 fLt (cD2 fIx (cVar 1) (cD (.int 1))) (cD (.int 0))))) (cRet (cD (.bool false))) cSkip))) ev1 (ex st []) = if okP y then some (.nx [some (.d M), t', none, none] (ex st [])) else some (.rt (.d (.bool false)) (ex st [])) := by
  refine ⟨_, some (.d y), rfl, ?_⟩
  cases y with
  | dict z => exact absurd h.nd (by simp [PyData.hasDict])
  | none => simp [known, isaT, tyD, okP]
  | bool b => simp [known, isaT, tyD, okP]
  | int i => simp [known, isaT, tyD, okP]
  | str s => simp [known, isaT, tyD, okP]
  | list xs => simp [known, isaT, tyD, okP]
  | tuple zs =>
    have fl : fLen [.tuple zs] = some (.int (zs.length : Nat)) := rfl
    have fe := len2_ne zs
    cases c : isP2 (.tuple zs) with
    | false =>
      rw [c] at fe
      rw [ok_p2 c]
      simp -implicitDefEqProofs [-fLen_t, known, isaT, tyD, fl, fe]
    | true =>
      rw [c] at fe
      obtain ⟨a, b, e⟩ := p2_is c
      cases e
      have hab := Th.items (.inl rfl) h
      have lc := lcL_pure (g := gN 3) (te := cVar 3) (tt := (bOr (bNot (cTr (cIsi ["int"] (cVar 3)))) (cTr (cIsi ["bool"] (cVar 3))))) (ev := [some (.d M), some (.d (.tuple [a, b])), none, none]) notN id (ex st []) [a, b] [] (by
        intro z hz acc
        have nd := (ThA.mem hab hz).nd
        refine ⟨_, rfl, ?_, fun _ => rfl⟩
        cases z with
        | dict z => cases nd
        | none => simp [known, isaT, tyD, notN]
        | bool b => simp [known, isaT, tyD, notN]
        | int i => simp [known, isaT, tyD, notN]
        | str s => simp [known, isaT, tyD, notN]
        | list xs => simp [known, isaT, tyD, notN]
        | tuple xs => simp [known, isaT, tyD, notN]) (by simp [lim])
      rw [List.nil_append, List.map_id] at lc
      have sp : Shp (d + 1) (.list ([a, b].filter notN)) := (th_of (.inr rfl) (tha_sub List.filter_sublist hab)).shp
      have ne := fNe_nilL sp (by omega)
      have i0 : fIx (.tuple [a, b]) (.int 0) = some a := rfl
      have i1 : fIx (.tuple [a, b]) (.int 1) = some b := rfl
      cases hF : ([a, b].filter notN).isEmpty with
      | false =>
        have ok : okP (.tuple [a, b]) = false := by
          cases a with
          | int i =>
            cases b with
            | int j => cases hF
            | _ => rfl
          | _ => rfl
        rw [hF] at ne
        rw [ok]
        clear sp hF
        generalize [a, b].filter notN = FI at *
        simp -implicitDefEqProofs [-fLen_t, known, isaT, tyD, fl, fe, lc, ne]
      | true =>
        rw [hF] at ne
        obtain ⟨i, rfl⟩ : ∃ i, a = .int i := by
          cases a <;> first | exact ⟨_, rfl⟩ | cases hF
        obtain ⟨j, rfl⟩ : ∃ j, b = .int j := by
          cases b <;> first | exact ⟨_, rfl⟩ | cases hF
        have ok : okP (.tuple [.int i, .int j]) = (decide (1 ≤ i) && decide (0 ≤ j)) := rfl
        rw [ok]
        clear sp hF
        generalize [PyData.int i, .int j].filter notN = FI at *
        by_cases c1 : i < 1
        · have c3 : ¬ 1 ≤ i := by omega
          simp -implicitDefEqProofs [-fLen_t, known, isaT, tyD, fl, fe, lc, ne, i0, i1, c1, c3]
        · have c3 : 1 ≤ i := by omega
          by_cases c2 : j < 0
          · have c4 : ¬ 0 ≤ j := by omega
            simp -implicitDefEqProofs [-fLen_t, known, isaT, tyD, fl, fe, lc, ne, i0, i1, c1, c3, c2, c4]
          · have c4 : 0 ≤ j := by omega
            simp -implicitDefEqProofs [-fLen_t, known, isaT, tyD, fl, fe, lc, ne, i0, i1, c1, c3, c2, c4]
theorem fine_spec {d n : Nat} {x : PyData} (h : Th d n x) (hd : d ≤ 60) (hn : n ≤ 900000) (st : Sto) : f__law_is_fine [.d x] st = some (.d (.bool (offB x)), st) := by
  revert st
  apply pure_lift
  intro st
  cases x with
  | dict z => exact absurd h.nd (by simp [PyData.hasDict])
  | none => simp [f__law_is_fine, defS_ap, b__law_is_fine, known, isaT, tyD, offB]
  | bool b => simp [f__law_is_fine, defS_ap, b__law_is_fine, known, isaT, tyD, offB]
  | int i => simp [f__law_is_fine, defS_ap, b__law_is_fine, known, isaT, tyD, offB]
  | str s => simp [f__law_is_fine, defS_ap, b__law_is_fine, known, isaT, tyD, offB]
  | list xs => simp [f__law_is_fine, defS_ap, b__law_is_fine, known, isaT, tyD, offB]
  | tuple xs =>
    have hi := Th.items (.inl rfl) h
    have lx := th_len (.inl rfl) h
    have ef : offB (.tuple xs) = (xs.all okP && ascI ((xs.filterMap prI).map (·.1))) := rfl
    rw [ef]
    obtain ⟨t', e1⟩ := forL_test (g := (gN 1)) (b := (cSeq (cIfS (bOr (bNot (cTr (cIsi ["tuple"] (cVar 1)))) (cB (cD2 fNe (cCall fLen (cCons (cVar 1) cNil)) (cD (.int 2))))) (cRet (cD (.bool false))) cSkip) (cSeq (cIfS (cB (cD2 fNe (cLc (iSeq (cVar 1)) (gN 3) (bOr (bNot (cTr (cIsi ["int"] (cVar 3)))) (cTr (cIsi ["bool"] (cVar 3)))) (cVar 3) [3]) (cLst cNil))) (cRet (cD (.bool false))) cSkip) (cIfS (bOr (cB (cD2 fLt (cD2 fIx (cVar 1) (cD (.int 0))) (cD (.int 1)))) (cB (cD2 fLt (cD2 fIx (cVar 1) (cD (.int 1))) (cD (.int 0))))) (cRet (cD (.bool false))) cSkip)))) okP (fun t => [some (.d (.tuple xs)), t, none, none]) (ex st []) (.d (.bool false)) xs none fun z hz t => fine_one (.tuple xs) (ThA.mem hi hz) hd st t
    cases a1 : xs.all okP with
    | false =>
      rw [a1] at e1
      rw [Bool.false_and]
      simp only [Bool.false_eq_true, if_false] at e1
      simp -implicitDefEqProofs [f__law_is_fine, defS_ap, b__law_is_fine, known, isaT, tyD, e1]
    | true =>
      rw [a1] at e1
      rw [Bool.true_and]
      simp only [if_true] at e1
      obtain ⟨ms, rfl⟩ := ok_pairs a1
      rw [prI_map]
      rw [List.length_map] at lx
      have fl : fLen [.tuple (ms.map Cm.pairD)] = some (.int (ms.length : Nat)) := by rw [fLen_t, List.length_map]
      have ix : ∀ k (hk : k < ms.length), fIx (.tuple (ms.map Cm.pairD)) (.int (k : Nat)) = some (Cm.pairD ms[k]) := fun k hk => by
        rw [fIx_tuple _ k (by rw [List.length_map]; exact hk), List.getElem_map]
      have c3 := lcL_pure (g := (gN 2)) (te := (cVar 2)) (tt := (bNot (cB (cD2 fLt (cD2 fIx (cD2 fIx (cVar 0) (cD2 fSub (cVar 2) (cD (.int 1)))) (cD (.int 0))) (cD2 fIx (cD2 fIx (cVar 0) (cVar 2)) (cD (.int 0))))))) (ev := [some (.d (.tuple (ms.map Cm.pairD))), t', none, none]) (badI (ms.map (·.1))) id (ex st []) (rangeD 1 (ms.length - 1)) [] (by
        intro z hz acc
        obtain ⟨k, hk, rfl⟩ := rangeD_mem.mp hz
        have ia := ix (k + 1) (by omega)
        have ib := ix k (by omega)
        have ek : ((k + 1 : Nat) : Int) = 1 + (k : Nat) := by omega
        rw [ek] at ia
        have fs : fSub (.int (1 + (k : Nat))) (.int 1) = some (.int (k : Nat)) := by
          rw [fSub_i]
          congr 2
          omega
        have e : (1 + ((k : Nat) : Int)).toNat = k + 1 := by omega
        have eb : badI (ms.map (·.1)) (.int (1 + (k : Nat))) = !decide ((ms[k]'(by omega)).1 < (ms[k + 1]'(by omega)).1) := by
          show (match (ms.map (·.1))[(1 + ((k : Nat) : Int)).toNat - 1]?, (ms.map (·.1))[(1 + ((k : Nat) : Int)).toNat]? with
            | some a, some b => !decide (a < b)
            | _, _ => false) = _
          rw [e, Nat.add_sub_cancel, List.getElem?_map, List.getElem?_map, List.getElem?_eq_getElem (by omega), List.getElem?_eq_getElem (by omega)]
          rfl
        rw [eb]
        generalize ms[k + 1]'(by omega) = pa at *
        generalize ms[k]'(by omega) = pb at *
        have i0 : fIx (Cm.pairD pa) (.int 0) = some (.int pa.1) := rfl
        have i1 : fIx (Cm.pairD pb) (.int 0) = some (.int pb.1) := rfl
        refine ⟨_, rfl, ?_, fun _ => by simp⟩
        generalize Cm.pairD pa = PA at *
        generalize Cm.pairD pb = PB at *
        clear ix e1
        generalize ms.map Cm.pairD = MM at *
        by_cases c : pb.1 < pa.1 <;> simp -implicitDefEqProofs [-fSub_i, -fIx_tuple, ia, ib, fs, i0, i1, c]) (by simp only [lim, List.length_nil, rangeD_len]; omega)
      rw [List.nil_append, List.map_id] at c3
      have sp := shp_sub (xs := (rangeD 1 (ms.length - 1)).filter (badI (ms.map (·.1)))) (fun y hy => by
        obtain ⟨k, _, rfl⟩ := rangeD_mem.mp (List.mem_filter.mp hy).1
        exact ⟨_, rfl⟩)
      have n3 := fEq_nilL sp (by omega)
      have aa := asc_all (ms.map (·.1))
      rw [List.length_map] at aa
      rw [aa] at n3
      have bg : big (ms.length : Int) = true := big_of (by omega) (by omega)
      have b1 : big 1 = true := by decide
      have tn : (((ms.length : Nat) : Int) - 1).toNat = ms.length - 1 := by omega
      clear sp hi aa ix
      generalize (rangeD 1 (ms.length - 1)).filter (badI (ms.map (·.1))) = FI at *
      generalize ascI (ms.map (·.1)) = A3 at *
      generalize ms.map Cm.pairD = MM at *
      simp -implicitDefEqProofs [-fLen_t, f__law_is_fine, defS_ap, b__law_is_fine, known, isaT, tyD, e1, c3, n3, fl, bg, b1, tn]
end My

set_option Elab.async false
set_option linter.all false
set_option maxRecDepth 100000
set_option maxHeartbeats 4000000
namespace My
open PySem PySem.Spec PyProof.Rows L2 Cm
/-! offers bent -/
def p2l : PyData → List PyData
  | .tuple xs => xs
  | _ => []
def sndBy (o : PyData) (y : PyData) : PyData := .tuple [(p2l y).getD 0 .none, o]
def fstBy (o : PyData) (y : PyData) : PyData := .tuple [o, (p2l y).getD 1 .none]
def asL (y : PyData) : PyData := .list (p2l y)
def asF (y : PyData) : PyData := (p2l y).getD 0 .none
def as3 (y : PyData) : PyData := .tuple (p2l y ++ [(p2l y).getD 0 .none])
def asR (y : PyData) : PyData := .tuple (p2l y).reverse
section
variable {d n : Nat} {xs : List PyData}
theorem el_th {y : PyData} (hy : Th d n y) (h2 : isP2 y = true) {o : PyData} (ho : Th (d + 1) 300 o) :
    Th (d + 2) (2 * n + 400) (sndBy o y) ∧ Th (d + 2) (2 * n + 400) (fstBy o y) ∧ Th (d + 2) (2 * n + 400) (asL y) ∧ Th (d + 2) (2 * n + 400) (asF y) ∧ Th (d + 2) (2 * n + 400) (as3 y) ∧ Th (d + 2) (2 * n + 400) (asR y) := by
  obtain ⟨a, b, rfl⟩ := p2_is h2
  have hab := Th.items (.inl rfl) hy
  have ha := (ThA.mem hab (x := a) (by simp)).mono (Nat.le_succ d) (Nat.le_refl n)
  have hb := (ThA.mem hab (x := b) (by simp)).mono (Nat.le_succ d) (Nat.le_refl n)
  have z : ThA (d + 1) 0 [] := tha_nil.mono (Nat.zero_le _) (Nat.le_refl _)
  have wb : wtA [a, b] ≤ n := hab.len
  simp only [wtA] at wb
  have a1 : Th (d + 1) (wt a) a := th_self ha
  have b1 : Th (d + 1) (wt b) b := th_self hb
  refine ⟨?_, ?_, ?_, ?_, ?_, ?_⟩
  · exact (th_of (.inl rfl) (tha_cons ha (tha_cons ho z))).mono (Nat.le_refl _) (by omega)
  · exact (th_of (.inl rfl) (tha_cons ho (tha_cons hb z))).mono (Nat.le_refl _) (by omega)
  · exact (th_of (.inr rfl) hab).mono (by omega) (by omega)
  · exact ha.mono (by omega) (by omega)
  · exact (th_of (.inl rfl) (tha_cons a1 (tha_cons b1 (tha_cons a1 z)))).mono (Nat.le_refl _) (by omega)
  · exact (th_of (.inl rfl) (tha_cons b1 (tha_cons a1 z))).mono (Nat.le_refl _) (by omega)
theorem put_th {HE : List PyData} {s : Nat} (h : ThA d n xs) (he : ∀ y ∈ HE, Th (d + 2) (2 * n + 400) y) (hl : HE.length ≤ 1) : Th (d + 3) (4 * n + 500) (.tuple (xs.take s ++ HE ++ xs.drop (s + 1))) := by
  have h1 := (tha_sub (List.take_sublist s xs) h).mono (show d ≤ d + 2 by omega) (Nat.le_refl n)
  have h2 := (tha_sub (List.drop_sublist (s + 1) xs) h).mono (show d ≤ d + 2 by omega) (Nat.le_refl n)
  have h3 := tha_all (d := d + 2) (n := 2 * n + 400) (m := 1) he hl
  exact (th_of (.inl rfl) (tha_app (tha_app h1 h3) h2)).mono (Nat.le_refl _) (by omega)
end
theorem tadd {A B : List PyData} (ha : A.length ≤ 300000) (hb : B.length ≤ 300000) : fAdd (.tuple A) (.tuple B) = some (.tuple (A ++ B)) := by
  rw [fAdd_t, if_pos (by simp only [lim]; omega)]
theorem lc_here {g : GT} {te : SE} (f : PyData → PyData) {ev : Ev} {HE : List PyData} (hl : HE.length ≤ 1) (st : Sto) (h : ∀ y ∈ HE, ∀ acc, ∃ ev1, g y ev = some ev1 ∧ te ev1 (ex st [some acc]) = some (.d (f y), ex st [some acc])) :
    lcL g bYes te ev HE (ex st []) [] = some (HE.map f, ex st []) := by
  have := lcL_pure (tt := bYes) (fun _ => true) f (ex st []) HE [] (fun y hy acc => by
    obtain ⟨ev1, e1, e2⟩ := h y hy acc
    exact ⟨ev1, e1, rfl, fun _ => by simpa using e2⟩) (by simp only [lim, List.length_nil]; omega)
  rw [List.nil_append, filter_yes] at this
  exact this
abbrev odd9 : List PyData := [.int (-1), .bool true, .bool false, .none, .str "3", .tuple [.int 3], .list [.int 3], .int 10000000000000000000000000000000000000000000000000000000000000000, .int 0]
abbrev odd8 : List PyData := [.int (-1), .bool true, .none, .str "3", .tuple [.int 3], .int 10000000000000000000000000000000000000000000000000000000000000000, .int 0, .int 1]
theorem odd_th {z : PyData} (h : z ∈ odd9 ++ odd8) : Th 1 300 z := by
  have ti : ∀ a : Int, a.natAbs < 10 ^ 100 → Th 1 300 (.int a) := fun a ha => (th_int ha).mono (by omega) (by omega)
  have t3 : ThA 0 (101 + 2 + 0) [PyData.int 3] := tha_cons (th_int (by decide)) tha_nil
  simp only [List.mem_append, List.mem_cons, List.not_mem_nil, or_false] at h
  rcases h with (rfl | rfl | rfl | rfl | rfl | rfl | rfl | rfl | rfl) | (rfl | rfl | rfl | rfl | rfl | rfl | rfl | rfl)
  · exact ti _ (by decide)
  · exact (th_bool _).mono (by omega) (by omega)
  · exact (th_bool _).mono (by omega) (by omega)
  · exact th_none.mono (by omega) (by omega)
  · exact ⟨rfl, by decide +kernel, by decide, by decide +kernel⟩
  · exact (th_of (.inl rfl) t3).mono (by omega) (by omega)
  · exact (th_of (.inr rfl) t3).mono (by omega) (by omega)
  · exact ti _ (by decide)
  · exact ti _ (by decide)
  · exact ti _ (by decide)
  · exact (th_bool _).mono (by omega) (by omega)
  · exact th_none.mono (by omega) (by omega)
  · exact ⟨rfl, by decide +kernel, by decide, by decide +kernel⟩
  · exact (th_of (.inl rfl) t3).mono (by omega) (by omega)
  · exact ti _ (by decide)
  · exact ti _ (by decide)
  · exact ti _ (by decide)
theorem bent_dr {m d n : Nat} {B : Bx} {x : PyData} (h : BxOk m B) (hm : m < 300000000000) (hx : Th d n x) (hd : d ≤ 50) (hn : n ≤ 100000) : Dr f__law_bent [.d x] m 3 B (Th (d + 3) (4 * n + 500)) := by
  have plain : ∀ (y : PyData), Th d n y → (∀ (st : Sto) (b : Nat), b < st.length → f__law_bent [.l b, .d y] (ex (st.set b (some (lay B))) []) = some (.d y, st.set b (some (lay B)))) → Dr f__law_bent [.d y] m 3 B (Th (d + 3) (4 * n + 500)) := fun y hy e =>
    ⟨y, B, hy.mono (by omega) (by omega), bx_up h (by omega) (by omega), dr_lift e⟩
  cases x with
  | dict z => exact absurd hx.nd (by simp [PyData.hasDict])
  | none => exact plain _ hx fun st b hb => by simp [f__law_bent, defS_ap, b__law_bent, known, isaT, tyD]
  | bool t => exact plain _ hx fun st b hb => by simp [f__law_bent, defS_ap, b__law_bent, known, isaT, tyD]
  | int i => exact plain _ hx fun st b hb => by simp [f__law_bent, defS_ap, b__law_bent, known, isaT, tyD]
  | str s => exact plain _ hx fun st b hb => by simp [f__law_bent, defS_ap, b__law_bent, known, isaT, tyD]
  | list xs => exact plain _ hx fun st b hb => by simp [f__law_bent, defS_ap, b__law_bent, known, isaT, tyD]
  | tuple xs =>
    have hi := Th.items (.inl rfl) hx
    have lx := th_len (.inl rfl) hx
    have lc : ∀ (b : Nat) (st : Sto), lcL (gN 8) (bOr (bNot (cTr (cIsi ["tuple"] (cVar 8)))) (cB (cD2 fNe (cCall fLen (cCons (cVar 8) cNil)) (cD (.int 2))))) (cVar 8) [some (.l b), some (.d (.tuple xs)), none, none, none, none, none, none, none] xs (ex st []) [] = some (xs.filter fun y => !isP2 y, ex st []) := fun b st => by
      have := lcL_pure (g := gN 8) (te := cVar 8) (tt := (bOr (bNot (cTr (cIsi ["tuple"] (cVar 8)))) (cB (cD2 fNe (cCall fLen (cCons (cVar 8) cNil)) (cD (.int 2)))))) (ev := [some (.l b), some (.d (.tuple xs)), none, none, none, none, none, none, none]) (fun y => !isP2 y) id (ex st []) xs [] (by
        intro z hz acc
        have nd := (ThA.mem hi hz).nd
        refine ⟨_, rfl, ?_, fun _ => rfl⟩
        cases z with
        | dict z => cases nd
        | none => simp [known, isaT, tyD, isP2]
        | bool b => simp [known, isaT, tyD, isP2]
        | int i => simp [known, isaT, tyD, isP2]
        | str s => simp [known, isaT, tyD, isP2]
        | list ys => simp [known, isaT, tyD, isP2]
        | tuple ys =>
          have fl : fLen [.tuple ys] = some (.int (ys.length : Nat)) := rfl
          have fe := len2_ne ys
          generalize isP2 (.tuple ys) = PP at *
          simp -implicitDefEqProofs [-fLen_t, known, isaT, tyD, fl, fe]) (by simp only [lim, List.length_nil]; omega)
      rw [List.nil_append, List.map_id] at this
      exact this
    have sp : Shp (d + 1) (.list (xs.filter fun y => !isP2 y)) := (th_of (.inr rfl) (tha_sub List.filter_sublist hi)).shp
    have ne := fNe_nilL sp (by omega)
    cases hF : (xs.filter fun y => !isP2 y).isEmpty with
    | false =>
      rw [hF] at ne
      clear sp hF
      refine plain _ hx fun st b hb => ?_
      have LC := lc b (ex (st.set b (some (lay B))) [])
      rw [ex_ex] at LC
      simp only [List.append_nil] at LC
      clear lc
      generalize xs.filter (fun y => !isP2 y) = FI at *
      generalize st.set b (some (lay B)) = SB at *
      simp -implicitDefEqProofs [f__law_bent, defS_ap, b__law_bent, known, isaT, tyD, LC, ne]
    | true =>
      rw [hF] at ne
      have all2 : ∀ y ∈ xs, isP2 y = true := fun y hy => by
        cases c : isP2 y with
        | true => rfl
        | false =>
          have : y ∈ xs.filter fun y => !isP2 y := List.mem_filter.mpr ⟨hy, by rw [c]; rfl⟩
          rw [List.isEmpty_iff] at hF
          rw [hF] at this
          cases this
      clear sp hF
      obtain ⟨w, B1, w0, w1, h1, e1⟩ := take_spec (k := 11) h (by omega) (lo_of (by omega) (by omega))
      obtain ⟨s, B2, s0, s1, h2, e2⟩ := take_spec (k := (xs.length : Int) + 1) h1 (by omega) (lo_of (by omega) (by omega))
      obtain ⟨k, rfl⟩ : ∃ k : Nat, s = k := ⟨s.toNat, by omega⟩
      have fl : fLen [.tuple xs] = some (.int (xs.length : Nat)) := rfl
      have c1 : Cm.cutD xs none (some (k : Int)) = xs.take k := by rw [cut_to _ (by omega)]; rfl
      have c2 : Cm.cutD xs (some (k : Int)) (some ((k : Int) + 1)) = (xs.drop k).take 1 := by
        rw [cut_both _ (by omega) (by omega)]
        congr 1
        omega
      have c3 : Cm.cutD xs (some ((k : Int) + 1)) none = xs.drop (k + 1) := by
        rw [cut_from _ (by omega)]
        congr 1
      have lHD : (xs.take k).length ≤ 100000 := by rw [List.length_take]; omega
      have lHE : ((xs.drop k).take 1).length ≤ 1 := by rw [List.length_take]; omega
      have lTL : (xs.drop (k + 1)).length ≤ 100000 := by rw [List.length_drop]; omega
      have hHE : ∀ y ∈ (xs.drop k).take 1, y ∈ xs := fun y hy => List.mem_of_mem_drop (List.mem_of_mem_take hy)
      have put : ∀ HE : List PyData, (∀ y ∈ HE, Th (d + 2) (2 * n + 400) y) → HE.length ≤ 1 → Th (d + 3) (4 * n + 500) (.tuple (xs.take k ++ HE ++ xs.drop (k + 1))) := fun HE he hl => put_th hi he hl
      have two : ∀ {o : PyData}, Th (d + 1) 300 o → ∀ y ∈ (xs.drop k).take 1, _ := fun {o} ho y hy => el_th (ThA.mem hi (hHE y hy)) (all2 y (hHE y hy)) ho
      have mapTh : ∀ f : PyData → PyData, (∀ y ∈ (xs.drop k).take 1, Th (d + 2) (2 * n + 400) (f y)) → Th (d + 3) (4 * n + 500) (.tuple (xs.take k ++ ((xs.drop k).take 1).map f ++ xs.drop (k + 1))) := fun f hf =>
        put _ (fun z hz => by
          obtain ⟨y, hy, rfl⟩ := List.mem_map.mp hz
          exact hf y hy) (by rw [List.length_map]; exact lHE)
      have t0 : Th (d + 1) 300 (.int 0) := (th_int (by decide)).mono (by omega) (by omega)
      have w64 : fPow (.int 10) (.int 64) = some (.int 10000000000000000000000000000000000000000000000000000000000000000) := by rfl
      have pairs : ∀ y ∈ (xs.drop k).take 1, ∃ a b, y = .tuple [a, b] := fun y hy => p2_is (all2 y (hHE y hy))
      have rTh : Th (d + 3) (4 * n + 500) (.tuple xs.reverse) := (th_of (.inl rfl) (tha_rev hi)).mono (by omega) (by have := hi.len; omega)
      have twTh : Th (d + 3) (4 * n + 500) (.tuple (xs.take k ++ (xs.drop k).take 1 ++ (xs.drop k).take 1 ++ xs.drop (k + 1))) := by
        have q1 := tha_sub (List.take_sublist k xs) hi
        have q2 := tha_sub ((List.take_sublist 1 (xs.drop k)).trans (List.drop_sublist k xs)) hi
        have q3 := tha_sub (List.drop_sublist (k + 1) xs) hi
        exact (th_of (.inl rfl) (tha_app (tha_app (tha_app q1 q2) q2) q3)).mono (by omega) (by omega)
      have dTh : Th (d + 3) (4 * n + 500) (.tuple (xs.take k ++ xs.drop (k + 1))) := by
        have := put [] (fun y hy => nomatch hy) (by simp)
        simpa using this
      have noneTh : Th (d + 3) (4 * n + 500) (.tuple (xs.take k ++ [.none] ++ xs.drop (k + 1))) := put _ (fun y hy => by
        simp only [List.mem_singleton] at hy
        subst hy
        exact th_none.mono (by omega) (by omega)) (by simp)
      have emTh : Th (d + 3) (4 * n + 500) (.tuple (xs.take k ++ [.tuple []] ++ xs.drop (k + 1))) := put _ (fun y hy => by
        simp only [List.mem_singleton] at hy
        subst hy
        exact (th_of (.inl rfl) tha_nil).mono (by omega) (by omega)) (by simp)
      have liTh : Th (d + 3) (4 * n + 500) (.list xs) := (th_of (.inr rfl) hi).mono (by omega) (by omega)
      have onTh : Th (d + 3) (4 * n + 500) (.tuple [.tuple xs]) := (th_of (.inl rfl) (tha_cons hx (tha_nil.mono (Nat.zero_le _) (Nat.le_refl _)))).mono (by omega) (by omega)
      have sameTh : Th (d + 3) (4 * n + 500) (.tuple xs) := hx.mono (by omega) (by omega)
      have fli : fList [.tuple xs] = some (.list xs) := rfl
      have rv : fRevA (.tuple xs) = some (.tuple xs.reverse) := rfl
      generalize xs.take k = HD at *
      generalize (xs.drop k).take 1 = HE at *
      generalize xs.drop (k + 1) = TL at *
      have a1 : ∀ M : List PyData, M.length ≤ 1 → fAdd (.tuple HD) (.tuple M) = some (.tuple (HD ++ M)) := fun M hM => tadd (by omega) (by omega)
      have a2 : ∀ M : List PyData, M.length ≤ 1 → fAdd (.tuple (HD ++ M)) (.tuple TL) = some (.tuple (HD ++ M ++ TL)) := fun M hM => tadd (by rw [List.length_append]; omega) (by omega)
      have a3 : fAdd (.tuple (HD ++ HE)) (.tuple HE) = some (.tuple (HD ++ HE ++ HE)) := tadd (by rw [List.length_append]; omega) (by omega)
      have a4 : fAdd (.tuple (HD ++ HE ++ HE)) (.tuple TL) = some (.tuple (HD ++ HE ++ HE ++ TL)) := tadd (by simp only [List.length_append]; omega) (by omega)
      have a5 : fAdd (.tuple HD) (.tuple TL) = some (.tuple (HD ++ TL)) := tadd (by omega) (by omega)
      have mapL : ∀ f : PyData → PyData, (HE.map f).length ≤ 1 := fun f => by rw [List.length_map]; exact lHE
      by_cases c0w : w = 0
      · subst c0w
        refine ⟨.tuple (HD ++ TL), B2, dTh, bx_up h2 (by omega) (by omega), ?_⟩
        apply dr_lift
        intro st b hb
        have E1 := e1 st [] b hb
        have E2 := e2 st [] b hb
        have LC := lc b (ex (st.set b (some (lay B))) [])
        rw [ex_ex] at LC
        simp only [List.append_nil] at LC
        clear lc put two mapTh plain
        generalize xs.filter (fun y => !isP2 y) = FI at *
        simp -implicitDefEqProofs [-List.append_assoc, -fAdd_t, -fLen_t, -fRevA_t, f__law_bent, defS_ap, b__law_bent, known, isaT, tyD, LC, ne, E1, fl, E2, c1, c2, c3, a5]
      by_cases c1w : w = 1
      · subst c1w
        refine ⟨.tuple (HD ++ HE ++ HE ++ TL), B2, twTh, bx_up h2 (by omega) (by omega), ?_⟩
        apply dr_lift
        intro st b hb
        have E1 := e1 st [] b hb
        have E2 := e2 st [] b hb
        have LC := lc b (ex (st.set b (some (lay B))) [])
        rw [ex_ex] at LC
        simp only [List.append_nil] at LC
        clear lc put two mapTh plain
        generalize xs.filter (fun y => !isP2 y) = FI at *
        simp -implicitDefEqProofs [-List.append_assoc, -fAdd_t, -fLen_t, -fRevA_t, f__law_bent, defS_ap, b__law_bent, known, isaT, tyD, LC, ne, E1, fl, E2, c1, c2, c3, a1 HE lHE, a3, a4]
      by_cases c2w : w = 2
      · subst c2w
        refine ⟨.tuple xs.reverse, B2, rTh, bx_up h2 (by omega) (by omega), ?_⟩
        apply dr_lift
        intro st b hb
        have E1 := e1 st [] b hb
        have E2 := e2 st [] b hb
        have LC := lc b (ex (st.set b (some (lay B))) [])
        rw [ex_ex] at LC
        simp only [List.append_nil] at LC
        clear lc put two mapTh plain
        generalize xs.filter (fun y => !isP2 y) = FI at *
        simp -implicitDefEqProofs [-List.append_assoc, -fAdd_t, -fLen_t, -fRevA_t, f__law_bent, defS_ap, b__law_bent, known, isaT, tyD, LC, ne, E1, fl, E2, c1, c2, c3, rv]
      by_cases c3w : w = 3
      · subst c3w
        obtain ⟨o, B3, ho, h3, e3⟩ := of_spec (xs := odd9) h2 (by omega) (by simp) (by simp)
        have oT : o ∈ odd9 → Th (d + 1) 300 o := fun q => (odd_th (List.mem_append_left _ q)).mono (by omega) (Nat.le_refl _)
        refine ⟨.tuple (HD ++ HE.map (sndBy o) ++ TL), B3, mapTh _ fun y hy => (two (oT ho) y hy).1, bx_up h3 (by omega) (by omega), ?_⟩
        apply dr_lift
        intro st b hb
        have E1 := e1 st [] b hb
        have E2 := e2 st [] b hb
        have LC := lc b (ex (st.set b (some (lay B))) [])
        rw [ex_ex] at LC
        simp only [List.append_nil] at LC
        have LH := lc_here (g := gN 8) (te := (cTup (cCons (cD2 fIx (cVar 8) (cD (.int 0))) (cCons (cVar 7) cNil)))) (sndBy o) (ev := [some (.l b), some (.d (.tuple xs)), some (.d (.int 3)), some (.d (.int (k : Nat))), some (.d (.tuple HD)), some (.d (.tuple HE)), some (.d (.tuple TL)), some (.d o), none]) lHE (ex (st.set b (some (lay B3))) []) (by
          intro y hy acc
          obtain ⟨a, b, rfl⟩ := pairs y hy
          refine ⟨_, rfl, ?_⟩
          have i0 : fIx (.tuple [a, b]) (.int 0) = some a := rfl
          have i1 : fIx (.tuple [a, b]) (.int 1) = some b := rfl
          have cc : Cm.cutD [a, b] none (some 1) = [a] := by rw [cut_to _ (by omega)]; rfl
          simp -implicitDefEqProofs [i0, i1, cc, lim, sndBy, p2l])
        rw [ex_ex] at LH
        simp only [List.append_nil] at LH
        have E3 := e3 st [] b hb
        have A1 := a1 _ (mapL (sndBy o))
        have A2 := a2 _ (mapL (sndBy o))
        generalize HE.map (sndBy o) = HM at *
        clear lc put two mapTh plain
        generalize xs.filter (fun y => !isP2 y) = FI at *
        simp -implicitDefEqProofs [-List.append_assoc, -fAdd_t, -fLen_t, -fRevA_t, f__law_bent, defS_ap, b__law_bent, known, isaT, tyD, LC, ne, E1, fl, E2, c1, c2, c3, w64, E3, LH, A1, A2]
      by_cases c4w : w = 4
      · subst c4w
        obtain ⟨o, B3, ho, h3, e3⟩ := of_spec (xs := odd8) h2 (by omega) (by simp) (by simp)
        have oT : o ∈ odd8 → Th (d + 1) 300 o := fun q => (odd_th (List.mem_append_right _ q)).mono (by omega) (Nat.le_refl _)
        refine ⟨.tuple (HD ++ HE.map (fstBy o) ++ TL), B3, mapTh _ fun y hy => (two (oT ho) y hy).2.1, bx_up h3 (by omega) (by omega), ?_⟩
        apply dr_lift
        intro st b hb
        have E1 := e1 st [] b hb
        have E2 := e2 st [] b hb
        have LC := lc b (ex (st.set b (some (lay B))) [])
        rw [ex_ex] at LC
        simp only [List.append_nil] at LC
        have LH := lc_here (g := gN 8) (te := (cTup (cCons (cVar 7) (cCons (cD2 fIx (cVar 8) (cD (.int 1))) cNil)))) (fstBy o) (ev := [some (.l b), some (.d (.tuple xs)), some (.d (.int 4)), some (.d (.int (k : Nat))), some (.d (.tuple HD)), some (.d (.tuple HE)), some (.d (.tuple TL)), some (.d o), none]) lHE (ex (st.set b (some (lay B3))) []) (by
          intro y hy acc
          obtain ⟨a, b, rfl⟩ := pairs y hy
          refine ⟨_, rfl, ?_⟩
          have i0 : fIx (.tuple [a, b]) (.int 0) = some a := rfl
          have i1 : fIx (.tuple [a, b]) (.int 1) = some b := rfl
          have cc : Cm.cutD [a, b] none (some 1) = [a] := by rw [cut_to _ (by omega)]; rfl
          simp -implicitDefEqProofs [i0, i1, cc, lim, fstBy, p2l])
        rw [ex_ex] at LH
        simp only [List.append_nil] at LH
        have E3 := e3 st [] b hb
        have A1 := a1 _ (mapL (fstBy o))
        have A2 := a2 _ (mapL (fstBy o))
        generalize HE.map (fstBy o) = HM at *
        clear lc put two mapTh plain
        generalize xs.filter (fun y => !isP2 y) = FI at *
        simp -implicitDefEqProofs [-List.append_assoc, -fAdd_t, -fLen_t, -fRevA_t, f__law_bent, defS_ap, b__law_bent, known, isaT, tyD, LC, ne, E1, fl, E2, c1, c2, c3, w64, E3, LH, A1, A2]
      by_cases c5w : w = 5
      · subst c5w
        refine ⟨.tuple (HD ++ HE.map asL ++ TL), B2, mapTh _ fun y hy => (two t0 y hy).2.2.1, bx_up h2 (by omega) (by omega), ?_⟩
        apply dr_lift
        intro st b hb
        have E1 := e1 st [] b hb
        have E2 := e2 st [] b hb
        have LC := lc b (ex (st.set b (some (lay B))) [])
        rw [ex_ex] at LC
        simp only [List.append_nil] at LC
        have LH := lc_here (g := gN 8) (te := (cCall fList (cCons (cVar 8) cNil))) (asL) (ev := [some (.l b), some (.d (.tuple xs)), some (.d (.int 5)), some (.d (.int (k : Nat))), some (.d (.tuple HD)), some (.d (.tuple HE)), some (.d (.tuple TL)), none, none]) lHE (ex (st.set b (some (lay B2))) []) (by
          intro y hy acc
          obtain ⟨a, b, rfl⟩ := pairs y hy
          refine ⟨_, rfl, ?_⟩
          have i0 : fIx (.tuple [a, b]) (.int 0) = some a := rfl
          have i1 : fIx (.tuple [a, b]) (.int 1) = some b := rfl
          have cc : Cm.cutD [a, b] none (some 1) = [a] := by rw [cut_to _ (by omega)]; rfl
          simp -implicitDefEqProofs [i0, i1, cc, lim, asL, p2l])
        rw [ex_ex] at LH
        simp only [List.append_nil] at LH
        have A1 := a1 _ (mapL asL)
        have A2 := a2 _ (mapL asL)
        generalize HE.map asL = HM at *
        clear lc put two mapTh plain
        generalize xs.filter (fun y => !isP2 y) = FI at *
        simp -implicitDefEqProofs [-List.append_assoc, -fAdd_t, -fLen_t, -fRevA_t, f__law_bent, defS_ap, b__law_bent, known, isaT, tyD, LC, ne, E1, fl, E2, c1, c2, c3, LH, A1, A2]
      by_cases c6w : w = 6
      · subst c6w
        refine ⟨.tuple (HD ++ HE.map asF ++ TL), B2, mapTh _ fun y hy => (two t0 y hy).2.2.2.1, bx_up h2 (by omega) (by omega), ?_⟩
        apply dr_lift
        intro st b hb
        have E1 := e1 st [] b hb
        have E2 := e2 st [] b hb
        have LC := lc b (ex (st.set b (some (lay B))) [])
        rw [ex_ex] at LC
        simp only [List.append_nil] at LC
        have LH := lc_here (g := gN 8) (te := (cD2 fIx (cVar 8) (cD (.int 0)))) (asF) (ev := [some (.l b), some (.d (.tuple xs)), some (.d (.int 6)), some (.d (.int (k : Nat))), some (.d (.tuple HD)), some (.d (.tuple HE)), some (.d (.tuple TL)), none, none]) lHE (ex (st.set b (some (lay B2))) []) (by
          intro y hy acc
          obtain ⟨a, b, rfl⟩ := pairs y hy
          refine ⟨_, rfl, ?_⟩
          have i0 : fIx (.tuple [a, b]) (.int 0) = some a := rfl
          have i1 : fIx (.tuple [a, b]) (.int 1) = some b := rfl
          have cc : Cm.cutD [a, b] none (some 1) = [a] := by rw [cut_to _ (by omega)]; rfl
          simp -implicitDefEqProofs [i0, i1, cc, lim, asF, p2l])
        rw [ex_ex] at LH
        simp only [List.append_nil] at LH
        have A1 := a1 _ (mapL asF)
        have A2 := a2 _ (mapL asF)
        generalize HE.map asF = HM at *
        clear lc put two mapTh plain
        generalize xs.filter (fun y => !isP2 y) = FI at *
        simp -implicitDefEqProofs [-List.append_assoc, -fAdd_t, -fLen_t, -fRevA_t, f__law_bent, defS_ap, b__law_bent, known, isaT, tyD, LC, ne, E1, fl, E2, c1, c2, c3, LH, A1, A2]
      by_cases c7w : w = 7
      · subst c7w
        refine ⟨.tuple (HD ++ HE.map as3 ++ TL), B2, mapTh _ fun y hy => (two t0 y hy).2.2.2.2.1, bx_up h2 (by omega) (by omega), ?_⟩
        apply dr_lift
        intro st b hb
        have E1 := e1 st [] b hb
        have E2 := e2 st [] b hb
        have LC := lc b (ex (st.set b (some (lay B))) [])
        rw [ex_ex] at LC
        simp only [List.append_nil] at LC
        have LH := lc_here (g := gN 8) (te := (cD2s fAdd (cVar 8) (cSl (cVar 8) oNone (oSome (cD (.int 1)))))) (as3) (ev := [some (.l b), some (.d (.tuple xs)), some (.d (.int 7)), some (.d (.int (k : Nat))), some (.d (.tuple HD)), some (.d (.tuple HE)), some (.d (.tuple TL)), none, none]) lHE (ex (st.set b (some (lay B2))) []) (by
          intro y hy acc
          obtain ⟨a, b, rfl⟩ := pairs y hy
          refine ⟨_, rfl, ?_⟩
          have i0 : fIx (.tuple [a, b]) (.int 0) = some a := rfl
          have i1 : fIx (.tuple [a, b]) (.int 1) = some b := rfl
          have cc : Cm.cutD [a, b] none (some 1) = [a] := by rw [cut_to _ (by omega)]; rfl
          simp -implicitDefEqProofs [i0, i1, cc, lim, as3, p2l])
        rw [ex_ex] at LH
        simp only [List.append_nil] at LH
        have A1 := a1 _ (mapL as3)
        have A2 := a2 _ (mapL as3)
        generalize HE.map as3 = HM at *
        clear lc put two mapTh plain
        generalize xs.filter (fun y => !isP2 y) = FI at *
        simp -implicitDefEqProofs [-List.append_assoc, -fAdd_t, -fLen_t, -fRevA_t, f__law_bent, defS_ap, b__law_bent, known, isaT, tyD, LC, ne, E1, fl, E2, c1, c2, c3, LH, A1, A2]
      by_cases c8w : w = 8
      · subst c8w
        refine ⟨.tuple (HD ++ HE.map asR ++ TL), B2, mapTh _ fun y hy => (two t0 y hy).2.2.2.2.2, bx_up h2 (by omega) (by omega), ?_⟩
        apply dr_lift
        intro st b hb
        have E1 := e1 st [] b hb
        have E2 := e2 st [] b hb
        have LC := lc b (ex (st.set b (some (lay B))) [])
        rw [ex_ex] at LC
        simp only [List.append_nil] at LC
        have LH := lc_here (g := gN 8) (te := (cD1 fRevA (cVar 8))) (asR) (ev := [some (.l b), some (.d (.tuple xs)), some (.d (.int 8)), some (.d (.int (k : Nat))), some (.d (.tuple HD)), some (.d (.tuple HE)), some (.d (.tuple TL)), none, none]) lHE (ex (st.set b (some (lay B2))) []) (by
          intro y hy acc
          obtain ⟨a, b, rfl⟩ := pairs y hy
          refine ⟨_, rfl, ?_⟩
          have i0 : fIx (.tuple [a, b]) (.int 0) = some a := rfl
          have i1 : fIx (.tuple [a, b]) (.int 1) = some b := rfl
          have cc : Cm.cutD [a, b] none (some 1) = [a] := by rw [cut_to _ (by omega)]; rfl
          simp -implicitDefEqProofs [i0, i1, cc, lim, asR, p2l])
        rw [ex_ex] at LH
        simp only [List.append_nil] at LH
        have A1 := a1 _ (mapL asR)
        have A2 := a2 _ (mapL asR)
        generalize HE.map asR = HM at *
        clear lc put two mapTh plain
        generalize xs.filter (fun y => !isP2 y) = FI at *
        simp -implicitDefEqProofs [-List.append_assoc, -fAdd_t, -fLen_t, -fRevA_t, f__law_bent, defS_ap, b__law_bent, known, isaT, tyD, LC, ne, E1, fl, E2, c1, c2, c3, LH, A1, A2]
      obtain ⟨o, B3, ho, h3, e3⟩ := of_spec (xs := [.list xs, .none, .int 0, .tuple [.tuple xs], .str "", .tuple (HD ++ [.none] ++ TL), .tuple (HD ++ [.tuple []] ++ TL), .tuple xs]) h2 (by omega) (by simp) (by simp)
      have oT : Th (d + 3) (4 * n + 500) o := by
        simp only [List.mem_cons, List.not_mem_nil, or_false] at ho
        rcases ho with rfl | rfl | rfl | rfl | rfl | rfl | rfl | rfl
        · exact liTh
        · exact th_none.mono (by omega) (by omega)
        · exact t0.mono (by omega) (by omega)
        · exact onTh
        · exact (⟨rfl, by decide +kernel, by decide, by decide +kernel⟩ : Th 0 100 _).mono (by omega) (by omega)
        · exact noneTh
        · exact emTh
        · exact sameTh
      refine ⟨o, B3, oT, bx_up h3 (by omega) (by omega), ?_⟩
      apply dr_lift
      intro st b hb
      have E1 := e1 st [] b hb
      have E2 := e2 st [] b hb
      have E3 := e3 st [] b hb
      have LC := lc b (ex (st.set b (some (lay B))) [])
      rw [ex_ex] at LC
      simp only [List.append_nil] at LC
      have A1 := a1 [.none] (by simp)
      have A2 := a2 [.none] (by simp)
      have A3 := a1 [.tuple []] (by simp)
      have A4 := a2 [.tuple []] (by simp)
      clear lc put two mapTh plain
      generalize xs.filter (fun y => !isP2 y) = FI at *
      generalize HD ++ [.none] ++ TL = M1 at *
      generalize HD ++ [.tuple []] ++ TL = M2 at *
      generalize HD ++ [PyData.none] = M3 at *
      generalize HD ++ [PyData.tuple []] = M4 at *
      simp -implicitDefEqProofs [-List.append_assoc, -fAdd_t, -fLen_t, -fRevA_t, f__law_bent, defS_ap, b__law_bent, known, isaT, tyD, LC, ne, E1, fl, E2, c1, c2, c3, c0w, c1w, c2w, c3w, c4w, c5w, c6w, c7w, c8w, fli, A1, A2, A3, A4, E3]
end My

set_option Elab.async false
set_option linter.all false
set_option maxRecDepth 100000
set_option maxHeartbeats 4000000
namespace My
open PySem PySem.Spec PyProof.Rows L2 Cm
theorem lo_big {k : Int} (h1 : 1 ≤ k) (h2 : k ≤ 100000000000000000000000000000000000000000000000000000000000000000000000000000000) : lo k := by
  refine ⟨h1, ?_⟩
  have h3 : k.natAbs < 2 ^ 300 := by
    have : (2 : Nat) ^ 300 = 2037035976334486086268445688409378161051468393665936250636140449354381299763336706183397376 := by decide
    omega
  exact Nat.lt_of_lt_of_le (log_lt h3 (by decide)) (by decide)
end My

set_option Elab.async false
set_option linter.all false
set_option maxRecDepth 100000
set_option maxHeartbeats 4000000
namespace My
open PySem PySem.Spec PyProof.Rows L2 Cm
/-! drawn OFFERS -/
theorem join_in (l : Int) (M : Int → Prop) : ∀ (ps acc : List (Int × Int)), (∀ q ∈ acc, M q.1 ∧ M q.2) → (∀ q ∈ ps, M q.1 ∧ M q.2) → ∀ q ∈ ps.foldl (jstep l) acc, M q.1 ∧ M q.2
  | [], _, ha, _ => ha
  | p :: ps, acc, ha, hp => by
    rw [List.foldl_cons]
    refine join_in l M ps _ (fun q hq => ?_) fun q hq => hp q (List.mem_cons_of_mem _ hq)
    have h0 := hp p List.mem_cons_self
    unfold jstep at hq
    split at hq
    · rcases List.mem_append.mp hq with h | h
      · exact ha q h
      · rw [List.mem_singleton.mp h]
        exact h0
    · rename_i z hz
      split at hq
      · rcases List.mem_append.mp hq with h | h
        · exact ha q (List.dropLast_subset _ h)
        · rw [List.mem_singleton.mp h]
          exact ⟨(ha z (List.mem_of_getLast? hz)).1, h0.2⟩
      · rcases List.mem_append.mp hq with h | h
        · exact ha q h
        · rw [List.mem_singleton.mp h]
          exact h0
theorem fil_in {row : List Int} {l : Int} {M : Int → Prop} (h : ∀ x ∈ row, M x) : ∀ p ∈ (fil row l).getD [], M p.1 ∧ M p.2 := by
  intro p hp
  unfold fil at hp
  split at hp
  · cases hp
  · refine join_in l M _ [] (fun q hq => nomatch hq) (fun q hq => ?_) p hp
    obtain ⟨x, hx, rfl⟩ := List.mem_map.mp (show q ∈ (sortI (recs row)).map fun x => (x, x) from hq)
    have := h x (recs_sub _ ((sortI_perm _).mem_iff.mp hx))
    exact ⟨this, this⟩
def Of1 (p : Int × Int) : Prop := 1 ≤ p.1 ∧ p.1 ≤ 10 ^ 63 ∧ 0 ≤ p.2 ∧ p.2 < 10 ^ 31
theorem deals_dr {m : Nat} {B : Bx} {row : List Int} {l : Int} (hB : BxOk m B) (hm : m < 300000000000) (hl : 1 ≤ l) (l2 : l ≤ 10 ^ 59) (hr : row.length ≤ 7) (hv : ∀ n ∈ row, 1 ≤ n ∧ n ≤ 10 ^ 61) :
    Dr f__law_deals [.d (.tuple (iL row)), .d (.int l), .d (.int 8)] m 100 B (fun x => ∃ ms : List (Int × Int), x = .tuple (ms.map Cm.pairD) ∧ ms.length ≤ 8 ∧ ∀ p ∈ ms, Of1 p) := by
  have lb := lblocks_spec (row := row) (l := l) (by omega)
  have o2 : mulOk 2 l = true := mul_smallL (by decide) (by decide)
  obtain ⟨p, B1, p0, p1, h1, e1⟩ := take_spec (k := 2 * l) hB (by omega) (lo_big (by omega) (by omega))
  have hp1 : ((fil row l).getD []).length ≤ 7 := by
    cases hA : fil row l with
    | none => simp
    | some ps =>
      have a := fil_len hA
      show ps.length ≤ 7
      omega
  have hp2 := fil_in (M := fun n => 1 ≤ n ∧ n ≤ 10 ^ 61) (l := l) hv
  -- the ends of blocks
  obtain ⟨⟨XS, t4⟩, ⟨x1, x2, _⟩, f1⟩ := forL_abs (T := Pos) (S := List PyData × Option PyData) (g := gN 4) (b := cSet 8 (cD2s fAdd (cCall fList (cCons (cVar 4) cNil)) (cVar 8)))
    Pos.ok (fun θ s => [some (.l θ.b), some (.d (.tuple (iL row))), some (.d (.int l)), some (.d (.int 8)), s.2.map .d, none, none, none, some (.d (.list s.1)), some (.l θ.st.length)])
    (fun θ s => ex (θ.st.set θ.b (some (lay B1))) [none])
    (fun rest s => (s.1.length + 2 * rest.length ≤ 15 ∧ 1 ≤ s.1.length) ∧ (∀ y ∈ s.1, ∃ i : Int, y = .int i ∧ 1 ≤ i ∧ i ≤ 10 ^ 61) ∧ ∃ ps : List (Int × Int), rest = ps.map Cm.pairD ∧ ∀ p ∈ ps, (1 ≤ p.1 ∧ p.1 ≤ 10 ^ 61) ∧ 1 ≤ p.2 ∧ p.2 ≤ 10 ^ 61) (by
      rintro x xs ⟨XS, t4⟩ ⟨hn, ha, ps, hps, hpp⟩
      cases ps with
      | nil => cases hps
      | cons p ps =>
        obtain ⟨rfl, rfl⟩ := List.cons.inj hps
        simp only [List.length_cons] at hn
        dsimp only at ha hn
        have hp0 := hpp p List.mem_cons_self
        have fl : fList [Cm.pairD p] = some (.list [.int p.1, .int p.2]) := rfl
        have ad : fAdd (.list [.int p.1, .int p.2]) (.list XS) = some (.list ([.int p.1, .int p.2] ++ XS)) := by
          rw [fAdd_l, if_pos (by simp only [lim, List.length_cons, List.length_nil]; omega)]
        refine ⟨([.int p.1, .int p.2] ++ XS, some (Cm.pairD p)), ⟨⟨by simp only [List.length_append, List.length_cons, List.length_nil]; omega, by simp⟩, fun y hy => ?_, ps, rfl, fun q hq => hpp q (List.mem_cons_of_mem _ hq)⟩, fun θ hb => ⟨_, rfl, ?_⟩⟩
        · rcases List.mem_append.mp hy with z | z
          · simp only [List.mem_cons, List.not_mem_nil, or_false] at z
            rcases z with rfl | rfl
            · exact ⟨_, rfl, hp0.1⟩
            · exact ⟨_, rfl, hp0.2⟩
          · exact ha y z
        · generalize [PyData.int p.1, .int p.2] ++ XS = YS at *
          generalize Cm.pairD p = PA at *
          simp -implicitDefEqProofs [-fAdd_l, fl, ad])
    (((fil row l).getD []).map Cm.pairD) ([.int (1 + p)], none) ⟨⟨by simp only [List.length_cons, List.length_nil, List.length_map]; omega, by simp⟩, fun y hy => by
      simp only [List.mem_singleton] at hy
      exact ⟨_, hy, by omega, by omega⟩, _, rfl, fun q hq => hp2 q hq⟩
  simp only [List.length_nil] at x1
  dsimp only at x1 x2
  -- these, but some
  obtain ⟨⟨B2, kd, t5⟩, ⟨h2, k1, k2, k3⟩, f2⟩ := dLoop_abs (fi := 9) (T := Pos) (S := Bx × KD × Option PyData) (g := gN 5) (b := dIf 9 (cB (cD2 fGt (cDef 2 f__law_take (cCons (cVar 0) (cCons (cD (.int 8)) cNil))) (cD (.int 0)))) (dPut 9 (cVar 5) (cD (.bool true))) dSkip)
    Pos.ok (fun θ s => [some (.l θ.b), some (.d (.tuple (iL row))), some (.d (.int l)), some (.d (.int 8)), t4.map .d, s.2.2.map .d, none, none, some (.d (.list XS)), some (.l θ.st.length)])
    (fun θ s => ex (θ.st.set θ.b (some (lay s.1))) [none]) (fun s => s.2.1)
    (fun rest s => BxOk (m + 1 + (15 - rest.length)) s.1 ∧ (s.2.1.length + rest.length ≤ 15 ∧ rest.length ≤ 15) ∧ (∀ q ∈ s.2.1, 1 ≤ q.1 ∧ q.1 ≤ 10 ^ 63) ∧ ∀ y ∈ rest, ∃ i : Int, y = .int i ∧ 1 ≤ i ∧ i ≤ 10 ^ 61) (by
      rintro x xs ⟨C, kd, t5⟩ ⟨hC, hn, ha, hr⟩
      simp only [List.length_cons] at hC hn
      dsimp only at ha hn
      obtain ⟨i, rfl, i1, i2⟩ := hr x List.mem_cons_self
      obtain ⟨r, C1, r0, r1, g1, d1⟩ := take_spec (k := 8) hC (by omega) (lo_of (by omega) (by omega))
      by_cases c : r > 0
      · refine ⟨(C1, putD kd i (.bool true), some (.int i)), ⟨bx_up g1 (by omega) (by omega), ⟨by have := putD_len kd i (.bool true); dsimp only; omega, by omega⟩, fun q hq => ?_, fun y hy => hr y (List.mem_cons_of_mem _ hy)⟩, fun θ hb => ⟨_, rfl, ⟨rfl, by simp⟩, ?_⟩⟩
        · rcases putD_mem hq with rfl | ⟨q0, z0, z1, _⟩
          · exact ⟨i1, by dsimp only; omega⟩
          · rw [← z1]
            exact ha q0 z0
        · have D1 := d1 θ.st [none] θ.b hb
          have kl : kd.length < 1000000 := by omega
          simp -implicitDefEqProofs [D1, c, kl]
      · refine ⟨(C1, kd, some (.int i)), ⟨bx_up g1 (by omega) (by omega), ⟨by dsimp only; omega, by omega⟩, ha, fun y hy => hr y (List.mem_cons_of_mem _ hy)⟩, fun θ hb => ⟨_, rfl, ⟨rfl, by simp⟩, ?_⟩⟩
        have D1 := d1 θ.st [none] θ.b hb
        simp -implicitDefEqProofs [D1, c])
    XS (B1, [], none) ⟨bx_up h1 (by omega) (by omega), ⟨by simp only [List.length_nil]; omega, by omega⟩, fun q hq => (nomatch hq), x2⟩
  simp only [List.length_nil] at h2 k1
  dsimp only at h2 k1 k2
  -- further ones
  obtain ⟨nt, B3, n0, n1, h3, e3⟩ := take_spec (k := 8) h2 (by omega) (lo_of (by omega) (by omega))
  obtain ⟨⟨B4, kd2, u5, u6⟩, ⟨h4, j1, j2⟩, f3⟩ := dLoop_abs (fi := 9) (T := Pos) (S := Bx × KD × Option PyData × Option PyData) (g := gN 6) (b := dSeq (dPlain 9 (cSet 5 (cD2s fAdd (cDef 2 f__law_of (cCons (cVar 0) (cCons (cVar 8) cNil))) (cD2s fMul (cDef 2 f__law_of (cCons (cVar 0) (cCons (cLst (cCons (cD (.int 1)) (cCons (cVar 2) (cCons (cDef 2 f__law_take (cCons (cVar 0) (cCons (cD2s fAdd (cD2s fMul (cD (.int 2)) (cVar 2)) (cD (.int 1))) cNil))) cNil)))) cNil))) (cDef 2 f__law_of (cCons (cVar 0) (cCons (cLst (cCons (cD (.int 1)) (cCons (cD2 fSub (cD (.int 0)) (cD (.int 1))) cNil))) cNil)))))))
  (dPut 9 (cCall fMax (cCons (cD (.int 1)) (cCons (cVar 5) cNil))) (cD (.bool true))))
    Pos.ok (fun θ s => [some (.l θ.b), some (.d (.tuple (iL row))), some (.d (.int l)), some (.d (.int 8)), t4.map .d, s.2.2.1.map .d, s.2.2.2.map .d, none, some (.d (.list XS)), some (.l θ.st.length)])
    (fun θ s => ex (θ.st.set θ.b (some (lay s.1))) [none]) (fun s => s.2.1)
    (fun rest s => BxOk (m + 20 + 4 * (8 - rest.length)) s.1 ∧ (s.2.1.length + rest.length ≤ 23 ∧ rest.length ≤ 8) ∧ (∀ q ∈ s.2.1, 1 ≤ q.1 ∧ q.1 ≤ 10 ^ 63)) (by
      rintro x xs ⟨C, kd, t5, t6⟩ ⟨hC, hn, ha⟩
      simp only [List.length_cons] at hC hn
      dsimp only at ha hn
      obtain ⟨y1, C1, q1, g1, d1⟩ := of_spec (xs := XS) hC (by omega) (by omega) (by omega)
      obtain ⟨i, rfl, i1, i2⟩ := x2 y1 q1
      obtain ⟨r, C2, r0, r1, g2, d2⟩ := take_spec (k := 2 * l + 1) g1 (by omega) (lo_big (by omega) (by omega))
      obtain ⟨y3, C3, q3, g3, d3⟩ := of_spec (xs := [.int 1, .int l, .int r]) g2 (by omega) (by simp) (by simp)
      obtain ⟨a, rfl, a0, a1⟩ : ∃ a : Int, y3 = .int a ∧ 0 ≤ a ∧ a ≤ 2 * 10 ^ 59 := by
        simp only [List.mem_cons, List.not_mem_nil, or_false] at q3
        rcases q3 with rfl | rfl | rfl
        · exact ⟨_, rfl, by omega, by omega⟩
        · exact ⟨_, rfl, by omega, by omega⟩
        · exact ⟨_, rfl, by omega, by omega⟩
      obtain ⟨y4, C4, q4, g4, d4⟩ := of_spec (xs := [.int 1, .int (-1)]) g3 (by omega) (by simp) (by simp)
      obtain ⟨c, rfl, c0⟩ : ∃ c : Int, y4 = .int c ∧ (c = 1 ∨ c = -1) := by
        simp only [List.mem_cons, List.not_mem_nil, or_false] at q4
        rcases q4 with rfl | rfl
        · exact ⟨_, rfl, .inl rfl⟩
        · exact ⟨_, rfl, .inr rfl⟩
      have ms : fMul (.int a) (.int c) = some (.int (a * c)) := by
        have : mulOk a c = true := mul_small (by omega) (by omega)
        simp [this]
      have ac : -(2 * 10 ^ 59) ≤ a * c ∧ a * c ≤ 2 * 10 ^ 59 := by
        rcases c0 with rfl | rfl
        · omega
        · omega
      have ad : fAdd (.int i) (.int (a * c)) = some (.int (i + a * c)) := rfl
      have m2 : fMul (.int 2) (.int l) = some (.int (2 * l)) := by simp [o2]
      have ad2 : fAdd (.int (2 * l)) (.int 1) = some (.int (2 * l + 1)) := rfl
      have mx : fMax [.int 1, .int (i + a * c)] = some (.int (if i + a * c > 1 then i + a * c else 1)) := rfl
      have mv : 1 ≤ (if i + a * c > 1 then i + a * c else 1) ∧ (if i + a * c > 1 then i + a * c else 1) ≤ 10 ^ 63 := by split <;> omega
      generalize (if i + a * c > 1 then i + a * c else 1) = MX at *
      refine ⟨(C4, putD kd MX (.bool true), some (.int (i + a * c)), some x), ⟨bx_up g4 (by omega) (by omega), ⟨by have := putD_len kd MX (.bool true); dsimp only; omega, by omega⟩, fun q hq => ?_⟩, fun θ hb => ⟨_, rfl, ⟨rfl, by simp⟩, ?_⟩⟩
      · rcases putD_mem hq with rfl | ⟨q0, z0, z1, _⟩
        · exact mv
        · rw [← z1]
          exact ha q0 z0
      · have D1 := d1 θ.st [none] θ.b hb
        have D2 := d2 θ.st [none] θ.b hb
        have D3 := d3 θ.st [none] θ.b hb
        have D4 := d4 θ.st [none] θ.b hb
        have kl : kd.length < 1000000 := by omega
        generalize i + a * c = AC at *
        generalize a * c = AM at *
        simp -implicitDefEqProofs [-fMul_i, -fAdd_i, -fMax_t, D1, D2, D3, D4, m2, ad2, ms, ad, mx, kl])
    (rangeD 0 nt.toNat) (B3, kd, t5, none) ⟨bx_up h3 (by simp only [rangeD_len]; omega) (by omega), ⟨by simp only [rangeD_len]; omega, by simp only [rangeD_len]; omega⟩, k2⟩
  simp only [List.length_nil] at h4 j1
  dsimp only at h4 j1 j2
  obtain ⟨y5, B5, q5, h5, e5⟩ := of_spec (xs := [.int 2, .int 10, .int 1000000000000000000000000000000]) h4 (by omega) (by simp) (by simp)
  obtain ⟨dear, rfl, de0, de1⟩ : ∃ a : Int, y5 = .int a ∧ 1 ≤ a ∧ a ≤ 10 ^ 30 := by
    simp only [List.mem_cons, List.not_mem_nil, or_false] at q5
    rcases q5 with rfl | rfl | rfl
    · exact ⟨_, rfl, by omega, by omega⟩
    · exact ⟨_, rfl, by omega, by omega⟩
    · exact ⟨_, rfl, by omega, by omega⟩
  have sk : ∀ y ∈ ((sortI (kd2.map (·.1))).map PyData.int).take 8, ∃ i : Int, y = .int i ∧ 1 ≤ i ∧ i ≤ 10 ^ 63 := fun y hy => by
    obtain ⟨i, hi, rfl⟩ := List.mem_map.mp (List.mem_of_mem_take hy)
    obtain ⟨q, hq, rfl⟩ := List.mem_map.mp ((sortI_perm _).mem_iff.mp hi)
    exact ⟨_, rfl, j2 q hq⟩
  have ct : Cm.cutD ((sortI (kd2.map (·.1))).map PyData.int) none (some 8) = ((sortI (kd2.map (·.1))).map PyData.int).take 8 := cut_to _ (by omega)
  have kl : kd2.length < 64 := by omega
  obtain ⟨B6, acc, ⟨h6, g1, ms, rfl, g2, _⟩, f6⟩ := lcL_abs (T := Pos) (S := Bx) (g := gN 5) (te := cTup (cCons (cVar 5) (cCons (cDef 2 f__law_take (cCons (cVar 0) (cCons (cVar 7) cNil))) cNil)))
    Pos.ok (fun θ => [some (.l θ.b), some (.d (.tuple (iL row))), some (.d (.int l)), some (.d (.int 8)), t4.map .d, none, u6.map .d, some (.d (.int dear)), some (.d (.list XS)), some (.k kd2)])
    (fun θ s => ex (θ.st.set θ.b (some (lay s))) [none]) (fun θ s s' => by simp [ex])
    (fun rest s acc => BxOk (m + 60 + (8 - rest.length)) s ∧ acc.length + rest.length ≤ 8 ∧ ∃ ms : List (Int × Int), acc = ms.map Cm.pairD ∧ (∀ p ∈ ms, Of1 p) ∧ ∀ y ∈ rest, ∃ i : Int, y = .int i ∧ 1 ≤ i ∧ i ≤ 10 ^ 63) (by
      rintro x xs C acc ⟨hC, hn, ms, rfl, ha, hr⟩
      simp only [List.length_cons] at hC hn
      obtain ⟨i, rfl, i1, i2⟩ := hr x List.mem_cons_self
      obtain ⟨r, C1, r0, r1, q1, d1⟩ := take_spec (k := dear) hC (by omega) (lo_of (by omega) (by omega))
      refine ⟨.tuple [.int i, .int r], C1, ⟨bx_up q1 (by omega) (by omega), by simp only [List.length_append, List.length_singleton]; omega, ms ++ [(i, r)], by rw [List.map_append]; rfl, fun p hp => ?_, fun y hy => hr y (List.mem_cons_of_mem _ hy)⟩, by simp only [lim]; omega, fun θ hb => ⟨_, rfl, ?_⟩⟩
      · rcases List.mem_append.mp hp with z | z
        · exact ha p z
        · rw [List.mem_singleton.mp z]
          exact ⟨i1, i2, r0, by show r < _; omega⟩
      · have D1 := d1 θ.st [none, some (ms.map Cm.pairD)] θ.b hb
        generalize ms.map Cm.pairD = MM at *
        rw [ex_ex]
        simp -implicitDefEqProofs [D1, lim])
    (((sortI (kd2.map (·.1))).map PyData.int).take 8) B5 [] ⟨bx_up h5 (by omega) (by omega), by rw [List.length_take, List.length_nil]; omega, [], rfl, (fun p hp => nomatch hp), sk⟩
  simp only [List.length_nil, List.length_map] at h6 g1
  refine ⟨.tuple (ms.map Cm.pairD), B6, ⟨ms, rfl, by omega, g2⟩, bx_up h6 (by omega) (by omega), ?_⟩
  apply dr_lift
  intro st b hb
  have E1 := e1 st [] b hb
  have F1 := f1 ⟨st, b⟩ hb
  have F2 := f2 ⟨st, b⟩ hb
  have E3 := e3 st [none] b hb
  have F3 := f3 ⟨st, b⟩ hb
  have E5 := e5 st [none] b hb
  have F6 := f6 ⟨st, b⟩ hb
  dsimp only [Option.map_none] at F1 F2 F3 F6
  have bg : big nt = true := big_of (by omega) (by omega)
  have w30 : fPow (.int 10) (.int 30) = some (.int 1000000000000000000000000000000) := by rfl
  clear e1 f1 f2 e3 f3 e5 f6 hp2 sk x2 hv
  generalize ((sortI (kd2.map (·.1))).map PyData.int).take 8 = SK at *
  generalize ms.map Cm.pairD = MM at *
  cases hf : fil row l with
  | none =>
    rw [hf] at lb F1
    have eb : bD none = .none := rfl
    rw [eb] at lb
    simp only [Option.getD_none, List.map_nil] at F1
    generalize iL row = RR at *
    simp -implicitDefEqProofs [f__law_deals, defS_ap, b__law_deals, E1, o2, lb, F1, F2, E3, F3, E5, F6, bg, w30, ct, kl]
  | some ps =>
    rw [hf] at lb F1
    have eb : bD (some ps) = .tuple (ps.map Cm.pairD) := rfl
    rw [eb] at lb
    have gs : (some ps).getD [] = ps := rfl
    rw [gs] at F1
    cases ps with
    | nil =>
      simp only [List.map_nil] at F1 lb
      generalize iL row = RR at *
      simp -implicitDefEqProofs [f__law_deals, defS_ap, b__law_deals, E1, o2, lb, F1, F2, E3, F3, E5, F6, bg, w30, ct, kl]
    | cons p0 ps =>
      have tr : truth (.tuple ((p0 :: ps).map Cm.pairD)) = some true := rfl
      generalize (p0 :: ps).map Cm.pairD = PP at *
      generalize iL row = RR at *
      simp -implicitDefEqProofs [f__law_deals, defS_ap, b__law_deals, E1, o2, lb, tr, F1, F2, E3, F3, E5, F6, bg, w30, ct, kl]
end My

set_option Elab.async false
set_option linter.all false
set_option maxRecDepth 100000
set_option maxHeartbeats 4000000
namespace My
open PySem PySem.Spec PyProof.Rows L2 Cm
theorem ai_law_low_0 : DF f__law_low [] (Iz (some 1) (some 100000000000000000000000000000000000000000000000000000000000)) 4 := by
  show DF (defS 2 b__law_low) _ _ _
  refine df_of (N := none) (n0 := 1) ?_ rfl rfl
  show ASt b__law_low [some .box, none] 4 none { R := some (.val (Iz (some 1) (some 100000000000000000000000000000000000000000000000000000000000))) }
  unfold b__law_low
  refine as_seq (A1 := [some .box, some (.dat (Iz (some 0) (some 7)))]) (k1 := 1) (k2 := 3) ?_ ?_
  · exact as_up (as_set (a := (Iz (some 0) (some 7))) (ae_df (as := [(Iz (some 8) (some 8))]) (r := (Iz (some 0) (some 7))) (k1 := 1) (n := 2) (aa_cons (ae_box rfl) (aa_cons (ae_c (iz_c 8)) aa_nil)) (take_df (l := 8) (h := 8) (h' := 7) (by decide) (by decide) rfl))) (by omega)
  · refine as_seq (A1 := [some .box, some (.dat (Iz (some 0) (some 7)))]) (k1 := 1) (k2 := 2) ?_ ?_
    · refine as_if (q := anyB) (k := 0) (k1 := 1) (ab_up (ab_b (q := anyB) (ae_2 (a := (Iz (some 0) (some 7))) (b := (Iz (some 0) (some 0))) (r := Bl) (ae_val (ae_var (a := (Iz (some 0) (some 7))) rfl)) (ae_val (ae_c (iz_c 0))) (tr_eq sd_iz sd_iz (by decide) (by decide)))) (by omega)) (fun _ => ?_) (fun _ => ?_)
      · refine as_no ?_
        exact as_up (as_ret (ae_lev (b := (Iz (some 1) (some 100000000000000000000000000000000000000000000000000000000000))) (ae_val (ae_2s (a := (Iz (some 1) (some 1))) (b := (Iz (some 0) (some 999999999999999999))) (r := (Iz (some 1) (some 1000000000000000000))) (ae_val (ae_c (iz_c 1))) (ae_val (ae_df (as := [(Iz (some 1000000000000000000) (some 1000000000000000000))]) (r := (Iz (some 0) (some 999999999999999999))) (k1 := 1) (n := 2) (aa_cons (ae_box rfl) (aa_cons (ae_2 (ae_val (ae_c (a := Is _) rfl)) (ae_val (ae_c (a := Is _) rfl)) (tr_const2 (r := (Iz (some 1000000000000000000) (some 1000000000000000000))) (z := .int 1000000000000000000) (by kernel_rfl) (iz_c _))) aa_nil)) (take_df (l := 1000000000000000000) (h := 1000000000000000000) (h' := 999999999999999999) (by decide) (by decide) rfl))) (tr_add (l := (some 1)) (h := (some 1000000000000000000)) rfl rfl))) (iz_le rfl rfl)) rfl) (by omega)
      · refine as_up (k := 0) ?_ (by omega)
        exact as_skip
    · refine as_seq (A1 := [some .box, some (.dat (Iz (some 0) (some 7)))]) (k1 := 1) (k2 := 1) ?_ ?_
      · refine as_if (q := anyB) (k := 0) (k1 := 1) (ab_up (ab_b (q := anyB) (ae_2 (a := (Iz (some 0) (some 7))) (b := (Iz (some 1) (some 1))) (r := Bl) (ae_val (ae_var (a := (Iz (some 0) (some 7))) rfl)) (ae_val (ae_c (iz_c 1))) (tr_eq sd_iz sd_iz (by decide) (by decide)))) (by omega)) (fun _ => ?_) (fun _ => ?_)
        · refine as_no ?_
          exact as_up (as_ret (ae_lev (b := (Iz (some 1) (some 100000000000000000000000000000000000000000000000000000000000))) (ae_val (ae_2 (a := (Iz (some 100000000000000000000000000000000000000000000000000000000000) (some 100000000000000000000000000000000000000000000000000000000000))) (b := (Iz (some 0) (some 999))) (r := (Iz (some 99999999999999999999999999999999999999999999999999999999001) (some 100000000000000000000000000000000000000000000000000000000000))) (ae_val (ae_2 (ae_val (ae_c (a := Is _) rfl)) (ae_val (ae_c (a := Is _) rfl)) (tr_const2 (r := (Iz (some 100000000000000000000000000000000000000000000000000000000000) (some 100000000000000000000000000000000000000000000000000000000000))) (z := .int 100000000000000000000000000000000000000000000000000000000000) (by kernel_rfl) (iz_c _)))) (ae_val (ae_df (as := [(Iz (some 1000) (some 1000))]) (r := (Iz (some 0) (some 999))) (k1 := 1) (n := 2) (aa_cons (ae_box rfl) (aa_cons (ae_c (iz_c 1000)) aa_nil)) (take_df (l := 1000) (h := 1000) (h' := 999) (by decide) (by decide) rfl))) (tr_sub (l := (some 99999999999999999999999999999999999999999999999999999999001)) (h := (some 100000000000000000000000000000000000000000000000000000000000)) rfl rfl))) (iz_le rfl rfl)) rfl) (by omega)
        · refine as_up (k := 0) ?_ (by omega)
          exact as_skip
      · exact as_up (as_ret (ae_lev (b := (Iz (some 1) (some 100000000000000000000000000000000000000000000000000000000000))) (ae_val (ae_df (as := [(Ls (Iz (some 1) (some 10)) 6 6)]) (r := (Iz (some 1) (some 10))) (k1 := 1) (n := 2) (aa_cons (ae_box rfl) (aa_cons (ae_le (ae_lst (as := [(Iz (some 1) (some 1)), (Iz (some 1) (some 1)), (Iz (some 2) (some 2)), (Iz (some 3) (some 3)), (Iz (some 7) (some 7)), (Iz (some 10) (some 10))]) (aa_cons (ae_c (iz_c 1)) (aa_cons (ae_c (iz_c 1)) (aa_cons (ae_c (iz_c 2)) (aa_cons (ae_c (iz_c 3)) (aa_cons (ae_c (iz_c 7)) (aa_cons (ae_c (iz_c 10)) aa_nil)))))) (by decide)) (lsof_ls (mem1 (iz_le rfl rfl) (mem1 (iz_le rfl rfl) (mem1 (iz_le rfl rfl) (mem1 (iz_le rfl rfl) (mem1 (iz_le rfl rfl) (mem1 (iz_le rfl rfl) mem0)))))) (by simp only [List.length]; omega) (by simp only [List.length]; omega))) aa_nil)) (of_df (by decide) (by decide)))) (iz_le rfl rfl)) rfl) (by omega)
theorem ai_law_rising_0 : DF f__law_rising [(Iz (some 1) (some 100000000000000000000000000000000000000000000000000000000000)), (Iz (some 5) (some 5))] (Ls (Iz (some 1) (some 2400000000000000000000000000000000000000000000000000000000000)) 1 5) 11 := by
  show DF (defS 6 b__law_rising) _ _ _
  refine df_of (N := none) (n0 := 3) ?_ rfl rfl
  show ASt b__law_rising [some .box, some (.dat (Iz (some 1) (some 100000000000000000000000000000000000000000000000000000000000))), some (.dat (Iz (some 5) (some 5))), none, none, none] 11 none { R := some (.val (Ls (Iz (some 1) (some 2400000000000000000000000000000000000000000000000000000000000)) 1 5)) }
  unfold b__law_rising
  refine as_seq (A1 := [some .box, some (.dat (Iz (some 1) (some 100000000000000000000000000000000000000000000000000000000000))), some (.dat (Iz (some 5) (some 5))), some (.own (Iz (some 1) (some 400000000000000000000000000000000000000000000000000000000000)) 1 1), none, none]) (k1 := 2) (k2 := 9) ?_ ?_
  · exact as_up (as_setO (e := (Iz (some 1) (some 400000000000000000000000000000000000000000000000000000000000))) (lo := 1) (hi := 1) (ao_lst (as := [(Iz (some 1) (some 400000000000000000000000000000000000000000000000000000000000))]) (e := (Iz (some 1) (some 400000000000000000000000000000000000000000000000000000000000))) (n := 1) (aa_cons (ae_df (as := [(Ls (Iz (some 1) (some 400000000000000000000000000000000000000000000000000000000000)) 6 6)]) (r := (Iz (some 1) (some 400000000000000000000000000000000000000000000000000000000000))) (k1 := 1) (n := 2) (aa_cons (ae_box rfl) (aa_cons (ae_le (ae_lst (as := [(Iz (some 2) (some 200000000000000000000000000000000000000000000000000000000000)), (Iz (some 2) (some 200000000000000000000000000000000000000000000000000000000000)), (Iz (some 3) (some 200000000000000000000000000000000000000000000000000000000001)), (Iz (some 3) (some 300000000000000000000000000000000000000000000000000000000000)), (Iz (some 4) (some 300000000000000000000000000000000000000000000000000000000001)), (Iz (some 1) (some 400000000000000000000000000000000000000000000000000000000000))]) (aa_cons (ae_2s (a := (Iz (some 2) (some 2))) (b := (Iz (some 1) (some 100000000000000000000000000000000000000000000000000000000000))) (r := (Iz (some 2) (some 200000000000000000000000000000000000000000000000000000000000))) (ae_val (ae_c (iz_c 2))) (ae_val (ae_var (a := (Iz (some 1) (some 100000000000000000000000000000000000000000000000000000000000))) rfl)) (tr_mulL (l := (some 2)) (h := (some 200000000000000000000000000000000000000000000000000000000000)) (by decide) (by decide) (by decide) rfl rfl)) (aa_cons (ae_2s (a := (Iz (some 2) (some 2))) (b := (Iz (some 1) (some 100000000000000000000000000000000000000000000000000000000000))) (r := (Iz (some 2) (some 200000000000000000000000000000000000000000000000000000000000))) (ae_val (ae_c (iz_c 2))) (ae_val (ae_var (a := (Iz (some 1) (some 100000000000000000000000000000000000000000000000000000000000))) rfl)) (tr_mulL (l := (some 2)) (h := (some 200000000000000000000000000000000000000000000000000000000000)) (by decide) (by decide) (by decide) rfl rfl)) (aa_cons (ae_2s (a := (Iz (some 2) (some 200000000000000000000000000000000000000000000000000000000000))) (b := (Iz (some 1) (some 1))) (r := (Iz (some 3) (some 200000000000000000000000000000000000000000000000000000000001))) (ae_val (ae_2s (a := (Iz (some 2) (some 2))) (b := (Iz (some 1) (some 100000000000000000000000000000000000000000000000000000000000))) (r := (Iz (some 2) (some 200000000000000000000000000000000000000000000000000000000000))) (ae_val (ae_c (iz_c 2))) (ae_val (ae_var (a := (Iz (some 1) (some 100000000000000000000000000000000000000000000000000000000000))) rfl)) (tr_mulL (l := (some 2)) (h := (some 200000000000000000000000000000000000000000000000000000000000)) (by decide) (by decide) (by decide) rfl rfl))) (ae_val (ae_c (iz_c 1))) (tr_add (l := (some 3)) (h := (some 200000000000000000000000000000000000000000000000000000000001)) rfl rfl)) (aa_cons (ae_2s (a := (Iz (some 3) (some 3))) (b := (Iz (some 1) (some 100000000000000000000000000000000000000000000000000000000000))) (r := (Iz (some 3) (some 300000000000000000000000000000000000000000000000000000000000))) (ae_val (ae_c (iz_c 3))) (ae_val (ae_var (a := (Iz (some 1) (some 100000000000000000000000000000000000000000000000000000000000))) rfl)) (tr_mulL (l := (some 3)) (h := (some 300000000000000000000000000000000000000000000000000000000000)) (by decide) (by decide) (by decide) rfl rfl)) (aa_cons (ae_2s (a := (Iz (some 3) (some 300000000000000000000000000000000000000000000000000000000000))) (b := (Iz (some 1) (some 1))) (r := (Iz (some 4) (some 300000000000000000000000000000000000000000000000000000000001))) (ae_val (ae_2s (a := (Iz (some 3) (some 3))) (b := (Iz (some 1) (some 100000000000000000000000000000000000000000000000000000000000))) (r := (Iz (some 3) (some 300000000000000000000000000000000000000000000000000000000000))) (ae_val (ae_c (iz_c 3))) (ae_val (ae_var (a := (Iz (some 1) (some 100000000000000000000000000000000000000000000000000000000000))) rfl)) (tr_mulL (l := (some 3)) (h := (some 300000000000000000000000000000000000000000000000000000000000)) (by decide) (by decide) (by decide) rfl rfl))) (ae_val (ae_c (iz_c 1))) (tr_add (l := (some 4)) (h := (some 300000000000000000000000000000000000000000000000000000000001)) rfl rfl)) (aa_cons (ae_2s (a := (Iz (some 1) (some 1))) (b := (Iz (some 0) (some 399999999999999999999999999999999999999999999999999999999999))) (r := (Iz (some 1) (some 400000000000000000000000000000000000000000000000000000000000))) (ae_val (ae_c (iz_c 1))) (ae_val (ae_df (as := [(Iz (some 4) (some 400000000000000000000000000000000000000000000000000000000000))]) (r := (Iz (some 0) (some 399999999999999999999999999999999999999999999999999999999999))) (k1 := 1) (n := 2) (aa_cons (ae_box rfl) (aa_cons (ae_2s (a := (Iz (some 4) (some 4))) (b := (Iz (some 1) (some 100000000000000000000000000000000000000000000000000000000000))) (r := (Iz (some 4) (some 400000000000000000000000000000000000000000000000000000000000))) (ae_val (ae_c (iz_c 4))) (ae_val (ae_var (a := (Iz (some 1) (some 100000000000000000000000000000000000000000000000000000000000))) rfl)) (tr_mulL (l := (some 4)) (h := (some 400000000000000000000000000000000000000000000000000000000000)) (by decide) (by decide) (by decide) rfl rfl)) aa_nil)) (take_df (l := 4) (h := 400000000000000000000000000000000000000000000000000000000000) (h' := 399999999999999999999999999999999999999999999999999999999999) (by decide) (by decide) rfl))) (tr_add (l := (some 1)) (h := (some 400000000000000000000000000000000000000000000000000000000000)) rfl rfl)) aa_nil)))))) (by decide)) (lsof_ls (mem1 (iz_le rfl rfl) (mem1 (iz_le rfl rfl) (mem1 (iz_le rfl rfl) (mem1 (iz_le rfl rfl) (mem1 (iz_le rfl rfl) (mem1 self_le mem0)))))) (by simp only [List.length]; omega) (by simp only [List.length]; omega))) aa_nil)) (of_df (by decide) (by decide))) aa_nil) (by decide) (mem1 self_le mem0))) (by omega)
  · refine as_seq (A1 := [some .box, some (.dat (Iz (some 1) (some 100000000000000000000000000000000000000000000000000000000000))), some (.dat (Iz (some 5) (some 5))), some (.own (Iz (some 1) (some 2400000000000000000000000000000000000000000000000000000000000)) 1 5), none, none]) (k1 := 9) (k2 := 0) ?_ ?_
    · refine as_up (k := 1 + 4 * 2) (as_for (kb := 2) (lo := 0) (hi := 4) (I := fun j1 => [some .box, some (.dat (Iz (some 1) (some 100000000000000000000000000000000000000000000000000000000000))), some (.dat (Iz (some 5) (some 5))), some (.own (Iz (some 1) (some (800000000000000000000000000000000000000000000000000000000000 + ((j1 : Nat) : Int) * 400000000000000000000000000000000000000000000000000000000000))) 1 (1 + j1 * 1)), none, none]) (J := fun j1 => [some .box, some (.dat (Iz (some 1) (some 100000000000000000000000000000000000000000000000000000000000))), some (.dat (Iz (some 5) (some 5))), some (.own (Iz (some 1) (some (800000000000000000000000000000000000000000000000000000000000 + ((j1 : Nat) : Int) * 400000000000000000000000000000000000000000000000000000000000))) 1 (1 + j1 * 1)), some (.dat (Iz (some 0) (some 3))), none]) (A1 := [some .box, some (.dat (Iz (some 1) (some 100000000000000000000000000000000000000000000000000000000000))), some (.dat (Iz (some 5) (some 5))), some (.own (Iz (some 1) (some 2400000000000000000000000000000000000000000000000000000000000)) 1 5), none, none]) (it_up (it_range1 (l := 0) (h := 4) (ae_df (as := [(Iz (some 5) (some 5))]) (r := (Iz (some 0) (some 4))) (k1 := 1) (n := 2) (aa_cons (ae_box rfl) (aa_cons (ae_var (a := (Iz (some 5) (some 5))) rfl) aa_nil)) (take_df (l := 5) (h := 5) (h' := 4) (by decide) (by decide) rfl)) (by decide) (by decide) rfl rfl) (by omega)) (.cons awle_box (.cons (awle_dat self_le) (.cons (awle_dat self_le) (.cons (awle_ow (iz_le rfl rfl) (by omega) (by omega)) (.cons awle_none (.cons awle_none .nil)))))) (fun j1 hj1 => ag_name) (fun j1 hj1 => ?_) (fun j1 _ hj1 => (.cons awle_box (.cons (awle_dat self_le) (.cons (awle_dat self_le) (.cons (awle_ow (iz_leG (fun i z => by simp only [LoB] at *; omega) (fun i z => by simp only [HiB] at *; omega)) (by omega) (by omega)) (.cons awle_none (.cons awle_none .nil)))))))) (by omega)
      show ASt _ [some .box, some (.dat (Iz (some 1) (some 100000000000000000000000000000000000000000000000000000000000))), some (.dat (Iz (some 5) (some 5))), some (.own (Iz (some 1) (some (800000000000000000000000000000000000000000000000000000000000 + ((j1 : Nat) : Int) * 400000000000000000000000000000000000000000000000000000000000))) 1 (1 + j1 * 1)), some (.dat (Iz (some 0) (some 3))), none] _ (some [some .box, some (.dat (Iz (some 1) (some 100000000000000000000000000000000000000000000000000000000000))), some (.dat (Iz (some 5) (some 5))), some (.own (Iz (some 1) (some (800000000000000000000000000000000000000000000000000000000000 + (((j1 + 1) : Nat) : Int) * 400000000000000000000000000000000000000000000000000000000000))) 1 (1 + (j1 + 1) * 1)), none, none]) _
      refine as_post (A1 := [some .box, some (.dat (Iz (some 1) (some 100000000000000000000000000000000000000000000000000000000000))), some (.dat (Iz (some 5) (some 5))), some (.own (Iz (some 1) (some (1200000000000000000000000000000000000000000000000000000000000 + ((j1 : Nat) : Int) * 400000000000000000000000000000000000000000000000000000000000))) 2 (2 + j1 * 1)), some (.dat (Iz (some 0) (some 3))), some (.dat (Iz (some 1) (some 400000000000000000000000000000000000000000000000000000000000)))]) ?_ (.cons awle_box (.cons (awle_dat self_le) (.cons (awle_dat self_le) (.cons (awle_ow (iz_leG (fun i z => by simp only [LoB] at *; omega) (fun i z => by simp only [HiB] at *; omega)) (by omega) (by omega)) (.cons awle_none (.cons awle_none .nil))))))
      refine as_seq (A1 := [some .box, some (.dat (Iz (some 1) (some 100000000000000000000000000000000000000000000000000000000000))), some (.dat (Iz (some 5) (some 5))), some (.own (Iz (some 1) (some (800000000000000000000000000000000000000000000000000000000000 + ((j1 : Nat) : Int) * 400000000000000000000000000000000000000000000000000000000000))) 1 (1 + j1 * 1)), some (.dat (Iz (some 0) (some 3))), some (.dat (Iz (some 1) (some 400000000000000000000000000000000000000000000000000000000000)))]) (k1 := 2) (k2 := 0) ?_ ?_
      · exact as_up (as_set (a := (Iz (some 1) (some 400000000000000000000000000000000000000000000000000000000000))) (ae_df (as := [(Ls (Iz (some 1) (some 400000000000000000000000000000000000000000000000000000000000)) 7 7)]) (r := (Iz (some 1) (some 400000000000000000000000000000000000000000000000000000000000))) (k1 := 1) (n := 2) (aa_cons (ae_box rfl) (aa_cons (ae_le (ae_lst (as := [(Iz (some 1) (some 1)), (Iz (some 1) (some 99999999999999999999999999999999999999999999999999999999999)), (Iz (some 1) (some 100000000000000000000000000000000000000000000000000000000000)), (Iz (some 2) (some 100000000000000000000000000000000000000000000000000000000001)), (Iz (some 2) (some 200000000000000000000000000000000000000000000000000000000000)), (Iz (some 3) (some 200000000000000000000000000000000000000000000000000000000001)), (Iz (some 1) (some 400000000000000000000000000000000000000000000000000000000000))]) (aa_cons (ae_c (iz_c 1)) (aa_cons (ae_call (as := [(Iz (some 1) (some 1)), (Iz (some 0) (some 99999999999999999999999999999999999999999999999999999999999))]) (r := (Iz (some 1) (some 99999999999999999999999999999999999999999999999999999999999))) (aa_cons (ae_val (ae_c (iz_c 1))) (aa_cons (ae_val (ae_2 (a := (Iz (some 1) (some 100000000000000000000000000000000000000000000000000000000000))) (b := (Iz (some 1) (some 1))) (r := (Iz (some 0) (some 99999999999999999999999999999999999999999999999999999999999))) (ae_val (ae_var (a := (Iz (some 1) (some 100000000000000000000000000000000000000000000000000000000000))) rfl)) (ae_val (ae_c (iz_c 1))) (tr_sub (l := (some 0)) (h := (some 99999999999999999999999999999999999999999999999999999999999)) rfl rfl))) aa_nil)) (tr_max rfl rfl)) (aa_cons (ae_var (a := (Iz (some 1) (some 100000000000000000000000000000000000000000000000000000000000))) rfl) (aa_cons (ae_2s (a := (Iz (some 1) (some 100000000000000000000000000000000000000000000000000000000000))) (b := (Iz (some 1) (some 1))) (r := (Iz (some 2) (some 100000000000000000000000000000000000000000000000000000000001))) (ae_val (ae_var (a := (Iz (some 1) (some 100000000000000000000000000000000000000000000000000000000000))) rfl)) (ae_val (ae_c (iz_c 1))) (tr_add (l := (some 2)) (h := (some 100000000000000000000000000000000000000000000000000000000001)) rfl rfl)) (aa_cons (ae_2s (a := (Iz (some 2) (some 2))) (b := (Iz (some 1) (some 100000000000000000000000000000000000000000000000000000000000))) (r := (Iz (some 2) (some 200000000000000000000000000000000000000000000000000000000000))) (ae_val (ae_c (iz_c 2))) (ae_val (ae_var (a := (Iz (some 1) (some 100000000000000000000000000000000000000000000000000000000000))) rfl)) (tr_mulL (l := (some 2)) (h := (some 200000000000000000000000000000000000000000000000000000000000)) (by decide) (by decide) (by decide) rfl rfl)) (aa_cons (ae_2s (a := (Iz (some 2) (some 200000000000000000000000000000000000000000000000000000000000))) (b := (Iz (some 1) (some 1))) (r := (Iz (some 3) (some 200000000000000000000000000000000000000000000000000000000001))) (ae_val (ae_2s (a := (Iz (some 2) (some 2))) (b := (Iz (some 1) (some 100000000000000000000000000000000000000000000000000000000000))) (r := (Iz (some 2) (some 200000000000000000000000000000000000000000000000000000000000))) (ae_val (ae_c (iz_c 2))) (ae_val (ae_var (a := (Iz (some 1) (some 100000000000000000000000000000000000000000000000000000000000))) rfl)) (tr_mulL (l := (some 2)) (h := (some 200000000000000000000000000000000000000000000000000000000000)) (by decide) (by decide) (by decide) rfl rfl))) (ae_val (ae_c (iz_c 1))) (tr_add (l := (some 3)) (h := (some 200000000000000000000000000000000000000000000000000000000001)) rfl rfl)) (aa_cons (ae_2s (a := (Iz (some 1) (some 1))) (b := (Iz (some 0) (some 399999999999999999999999999999999999999999999999999999999999))) (r := (Iz (some 1) (some 400000000000000000000000000000000000000000000000000000000000))) (ae_val (ae_c (iz_c 1))) (ae_val (ae_df (as := [(Iz (some 4) (some 400000000000000000000000000000000000000000000000000000000000))]) (r := (Iz (some 0) (some 399999999999999999999999999999999999999999999999999999999999))) (k1 := 1) (n := 2) (aa_cons (ae_box rfl) (aa_cons (ae_2s (a := (Iz (some 4) (some 4))) (b := (Iz (some 1) (some 100000000000000000000000000000000000000000000000000000000000))) (r := (Iz (some 4) (some 400000000000000000000000000000000000000000000000000000000000))) (ae_val (ae_c (iz_c 4))) (ae_val (ae_var (a := (Iz (some 1) (some 100000000000000000000000000000000000000000000000000000000000))) rfl)) (tr_mulL (l := (some 4)) (h := (some 400000000000000000000000000000000000000000000000000000000000)) (by decide) (by decide) (by decide) rfl rfl)) aa_nil)) (take_df (l := 4) (h := 400000000000000000000000000000000000000000000000000000000000) (h' := 399999999999999999999999999999999999999999999999999999999999) (by decide) (by decide) rfl))) (tr_add (l := (some 1)) (h := (some 400000000000000000000000000000000000000000000000000000000000)) rfl rfl)) aa_nil))))))) (by decide)) (lsof_ls (mem1 (iz_le rfl rfl) (mem1 (iz_le rfl rfl) (mem1 (iz_le rfl rfl) (mem1 (iz_le rfl rfl) (mem1 (iz_le rfl rfl) (mem1 (iz_le rfl rfl) (mem1 self_le mem0))))))) (by simp only [List.length]; omega) (by simp only [List.length]; omega))) aa_nil)) (of_df (by decide) (by decide)))) (by omega)
      · refine as_post (A1 := [some .box, some (.dat (Iz (some 1) (some 100000000000000000000000000000000000000000000000000000000000))), some (.dat (Iz (some 5) (some 5))), some (.own (Iz (some 1) (some (1200000000000000000000000000000000000000000000000000000000000 + ((j1 : Nat) : Int) * 400000000000000000000000000000000000000000000000000000000000))) (1 + 1) ((1 + j1 * 1) + 1)), some (.dat (Iz (some 0) (some 3))), some (.dat (Iz (some 1) (some 400000000000000000000000000000000000000000000000000000000000)))]) ?_ (.cons awle_box (.cons (awle_dat self_le) (.cons (awle_dat self_le) (.cons (awle_ow (iz_leG (fun i z => by simp only [LoB] at *; omega) (fun i z => by simp only [HiB] at *; omega)) (by omega) (by omega)) (.cons (awle_dat self_le) (.cons (awle_dat self_le) .nil))))))
        exact as_up (as_append (e' := (Iz (some 1) (some (1200000000000000000000000000000000000000000000000000000000000 + ((j1 : Nat) : Int) * 400000000000000000000000000000000000000000000000000000000000)))) (e := (Iz (some 1) (some (800000000000000000000000000000000000000000000000000000000000 + ((j1 : Nat) : Int) * 400000000000000000000000000000000000000000000000000000000000)))) (lo := 1) (hi := (1 + j1 * 1)) (a := (Iz (some 2) (some (1200000000000000000000000000000000000000000000000000000000000 + ((j1 : Nat) : Int) * 400000000000000000000000000000000000000000000000000000000000)))) rfl (ae_2s (a := (Iz (some 1) (some (800000000000000000000000000000000000000000000000000000000000 + ((j1 : Nat) : Int) * 400000000000000000000000000000000000000000000000000000000000)))) (b := (Iz (some 1) (some 400000000000000000000000000000000000000000000000000000000000))) (r := (Iz (some 2) (some (1200000000000000000000000000000000000000000000000000000000000 + ((j1 : Nat) : Int) * 400000000000000000000000000000000000000000000000000000000000)))) (ae_val (ae_2 (a := (Ls (Iz (some 1) (some (800000000000000000000000000000000000000000000000000000000000 + ((j1 : Nat) : Int) * 400000000000000000000000000000000000000000000000000000000000))) 1 (1 + j1 * 1))) (b := (Iz (some (-1)) (some (-1)))) (r := (Iz (some 1) (some (800000000000000000000000000000000000000000000000000000000000 + ((j1 : Nat) : Int) * 400000000000000000000000000000000000000000000000000000000000)))) (ae_own (a := (Ls (Iz (some 1) (some (800000000000000000000000000000000000000000000000000000000000 + ((j1 : Nat) : Int) * 400000000000000000000000000000000000000000000000000000000000))) 1 (1 + j1 * 1))) (e := (Iz (some 1) (some (800000000000000000000000000000000000000000000000000000000000 + ((j1 : Nat) : Int) * 400000000000000000000000000000000000000000000000000000000000)))) (lo := 1) (hi := (1 + j1 * 1)) rfl (fun xs h => ⟨xs, rfl, h⟩)) (ae_val (ae_1 (r := (Iz (some (-1)) (some (-1)))) (ae_val (ae_c (iz_c 1))) (tr_neg rfl rfl))) (tr_ixL (by omega) (by omega)))) (ae_val (ae_var (a := (Iz (some 1) (some 400000000000000000000000000000000000000000000000000000000000))) rfl)) (tr_add (l := (some 2)) (h := (some (1200000000000000000000000000000000000000000000000000000000000 + ((j1 : Nat) : Int) * 400000000000000000000000000000000000000000000000000000000000))) rfl (congrArg some (by omega)))) (iz_leG (fun i z => by simp only [LoB] at *; omega) (fun i z => by simp only [HiB] at *; omega)) (iz_leG (fun i z => by simp only [LoB] at *; omega) (fun i z => by simp only [HiB] at *; omega)) (by simp only [lim]; omega)) (by omega)
    · exact as_up (as_ret (ae_lev (b := (Ls (Iz (some 1) (some 2400000000000000000000000000000000000000000000000000000000000)) 1 5)) (ae_own (a := (Ls (Iz (some 1) (some 2400000000000000000000000000000000000000000000000000000000000)) 1 5)) (e := (Iz (some 1) (some 2400000000000000000000000000000000000000000000000000000000000))) (lo := 1) (hi := 5) rfl (fun xs h => ⟨xs, rfl, h⟩)) self_le) rfl) (by omega)
theorem ai_law_way_0 : DF f__law_way [(Iz (some 1) (some 100000000000000000000000000000000000000000000000000000000000)), (Iz (some 5) (some 5))] (Tp (Iz (some 1) (some 3000000000000000000000000000000000000000000000000000000000000)) 0 7) 17 := by
  show DF (defS 6 b__law_way) _ _ _
  refine df_of (N := none) (n0 := 3) ?_ rfl rfl
  show ASt b__law_way [some .box, some (.dat (Iz (some 1) (some 100000000000000000000000000000000000000000000000000000000000))), some (.dat (Iz (some 5) (some 5))), none, none, none] 17 none { R := some (.val (Tp (Iz (some 1) (some 3000000000000000000000000000000000000000000000000000000000000)) 0 7)) }
  unfold b__law_way
  refine as_seq (A1 := [some .box, some (.dat (Iz (some 1) (some 100000000000000000000000000000000000000000000000000000000000))), some (.dat (Iz (some 5) (some 5))), none, none, none]) (k1 := 1) (k2 := 16) ?_ ?_
  · refine as_if (q := anyB) (k := 1) (k1 := 0) (ab_up (ab_b (q := anyB) (ae_2 (a := (Iz (some 0) (some 15))) (b := (Iz (some 0) (some 0))) (r := Bl) (ae_val (ae_df (as := [(Iz (some 16) (some 16))]) (r := (Iz (some 0) (some 15))) (k1 := 1) (n := 2) (aa_cons (ae_box rfl) (aa_cons (ae_c (iz_c 16)) aa_nil)) (take_df (l := 16) (h := 16) (h' := 15) (by decide) (by decide) rfl))) (ae_val (ae_c (iz_c 0))) (tr_eq sd_iz sd_iz (by decide) (by decide)))) (by omega)) (fun _ => ?_) (fun _ => ?_)
    · refine as_no ?_
      exact as_up (as_ret (ae_lev (b := (Tp (Iz (some 1) (some 3000000000000000000000000000000000000000000000000000000000000)) 0 7)) (ae_val (ae_tup (as := []) aa_nil (by decide))) (tpof_tp mem0 (by simp only [List.length]; omega) (by simp only [List.length]; omega))) rfl) (by omega)
    · exact as_skip
  · refine as_seq (A1 := [some .box, some (.dat (Iz (some 1) (some 100000000000000000000000000000000000000000000000000000000000))), some (.dat (Iz (some 5) (some 5))), some (.own (Iz (some 1) (some 2400000000000000000000000000000000000000000000000000000000000)) 1 5), none, none]) (k1 := 11) (k2 := 5) ?_ ?_
    · exact as_up (as_setO (e := (Iz (some 1) (some 2400000000000000000000000000000000000000000000000000000000000))) (lo := 1) (hi := 5) (ao_rev (ae_val (ae_df (as := [(Iz (some 1) (some 100000000000000000000000000000000000000000000000000000000000)), (Iz (some 5) (some 5))]) (r := (Ls (Iz (some 1) (some 2400000000000000000000000000000000000000000000000000000000000)) 1 5)) (k1 := 11) (n := 3) (aa_cons (ae_box rfl) (aa_cons (ae_var (a := (Iz (some 1) (some 100000000000000000000000000000000000000000000000000000000000))) rfl) (aa_cons (ae_var (a := (Iz (some 5) (some 5))) rfl) aa_nil))) ai_law_rising_0)))) (by omega)
    · refine as_seq (A1 := [some .box, some (.dat (Iz (some 1) (some 100000000000000000000000000000000000000000000000000000000000))), some (.dat (Iz (some 5) (some 5))), some (.own (Iz (some 1) (some 3000000000000000000000000000000000000000000000000000000000000)) 1 7), none, none]) (k1 := 5) (k2 := 0) ?_ ?_
      · refine as_up (k := 1 + 2 * 2) (as_for (kb := 2) (lo := 0) (hi := 2) (I := fun j3 => [some .box, some (.dat (Iz (some 1) (some 100000000000000000000000000000000000000000000000000000000000))), some (.dat (Iz (some 5) (some 5))), some (.own (Iz (some 1) (some (2600000000000000000000000000000000000000000000000000000000000 + ((j3 : Nat) : Int) * 200000000000000000000000000000000000000000000000000000000000))) 1 (5 + j3 * 1)), none, none]) (J := fun j3 => [some .box, some (.dat (Iz (some 1) (some 100000000000000000000000000000000000000000000000000000000000))), some (.dat (Iz (some 5) (some 5))), some (.own (Iz (some 1) (some (2600000000000000000000000000000000000000000000000000000000000 + ((j3 : Nat) : Int) * 200000000000000000000000000000000000000000000000000000000000))) 1 (5 + j3 * 1)), some (.dat (Iz (some 0) (some 1))), none]) (A1 := [some .box, some (.dat (Iz (some 1) (some 100000000000000000000000000000000000000000000000000000000000))), some (.dat (Iz (some 5) (some 5))), some (.own (Iz (some 1) (some 3000000000000000000000000000000000000000000000000000000000000)) 1 7), none, none]) (it_up (it_range1 (l := 0) (h := 2) (ae_df (as := [(Iz (some 3) (some 3))]) (r := (Iz (some 0) (some 2))) (k1 := 1) (n := 2) (aa_cons (ae_box rfl) (aa_cons (ae_c (iz_c 3)) aa_nil)) (take_df (l := 3) (h := 3) (h' := 2) (by decide) (by decide) rfl)) (by decide) (by decide) rfl rfl) (by omega)) (.cons awle_box (.cons (awle_dat self_le) (.cons (awle_dat self_le) (.cons (awle_ow (iz_le rfl rfl) (by omega) (by omega)) (.cons awle_none (.cons awle_none .nil)))))) (fun j3 hj3 => ag_name) (fun j3 hj3 => ?_) (fun j3 _ hj3 => (.cons awle_box (.cons (awle_dat self_le) (.cons (awle_dat self_le) (.cons (awle_ow (iz_leG (fun i z => by simp only [LoB] at *; omega) (fun i z => by simp only [HiB] at *; omega)) (by omega) (by omega)) (.cons awle_none (.cons awle_none .nil)))))))) (by omega)
        show ASt _ [some .box, some (.dat (Iz (some 1) (some 100000000000000000000000000000000000000000000000000000000000))), some (.dat (Iz (some 5) (some 5))), some (.own (Iz (some 1) (some (2600000000000000000000000000000000000000000000000000000000000 + ((j3 : Nat) : Int) * 200000000000000000000000000000000000000000000000000000000000))) 1 (5 + j3 * 1)), some (.dat (Iz (some 0) (some 1))), none] _ (some [some .box, some (.dat (Iz (some 1) (some 100000000000000000000000000000000000000000000000000000000000))), some (.dat (Iz (some 5) (some 5))), some (.own (Iz (some 1) (some (2600000000000000000000000000000000000000000000000000000000000 + (((j3 + 1) : Nat) : Int) * 200000000000000000000000000000000000000000000000000000000000))) 1 (5 + (j3 + 1) * 1)), none, none]) _
        refine as_post (A1 := [some .box, some (.dat (Iz (some 1) (some 100000000000000000000000000000000000000000000000000000000000))), some (.dat (Iz (some 5) (some 5))), some (.own (Iz (some 1) (some (2800000000000000000000000000000000000000000000000000000000000 + ((j3 : Nat) : Int) * 200000000000000000000000000000000000000000000000000000000000))) 2 (6 + j3 * 1)), some (.dat (Iz (some 0) (some 1))), some (.dat (Iz (some 1) (some 7)))]) ?_ (.cons awle_box (.cons (awle_dat self_le) (.cons (awle_dat self_le) (.cons (awle_ow (iz_leG (fun i z => by simp only [LoB] at *; omega) (fun i z => by simp only [HiB] at *; omega)) (by omega) (by omega)) (.cons awle_none (.cons awle_none .nil))))))
        refine as_seq (A1 := [some .box, some (.dat (Iz (some 1) (some 100000000000000000000000000000000000000000000000000000000000))), some (.dat (Iz (some 5) (some 5))), some (.own (Iz (some 1) (some (2600000000000000000000000000000000000000000000000000000000000 + ((j3 : Nat) : Int) * 200000000000000000000000000000000000000000000000000000000000))) 1 (5 + j3 * 1)), some (.dat (Iz (some 0) (some 1))), some (.dat (Iz (some 1) (some 7)))]) (k1 := 1) (k2 := 1) ?_ ?_
        · exact as_up (as_set (a := (Iz (some 1) (some 7))) (ae_2s (a := (Iz (some 1) (some 1))) (b := (Iz (some 0) (some 6))) (r := (Iz (some 1) (some 7))) (ae_val (ae_c (iz_c 1))) (ae_val (ae_df (as := [(Iz (some 1) (some 7))]) (r := (Iz (some 0) (some 6))) (k1 := 1) (n := 2) (aa_cons (ae_box rfl) (aa_cons (ae_call (as := [(Ls (Iz (some 1) (some (2600000000000000000000000000000000000000000000000000000000000 + ((j3 : Nat) : Int) * 200000000000000000000000000000000000000000000000000000000000))) 1 7)]) (r := (Iz (some 1) (some 7))) (aa_cons (ae_lev (ae_own (a := (Ls (Iz (some 1) (some (2600000000000000000000000000000000000000000000000000000000000 + ((j3 : Nat) : Int) * 200000000000000000000000000000000000000000000000000000000000))) 1 (5 + j3 * 1))) (e := (Iz (some 1) (some (2600000000000000000000000000000000000000000000000000000000000 + ((j3 : Nat) : Int) * 200000000000000000000000000000000000000000000000000000000000)))) (lo := 1) (hi := (5 + j3 * 1)) rfl (fun xs h => ⟨xs, rfl, h⟩)) (ls_le (iz_leG (fun i z => by simp only [LoB] at *; omega) (fun i z => by simp only [HiB] at *; omega)) (by omega) (by omega))) aa_nil) tr_lenL) aa_nil)) (take_df (l := 1) (h := 7) (h' := 6) (by decide) (by decide) rfl))) (tr_add (l := (some 1)) (h := (some 7)) rfl rfl))) (by omega)
        · refine as_post (A1 := [some .box, some (.dat (Iz (some 1) (some 100000000000000000000000000000000000000000000000000000000000))), some (.dat (Iz (some 5) (some 5))), some (.own (Iz (some 1) (some (2800000000000000000000000000000000000000000000000000000000000 + ((j3 : Nat) : Int) * 200000000000000000000000000000000000000000000000000000000000))) (1 + 1) ((5 + j3 * 1) + 1)), some (.dat (Iz (some 0) (some 1))), some (.dat (Iz (some 1) (some 7)))]) ?_ (.cons awle_box (.cons (awle_dat self_le) (.cons (awle_dat self_le) (.cons (awle_ow (iz_leG (fun i z => by simp only [LoB] at *; omega) (fun i z => by simp only [HiB] at *; omega)) (by omega) (by omega)) (.cons (awle_dat self_le) (.cons (awle_dat self_le) .nil))))))
          exact as_up (as_ins (e' := (Iz (some 1) (some (2800000000000000000000000000000000000000000000000000000000000 + ((j3 : Nat) : Int) * 200000000000000000000000000000000000000000000000000000000000)))) (e := (Iz (some 1) (some (2600000000000000000000000000000000000000000000000000000000000 + ((j3 : Nat) : Int) * 200000000000000000000000000000000000000000000000000000000000)))) (lo := 1) (hi := (5 + j3 * 1)) (l := 1) (h := 7) (a := (Iz (some 1) (some (2800000000000000000000000000000000000000000000000000000000000 + ((j3 : Nat) : Int) * 200000000000000000000000000000000000000000000000000000000000)))) rfl (ae_var (a := (Iz (some 1) (some 7))) rfl) (ae_2s (a := (Iz (some 1) (some (2600000000000000000000000000000000000000000000000000000000000 + ((j3 : Nat) : Int) * 200000000000000000000000000000000000000000000000000000000000)))) (b := (Iz (some 0) (some 200000000000000000000000000000000000000000000000000000000000))) (r := (Iz (some 1) (some (2800000000000000000000000000000000000000000000000000000000000 + ((j3 : Nat) : Int) * 200000000000000000000000000000000000000000000000000000000000)))) (ae_val (ae_call (as := [(Ls (Iz (some 1) (some (2600000000000000000000000000000000000000000000000000000000000 + ((j3 : Nat) : Int) * 200000000000000000000000000000000000000000000000000000000000))) 1 (5 + j3 * 1))]) (r := (Iz (some 1) (some (2600000000000000000000000000000000000000000000000000000000000 + ((j3 : Nat) : Int) * 200000000000000000000000000000000000000000000000000000000000)))) (aa_cons (ae_val (ae_le (b := (Ls (Iz (some 1) (some (2600000000000000000000000000000000000000000000000000000000000 + ((j3 : Nat) : Int) * 200000000000000000000000000000000000000000000000000000000000))) 1 (5 + j3 * 1))) (ae_sl (ae_own (a := (Ls (Iz (some 1) (some (2600000000000000000000000000000000000000000000000000000000000 + ((j3 : Nat) : Int) * 200000000000000000000000000000000000000000000000000000000000))) 1 (5 + j3 * 1))) (e := (Iz (some 1) (some (2600000000000000000000000000000000000000000000000000000000000 + ((j3 : Nat) : Int) * 200000000000000000000000000000000000000000000000000000000000)))) (lo := 1) (hi := (5 + j3 * 1)) rfl (fun xs h => ⟨xs, rfl, h⟩)) op_none (op_some (ae_var (a := (Iz (some 1) (some 7))) rfl)) (slToL (n := 1))) (ls_le self_le (by omega) (by omega)))) aa_nil) (tr_minL (by omega)))) (ae_val (ae_df (as := [(Iz (some 3) (some 200000000000000000000000000000000000000000000000000000000001))]) (r := (Iz (some 0) (some 200000000000000000000000000000000000000000000000000000000000))) (k1 := 1) (n := 2) (aa_cons (ae_box rfl) (aa_cons (ae_2s (a := (Iz (some 2) (some 200000000000000000000000000000000000000000000000000000000000))) (b := (Iz (some 1) (some 1))) (r := (Iz (some 3) (some 200000000000000000000000000000000000000000000000000000000001))) (ae_val (ae_2s (a := (Iz (some 2) (some 2))) (b := (Iz (some 1) (some 100000000000000000000000000000000000000000000000000000000000))) (r := (Iz (some 2) (some 200000000000000000000000000000000000000000000000000000000000))) (ae_val (ae_c (iz_c 2))) (ae_val (ae_var (a := (Iz (some 1) (some 100000000000000000000000000000000000000000000000000000000000))) rfl)) (tr_mulL (l := (some 2)) (h := (some 200000000000000000000000000000000000000000000000000000000000)) (by decide) (by decide) (by decide) rfl rfl))) (ae_val (ae_c (iz_c 1))) (tr_add (l := (some 3)) (h := (some 200000000000000000000000000000000000000000000000000000000001)) rfl rfl)) aa_nil)) (take_df (l := 3) (h := 200000000000000000000000000000000000000000000000000000000001) (h' := 200000000000000000000000000000000000000000000000000000000000) (by decide) (by decide) rfl))) (tr_add (l := (some 1)) (h := (some (2800000000000000000000000000000000000000000000000000000000000 + ((j3 : Nat) : Int) * 200000000000000000000000000000000000000000000000000000000000))) rfl (congrArg some (by omega)))) (by decide) (by decide) (iz_leG (fun i z => by simp only [LoB] at *; omega) (fun i z => by simp only [HiB] at *; omega)) (iz_leG (fun i z => by simp only [LoB] at *; omega) (fun i z => by simp only [HiB] at *; omega)) (by simp only [lim]; omega)) (by omega)
      · exact as_up (as_ret (ae_lev (b := (Tp (Iz (some 1) (some 3000000000000000000000000000000000000000000000000000000000000)) 0 7)) (ae_val (ae_call (as := [(Ls (Iz (some 1) (some 3000000000000000000000000000000000000000000000000000000000000)) 1 7)]) (r := (Tp (Iz (some 1) (some 3000000000000000000000000000000000000000000000000000000000000)) 1 7)) (aa_cons (ae_own (a := (Ls (Iz (some 1) (some 3000000000000000000000000000000000000000000000000000000000000)) 1 7)) (e := (Iz (some 1) (some 3000000000000000000000000000000000000000000000000000000000000))) (lo := 1) (hi := 7) rfl (fun xs h => ⟨xs, rfl, h⟩)) aa_nil) tr_tupL)) (tp_le self_le (by omega) (by omega))) rfl) (by omega)
end My

set_option Elab.async false
set_option linter.all false
set_option maxRecDepth 100000
set_option maxHeartbeats 4000000
namespace My
open PySem PySem.Spec PyProof.Rows L2 Cm
/-! what the law draws, and what it asks -/
theorem row_ofB {lo hi : Nat} {M : Int} {x : PyData} (h : Tp (Iz (some 1) (some M)) lo hi x) : ∃ row : List Int, x = .tuple (iL row) ∧ row.length ≤ hi ∧ ∀ n ∈ row, 1 ≤ n ∧ n ≤ M := by
  obtain ⟨xs, rfl, hc⟩ := h
  obtain ⟨ns, rfl, q⟩ := cont_ints (lo := lo) (hi := hi) hc.2.2
  have c2 := hc.2.1
  rw [List.length_map] at c2
  exact ⟨ns, rfl, c2, fun n hn => q n hn⟩
theorem same_bool (d : Nat) (b : Bool) : SameOk (d + 1) (.bool b) := by
  unfold SameOk
  apply pure_lift
  intro st
  cases b <;> simp [f__law_same, defS_ap, b__law_same, known, isaT, isNone]
theorem same_bools {xs : List Bool} (hl : xs.length ≤ 100) : SameOk 16 (.list (xs.map .bool)) := same_seq 15 (.inr rfl) (fun z hz => by
  obtain ⟨b, _, rfl⟩ := List.mem_map.mp hz
  exact same_bool 14 b) (by rw [List.length_map]; omega)
abbrev OkT (y : PyData) : Prop := Th 8 30000 y
theorem look : ∀ (ys : List PyData) (t5 t6 t7 : Option U), (∀ y ∈ ys, OkT y) → ∃ t5' t6' t7', ∀ (e0 e1 e2 e3 e4 : Option U) (st : Sto), forL (g := (gN 5)) (b := (cSeq (cParN [6, 7] (cCons (cCall fRepr (cCons (cVar 5) cNil)) (cCons (cDef 1 f__law_is_fine (cCons (cVar 5) cNil)) cNil))) (cIfS (bOr (bNot (cTr (cDef 2 (f__law_same 16) (cCons (cLst (cCons (cDef 1 f_is_offers (cCons (cVar 5) cNil)) (cCons (cDefK 1 0 1 [0] f_is_offers cNil (cCons (cVar 5) cNil)) cNil))) (cCons (cLst (cCons (cVar 7) (cCons (cVar 7) cNil))) cNil))))) (cB (cD2 fNeS (cCall fRepr (cCons (cVar 5) cNil)) (cVar 6)))) (cRet (cD (.bool false))) cSkip))) ys
      [e0, e1, e2, e3, e4, t5, t6, t7] (ex st []) = some (.nx [e0, e1, e2, e3, e4, t5', t6', t7'] (ex st []))
  | [], t5, t6, t7, _ => ⟨t5, t6, t7, fun _ _ _ _ _ _ => rfl⟩
  | y :: ys, t5, t6, t7, h => by
    have hy := h y List.mem_cons_self
    have k1 := fine_spec hy (by omega) (by omega)
    have k2 := offers_spec hy (by omega)
    have fr : fRepr [y] = some (.str y.shown) := by
      show (if reprOk y = true then some (PyData.str y.shown) else none) = _
      rw [if_pos (Th.ok hy (by omega) (by omega))]
    have fs : fNeS (.str y.shown) (.str y.shown) = some (.bool false) := by simp [fNeS]
    have sm := same_bools (xs := [offB y, offB y]) (by simp)
    simp only [List.map_cons, List.map_nil] at sm
    unfold SameOk at sm
    obtain ⟨t5', t6', t7', ih⟩ := look ys (some (.d y)) (some (.d (.str y.shown))) (some (.d (.bool (offB y)))) fun z hz => h z (List.mem_cons_of_mem _ hz)
    refine ⟨t5', t6', t7', fun e0 e1 e2 e3 e4 st => ?_⟩
    rw [← ih e0 e1 e2 e3 e4 st]
    clear ih
    have st1 : ∀ {g : GT} {b : SS} {x : PyData} {xs : List PyData} {ev ev1 ev2 : Ev} {st st2 : Sto}, g x ev = some ev1 → b ev1 st = some (.nx ev2 st2) → forL g b (x :: xs) ev st = forL g b xs ev2 st2 := fun hg hb => by simp only [forL, hg, hb, Option.bind_some]
    apply st1 (ev1 := [e0, e1, e2, e3, e4, some (.d y), t6, t7]) rfl
    generalize y.shown = SH at *
    generalize offB y = AB at *
    simp -implicitDefEqProofs [k1, k2, fr, fs, sm, pick]
theorem th_deals {ms : List (Int × Int)} (hl : ms.length ≤ 8) (h : ∀ p ∈ ms, Of1 p) : Th 2 1700 (.tuple (ms.map Cm.pairD)) := by
  refine (th_of (.inl rfl) (tha_all (d := 1) (n := 209) (m := 8) (fun y hy => ?_) (by rw [List.length_map]; exact hl))).mono (by omega) (by omega)
  obtain ⟨p, hp, rfl⟩ := List.mem_map.mp hy
  obtain ⟨p1, p2, p3, p4⟩ := h p hp
  exact (th_of (.inl rfl) (tha_cons (th_int (i := p.1) (by omega)) (tha_cons (th_int (i := p.2) (by omega)) tha_nil))).mono (by omega) (by omega)
theorem right_spec {m : Nat} {B : Bx} (h : BxOk m B) (hm : m < 50000000000) : Dr f__law_right [] m 10000 B (· = .bool true) := by
  obtain ⟨_, B1, ⟨L, rfl, l1, l2⟩, h1, e1⟩ := ai_law_low_0 [] m B .nil h (by simp only [Mx]; omega)
  simp only [LoB, HiB] at l1 l2
  obtain ⟨_, B2, q2, h2, e2⟩ := ai_law_way_0 [.int L, .int 5] (m + 4) B1 (.cons ⟨L, rfl, l1, l2⟩ (.cons ⟨5, rfl, by simp [LoB], by simp [HiB]⟩ .nil)) h1 (by simp only [Mx]; omega)
  obtain ⟨w, rfl, w1, w2⟩ := row_ofB q2
  have w3 : ∀ n ∈ w, 1 ≤ n ∧ n ≤ 10 ^ 61 := fun n hn => by have := w2 n hn; omega
  obtain ⟨_, B3, ⟨ms, rfl, d1, d2⟩, h3, e3⟩ := deals_dr (row := w) h2 (by omega) l1 (by omega) w1 w3
  have hb := th_deals d1 d2
  generalize ms.map Cm.pairD = MM at *
  obtain ⟨⟨B4, t3, t4, t5, t6, t7⟩, h4, f4⟩ := forL_abs (T := Pos) (S := Bx × Option U × Option U × Option U × Option U × Option U) (g := (gN 3)) (b := (cSeq (cSet 4 (cDef 2 f__law_bent (cCons (cVar 0) (cCons (cVar 2) cNil)))) (cFor (iSeq (cTup (cCons (cVar 2) (cCons (cVar 4) (cCons (cDef 2 f__law_bent (cCons (cVar 0) (cCons (cVar 4) cNil))) cNil))))) (gN 5) (cSeq (cParN [6, 7] (cCons (cCall fRepr (cCons (cVar 5) cNil)) (cCons (cDef 1 f__law_is_fine (cCons (cVar 5) cNil)) cNil))) (cIfS (bOr (bNot (cTr (cDef 2 (f__law_same 16) (cCons (cLst (cCons (cDef 1 f_is_offers (cCons (cVar 5) cNil)) (cCons (cDefK 1 0 1 [0] f_is_offers cNil (cCons (cVar 5) cNil)) cNil))) (cCons (cLst (cCons (cVar 7) (cCons (cVar 7) cNil))) cNil))))) (cB (cD2 fNeS (cCall fRepr (cCons (cVar 5) cNil)) (cVar 6)))) (cRet (cD (.bool false))) cSkip)))))
    Pos.ok (fun θ s => [some (.l θ.b), some (.d (.int L)), some (.d (.tuple MM)), s.2.1, s.2.2.1, s.2.2.2.1, s.2.2.2.2.1, s.2.2.2.2.2])
    (fun θ s => ex (θ.st.set θ.b (some (lay s.1))) [])
    (fun rest s => BxOk (m + 200 + 6 * (8 - rest.length)) s.1 ∧ rest.length ≤ 8) (by
      rintro x xs ⟨C, t3, t4, t5, t6, t7⟩ ⟨hC, hn⟩
      simp only [List.length_cons] at hC hn
      obtain ⟨y, C1, hy, i1, f1⟩ := bent_dr hC (by omega) hb (by omega) (by omega)
      obtain ⟨z, C2, hz, i2, f2⟩ := bent_dr i1 (by omega) hy (by omega) (by omega)
      obtain ⟨t5', t6', t7', hlk⟩ := look [.tuple MM, y, z] t5 t6 t7 (fun q hq => by
        simp only [List.mem_cons, List.not_mem_nil, or_false] at hq
        rcases hq with rfl | rfl | rfl
        · exact hb.mono (by omega) (by omega)
        · exact hy.mono (by omega) (by omega)
        · exact hz.mono (by omega) (by omega))
      refine ⟨(C2, some (.d x), some (.d y), t5', t6', t7'), ⟨bx_up i2 (by omega) (by omega), by omega⟩, fun θ hθ => ⟨_, rfl, ?_⟩⟩
      have F1 := f1 θ.st [] θ.b hθ
      have F2 := f2 θ.st [] θ.b hθ
      have LK := hlk (some (.l θ.b)) (some (.d (.int L))) (some (.d (.tuple MM))) (some (.d x)) (some (.d y)) (θ.st.set θ.b (some (lay C2)))
      simp -implicitDefEqProofs [F1, F2, LK])
    (rangeD 0 8) (B3, none, none, none, none, none) ⟨bx_up h3 (by simp only [rangeD_len]; omega) (by omega), by simp only [rangeD_len]; omega⟩
  simp only [List.length_nil] at h4
  refine ⟨.bool true, B4, rfl, bx_up h4.1 (by omega) (by omega), ?_⟩
  apply dr_lift
  intro st b hb
  have E1 := e1 st [] b hb
  have E2 := e2 st [] b hb
  have E3 := e3 st [] b hb
  simp only [List.map_cons, List.map_nil] at E1 E2
  have F4 := f4 ⟨st, b⟩ hb
  have bg : big 8 = true := by decide
  simp -implicitDefEqProofs [f__law_right, defS_ap, b__law_right, E1, E2, E3, F4, bg]
end My

set_option Elab.async false
set_option linter.all false
set_option maxRecDepth 100000
set_option maxHeartbeats 4000000
namespace My
open PySem PySem.Spec PyProof.Rows L2 Cm
theorem turns {m : Nat} {B : Bx} (h : BxOk m B) (hm : m < 1000000) (ns cs : List Int) (t2 : Option U) : ∃ B', ∀ Z : Sto, lcL (gN 4) bYes (cDef 1 f__law_right (cCons (cVar 3) cNil)) [some (.s ns), some (.d (.list (iL cs))), t2, some (.l Z.length), none] (rangeD 0 4) (ex Z [some (lay B)]) [] = some (trues 4, ex Z [some (lay B')]) := by
  obtain ⟨B3, acc, ⟨h3, k, rfl, hk⟩, e3⟩ := lcL_abs (T := Sto) (S := Bx) (g := gN 4) (te := cDef 1 f__law_right (cCons (cVar 3) cNil))
    (fun _ => True) (fun Z => [some (.s ns), some (.d (.list (iL cs))), t2, some (.l Z.length), none]) (fun Z s => ex Z [some (lay s)]) (by intro θ s s'; simp)
    (fun rest s acc => BxOk (m + 10000 * (4 - rest.length)) s ∧ ∃ k, acc = trues k ∧ k + rest.length = 4) (by
      rintro x xs C acc ⟨hC, k, rfl, hk⟩
      simp only [List.length_cons] at hC hk
      obtain ⟨y, C2, rfl, g2, f2⟩ := right_spec hC (by omega)
      refine ⟨.bool true, C2, ⟨bx_up g2 (by omega) (by omega), k + 1, trues_snoc k, by omega⟩, by simp [trues]; omega, ?_⟩
      intro Z _
      refine ⟨_, rfl, ?_⟩
      have f3 : f__law_right [.l Z.length] (ex Z [some (lay C), some (trues k)]) = some (.d (.bool true), ex Z [some (lay C2), some (trues k)]) := by
        have := f2 (Z ++ [none]) [some (trues k)] Z.length (by simp)
        simpa [ex, List.set_append] using this
      simp -implicitDefEqProofs [f3])
    (rangeD 0 4) B [] ⟨bx_up h (by omega) (by omega), 0, rfl, by simp⟩
  simp at hk
  subst hk
  exact ⟨B3, fun Z => e3 Z trivial⟩
theorem hand_any : ∀ st : Sto, st.length ≤ 3 → f__law_by_hand_right [] st = some (.d (.bool true), st)
  | [], _ => by kernel_rfl
  | [_], _ => by kernel_rfl
  | [_, _], _ => by kernel_rfl
  | [_, _, _], _ => by kernel_rfl
  | _ :: _ :: _ :: _ :: _, h => by simp at h
theorem law_true : ∀ ns : List Int, ns.length ≤ 63 → (∀ z ∈ ns, Builtin.Int.intBits z ≤ 1048576) → ∃ st, f_law [.s ns] [] = some (.d (.bool true), st) := by
  intro ns _ _
  obtain ⟨cs, c1, c2, ec⟩ := cells_spec ns 3 (by omega) (by omega) []
  rw [← ex_nil] at ec
  obtain ⟨ev', st', e, t2, t3, hev, _⟩ := forL_ind (g := (gN 2)) (b := (cSeq (cSet 3 (cDef 2 f__law_box (cCons (cVar 1) (cCons (cVar 2) cNil)))) (cIfS (bOr (bNot (cTr (cDef 0 f__law_by_hand_right cNil))) (bNot (cTr (cCall fAll (cCons (cLc (iRange1 (cCons (cD (.int 4)) cNil)) (gN 4) bYes (cDef 1 f__law_right (cCons (cVar 3) cNil)) [4]) cNil))))) (cRet (cD (.bool false))) cSkip)))
    (fun rest ev st => ∃ t2 t3, ev = [some (.s ns), some (.d (.list (iL cs))), t2, t3, none] ∧ st.length + rest.length = cs.length ∧ ∀ y ∈ rest, ∃ k : Nat, k < cs.length ∧ y = .int (k : Nat)) (by
      rintro x xs ev st ⟨t2, t3, rfl, hsl, hr⟩
      simp only [List.length_cons] at hsl
      obtain ⟨k, hk, rfl⟩ := hr x List.mem_cons_self
      obtain ⟨B, hB, eb⟩ := box_spec cs k hk (by omega) st
      rw [← ex_nil] at eb
      obtain ⟨B', et⟩ := turns hB (by omega) ns cs (some (.d (.int (k : Nat))))
      replace et := et st
      have ta := trues_all 4
      have hd := hand_any (ex st [some (lay B)]) (by simp; omega)
      have bg : big 4 = true := big_of (by omega) (by omega)
      refine ⟨_, [some (.s ns), some (.d (.list (iL cs))), some (.d (.int (k : Nat))), some (.l st.length), none], ex st [some (lay B')], rfl, ?_, _, _, rfl, by simp; omega, fun y hy => hr y (List.mem_cons_of_mem _ hy)⟩
      simp -implicitDefEqProofs [eb, bg, et, ta, hd])
    (rangeD 0 cs.length) [some (.s ns), some (.d (.list (iL cs))), none, none, none] [] ⟨none, none, rfl, by simp, fun y hy => by
      obtain ⟨k, hk, rfl⟩ := rangeD_mem.mp hy
      exact ⟨k, hk, by rw [Int.zero_add]⟩⟩
  have bg : big (cs.length : Int) = true := big_of (by omega) (by omega)
  simp at ec
  refine ⟨[], ?_⟩
  simp -implicitDefEqProofs [f_law, defS_ap, b_law, ec, bg, e]
end My

open PySem PySem.W PySem.Calls PyProof.Rows
set_option maxHeartbeats 0 in
theorem PySem.Challenge.cw_cutsmaller_k37_offers_or_not_holds : PySem.Challenge.rw_cutsmaller_k37_offers_or_not.Holds := by
  w_on; o_law
  refine HandSHeadRun.head_any (r := OpenLaw.row PySem.Challenge.rw_cutsmaller_k37_offers_or_not) (q := view (OpenLaw.row PySem.Challenge.rw_cutsmaller_k37_offers_or_not).prog [23]) (H := My.hk) (ob := My.ob) (M := 4000) (loose := My.loose) (d := HandSHeadRun.topDef (OpenLaw.row PySem.Challenge.rw_cutsmaller_k37_offers_or_not).prog 23) (kwd := []) My.ob_eq
    (by kernel_rfl) (fun s => by kernel_rfl) My.run (by kernel_rfl) (by kernel_rfl) (by kernel_rfl) (by rfl) (by first | assumption | decide +kernel) (by decide +kernel) ⟨rfl, rfl, rfl, rfl, rfl, by decide +kernel⟩ ?hw ?hc
  case hw => w_witness2
  case hc =>
    refine Cm.walk_cmG (l := PySem.Challenge.rw_cutsmaller_k37_offers_or_not) (n := 63) (k := 19) (x := "_law_script") (g := My.f_law) rfl (by decide) (by kernel_rfl) ⟨rfl, by decide, by decide⟩ ?F My.law_true
    intro w mg fa h Y G hmg0
    obtain ⟨K, KX, c⟩ := Y
    have hmg : mg ("law" : PySem.Str) = some (.ref fa) := by
      have e : (HandSHeadRun.topDef (OpenLaw.row PySem.Challenge.rw_cutsmaller_k37_offers_or_not).prog 23).name = ("law" : PySem.Str) := by kernel_rfl
      rw [← e]
      exact hmg0
    obtain ⟨fd, hb, hF⟩ := My.facts (P := (PySem.Challenge.rw_cutsmaller_k37_offers_or_not).prog) (w := w) KX G hmg c
    exact ⟨K, fd, KX, hb, hF⟩
