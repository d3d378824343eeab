import PyProof.Rows.All
import Wide.All
import OpenK.AllK
import Wide.FinOn
import HandS.ForMost
import HandS.Walk
import HandS.Wide
import HandS.Flow
import HandS.Star
import HandS.Zip
import HandS.IsInst
import HandS.Deep
import HandS.SortInts
import HandS.SortKw
import HandS.TupAny
import HandS.Defaults
import KE.GoesMore
import HandS.More
import HandS.TupMul
import HandS.Style
import KE.DataMinMax
import HandS.HeadEnd
import HandS.EndBits
import HandS.RevTup
import KE.KStateDown
import HandS.Head0
import HandS.Head1
import HandS.Head2
import HandS.HeadHook1
import HandS.HeadHook2
import PySem.Challenge.RW_cutsmaller_k67_whole_limits_put_in
set_option Elab.async false
set_option linter.all false
set_option maxRecDepth 100000
/-! Cm: a small semantics of plain data (Option), sound over the hand layer -/
namespace Cm
open PySem PySem.Spec PyProof.Rows L2

/-! ### values: data, a list of the store that may change, the script -/
inductive U where
  | d (x : PyData)
  | l (n : Nat)
  | s (ns : List Int)
abbrev Sto := List (Option (List PyData))
abbrev Ev := List (Option U)
abbrev SE := Ev → Sto → Option (U × Sto)
abbrev SA := Ev → Sto → Option (List U × Sto)
abbrev SB := Ev → Sto → Option (Bool × Sto)

mutual
inductive Dq (F : Hp) : V → PyData → Prop
  | non : Dq F .non .none
  | bl (b : Bool) : Dq F (.bl b) (.bool b)
  | int (i : Int) : Dq F (.int i) (.int i)
  | str (x : Str) : Dq F (.str x) (.str x)
  | lst {a : Addr} {xs : List V} {ds : List PyData} : F a = some (.lst xs) → DqA F xs ds → Dq F (.ref a) (.list ds)
  | tup {a : Addr} {xs : List V} {ds : List PyData} : F a = some (.tup xs) → DqA F xs ds → Dq F (.ref a) (.tuple ds)
inductive DqA (F : Hp) : List V → List PyData → Prop
  | nil : DqA F [] []
  | cons {v : V} {vs : List V} {d : PyData} {ds : List PyData} : Dq F v d → DqA F vs ds → DqA F (v :: vs) (d :: ds)
end

section
variable {F F' H : Hp} {K : PySem.W.Frag}
mutual
theorem Dq.mono (e : Same F F') : ∀ {v : V} {d : PyData}, Dq F v d → Dq F' v d
  | _, _, .non => .non
  | _, _, .bl b => .bl b
  | _, _, .int i => .int i
  | _, _, .str x => .str x
  | _, _, .lst h a => .lst (e _ _ h) (DqA.mono e a)
  | _, _, .tup h a => .tup (e _ _ h) (DqA.mono e a)
theorem DqA.mono (e : Same F F') : ∀ {vs : List V} {ds : List PyData}, DqA F vs ds → DqA F' vs ds
  | _, _, .nil => .nil
  | _, _, .cons h t => .cons (Dq.mono e h) (DqA.mono e t)
end
mutual
theorem Dq.dp : ∀ {v : V} {d : PyData}, Dq F v d → Dp K F v d
  | _, _, .non => .non
  | _, _, .bl b => .bl b
  | _, _, .int i => .int i
  | _, _, .str x => .str x
  | _, _, .lst h a => .lst (SqL.of h) (DqA.dp a)
  | _, _, .tup h a => .tup (SqT.of h) (DqA.dp a)
theorem DqA.dp : ∀ {vs : List V} {ds : List PyData}, DqA F vs ds → DpAll K F vs ds
  | _, _, .nil => .nil
  | _, _, .cons h t => .cons (Dq.dp h) (DqA.dp t)
end
theorem DqA.length : ∀ {vs : List V} {ds : List PyData}, DqA F vs ds → vs.length = ds.length
  | _, _, .nil => rfl
  | _, _, .cons _ t => by simp [DqA.length t]
theorem DqA.append : ∀ {vs ws : List V} {ds es : List PyData}, DqA F vs ds → DqA F ws es → DqA F (vs ++ ws) (ds ++ es)
  | _, _, _, _, .nil, h => h
  | _, _, _, _, .cons a t, h => .cons a (DqA.append t h)
theorem DqA.get : ∀ {vs : List V} {ds : List PyData} {i : Nat} {v : V}, DqA F vs ds → vs[i]? = some v → ∃ d, ds[i]? = some d ∧ Dq F v d
  | _, _, _, _, .nil, e => by simp at e
  | _, _, 0, _, .cons a _, e => by
    simp only [List.getElem?_cons_zero, Option.some.injEq] at e
    subst e
    exact ⟨_, rfl, a⟩
  | _, _, i + 1, _, .cons _ t, e => by
    rw [List.getElem?_cons_succ] at e ⊢
    exact DqA.get t e
theorem DqA.get' : ∀ {vs : List V} {ds : List PyData} {i : Nat} {d : PyData}, DqA F vs ds → ds[i]? = some d → ∃ v, vs[i]? = some v ∧ Dq F v d
  | _, _, _, _, .nil, e => by simp at e
  | _, _, 0, _, .cons a _, e => by
    simp only [List.getElem?_cons_zero, Option.some.injEq] at e
    subst e
    exact ⟨_, rfl, a⟩
  | _, _, i + 1, _, .cons _ t, e => by
    rw [List.getElem?_cons_succ] at e ⊢
    exact DqA.get' t e
theorem DqA.take : ∀ {vs : List V} {ds : List PyData} (n : Nat), DqA F vs ds → DqA F (vs.take n) (ds.take n)
  | _, _, 0, _ => .nil
  | _, _, _ + 1, .nil => .nil
  | _, _, n + 1, .cons a t => .cons a (DqA.take n t)
theorem DqA.drop : ∀ {vs : List V} {ds : List PyData} (n : Nat), DqA F vs ds → DqA F (vs.drop n) (ds.drop n)
  | _, _, 0, h => h
  | _, _, _ + 1, .nil => .nil
  | _, _, n + 1, .cons _ t => DqA.drop n t
theorem DqA.set {v : V} {d : PyData} (h : Dq F v d) : ∀ {vs : List V} {ds : List PyData} (n : Nat), DqA F vs ds → DqA F (vs.set n v) (ds.set n d)
  | _, _, _, .nil => .nil
  | _, _, 0, .cons _ t => .cons h t
  | _, _, n + 1, .cons a t => .cons a (DqA.set h n t)
theorem DqA.reverse : ∀ {vs : List V} {ds : List PyData}, DqA F vs ds → DqA F vs.reverse ds.reverse
  | _, _, .nil => .nil
  | _, _, .cons a t => by
    simp only [List.reverse_cons]
    exact (DqA.reverse t).append (.cons a .nil)
theorem DqA.eraseIdx : ∀ {vs : List V} {ds : List PyData} (n : Nat), DqA F vs ds → DqA F (vs.eraseIdx n) (ds.eraseIdx n)
  | _, _, _, .nil => .nil
  | _, _, 0, .cons _ t => t
  | _, _, n + 1, .cons a t => .cons a (DqA.eraseIdx n t)
theorem DqA.dropLast : ∀ {vs : List V} {ds : List PyData}, DqA F vs ds → DqA F vs.dropLast ds.dropLast
  | _, _, .nil => .nil
  | _, _, .cons _ .nil => .nil
  | _, _, .cons a (.cons b t) => .cons a (DqA.dropLast (.cons b t))
theorem DqA.rep {vs : List V} {ds : List PyData} (h : DqA F vs ds) : ∀ n : Nat, DqA F (List.replicate n vs).flatten (List.replicate n ds).flatten
  | 0 => .nil
  | n + 1 => by
    simp only [List.replicate_succ, List.flatten_cons]
    exact h.append (DqA.rep h n)
theorem DqA.ints : ∀ {ns : List Int}, DqA F (ns.map V.int) (ns.map PyData.int)
  | [] => .nil
  | n :: ns => .cons (.int n) DqA.ints
theorem DqA.of_ints : ∀ {ns : List Int} {vs : List V}, DqA F vs (ns.map PyData.int) → vs = ns.map V.int
  | [], _, .nil => rfl
  | n :: ns, _, .cons (.int _) t => by simp [DqA.of_ints t]
theorem DqA.of_bools : ∀ {bs : List Bool} {vs : List V}, DqA F vs (bs.map PyData.bool) → vs = bs.map V.bl
  | [], _, .nil => rfl
  | b :: bs, _, .cons (.bl _) t => by simp [DqA.of_bools t]
theorem DqA.of_strs : ∀ {bs : List Str} {vs : List V}, DqA F vs (bs.map PyData.str) → vs = bs.map V.str
  | [], _, .nil => rfl
  | b :: bs, _, .cons (.str _) t => by simp [DqA.of_strs t]
end

/-! ### a heap that grew by new frozen things alone -/
structure Grow (F H F' H' : Hp) : Prop where
  ff : Same F F'
  hh : Same H H'
  fh : Same F' H'
  fr : ∀ a o, H a = some o → F a = none → F' a = none
theorem Grow.refl {F H : Hp} (h : Same F H) : Grow F H F H := ⟨Same.refl _, Same.refl _, h, fun _ _ _ n => n⟩
theorem Grow.trans {F H F1 H1 F2 H2 : Hp} (a : Grow F H F1 H1) (b : Grow F1 H1 F2 H2) : Grow F H F2 H2 :=
  ⟨a.ff.trans b.ff, a.hh.trans b.hh, b.fh, fun c o e n => b.fr c o (a.hh _ _ e) (a.fr c o e n)⟩
theorem same_upd {H : Hp} {p : Addr} {o : HO} (h : H p = none) : Same H (upd H p o) := fun b x e => by
  rw [upd_ne (ne_of_none e h)]
  exact e
theorem upd_mono {F H : Hp} {p : Addr} {o : HO} (h : Same F H) : Same (upd F p o) (upd H p o) := fun b x e => by
  by_cases hb : b = p
  · subst hb
    rw [upd_same] at e ⊢
    exact e
  · rw [upd_ne hb] at e ⊢
    exact h _ _ e
theorem Grow.new {F H : Hp} {p : Addr} {o : HO} (h : Same F H) (n : H p = none) : Grow F H (upd F p o) (upd H p o) := by
  have nf : F p = none := h.free n
  refine ⟨same_upd nf, same_upd n, upd_mono h, fun a u e nn => ?_⟩
  rw [upd_ne (ne_of_none e n)]
  exact nn

/-! ### the store -/
structure HR (ρ : List Addr) (F H : Hp) (st : Sto) : Prop where
  sub : Same F H
  cell : ∀ (n : Nat) (xs : List PyData), st[n]? = some (some xs) → ∃ a vs, ρ[n]? = some a ∧ H a = some (.lst vs) ∧ F a = none ∧ DqA F vs xs
  inj : ∀ (n m : Nat) (a : Addr), ρ[n]? = some a → ρ[m]? = some a → (∃ xs, st[n]? = some (some xs)) → (∃ xs, st[m]? = some (some xs)) → n = m
  len : ρ.length = st.length
theorem HR.grow {ρ : List Addr} {F H F' H' : Hp} {st : Sto} (h : HR ρ F H st) (g : Grow F H F' H') : HR ρ F' H' st :=
  ⟨g.fh, fun n xs e => let ⟨a, vs, e1, e2, e3, e4⟩ := h.cell n xs e; ⟨a, vs, e1, g.hh _ _ e2, g.fr _ _ e2 e3, e4.mono g.ff⟩, h.inj, h.len⟩

structure Ext (ρ : List Addr) (F : Hp) (ρ' : List Addr) (F' : Hp) : Prop where
  pre : ∀ (n : Nat) (a : Addr), ρ[n]? = some a → ρ'[n]? = some a
  same : Same F F'
theorem Ext.refl (ρ : List Addr) (F : Hp) : Ext ρ F ρ F := ⟨fun _ _ h => h, Same.refl _⟩
theorem Ext.trans {ρ ρ1 ρ2 : List Addr} {F F1 F2 : Hp} (a : Ext ρ F ρ1 F1) (b : Ext ρ1 F1 ρ2 F2) : Ext ρ F ρ2 F2 := ⟨fun n x h => b.pre n x (a.pre n x h), a.same.trans b.same⟩
theorem Ext.of {ρ : List Addr} {F H F' H' : Hp} (g : Grow F H F' H') : Ext ρ F ρ F' := ⟨fun _ _ h => h, g.ff⟩

def WR (K : PySem.W.Frag) (ρ : List Addr) (F : Hp) (v : V) : U → Prop
  | .d x => Dq F v x
  | .l n => ∃ a, ρ[n]? = some a ∧ v = .ref a
  | .s ns => ∃ a, v = .ref a ∧ SqL K F a (ns.map V.int)
theorem WR.mono {K : PySem.W.Frag} {ρ ρ' : List Addr} {F F' : Hp} {v : V} (e : Ext ρ F ρ' F') : ∀ {w : U}, WR K ρ F v w → WR K ρ' F' v w
  | .d _, h => Dq.mono e.same h
  | .l _, ⟨a, h1, h2⟩ => ⟨a, e.pre _ _ h1, h2⟩
  | .s _, ⟨a, h1, h2⟩ => ⟨a, h1, e.same.seq h2⟩
inductive WRs (K : PySem.W.Frag) (ρ : List Addr) (F : Hp) : List V → List U → Prop
  | nil : WRs K ρ F [] []
  | cons {v : V} {w : U} {vs : List V} {ws : List U} : WR K ρ F v w → WRs K ρ F vs ws → WRs K ρ F (v :: vs) (w :: ws)
theorem WRs.mono {K : PySem.W.Frag} {ρ ρ' : List Addr} {F F' : Hp} (e : Ext ρ F ρ' F') : ∀ {vs : List V} {ws : List U}, WRs K ρ F vs ws → WRs K ρ' F' vs ws
  | _, _, .nil => .nil
  | _, _, .cons h t => .cons (h.mono e) (WRs.mono e t)
theorem WRs.length {K : PySem.W.Frag} {ρ : List Addr} {F : Hp} : ∀ {vs : List V} {ws : List U}, WRs K ρ F vs ws → vs.length = ws.length
  | _, _, .nil => rfl
  | _, _, .cons _ t => by simp [WRs.length t]
theorem WRs.append {K : PySem.W.Frag} {ρ : List Addr} {F : Hp} : ∀ {vs vs' : List V} {ws ws' : List U}, WRs K ρ F vs ws → WRs K ρ F vs' ws' → WRs K ρ F (vs ++ vs') (ws ++ ws')
  | _, _, _, _, .nil, h => h
  | _, _, _, _, .cons a t, h => .cons a (WRs.append t h)

/-- the slots -/
structure SR (K : PySem.W.Frag) (ρ : List Addr) (F : Hp) (ev : Ev) (σ : L2.St) : Prop where
  len : ev.length = σ.length
  get : ∀ (i : Nat) (w : U), ev[i]? = some (some w) → ∃ v, σ[i]? = some (some v) ∧ WR K ρ F v w
theorem SR.mono {K : PySem.W.Frag} {ρ ρ' : List Addr} {F F' : Hp} {ev : Ev} {σ : L2.St} (h : SR K ρ F ev σ) (e : Ext ρ F ρ' F') : SR K ρ' F' ev σ :=
  ⟨h.len, fun i w q => let ⟨v, h1, h2⟩ := h.get i w q; ⟨v, h1, h2.mono e⟩⟩
theorem SR.set {K : PySem.W.Frag} {ρ : List Addr} {F : Hp} {ev : Ev} {σ : L2.St} {v : V} {w : U} (h : SR K ρ F ev σ) (r : WR K ρ F v w) (i : Nat) : SR K ρ F (ev.set i (some w)) (σ.set i (some v)) := by
  refine ⟨by simp [h.len], fun j u q => ?_⟩
  rw [List.getElem?_set] at q ⊢
  by_cases hj : i = j
  · subst hj
    simp only [if_true] at q ⊢
    by_cases hl : i < ev.length
    · rw [if_pos hl] at q
      cases q
      rw [if_pos (by rw [← h.len]; exact hl)]
      exact ⟨v, rfl, r⟩
    · rw [if_neg hl] at q
      cases q
  · simp only [if_neg hj] at q ⊢
    exact h.get j u q
/-- forgotten slots -/
def wipeE (ev : Ev) : List Nat → Ev
  | [] => ev
  | v :: vs => (wipeE ev vs).set v none
theorem SR.none {K : PySem.W.Frag} {ρ : List Addr} {F : Hp} {ev : Ev} {σ : L2.St} (h : SR K ρ F ev σ) (i : Nat) (x : Option V) : SR K ρ F (ev.set i Option.none) (σ.set i x) := by
  refine ⟨by simp [h.len], fun j u q => ?_⟩
  rw [List.getElem?_set] at q ⊢
  by_cases hj : i = j
  · subst hj
    simp only [if_true] at q
    split at q <;> cases q
  · simp only [if_neg hj] at q ⊢
    exact h.get j u q
theorem SR.wipe {K : PySem.W.Frag} {ρ : List Addr} {F : Hp} {ev : Ev} {σ : L2.St} (h : SR K ρ F ev σ) : ∀ vs : List Nat, SR K ρ F (wipeE ev vs) (L2.wipe σ vs)
  | [] => h
  | v :: vs => (SR.wipe h vs).none v Option.none

/-! ### what an expression, a test, an argument list computes -/
def Post (K : PySem.W.Frag) (ρ : List Addr) (F : Hp) (w : U) (st' : Sto) (Q : VK) : Prop :=
  ∀ v ρ' F' H', Ext ρ F ρ' F' → HR ρ' F' H' st' → WR K ρ' F' v w → Q v H'
def tI (K : PySem.W.Frag) (c : SE) : TE := fun σ H Q => ∃ ρ F ev st w st', HR ρ F H st ∧ SR K ρ F ev σ ∧ c ev st = some (w, st') ∧ Post K ρ F w st' Q
def tT (K : PySem.W.Frag) (c : SB) : TT := fun σ H Q => ∃ ρ F ev st b st', HR ρ F H st ∧ SR K ρ F ev σ ∧ c ev st = some (b, st') ∧ ∀ ρ' F' H', Ext ρ F ρ' F' → HR ρ' F' H' st' → Q b H'
def tA (K : PySem.W.Frag) (c : SA) : TA := fun σ H Q => ∃ ρ F ev st ws st', HR ρ F H st ∧ SR K ρ F ev σ ∧ c ev st = some (ws, st') ∧ ∀ vs ρ' F' H', Ext ρ F ρ' F' → HR ρ' F' H' st' → WRs K ρ' F' vs ws → Q vs H'
end Cm
namespace L2
theorem PE.weak {X : Cx} {e : PySem.Expr} {t u : TE} (h : PE X e t) (w : ∀ σ H Q, u σ H Q → t σ H Q) : PE X e u := ⟨fun pins s σ H Q I q => h.run pins s σ H Q I (w σ H Q q)⟩
theorem PT.weak {X : Cx} {e : PySem.Expr} {t u : TT} (h : PT X e t) (w : ∀ σ H Q, u σ H Q → t σ H Q) : PT X e u := ⟨fun pins s σ H Q I q => h.run pins s σ H Q I (w σ H Q q)⟩
theorem PW.weak {X : Cx} {e : PySem.Expr} {t u : TT} (h : PW X e t) (w : ∀ σ H Q, u σ H Q → t σ H Q) : PW X e u := ⟨fun wh pins s σ H Q I q => h.run wh pins s σ H Q I (w σ H Q q)⟩
theorem PTs.weak {X : Cx} {e : List PySem.Expr} {t u : TT} (h : PTs X e t) (w : ∀ σ H Q, u σ H Q → t σ H Q) : PTs X e u := ⟨fun pins s σ H Q I q => h.run pins s σ H Q I (w σ H Q q)⟩
theorem PA.weak {X : Cx} {e : List PySem.Expr} {t u : TA} (h : PA X e t) (w : ∀ σ H Q, u σ H Q → t σ H Q) : PA X e u := ⟨fun pos pins s σ H Q I q => h.run pos pins s σ H Q I (w σ H Q q)⟩
theorem PS.weak {X : Cx} {e : PySem.Stmt} {t u : TS} (h : PS X e t) (w : ∀ D σ H, u D σ H → t D σ H) : PS X e u := ⟨fun pins s σ H D I q => h.run pins s σ H D I (w D σ H q)⟩
theorem PSs.weak {X : Cx} {e : List PySem.Stmt} {t u : TS} (h : PSs X e t) (w : ∀ D σ H, u D σ H → t D σ H) : PSs X e u := ⟨fun pins s σ H D I q => h.run pins s σ H D I (w D σ H q)⟩
theorem PI.weak {X : Cx} {tg e : PySem.Expr} {t u : TI} (h : PI X tg e t) (w : ∀ σ H R, u σ H R → t σ H R) : PI X tg e u := ⟨fun pins s σ H R I q => h.run pins s σ H R I (w σ H R q)⟩
theorem PG.weak {X : Cx} {tg : PySem.Expr} {t u : TG} (h : PG X tg t) (w : ∀ v σ H Q, u v σ H Q → t v σ H Q) : PG X tg u := ⟨fun pins s σ H v x Q I r q => h.run pins s σ H v x Q I r (w v σ H Q q)⟩
end L2

set_option Elab.async false
set_option linter.all false
set_option maxRecDepth 100000
namespace Cm
open PySem PySem.Spec PyProof.Rows L2

/-! ### reading a value of the store -/
def rd (st : Sto) : U → Option PyData
  | .d x => some x
  | .l n => match st[n]? with
    | some (some xs) => some (.list xs)
    | _ => none
  | .s ns => some (.list (ns.map .int))
def rdS (st : Sto) : U → Option PyData
  | .d x => some x
  | .l n => match st[n]? with
    | some (some xs) => some (.list xs)
    | _ => none
  | .s _ => none
def rdAll (st : Sto) : List U → Option (List PyData)
  | [] => some []
  | w :: ws => (rd st w).bind fun x => (rdAll st ws).map fun xs => x :: xs
def allD : List U → Option (List PyData)
  | [] => some []
  | .d x :: ws => (allD ws).map fun xs => x :: xs
  | _ :: _ => none
@[simp] theorem rd_d (st : Sto) (x : PyData) : rd st (.d x) = some x := rfl
@[simp] theorem rdS_d (st : Sto) (x : PyData) : rdS st (.d x) = some x := rfl
def Rds (F H : Hp) (v : V) (x : PyData) : Prop := Dq F v x ∨ ∃ a vs xs, v = .ref a ∧ x = .list xs ∧ H a = some (.lst vs) ∧ DqA F vs xs
def Rdd (K : PySem.W.Frag) (F H : Hp) (v : V) (x : PyData) : Prop := Dq F v x ∨ ∃ a vs xs, v = .ref a ∧ x = .list xs ∧ SqL K H a vs ∧ DqA F vs xs
section
variable {K : PySem.W.Frag} {ρ : List Addr} {F H : Hp} {st : Sto} {v : V} {w : U} {x : PyData}
theorem rd_ok (h : HR ρ F H st) (r : WR K ρ F v w) (e : rd st w = some x) : Rdd K F H v x := by
  cases w with
  | d y =>
    cases e
    exact .inl r
  | l n =>
    simp only [rd] at e
    split at e
    · rename_i xs q
      cases e
      obtain ⟨a, vs, h1, h2, h3, h4⟩ := h.cell n xs q
      obtain ⟨b, h5, h6⟩ := r
      rw [h1] at h5
      cases h5
      exact .inr ⟨a, vs, xs, h6, rfl, SqL.of h2, h4⟩
    · cases e
  | s ns =>
    cases e
    obtain ⟨a, h1, h2⟩ := r
    exact .inr ⟨a, _, _, h1, rfl, h.sub.seq h2, DqA.ints⟩
theorem rdS_ok (h : HR ρ F H st) (r : WR K ρ F v w) (e : rdS st w = some x) : Rds F H v x := by
  cases w with
  | d y =>
    cases e
    exact .inl r
  | l n =>
    simp only [rdS] at e
    split at e
    · rename_i xs q
      cases e
      obtain ⟨a, vs, h1, h2, h3, h4⟩ := h.cell n xs q
      obtain ⟨b, h5, h6⟩ := r
      rw [h1] at h5
      cases h5
      exact .inr ⟨a, vs, xs, h6, rfl, h2, h4⟩
    · cases e
  | s ns => cases e
theorem Rdd.list {xs : List PyData} (hs : Same F H) (r : Rdd K F H v (.list xs)) : ∃ a vs, v = .ref a ∧ SqL K H a vs ∧ DqA F vs xs := by
  rcases r with r | ⟨a, vs, ys, h1, h2, h3, h4⟩
  · cases r with
    | lst h a => exact ⟨_, _, rfl, SqL.of (hs _ _ h), a⟩
  · cases h2
    exact ⟨a, vs, h1, h3, h4⟩
theorem Rds.list {xs : List PyData} (hs : Same F H) (r : Rds F H v (.list xs)) : ∃ a vs, v = .ref a ∧ H a = some (.lst vs) ∧ DqA F vs xs := by
  rcases r with r | ⟨a, vs, ys, h1, h2, h3, h4⟩
  · cases r with
    | lst h a => exact ⟨_, _, rfl, hs _ _ h, a⟩
  · cases h2
    exact ⟨a, vs, h1, h3, h4⟩
theorem Rds.rdd (r : Rds F H v x) : Rdd K F H v x := r.elim .inl fun ⟨a, vs, xs, h1, h2, h3, h4⟩ => .inr ⟨a, vs, xs, h1, h2, SqL.of h3, h4⟩
theorem Rdd.tup {xs : List PyData} (hs : Same F H) (r : Rdd K F H v (.tuple xs)) : ∃ a vs, v = .ref a ∧ H a = some (.tup vs) ∧ F a = some (.tup vs) ∧ DqA F vs xs := by
  rcases r with r | ⟨a, vs, ys, h1, h2, h3, h4⟩
  · cases r with
    | tup h a => exact ⟨_, _, rfl, hs _ _ h, h, a⟩
  · cases h2
theorem Rdd.int {i : Int} (r : Rdd K F H v (.int i)) : v = .int i := by
  rcases r with r | ⟨a, vs, ys, h1, h2, h3, h4⟩
  · cases r; rfl
  · cases h2
theorem Rdd.bl {b : Bool} (r : Rdd K F H v (.bool b)) : v = .bl b := by
  rcases r with r | ⟨a, vs, ys, h1, h2, h3, h4⟩
  · cases r; rfl
  · cases h2
theorem Rdd.non (r : Rdd K F H v .none) : v = .non := by
  rcases r with r | ⟨a, vs, ys, h1, h2, h3, h4⟩
  · cases r; rfl
  · cases h2
theorem Rdd.str {z : Str} (r : Rdd K F H v (.str z)) : v = .str z := by
  rcases r with r | ⟨a, vs, ys, h1, h2, h3, h4⟩
  · cases r; rfl
  · cases h2
theorem Rdd.nodict {z : List (PyData × PyData)} (r : Rdd K F H v (.dict z)) : False := by
  rcases r with r | ⟨a, vs, ys, h1, h2, h3, h4⟩
  · cases r
  · cases h2
theorem Rdd.dp (hs : Same F H) (r : Rdd K F H v x) : Dp K H v x := by
  rcases r with r | ⟨a, vs, ys, h1, h2, h3, h4⟩
  · exact (r.mono hs).dp
  · subst h1 h2
    exact .lst h3 (h4.mono hs).dp
end
inductive RdA (K : PySem.W.Frag) (F H : Hp) : List V → List PyData → Prop
  | nil : RdA K F H [] []
  | cons {v : V} {x : PyData} {vs : List V} {xs : List PyData} : Rdd K F H v x → RdA K F H vs xs → RdA K F H (v :: vs) (x :: xs)
theorem rdAll_ok {K : PySem.W.Frag} {ρ : List Addr} {F H : Hp} {st : Sto} (h : HR ρ F H st) : ∀ {vs : List V} {ws : List U} {xs : List PyData}, WRs K ρ F vs ws → rdAll st ws = some xs → RdA K F H vs xs
  | _, _, _, .nil, e => by cases e; exact .nil
  | _, _, _, .cons r t, e => by
    simp only [rdAll, Option.bind_eq_some_iff, Option.map_eq_some_iff] at e
    obtain ⟨x, e1, xs, e2, rfl⟩ := e
    exact .cons (rd_ok h r e1) (rdAll_ok h t e2)
theorem allD_ok {K : PySem.W.Frag} {ρ : List Addr} {F : Hp} : ∀ {vs : List V} {ws : List U} {xs : List PyData}, WRs K ρ F vs ws → allD ws = some xs → DqA F vs xs
  | _, _, _, .nil, e => by cases e; exact .nil
  | _, _, _, .cons (w := .d x) r t, e => by
    simp only [allD, Option.map_eq_some_iff] at e
    obtain ⟨xs, e2, rfl⟩ := e
    exact .cons r (allD_ok t e2)
  | _, _, _, .cons (w := .l n) r t, e => by cases e
  | _, _, _, .cons (w := .s n) r t, e => by cases e

/-! ### combinators -/
def cVar (i : Nat) : SE := fun ev st => match ev[i]? with
  | some (some w) => some (w, st)
  | _ => none
def cD (x : PyData) : SE := fun _ st => some (.d x, st)
def cD1 (f : PyData → Option PyData) (a : SE) : SE := fun ev st => (a ev st).bind fun p => (rd p.2 p.1).bind fun x => (f x).map fun z => (.d z, p.2)
def cD2 (f : PyData → PyData → Option PyData) (a b : SE) : SE := fun ev st => (a ev st).bind fun p => (b ev p.2).bind fun q => (rd q.2 p.1).bind fun x => (rd q.2 q.1).bind fun y => (f x y).map fun z => (.d z, q.2)
def cD2s (f : PyData → PyData → Option PyData) (a b : SE) : SE := fun ev st => (a ev st).bind fun p => (b ev p.2).bind fun q => (rdS q.2 p.1).bind fun x => (rdS q.2 q.1).bind fun y => (f x y).map fun z => (.d z, q.2)
def cNil : SA := fun _ st => some ([], st)
def cCons (a : SE) (r : SA) : SA := fun ev st => (a ev st).bind fun p => (r ev p.2).map fun q => (p.1 :: q.1, q.2)
def items : PyData → Option (List PyData)
  | .list xs => some xs
  | .tuple xs => some xs
  | _ => none
def cStar (a : SE) (r : SA) : SA := fun ev st => (a ev st).bind fun p => (rd p.2 p.1).bind fun x => (items x).bind fun xs => (r ev p.2).map fun q => (xs.map U.d ++ q.1, q.2)
def lim : Nat := 1000000
theorem lim_le {n : Nat} (h : n ≤ lim) : n ≤ sizeLine := Nat.le_trans h (by decide)
def cLst (a : SA) : SE := fun ev st => (a ev st).bind fun p => (allD p.1).bind fun xs => if xs.length ≤ lim then some (.d (.list xs), p.2) else none
def cTup (a : SA) : SE := fun ev st => (a ev st).bind fun p => (allD p.1).bind fun xs => if xs.length ≤ lim then some (.d (.tuple xs), p.2) else none
/-- a new list of the store -/
def cLstM (a : SA) : SE := fun ev st => (a ev st).bind fun p => (allD p.1).bind fun xs => if xs.length ≤ lim then some (.l p.2.length, p.2 ++ [some xs]) else none
def cCall (f : List PyData → Option PyData) (a : SA) : SE := fun ev st => (a ev st).bind fun p => (rdAll p.2 p.1).bind fun xs => (f xs).map fun z => (.d z, p.2)
def truth : PyData → Option Bool
  | .none => some false
  | .bool b => some b
  | .int i => some (i != 0)
  | .str x => if x.length ≤ lim then some ((x.length : Int) != 0) else none
  | .list xs => some (!xs.isEmpty)
  | .tuple xs => some (!xs.isEmpty)
  | .dict _ => none
/-- a test: the value's truth -/
def cTr (a : SE) : SB := fun ev st => (a ev st).bind fun p => (rd p.2 p.1).bind fun x => (truth x).map fun b => (b, p.2)
/-- a test: a bool -/
def cB (a : SE) : SB := fun ev st => (a ev st).bind fun p => match p.1 with
  | .d (.bool b) => some (b, p.2)
  | _ => none
def bAnd (a b : SB) : SB := fun ev st => (a ev st).bind fun p => if p.1 then b ev p.2 else some (false, p.2)
def bOr (a b : SB) : SB := fun ev st => (a ev st).bind fun p => if p.1 then some (true, p.2) else b ev p.2
def bNot (a : SB) : SB := fun ev st => (a ev st).map fun p => (!p.1, p.2)
def cAnd (a b : SE) : SE := fun ev st => (a ev st).bind fun p => (rd p.2 p.1).bind fun x => (truth x).bind fun t => if t then b ev p.2 else some p
def cOr (a b : SE) : SE := fun ev st => (a ev st).bind fun p => (rd p.2 p.1).bind fun x => (truth x).bind fun t => if t then some p else b ev p.2
def cNot (a : SE) : SE := fun ev st => (a ev st).bind fun p => (rd p.2 p.1).bind fun x => (truth x).map fun t => (.d (.bool !t), p.2)
def cIf (c : SB) (a b : SE) : SE := fun ev st => (c ev st).bind fun p => if p.1 then a ev p.2 else b ev p.2
def cChain (f g : PyData → PyData → Option PyData) (a b c : SE) : SE := fun ev st => (a ev st).bind fun p => (b ev p.2).bind fun q => (rd q.2 p.1).bind fun x => (rd q.2 q.1).bind fun y => (f x y).bind fun z => match z with
  | .bool true => (c ev q.2).bind fun r => (rd r.2 q.1).bind fun y => (rd r.2 r.1).bind fun u => (g y u).map fun z => (.d z, r.2)
  | .bool false => some (.d (.bool false), q.2)
  | _ => none

/-! ### what makes an operation's rule sound -/
def Rep (F H : Hp) (z : PyData) (Q : VK) : Prop := ∀ v F' H', Grow F H F' H' → Dq F' v z → Q v H'
def Snd1 (K : PySem.W.Frag) (r : V → Hp → VK → Prop) (f : PyData → Option PyData) : Prop := ∀ F H v x z Q, Same F H → Rdd K F H v x → f x = some z → Rep F H z Q → r v H Q
def Snd2 (K : PySem.W.Frag) (r : R2) (f : PyData → PyData → Option PyData) : Prop := ∀ F H v u x y z Q, Same F H → Rdd K F H v x → Rdd K F H u y → f x y = some z → Rep F H z Q → r v u H Q
def Snd2s (r : R2) (f : PyData → PyData → Option PyData) : Prop := ∀ F H v u x y z Q, Same F H → Rds F H v x → Rds F H u y → f x y = some z → Rep F H z Q → r v u H Q
def SndN (K : PySem.W.Frag) (r : List V → Hp → VK → Prop) (f : List PyData → Option PyData) : Prop := ∀ F H vs xs z Q, Same F H → RdA K F H vs xs → f xs = some z → Rep F H z Q → r vs H Q
theorem Rep.now {F H : Hp} {z : PyData} {Q : VK} {v : V} (h : Rep F H z Q) (hs : Same F H) (d : Dq F v z) : Q v H := h v F H (.refl hs) d
theorem Rep.lst {F H : Hp} {xs : List V} {ds : List PyData} {Q : VK} (h : Rep F H (.list ds) Q) (hs : Same F H) (d : DqA F xs ds) (p : Addr) (n : H p = none) : Q (.ref p) (upd H p (.lst xs)) :=
  h _ (upd F p (.lst xs)) _ (.new hs n) (.lst upd_same (d.mono (same_upd (hs.free n))))
theorem Rep.tup {F H : Hp} {xs : List V} {ds : List PyData} {Q : VK} (h : Rep F H (.tuple ds) Q) (hs : Same F H) (d : DqA F xs ds) (p : Addr) (n : H p = none) : Q (.ref p) (upd H p (.tup xs)) :=
  h _ (upd F p (.tup xs)) _ (.new hs n) (.tup upd_same (d.mono (same_upd (hs.free n))))
theorem Post.grow {K : PySem.W.Frag} {ρ ρ1 : List Addr} {F F1 H1 : Hp} {z : PyData} {st : Sto} {Q : VK} (p : Post K ρ F (.d z) st Q) (x : Ext ρ F ρ1 F1) (h : HR ρ1 F1 H1 st) : Rep F1 H1 z Q :=
  fun v F' H' g d => p v ρ1 F' H' (x.trans (.of g)) (h.grow g) d

section
variable {X : Cx} {e a b c : Expr} {es : List Expr} {pos : Pos} {ca cb cc : SE} {sa : SA} {ba bb : SB}
theorem se_var {i : Nat} {x : Str} (hN : X.N[i]? = some x := by rfl) (hv : Vis X.env.scope x := by first | exact Or.inl rfl | exact Or.inr (Or.inl rfl) | exact Or.inr (Or.inr rfl)) (hd : (x == ("__debug__" : Str)) = false := by decide)
    (hcd : (x == ("__classdict__" : Str)) = false := by decide) : PE X (.Name x pos) (tI X.K (cVar i)) := (pe_var hN hv hd hcd).weak fun σ H Q ⟨ρ, F, ev, st, w, st', hr, sr, e, post⟩ => by
  unfold cVar at e
  split at e
  · rename_i u q
    cases e
    obtain ⟨v, h1, h2⟩ := sr.get i _ q
    exact ⟨v, h1, post v ρ F H (.refl _ _) hr h2⟩
  · cases e
theorem se_c {x : PyData} {v : V} (h : PE X e (tC v)) (d : ∀ F, Dq F v x) : PE X e (tI X.K (cD x)) := h.weak fun σ H Q ⟨ρ, F, ev, st, w, st', hr, sr, e, post⟩ => by
  cases e
  exact post v ρ F H (.refl _ _) hr (d F)
theorem se_int {i j} : PE X (.Constant (.int i) j pos) (tI X.K (cD (.int i))) := se_c pe_int fun _ => .int i
theorem se_bl {i j} : PE X (.Constant (.bool i) j pos) (tI X.K (cD (.bool i))) := se_c pe_bl fun _ => .bl i
theorem se_non {j} : PE X (.Constant .none j pos) (tI X.K (cD .none)) := se_c pe_non fun _ => .non
theorem se_str {i j} : PE X (.Constant (.str i) j pos) (tI X.K (cD (.str i))) := se_c pe_str fun _ => .str i
theorem glob_int {x : Str} {i : Int} {t : Tok} (hg : Gl X x) (hm : X.mg x = some (.int i t)) (hd : (x == ("__debug__" : Str)) = false := by decide) : PE X (.Name x pos) (tI X.K (cD (.int i))) := se_c (pe_glob hg hm (v := .int i) ⟨_, rfl⟩ hd) fun _ => .int i
/-- any two-place rule with the shape of an operation -/
theorem two {r : R2} {f : PyData → PyData → Option PyData} (hs : Snd2 X.K r f) {σ : L2.St} {H : Hp} {Q : VK} (h : tI X.K (cD2 f ca cb) σ H Q) : tOp r (tI X.K ca) (tI X.K cb) σ H Q := by
  obtain ⟨ρ, F, ev, st, w, st', hr, sr, e, post⟩ := h
  simp only [cD2, Option.bind_eq_some_iff, Option.map_eq_some_iff] at e
  obtain ⟨⟨w1, st1⟩, e1, ⟨w2, st2⟩, e2, x, e3, y, e4, z, e5, e6⟩ := e
  cases e6
  refine ⟨ρ, F, ev, st, w1, st1, hr, sr, e1, fun v1 ρ1 F1 H1 x1 hr1 wr1 => ⟨ρ1, F1, ev, st1, w2, st2, hr1, sr.mono x1, e2, fun v2 ρ2 F2 H2 x2 hr2 wr2 => ?_⟩⟩
  exact hs F2 H2 v1 v2 x y z Q hr2.sub (rd_ok hr2 (wr1.mono x2) e3) (rd_ok hr2 wr2 e4) e5 (post.grow (x1.trans x2) hr2)
theorem two_s {r : R2} {f : PyData → PyData → Option PyData} (hs : Snd2s r f) {σ : L2.St} {H : Hp} {Q : VK} (h : tI X.K (cD2s f ca cb) σ H Q) : tOp r (tI X.K ca) (tI X.K cb) σ H Q := by
  obtain ⟨ρ, F, ev, st, w, st', hr, sr, e, post⟩ := h
  simp only [cD2s, Option.bind_eq_some_iff, Option.map_eq_some_iff] at e
  obtain ⟨⟨w1, st1⟩, e1, ⟨w2, st2⟩, e2, x, e3, y, e4, z, e5, e6⟩ := e
  cases e6
  refine ⟨ρ, F, ev, st, w1, st1, hr, sr, e1, fun v1 ρ1 F1 H1 x1 hr1 wr1 => ⟨ρ1, F1, ev, st1, w2, st2, hr1, sr.mono x1, e2, fun v2 ρ2 F2 H2 x2 hr2 wr2 => ?_⟩⟩
  exact hs F2 H2 v1 v2 x y z Q hr2.sub (rdS_ok hr2 (wr1.mono x2) e3) (rdS_ok hr2 wr2 e4) e5 (post.grow (x1.trans x2) hr2)
theorem se_op {op : Operator} {r : R2} {f : PyData → PyData → Option PyData} (ho : OpR X (binaryOp op) r) (hs : Snd2 X.K r f) (ha : PE X a (tI X.K ca)) (hb : PE X b (tI X.K cb)) : PE X (.BinOp a op b pos) (tI X.K (cD2 f ca cb)) :=
  (pe_op ho ha hb).weak fun _ _ _ h => two hs h
theorem se_ops {op : Operator} {r : R2} {f : PyData → PyData → Option PyData} (ho : OpR X (binaryOp op) r) (hs : Snd2s r f) (ha : PE X a (tI X.K ca)) (hb : PE X b (tI X.K cb)) : PE X (.BinOp a op b pos) (tI X.K (cD2s f ca cb)) :=
  (pe_op ho ha hb).weak fun _ _ _ h => two_s hs h
theorem se_cmp {op : CmpOp} {r : R2} {f : PyData → PyData → Option PyData} (ho : OpR X (compareOp op) r) (hs : Snd2 X.K r f) (ha : PE X a (tI X.K ca)) (hb : PE X b (tI X.K cb)) (hm : behindInMarks op b = false) : PE X (.Compare a [op] [b] pos) (tI X.K (cD2 f ca cb)) :=
  (pe_cmpR ho ha hb hm).weak fun _ _ _ h => two hs h
theorem se_ix {r : R2} {f : PyData → PyData → Option PyData} (ho : IxR X r) (hs : Snd2 X.K r f) (ha : PE X a (tI X.K ca)) (hb : PE X b (tI X.K cb)) (hp : PlainIx b := by exact fun _ _ => rfl) : PE X (.Subscript a b pos) (tI X.K (cD2 f ca cb)) :=
  (pe_ix ho ha hb hp).weak fun _ _ _ h => two hs h
theorem se_un {op : UnaryOp} {r : V → Hp → VK → Prop} {f : PyData → Option PyData} (ho : UnR X (unaryOp op) r) (hs : Snd1 X.K r f) (ha : PE X a (tI X.K ca)) : PE X (.UnaryOp op a pos) (tI X.K (cD1 f ca)) :=
  (pe_un ho ha).weak fun σ H Q ⟨ρ, F, ev, st, w, st', hr, sr, e, post⟩ => by
    simp only [cD1, Option.bind_eq_some_iff, Option.map_eq_some_iff] at e
    obtain ⟨⟨w1, st1⟩, e1, x, e3, z, e5, e6⟩ := e
    cases e6
    exact ⟨ρ, F, ev, st, w1, st1, hr, sr, e1, fun v1 ρ1 F1 H1 x1 hr1 wr1 => hs F1 H1 v1 x z Q hr1.sub (rd_ok hr1 wr1 e3) e5 (post.grow x1 hr1)⟩
/-! tests -/
theorem st_cmp {op : CmpOp} {r : R2} {f : PyData → PyData → Option PyData} (ho : OpR X (compareOp op) r) (hs : Snd2 X.K r f) (ha : PE X a (tI X.K ca)) (hb : PE X b (tI X.K cb)) (hm : behindInMarks op b = false) : PT X (.Compare a [op] [b] pos) (tT X.K (cB (cD2 f ca cb))) :=
  (pt_cmpR ho ha hb hm).weak fun σ H Q ⟨ρ, F, ev, st, w, st', hr, sr, e, post⟩ => by
    simp only [cB, Option.bind_eq_some_iff] at e
    obtain ⟨⟨w1, st1⟩, e1, e2⟩ := e
    refine two hs (Q := fun x H' => ∃ k, x = .bl k ∧ Q k H') ⟨ρ, F, ev, st, w1, st1, hr, sr, e1, fun v ρ' F' H' x h r => ?_⟩
    split at e2
    · rename_i k q
      cases e2
      cases q
      cases r
      exact ⟨_, rfl, post _ _ _ x h⟩
    · cases e2
theorem truth_ok {K : PySem.W.Frag} {F H : Hp} {v : V} {x : PyData} {t : Bool} (hs : Same F H) (r : Rdd K F H v x) (e : truth x = some t) : TruV K v H t := by
  cases x with
  | none => cases r.non; cases e; rfl
  | bool b => cases r.bl; cases e; rfl
  | int i => cases r.int; cases e; rfl
  | str z =>
    cases r.str
    simp only [truth] at e
    split at e
    · rename_i h
      cases e
      exact ⟨lim_le h, rfl⟩
    · cases e
  | list xs =>
    obtain ⟨a, vs, rfl, h, d⟩ := r.list hs
    cases e
    refine .inl ⟨vs, h, ?_⟩
    cases d <;> rfl
  | tuple xs =>
    obtain ⟨a, vs, rfl, h, _, d⟩ := r.tup hs
    cases e
    refine .inr (.inl ⟨vs, SqT.of h, ?_⟩)
    cases d <;> rfl
  | dict z => cases e
theorem st_tr (ha : PE X a (tI X.K ca)) (he : ∀ whole, isTrue a X.env whole = (do let v ← whole; standAt a.pos; holding [v] (truthy v)) := by exact fun _ => rfl) : PT X a (tT X.K (cTr ca)) :=
  (pt_truth ha he).weak fun σ H Q ⟨ρ, F, ev, st, w, st', hr, sr, e, post⟩ => by
    simp only [cTr, Option.bind_eq_some_iff, Option.map_eq_some_iff] at e
    obtain ⟨⟨w1, st1⟩, e1, x, e2, t, e3, e4⟩ := e
    cases e4
    exact ⟨ρ, F, ev, st, w1, st1, hr, sr, e1, fun v ρ' F' H' x h r => ⟨_, truth_ok h.sub (rd_ok h r e2) e3, post _ _ _ x h⟩⟩
theorem st_and1 (ha : PT X a (tT X.K ba)) : PW X (.BoolOp .And [a] pos) (tT X.K ba) := pw_and1 ha
theorem st_or1 (ha : PT X a (tT X.K ba)) : PW X (.BoolOp .Or [a] pos) (tT X.K ba) := pw_or1 ha
theorem st_and (ha : PT X a (tT X.K ba)) (hb : PW X (.BoolOp .And (b :: es) pos) (tT X.K bb)) : PW X (.BoolOp .And (a :: b :: es) pos) (tT X.K (bAnd ba bb)) :=
  (pw_and ha hb).weak fun σ H Q ⟨ρ, F, ev, st, w, st', hr, sr, e, post⟩ => by
    simp only [bAnd, Option.bind_eq_some_iff] at e
    obtain ⟨⟨k, st1⟩, e1, e2⟩ := e
    refine ⟨ρ, F, ev, st, k, st1, hr, sr, e1, fun ρ' F' H' x h => ?_⟩
    cases k with
    | true => exact ⟨ρ', F', ev, st1, w, st', h, sr.mono x, e2, fun ρ2 F2 H2 x2 h2 => post _ _ _ (x.trans x2) h2⟩
    | false =>
      cases e2
      exact post _ _ _ x h
theorem st_or (ha : PT X a (tT X.K ba)) (hb : PW X (.BoolOp .Or (b :: es) pos) (tT X.K bb)) : PW X (.BoolOp .Or (a :: b :: es) pos) (tT X.K (bOr ba bb)) :=
  (pw_or ha hb).weak fun σ H Q ⟨ρ, F, ev, st, w, st', hr, sr, e, post⟩ => by
    simp only [bOr, Option.bind_eq_some_iff] at e
    obtain ⟨⟨k, st1⟩, e1, e2⟩ := e
    refine ⟨ρ, F, ev, st, k, st1, hr, sr, e1, fun ρ' F' H' x h => ?_⟩
    cases k with
    | false => exact ⟨ρ', F', ev, st1, w, st', h, sr.mono x, e2, fun ρ2 F2 H2 x2 h2 => post _ _ _ (x.trans x2) h2⟩
    | true =>
      cases e2
      exact post _ _ _ x h
theorem st_not (ha : PT X a (tT X.K ba)) : PT X (.UnaryOp .Not a pos) (tT X.K (bNot ba)) :=
  (pt_not ha).weak fun σ H Q ⟨ρ, F, ev, st, w, st', hr, sr, e, post⟩ => by
    simp only [bNot, Option.map_eq_some_iff] at e
    obtain ⟨⟨k, st1⟩, e1, e2⟩ := e
    cases e2
    exact ⟨ρ, F, ev, st, k, st1, hr, sr, e1, fun ρ' F' H' x h => post _ _ _ x h⟩
theorem se_and (ha : PE X a (tI X.K ca)) (hb : PE X (.BoolOp .And (b :: es) pos) (tI X.K cb)) : PE X (.BoolOp .And (a :: b :: es) pos) (tI X.K (cAnd ca cb)) :=
  (pe_andT ha hb).weak fun σ H Q ⟨ρ, F, ev, st, w, st', hr, sr, e, post⟩ => by
    simp only [cAnd, Option.bind_eq_some_iff] at e
    obtain ⟨⟨w1, st1⟩, e1, x, e2, t, e3, e4⟩ := e
    refine ⟨ρ, F, ev, st, w1, st1, hr, sr, e1, fun v ρ' F' H' x h r => ⟨t, truth_ok h.sub (rd_ok h r e2) e3, ?_⟩⟩
    cases t with
    | true => exact iteT ⟨ρ', F', ev, st1, w, st', h, sr.mono x, e4, fun v2 ρ2 F2 H2 x2 h2 r2 => post _ _ _ _ (x.trans x2) h2 r2⟩
    | false =>
      cases e4
      exact iteF (post _ _ _ _ x h r)
theorem se_or (ha : PE X a (tI X.K ca)) (hb : PE X (.BoolOp .Or (b :: es) pos) (tI X.K cb)) : PE X (.BoolOp .Or (a :: b :: es) pos) (tI X.K (cOr ca cb)) :=
  (pe_orT ha hb).weak fun σ H Q ⟨ρ, F, ev, st, w, st', hr, sr, e, post⟩ => by
    simp only [cOr, Option.bind_eq_some_iff] at e
    obtain ⟨⟨w1, st1⟩, e1, x, e2, t, e3, e4⟩ := e
    refine ⟨ρ, F, ev, st, w1, st1, hr, sr, e1, fun v ρ' F' H' x h r => ⟨t, truth_ok h.sub (rd_ok h r e2) e3, ?_⟩⟩
    cases t with
    | false => exact iteF ⟨ρ', F', ev, st1, w, st', h, sr.mono x, e4, fun v2 ρ2 F2 H2 x2 h2 r2 => post _ _ _ _ (x.trans x2) h2 r2⟩
    | true =>
      cases e4
      exact iteT (post _ _ _ _ x h r)
theorem se_not (ha : PE X a (tI X.K ca)) : PE X (.UnaryOp .Not a pos) (tI X.K (cNot ca)) :=
  (pe_notT ha).weak fun σ H Q ⟨ρ, F, ev, st, w, st', hr, sr, e, post⟩ => by
    simp only [cNot, Option.bind_eq_some_iff, Option.map_eq_some_iff] at e
    obtain ⟨⟨w1, st1⟩, e1, x, e2, t, e3, e4⟩ := e
    cases e4
    exact ⟨ρ, F, ev, st, w1, st1, hr, sr, e1, fun v ρ' F' H' x h r => ⟨t, truth_ok h.sub (rd_ok h r e2) e3, post _ _ _ _ x h (.bl _)⟩⟩
theorem se_if (hc : PT X c (tT X.K ba)) (ha : PE X a (tI X.K ca)) (hb : PE X b (tI X.K cb)) : PE X (.IfExp c a b pos) (tI X.K (cIf ba ca cb)) :=
  (pe_ifExp hc ha hb).weak fun σ H Q ⟨ρ, F, ev, st, w, st', hr, sr, e, post⟩ => by
    simp only [cIf, Option.bind_eq_some_iff] at e
    obtain ⟨⟨k, st1⟩, e1, e2⟩ := e
    refine ⟨ρ, F, ev, st, k, st1, hr, sr, e1, fun ρ' F' H' x h => ?_⟩
    cases k with
    | true => exact ⟨ρ', F', ev, st1, w, st', h, sr.mono x, e2, fun v2 ρ2 F2 H2 x2 h2 r2 => post _ _ _ _ (x.trans x2) h2 r2⟩
    | false => exact ⟨ρ', F', ev, st1, w, st', h, sr.mono x, e2, fun v2 ρ2 F2 H2 x2 h2 r2 => post _ _ _ _ (x.trans x2) h2 r2⟩
theorem chain {r r' : R2} {f g : PyData → PyData → Option PyData} (hs : Snd2 X.K r f) (hs' : Snd2 X.K r' g) {σ : L2.St} {H : Hp} {Q : VK} (h : tI X.K (cChain f g ca cb cc) σ H Q) : tChain r r' (tI X.K ca) (tI X.K cb) (tI X.K cc) σ H Q := by
  obtain ⟨ρ, F, ev, st, w, st', hr, sr, e, post⟩ := h
  simp only [cChain, Option.bind_eq_some_iff] at e
  obtain ⟨⟨w1, st1⟩, e1, ⟨w2, st2⟩, e2, x, e3, y, e4, z, e5, e6⟩ := e
  refine ⟨ρ, F, ev, st, w1, st1, hr, sr, e1, fun v1 ρ1 F1 H1 x1 hr1 wr1 => ⟨ρ1, F1, ev, st1, w2, st2, hr1, sr.mono x1, e2, fun v2 ρ2 F2 H2 x2 hr2 wr2 => ?_⟩⟩
  refine hs F2 H2 v1 v2 x y z _ hr2.sub (rd_ok hr2 (wr1.mono x2) e3) (rd_ok hr2 wr2 e4) e5 fun v F' H' g d => ?_
  split at e6
  · cases d
    simp only [Option.bind_eq_some_iff, Option.map_eq_some_iff] at e6
    obtain ⟨⟨w3, st3⟩, e7, y', e8, u, e9, z', e10, e11⟩ := e6
    cases e11
    have x3 : Ext ρ2 F2 ρ2 F' := .of g
    refine ⟨true, rfl, iteT ⟨ρ2, F', ev, st2, w3, st3, hr2.grow g, (sr.mono (x1.trans x2)).mono x3, e7, fun v3 ρ3 F3 H3 x4 hr3 wr3 => ?_⟩⟩
    exact hs' F3 H3 v2 v3 y' u z' Q hr3.sub (rd_ok hr3 ((wr2.mono x3).mono x4) e8) (rd_ok hr3 wr3 e9) e10 (post.grow ((x1.trans x2).trans (x3.trans x4)) hr3)
  · cases d
    cases e6
    exact ⟨false, rfl, iteF (post _ ρ2 F' H' ((x1.trans x2).trans (.of g)) (hr2.grow g) (.bl _))⟩
  · cases e6
theorem se_chain {op op' : CmpOp} {r r' : R2} {f g : PyData → PyData → Option PyData} (ho : OpR X (compareOp op) r) (ho' : OpR X (compareOp op') r') (hs : Snd2 X.K r f) (hs' : Snd2 X.K r' g) (ha : PE X a (tI X.K ca)) (hb : PE X b (tI X.K cb)) (hc : PE X c (tI X.K cc))
    (hm : lastMarks [op, op'] [b, c] = false := by with_unfolding_all rfl) : PE X (.Compare a [op, op'] [b, c] pos) (tI X.K (cChain f g ca cb cc)) :=
  (pe_chain ho ho' ha hb hc hm).weak fun _ _ _ h => chain hs hs' h
theorem st_chain {op op' : CmpOp} {r r' : R2} {f g : PyData → PyData → Option PyData} (ho : OpR X (compareOp op) r) (ho' : OpR X (compareOp op') r') (hs : Snd2 X.K r f) (hs' : Snd2 X.K r' g) (ha : PE X a (tI X.K ca)) (hb : PE X b (tI X.K cb)) (hc : PE X c (tI X.K cc))
    (hm : lastMarks [op, op'] [b, c] = false := by with_unfolding_all rfl) : PT X (.Compare a [op, op'] [b, c] pos) (tT X.K (cB (cChain f g ca cb cc))) :=
  (pt_chain ho ho' ha hb hc hm).weak fun σ H Q ⟨ρ, F, ev, st, w, st', hr, sr, e, post⟩ => by
    simp only [cB, Option.bind_eq_some_iff] at e
    obtain ⟨⟨w1, st1⟩, e1, e2⟩ := e
    refine chain hs hs' (Q := fun x H' => ∃ k, x = .bl k ∧ Q k H') ⟨ρ, F, ev, st, w1, st1, hr, sr, e1, fun v ρ' F' H' x h r => ?_⟩
    split at e2
    · rename_i k q
      cases e2
      cases q
      cases r
      exact ⟨_, rfl, post _ _ _ x h⟩
    · cases e2
/-! arguments -/
theorem sa_nil : PA X [] (tA X.K cNil) := pa_nil.weak fun σ H Q ⟨ρ, F, ev, st, w, st', hr, sr, e, post⟩ => by
  cases e
  exact post [] ρ F H (.refl _ _) hr .nil
theorem sa_cons {r : SA} (ha : PE X e (tI X.K ca)) (hr : PA X es (tA X.K r)) (hs : starEach (e :: es) X.env = (false, eval e X.env) :: starEach es X.env := by rfl) : PA X (e :: es) (tA X.K (cCons ca r)) :=
  (pa_cons ha hr hs).weak fun σ H Q ⟨ρ, F, ev, st, w, st', hr, sr, e, post⟩ => by
    simp only [cCons, Option.bind_eq_some_iff, Option.map_eq_some_iff] at e
    obtain ⟨⟨w1, st1⟩, e1, ⟨ws, st2⟩, e2, e3⟩ := e
    cases e3
    exact ⟨ρ, F, ev, st, w1, st1, hr, sr, e1, fun v1 ρ1 F1 H1 x1 hr1 wr1 => ⟨ρ1, F1, ev, st1, ws, st2, hr1, sr.mono x1, e2, fun vs ρ2 F2 H2 x2 hr2 wr2 => post _ ρ2 F2 H2 (x1.trans x2) hr2 (.cons (wr1.mono x2) wr2)⟩⟩
theorem WRs.of_d {K : PySem.W.Frag} {ρ : List Addr} {F : Hp} : ∀ {vs : List V} {xs : List PyData}, DqA F vs xs → WRs K ρ F vs (xs.map U.d)
  | _, _, .nil => .nil
  | _, _, .cons a t => .cons a (WRs.of_d t)
theorem sa_star {r : SA} {p : Pos} (ha : PE X e (tI X.K ca)) (hr : PA X es (tA X.K r)) (hs : starEach (.Starred e p :: es) X.env = (true, eval e X.env) :: starEach es X.env := by rfl) : PA X (.Starred e p :: es) (tA X.K (cStar ca r)) :=
  (StX.pa_star ha hr hs).weak fun σ H Q ⟨ρ, F, ev, st, w, st', hr, sr, e, post⟩ => by
    simp only [cStar, Option.bind_eq_some_iff, Option.map_eq_some_iff] at e
    obtain ⟨⟨w1, st1⟩, e1, x, e2, xs, e3, ⟨ws, st2⟩, e4, e5⟩ := e
    cases e5
    refine ⟨ρ, F, ev, st, w1, st1, hr, sr, e1, fun v1 ρ1 F1 H1 x1 hr1 wr1 => ?_⟩
    have rr : Rdd X.K F1 H1 v1 x := rd_ok hr1 wr1 e2
    have go : ∀ (a : Addr) (vs : List V), v1 = .ref a → (SqT X.K H1 a vs ∨ SqL X.K H1 a vs) → DqA F1 vs xs → ∃ p xs_1, v1 = V.ref p ∧ (SqT X.K H1 p xs_1 ∨ SqL X.K H1 p xs_1) ∧ tA X.K r σ H1 fun ys H2 => Q (xs_1 ++ ys) H2 := fun a vs e6 hq d =>
      ⟨a, vs, e6, hq, ρ1, F1, ev, st1, ws, st2, hr1, sr.mono x1, e4, fun us ρ2 F2 H2 x2 hr2 wr2 => post _ ρ2 F2 H2 (x1.trans x2) hr2 ((WRs.of_d (d.mono x2.same)).append wr2)⟩
    cases x with
    | list ys =>
      cases e3
      obtain ⟨a, vs, h1, h2, h3⟩ := rr.list hr1.sub
      exact go a vs h1 (.inr h2) h3
    | tuple ys =>
      cases e3
      obtain ⟨a, vs, h1, h2, _, h3⟩ := rr.tup hr1.sub
      exact go a vs h1 (.inl (SqT.of h2)) h3
    | _ => cases e3
theorem se_tup {x1} (h : PA X es (tA X.K sa)) : PE X (.Tuple es x1 pos) (tI X.K (cTup sa)) :=
  (pe_tup h).weak fun σ H Q ⟨ρ, F, ev, st, w, st', hr, sr, e, post⟩ => by
    simp only [cTup, Option.bind_eq_some_iff] at e
    obtain ⟨⟨ws, st1⟩, e1, xs, e2, e3⟩ := e
    refine ⟨ρ, F, ev, st, ws, st1, hr, sr, e1, fun vs ρ' F' H' x h r => ?_⟩
    have d := allD_ok r e2
    split at e3
    · rename_i hl
      cases e3
      exact ⟨by rw [d.length]; exact lim_le hl, fun p np => (post.grow x h).tup h.sub d p np⟩
    · cases e3
theorem se_lst (h : PA X es (tA X.K sa)) : PE X (.List es pos) (tI X.K (cLst sa)) :=
  (pe_lst h).weak fun σ H Q ⟨ρ, F, ev, st, w, st', hr, sr, e, post⟩ => by
    simp only [cLst, Option.bind_eq_some_iff] at e
    obtain ⟨⟨ws, st1⟩, e1, xs, e2, e3⟩ := e
    refine ⟨ρ, F, ev, st, ws, st1, hr, sr, e1, fun vs ρ' F' H' x h r => ?_⟩
    have d := allD_ok r e2
    split at e3
    · rename_i hl
      cases e3
      exact ⟨by rw [d.length]; exact lim_le hl, fun p np => (post.grow x h).lst h.sub d p np⟩
    · cases e3
/-- a list that may change is laid in the store -/
theorem HR.push {ρ : List Addr} {F H : Hp} {st : Sto} {p : Addr} {vs : List V} {xs : List PyData} (h : HR ρ F H st) (n : H p = none) (d : DqA F vs xs) : HR (ρ ++ [p]) F (upd H p (.lst vs)) (st ++ [some xs]) := by
  have old : ∀ (k : Nat) (ys : List PyData), (st ++ [some xs])[k]? = some (some ys) → (k < st.length ∧ st[k]? = some (some ys)) ∨ (k = st.length ∧ ys = xs) := fun k ys e => by
    rw [List.getElem?_append] at e
    split at e
    · rename_i hl
      exact .inl ⟨hl, e⟩
    · rename_i hl
      by_cases hk : k = st.length
      · subst hk
        simp at e
        exact .inr ⟨rfl, e.symm⟩
      · have : 1 ≤ k - st.length := by omega
        rw [List.getElem?_eq_none (by simpa using this)] at e
        cases e
  have rold : ∀ (k : Nat) (a : Addr), k < st.length → (ρ ++ [p])[k]? = some a → ρ[k]? = some a := fun k a hl e => by
    rw [List.getElem?_append_left (by rw [h.len]; exact hl)] at e
    exact e
  have rnew : (ρ ++ [p])[st.length]? = some p := by
    rw [List.getElem?_append_right (by rw [h.len]; exact Nat.le_refl _), h.len]
    simp
  refine ⟨h.sub.trans (same_upd n), fun k ys e => ?_, fun k m a e1 e2 l1 l2 => ?_, by simp [h.len]⟩
  · rcases old k ys e with ⟨hl, e⟩ | ⟨rfl, rfl⟩
    · obtain ⟨a, ws, h1, h2, h3, h4⟩ := h.cell k ys e
      refine ⟨a, ws, ?_, ?_, h3, h4⟩
      · rw [List.getElem?_append_left (by rw [h.len]; exact hl)]
        exact h1
      · rw [upd_ne (ne_of_none h2 n)]
        exact h2
    · exact ⟨p, vs, rnew, upd_same, h.sub.free n, d⟩
  · obtain ⟨y1, l1⟩ := l1
    obtain ⟨y2, l2⟩ := l2
    have neq : ∀ (k : Nat) (ys : List PyData), k < st.length → st[k]? = some (some ys) → (ρ ++ [p])[k]? ≠ some p := fun k ys hl e q => by
      obtain ⟨a', ws, h1, h2, h3, h4⟩ := h.cell k ys e
      have := rold k p hl q
      rw [h1] at this
      cases this
      rw [n] at h2
      cases h2
    rcases old k y1 l1 with ⟨hl, q1⟩ | ⟨rfl, rfl⟩
    · rcases old m y2 l2 with ⟨hl2, q2⟩ | ⟨rfl, rfl⟩
      · exact h.inj k m a (rold k a hl e1) (rold m a hl2 e2) ⟨_, q1⟩ ⟨_, q2⟩
      · rw [rnew] at e2
        cases e2
        exact absurd e1 (neq k y1 hl q1)
    · rcases old m y2 l2 with ⟨hl2, q2⟩ | ⟨rfl, rfl⟩
      · rw [rnew] at e1
        cases e1
        exact absurd e2 (neq m y2 hl2 q2)
      · rfl
theorem Ext.push {ρ : List Addr} {F : Hp} (p : Addr) : Ext ρ F (ρ ++ [p]) F := ⟨fun n a h => by
  have hl : n < ρ.length := by
    rcases Nat.lt_or_ge n ρ.length with q | q
    · exact q
    · rw [List.getElem?_eq_none q] at h
      cases h
  rw [List.getElem?_append_left hl]
  exact h, Same.refl _⟩
theorem WR.pushed {K : PySem.W.Frag} {ρ : List Addr} {F H : Hp} {st : Sto} {p : Addr} (h : HR ρ F H st) : WR K (ρ ++ [p]) F (.ref p) (.l st.length) := ⟨p, by
  rw [List.getElem?_append_right (by rw [h.len]; exact Nat.le_refl _), h.len]
  simp, rfl⟩
theorem se_lstM (h : PA X es (tA X.K sa)) : PE X (.List es pos) (tI X.K (cLstM sa)) :=
  (pe_lst h).weak fun σ H Q ⟨ρ, F, ev, st, w, st', hr, sr, e, post⟩ => by
    simp only [cLstM, Option.bind_eq_some_iff] at e
    obtain ⟨⟨ws, st1⟩, e1, xs, e2, e3⟩ := e
    refine ⟨ρ, F, ev, st, ws, st1, hr, sr, e1, fun vs ρ' F' H' x h r => ?_⟩
    have d := allD_ok r e2
    split at e3
    · rename_i hl
      cases e3
      exact ⟨by rw [d.length]; exact lim_le hl, fun p np => post _ _ _ _ (x.trans (.push p)) (h.push np d) (.pushed h)⟩
    · cases e3
/-! a built-in called -/
theorem callN {r : List V → Hp → VK → Prop} {f : List PyData → Option PyData} (hs : SndN X.K r f) {σ : L2.St} {H : Hp} {Q : VK} (h : tI X.K (cCall f sa) σ H Q) : tCB r (tA X.K sa) σ H Q := by
  obtain ⟨ρ, F, ev, st, w, st', hr, sr, e, post⟩ := h
  simp only [cCall, Option.bind_eq_some_iff, Option.map_eq_some_iff] at e
  obtain ⟨⟨ws, st1⟩, e1, xs, e2, z, e3, e4⟩ := e
  cases e4
  exact ⟨ρ, F, ev, st, ws, st1, hr, sr, e1, fun vs ρ' F' H' x h r => hs F' H' vs xs z Q h.sub (rdAll_ok h r e2) e3 (post.grow x h)⟩
theorem se_callB {id : String} {r : List V → Hp → VK → Prop} {f : List PyData → Option PyData} {x : Str} {p : Pos} (hc : CallR X (.builtin id) r) (hs : SndN X.K r f) (hg : Gl X x) (hm : X.mg x = none) (hv : bootBuiltins x = some (.builtin id)) (ha : PA X (e :: es) (tA X.K sa)) (hn : x ≠ "__name__" := by decide) (hdb : (x == ("__debug__" : Str)) = false := by decide)
    (he : starEach (e :: es) X.env = (false, eval e X.env) :: starEach es X.env := by rfl) (hpl : (backTo pos (starEach es X.env)).any (·.1) = false := by rfl) : PE X (.Call (.Name x p) (e :: es) [] pos) (tI X.K (cCall f sa)) :=
  (pe_callB hc hg hm hv ha hn hdb he hpl).weak fun _ _ _ h => callN hs h
theorem se_callTy {id : String} {r : List V → Hp → VK → Prop} {f : List PyData → Option PyData} {x : Str} {p : Pos} (hc : CallR X (.type id) r) (hs : SndN X.K r f) (hg : Gl X x) (hm : X.mg x = none) (hv : bootBuiltins x = some (.type id)) (ha : PA X (e :: es) (tA X.K sa)) (hn : x ≠ "__name__" := by decide) (hdb : (x == ("__debug__" : Str)) = false := by decide)
    (he : starEach (e :: es) X.env = (false, eval e X.env) :: starEach es X.env := by rfl) (hpl : (backTo pos (starEach es X.env)).any (·.1) = false := by rfl) : PE X (.Call (.Name x p) (e :: es) [] pos) (tI X.K (cCall f sa)) :=
  (pe_callTy hc hg hm hv ha hn hdb he hpl).weak fun _ _ _ h => callN hs h
end
end Cm

set_option Elab.async false
set_option linter.all false
set_option maxRecDepth 100000
namespace Cm
open PySem PySem.Spec PyProof.Rows L2

/-! ### what a rule asks of the text alone, under short names -/
abbrev NotDbg (x : Str) : Prop := (x == ("__debug__" : Str)) = false
abbrev Bare1 (X : Cx) (e : Expr) (es : List Expr) : Prop := starEach (e :: es) X.env = (false, eval e X.env) :: starEach es X.env
abbrev NoStar (X : Cx) (es : List Expr) (pos : Pos) : Prop := (backTo pos (starEach es X.env)).any (·.1) = false
abbrev NoStarK (X : Cx) (es : List Expr) (kws : List Keyword) (pos : Pos) : Prop := ((backTo pos (starEach es X.env)).any (·.1) || (backToKw pos (keywordEach kws X.env)).any (·.1.isNone)) = false
abbrev Named (X : Cx) (kws : List Keyword) (pos : Pos) : Prop := (backToKw pos (keywordEach kws X.env)).all (·.1.isSome) = true
abbrev NamesAre (X : Cx) (kws : List Keyword) (pos : Pos) (ks : List Str) : Prop := (backToKw pos (keywordEach kws X.env)).filterMap (·.1) = ks
abbrev Few (X : Cx) (es : List Expr) (pos : Pos) : Prop := ((backTo pos (starEach es X.env)).all (fun x => !x.1) && (backToKw pos (keywordEach [] X.env)).all (fun x => x.1.isSome) && decide (es.length + ([] : List Keyword).length + (if ([] : List Keyword).isEmpty then 0 else 1) < 30)) = true
abbrev BareBase (X : Cx) (o : Expr) (name : Str) : Prop := attributeBase o name X.env (eval o X.env) = eval o X.env
abbrev Swaps (X : Cx) (t v : Expr) (xs : Option (List Str)) : Prop := swappedStores [t] v X.env = pure xs
abbrev NoSole (X : Cx) (t v : Expr) (pos : Pos) : Prop := swapsWithSole [t] v pos.line X.env = pure false
/-! ### statements -/
inductive Out where
  | nx (ev : Ev) (st : Sto)
  | rt (w : U) (st : Sto)
  | bk (ev : Ev) (st : Sto)
  | ct (ev : Ev) (st : Sto)
abbrev SS := Ev → Sto → Option Out
def OutOk (K : PySem.W.Frag) (ρ : List Addr) (F : Hp) (D : Ends) : Out → Prop
  | .nx ev st => ∀ σ' ρ' F' H', Ext ρ F ρ' F' → HR ρ' F' H' st → SR K ρ' F' ev σ' → D.nx σ' H'
  | .rt w st => ∀ v ρ' F' H', Ext ρ F ρ' F' → HR ρ' F' H' st → WR K ρ' F' v w → D.rt v H'
  | .bk ev st => ∀ σ' ρ' F' H', Ext ρ F ρ' F' → HR ρ' F' H' st → SR K ρ' F' ev σ' → D.bk σ' H'
  | .ct ev st => ∀ σ' ρ' F' H', Ext ρ F ρ' F' → HR ρ' F' H' st → SR K ρ' F' ev σ' → D.ct σ' H'
def tSS (K : PySem.W.Frag) (c : SS) : TS := fun D σ H => ∃ ρ F ev st o, HR ρ F H st ∧ SR K ρ F ev σ ∧ c ev st = some o ∧ OutOk K ρ F D o
theorem OutOk.mono {K : PySem.W.Frag} {ρ ρ' : List Addr} {F F' : Hp} {D : Ends} {o : Out} (h : OutOk K ρ F D o) (x : Ext ρ F ρ' F') : OutOk K ρ' F' D o := by
  cases o with
  | nx ev st => exact fun σ' ρ2 F2 H2 x2 hr sr => h σ' ρ2 F2 H2 (x.trans x2) hr sr
  | rt ev st => exact fun σ' ρ2 F2 H2 x2 hr sr => h σ' ρ2 F2 H2 (x.trans x2) hr sr
  | bk ev st => exact fun σ' ρ2 F2 H2 x2 hr sr => h σ' ρ2 F2 H2 (x.trans x2) hr sr
  | ct ev st => exact fun σ' ρ2 F2 H2 x2 hr sr => h σ' ρ2 F2 H2 (x.trans x2) hr sr

def cSkip : SS := fun ev st => some (.nx ev st)
def cSeq (a b : SS) : SS := fun ev st => (a ev st).bind fun o => match o with
  | .nx ev' st' => b ev' st'
  | o => some o
def cSet (i : Nat) (e : SE) : SS := fun ev st => (e ev st).map fun p => .nx (ev.set i (some p.1)) p.2
def cRet (e : SE) : SS := fun ev st => (e ev st).map fun p => .rt p.1 p.2
def cRetN : SS := fun _ st => some (.rt (.d .none) st)
def cIfS (c : SB) (a b : SS) : SS := fun ev st => (c ev st).bind fun p => if p.1 then a ev p.2 else b ev p.2
def cExpr (e : SE) : SS := fun ev st => (e ev st).map fun p => .nx ev p.2
def cFail : SS := fun _ _ => none
def cBrk : SS := fun ev st => some (.bk ev st)
def cCont : SS := fun ev st => some (.ct ev st)
def whileN (c : SB) (b : SS) : Nat → SS
  | 0, _, _ => none
  | n + 1, ev, st => (c ev st).bind fun p => if p.1 then (b ev p.2).bind fun o => match o with
      | .nx ev' st' => whileN c b n ev' st'
      | .ct ev' st' => whileN c b n ev' st'
      | .bk ev' st' => some (.nx ev' st')
      | .rt w st' => some (.rt w st')
    else some (.nx ev p.2)
def cWhile (c : SB) (b : SS) : SS := whileN c b lim
/-- the list of a slot is from here on data (nothing runs) -/
def freeze (st : Sto) (n : Nat) : Option (List PyData × Sto) := match st[n]? with
  | some (some xs) => some (xs, st.set n none)
  | _ => none
def cFreeze (i : Nat) (s : SS) : SS := fun ev st => match ev[i]? with
  | some (some (.l n)) => (freeze st n).bind fun p => s (ev.set i (some (.d (.list p.1)))) p.2
  | _ => none

theorem HR.freeze {ρ : List Addr} {F H : Hp} {st : Sto} {n : Nat} {xs : List PyData} (h : HR ρ F H st) (e : st[n]? = some (some xs)) :
    ∃ a vs, ρ[n]? = some a ∧ F a = none ∧ H a = some (.lst vs) ∧ DqA F vs xs ∧ HR ρ (upd F a (.lst vs)) H (st.set n none) := by
  obtain ⟨a, vs, h1, h2, h3, h4⟩ := h.cell n xs e
  refine ⟨a, vs, h1, h3, h2, h4, fun b o q => ?_, fun m ys q => ?_, fun m k b e1 e2 l1 l2 => ?_, by simp [h.len]⟩
  · by_cases hb : b = a
    · subst hb
      rw [upd_same] at q
      rw [h2]
      exact q
    · rw [upd_ne hb] at q
      exact h.sub _ _ q
  · have hm : n ≠ m := fun z => by
      subst z
      rw [List.getElem?_set] at q
      simp only [if_true] at q
      split at q <;> cases q
    rw [List.getElem?_set_ne hm] at q
    obtain ⟨b, ws, k1, k2, k3, k4⟩ := h.cell m ys q
    have hba : b ≠ a := fun z => by
      subst z
      exact hm (h.inj n m b h1 k1 ⟨_, e⟩ ⟨_, q⟩)
    exact ⟨b, ws, k1, k2, by rw [upd_ne hba]; exact k3, k4.mono (same_upd h3)⟩
  · have li : ∀ j : Nat, (∃ ys, (st.set n none)[j]? = some (some ys)) → ∃ ys, st[j]? = some (some ys) := fun j ⟨ys, q⟩ => by
      rw [List.getElem?_set] at q
      split at q
      · split at q <;> cases q
      · exact ⟨ys, q⟩
    exact h.inj m k b e1 e2 (li m l1) (li k l2)
theorem Ext.upd {ρ : List Addr} {F : Hp} {a : Addr} {o : HO} (n : F a = none) : Ext ρ F ρ (upd F a o) := ⟨fun _ _ h => h, same_upd n⟩
theorem HR.take {ρ : List Addr} {F H : Hp} {st : Sto} (h : HR ρ F H st) (n : Nat) : HR (ρ.take n) F H (st.take n) := by
  have g : ∀ (k : Nat) (o : Option (List PyData)), (st.take n)[k]? = some o → k < n ∧ st[k]? = some o := fun k o e => by
    rw [List.getElem?_take] at e
    split at e
    · rename_i hk
      exact ⟨hk, e⟩
    · cases e
  have g' : ∀ (k : Nat) (a : Addr), (ρ.take n)[k]? = some a → k < n ∧ ρ[k]? = some a := fun k o e => by
    rw [List.getElem?_take] at e
    split at e
    · rename_i hk
      exact ⟨hk, e⟩
    · cases e
  refine ⟨h.sub, fun k xs e => ?_, fun k m a e1 e2 ⟨y1, l1⟩ ⟨y2, l2⟩ => h.inj k m a (g' _ _ e1).2 (g' _ _ e2).2 ⟨y1, (g _ _ l1).2⟩ ⟨y2, (g _ _ l2).2⟩, by simp [h.len]⟩
  obtain ⟨hk, e⟩ := g k _ e
  obtain ⟨a, vs, h1, h2⟩ := h.cell k xs e
  refine ⟨a, vs, ?_, h2⟩
  rw [List.getElem?_take, if_pos hk]
  exact h1
theorem Ext.take {ρ ρ' : List Addr} {F F' : Hp} (x : Ext ρ F ρ' F') (n : Nat) (h : ρ.length ≤ n) : Ext ρ F (ρ'.take n) F' := ⟨fun k a e => by
  have hk : k < ρ.length := by
    rcases Nat.lt_or_ge k ρ.length with q | q
    · exact q
    · rw [List.getElem?_eq_none q] at e
      cases e
  rw [List.getElem?_take, if_pos (by omega)]
  exact x.pre k a e, x.same⟩

section
variable {X : Cx} {e c : Expr} {s : Stmt} {ss ts : List Stmt} {pos : Pos} {ce : SE} {cb : SB} {a b : SS}
theorem ss_nil : PSs X [] (tSS X.K cSkip) := pss_nil.weak fun D σ H ⟨ρ, F, ev, st, o, hr, sr, e, ok⟩ => by
  cases e
  exact ok σ ρ F H (.refl _ _) hr sr
theorem seq_ok {D : Ends} {σ : L2.St} {H : Hp} (h : tSS X.K (cSeq a b) D σ H) : tSeq (tSS X.K a) (tSS X.K b) D σ H := by
  obtain ⟨ρ, F, ev, st, o, hr, sr, e, ok⟩ := h
  simp only [cSeq, Option.bind_eq_some_iff] at e
  obtain ⟨o1, e1, e2⟩ := e
  refine ⟨ρ, F, ev, st, o1, hr, sr, e1, ?_⟩
  cases o1 with
  | nx ev' st' => exact fun σ' ρ' F' H' x hr' sr' => ⟨ρ', F', ev', st', o, hr', sr', e2, ok.mono x⟩
  | rt w st' => cases e2; exact ok
  | bk ev' st' => cases e2; exact ok
  | ct ev' st' => cases e2; exact ok
theorem ss_cons (h1 : PS X s (tSS X.K a)) (h2 : PSs X ss (tSS X.K b)) : PSs X (s :: ss) (tSS X.K (cSeq a b)) := (pss_cons h1 h2).weak fun _ _ _ h => seq_ok h
theorem ss_one (h1 : PS X s (tSS X.K a)) : PSs X [s] (tSS X.K a) := pss_one h1
theorem s_pass : PS X (.Pass pos) (tSS X.K cSkip) := ps_pass.weak fun D σ H ⟨ρ, F, ev, st, o, hr, sr, e, ok⟩ => by
  cases e
  exact ok σ ρ F H (.refl _ _) hr sr
theorem s_break : PS X (.Break pos) (tSS X.K cBrk) := ps_break.weak fun D σ H ⟨ρ, F, ev, st, o, hr, sr, e, ok⟩ => by
  cases e
  exact ok σ ρ F H (.refl _ _) hr sr
theorem s_continue : PS X (.Continue pos) (tSS X.K cCont) := ps_continue.weak fun D σ H ⟨ρ, F, ev, st, o, hr, sr, e, ok⟩ => by
  cases e
  exact ok σ ρ F H (.refl _ _) hr sr
theorem s_fail : PS X s (tSS X.K cFail) := ps_never.weak fun D σ H ⟨ρ, F, ev, st, o, hr, sr, e, ok⟩ => by cases e
theorem ss_fail : PSs X ss (tSS X.K cFail) := pss_never.weak fun D σ H ⟨ρ, F, ev, st, o, hr, sr, e, ok⟩ => by cases e
theorem set_ok {i : Nat} {D : Ends} {σ : L2.St} {H : Hp} (h : tSS X.K (cSet i ce) D σ H) : tAsg (tI X.K ce) (gName i) D σ H := by
  obtain ⟨ρ, F, ev, st, o, hr, sr, e, ok⟩ := h
  simp only [cSet, Option.map_eq_some_iff] at e
  obtain ⟨⟨w, st'⟩, e1, e2⟩ := e
  subst e2
  exact ⟨ρ, F, ev, st, w, st', hr, sr, e1, fun v ρ' F' H' x hr' wr => ok _ ρ' F' H' x hr' ((sr.mono x).set wr i)⟩
theorem s_set {i : Nat} {x : Str} {pos' : Pos} (hN : X.N.Nodup) (hi : X.N[i]? = some x) (hx : Loc X.env.scope x) (he : PE X e (tI X.K ce)) (hs : swapsWith e (some (.Name x pos')) pos.line X.env = pure false := by rfl) (hf : X.fn x = true ∨ X.env.scope.names.lookup x = some .local := by first | exact .inl rfl | exact .inr rfl | assumption) :
    PS X (.Assign [.Name x pos'] e pos) (tSS X.K (cSet i ce)) := (ps_set hN hi hx he hs hf).weak fun _ _ _ h => set_ok h
theorem s_ret (he : PE X e (tI X.K ce)) : PS X (.Return (some e) pos) (tSS X.K (cRet ce)) := (ps_ret he).weak fun D σ H ⟨ρ, F, ev, st, o, hr, sr, e, ok⟩ => by
  simp only [cRet, Option.map_eq_some_iff] at e
  obtain ⟨⟨w, st'⟩, e1, e2⟩ := e
  subst e2
  exact ⟨ρ, F, ev, st, w, st', hr, sr, e1, ok⟩
theorem s_retN : PS X (.Return none pos) (tSS X.K cRetN) := ps_retN.weak fun D σ H ⟨ρ, F, ev, st, o, hr, sr, e, ok⟩ => by
  cases e
  exact ok .non ρ F H (.refl _ _) hr .non
theorem s_expr (he : PE X e (tI X.K ce)) (hs : swapsWith e none pos.line X.env = pure false := by rfl) : PS X (.Expr e pos) (tSS X.K (cExpr ce)) := (ps_expr he hs).weak fun D σ H ⟨ρ, F, ev, st, o, hr, sr, e, ok⟩ => by
  simp only [cExpr, Option.map_eq_some_iff] at e
  obtain ⟨⟨w, st'⟩, e1, e2⟩ := e
  subst e2
  exact ⟨ρ, F, ev, st, w, st', hr, sr, e1, fun v ρ' F' H' x hr' wr => ok _ ρ' F' H' x hr' (sr.mono x)⟩
theorem s_if (hc : PT X c (tT X.K cb)) (ha : PSs X ss (tSS X.K a)) (hb : PSs X ts (tSS X.K b)) : PS X (.If c ss ts pos) (tSS X.K (cIfS cb a b)) := (ps_if hc ha hb).weak fun D σ H ⟨ρ, F, ev, st, o, hr, sr, e, ok⟩ => by
  simp only [cIfS, Option.bind_eq_some_iff] at e
  obtain ⟨⟨k, st1⟩, e1, e2⟩ := e
  refine ⟨ρ, F, ev, st, k, st1, hr, sr, e1, fun ρ' F' H' x h => ?_⟩
  cases k with
  | true => exact ⟨ρ', F', ev, st1, o, h, sr.mono x, e2, ok.mono x⟩
  | false => exact ⟨ρ', F', ev, st1, o, h, sr.mono x, e2, ok.mono x⟩
/-- what a loop's body has to reach -/
theorem OutOk.loop {K : PySem.W.Frag} {ρ : List Addr} {F : Hp} {D : Ends} {N : L2.St → Hp → Prop} {o o' : Out}
    (hn : ∀ ev st, (o = .nx ev st ∨ o = .ct ev st) → ∀ σ' ρ' F' H', Ext ρ F ρ' F' → HR ρ' F' H' st → SR K ρ' F' ev σ' → N σ' H')
    (hb : ∀ ev st, o = .bk ev st → o' = .nx ev st) (hr : ∀ w st, o = .rt w st → o' = .rt w st) (ok : OutOk K ρ F D o') : OutOk K ρ F { D with nx := N, ct := N, bk := D.nx } o := by
  cases o with
  | nx ev st => exact hn ev st (.inl rfl)
  | ct ev st => exact hn ev st (.inr rfl)
  | bk ev st => rw [hb ev st rfl] at ok; exact ok
  | rt ev st => rw [hr ev st rfl] at ok; exact ok
theorem s_while (hp : PassesOwn (model X.prog X.w) X.A X.env X.xe) (hc : PT X c (tT X.K cb)) (hb : PSs X ss (tSS X.K b)) : PS X (.While c ss [] pos) (tSS X.K (cWhile cb b)) := (ps_while hp hc hb).weak fun D σ H ⟨ρ, F, ev, st, o, hr, sr, e, ok⟩ => by
  refine ⟨fun k σ H => ∃ ρ1 F1 ev1 st1, Ext ρ F ρ1 F1 ∧ HR ρ1 F1 H st1 ∧ SR X.K ρ1 F1 ev1 σ ∧ whileN cb b k ev1 st1 = some o, ⟨lim, ρ, F, ev, st, .refl _ _, hr, sr, e⟩, ?_⟩
  rintro k σ1 H1 ⟨ρ1, F1, ev1, st1, x1, hr1, sr1, e1⟩
  cases k with
  | zero => cases e1
  | succ k =>
    simp only [whileN, Option.bind_eq_some_iff] at e1
    obtain ⟨⟨t, st2⟩, e2, e3⟩ := e1
    refine ⟨ρ1, F1, ev1, st1, t, st2, hr1, sr1, e2, fun ρ2 F2 H2 x2 hr2 => ?_⟩
    cases t with
    | false =>
      simp only [Bool.false_eq_true, if_false] at e3
      cases e3
      exact iteF (ok _ ρ2 F2 H2 (x1.trans x2) hr2 (sr1.mono x2))
    | true =>
      simp only [if_true, Option.bind_eq_some_iff] at e3
      obtain ⟨o1, e4, e5⟩ := e3
      refine iteT ⟨fun σ' H' => ∃ ρ1 F1 ev1 st1, Ext ρ F ρ1 F1 ∧ HR ρ1 F1 H' st1 ∧ SR X.K ρ1 F1 ev1 σ' ∧ whileN cb b k ev1 st1 = some o, fun σ' H' w => ⟨k, Nat.lt_succ_self _, w⟩, ρ2, F2, ev1, st2, o1, hr2, sr1.mono x2, e4, ?_⟩
      refine OutOk.loop (o' := o) (fun ev' st' q σ' ρ' F' H' x hr' sr' => ⟨ρ', F', ev', st', (x1.trans x2).trans x, hr', sr', ?_⟩) (fun ev' st' q => ?_) (fun w st' q => ?_) (ok.mono (x1.trans x2))
      · rcases q with q | q <;> (subst q; exact e5)
      · subst q; cases e5; rfl
      · subst q; cases e5; rfl
/-- nothing runs: a list of the store becomes data -/
theorem ss_freeze {i : Nat} (h : PSs X ss (tSS X.K a)) : PSs X ss (tSS X.K (cFreeze i a)) := h.weak fun D σ H ⟨ρ, F, ev, st, o, hr, sr, e, ok⟩ => by
  unfold cFreeze at e
  split at e
  · rename_i n q
    simp only [Option.bind_eq_some_iff] at e
    obtain ⟨⟨xs, st'⟩, e1, e2⟩ := e
    unfold freeze at e1
    split at e1
    · rename_i ys q2
      cases e1
      obtain ⟨v, e3, b, e4, e5⟩ := sr.get i _ q
      obtain ⟨a', vs, h1, h2, h3, h4, h5⟩ := hr.freeze q2
      rw [h1] at e4
      cases e4
      subst e5
      have x : Ext ρ F ρ (upd F b (.lst vs)) := Ext.upd h2
      have sr2 := (sr.mono x).set (v := .ref b) (w := .d (.list xs)) (.lst upd_same (h4.mono x.same)) i
      have es : σ.set i (some (.ref b)) = σ := by
        apply List.ext_getElem?
        intro j
        rw [List.getElem?_set]
        split
        · rename_i hj
          subst hj
          have hl : i < σ.length := by
            rcases Nat.lt_or_ge i σ.length with z | z
            · exact z
            · rw [List.getElem?_eq_none z] at e3
              cases e3
          rw [if_pos hl, e3]
        · rfl
      rw [es] at sr2
      exact ⟨ρ, _, _, _, o, h5, sr2, e2, ok.mono x⟩
    · cases e1
  · cases e
end

/-! ### targets -/
abbrev GT := PyData → Ev → Option Ev
/-- vs: the slots that it stores to are among these -/
def tG (K : PySem.W.Frag) (vs : List Nat) (g : GT) : TG := fun v σ H Q => ∃ ρ F ev x ev', Same F H ∧ SR K ρ F ev σ ∧ Dq F v x ∧ g x ev = some ev' ∧ ∀ σ', SR K ρ F ev' σ' → L2.wipe σ' vs = L2.wipe σ vs → Q σ' H
def tGs (K : PySem.W.Frag) (vs : List Nat) (g : List PyData → Ev → Option Ev) : TGs := fun us σ H Q => ∃ ρ F ev xs ev', Same F H ∧ SR K ρ F ev σ ∧ DqA F us xs ∧ g xs ev = some ev' ∧ ∀ σ', SR K ρ F ev' σ' → L2.wipe σ' vs = L2.wipe σ vs → Q σ' H
theorem wipe_in {σ : L2.St} {i : Nat} : ∀ {vs : List Nat}, i ∈ vs → i < σ.length → (L2.wipe σ vs)[i]? = some none
  | v :: vs, h, hl => by
    unfold L2.wipe
    by_cases hv : v = i
    · subst hv
      rw [List.getElem?_set_self (by rw [wipe_length]; exact hl)]
    · rw [List.getElem?_set_ne hv]
      exact wipe_in ((List.mem_cons.mp h).resolve_left fun z => hv z.symm) hl
theorem wipe_set {σ : L2.St} {i : Nat} {x : Option V} {vs : List Nat} (h : i ∈ vs) : L2.wipe (σ.set i x) vs = L2.wipe σ vs := by
  apply List.ext_getElem?
  intro j
  by_cases hj : j ∈ vs
  · by_cases hl : j < σ.length
    · rw [wipe_in hj (by simpa using hl), wipe_in hj hl]
    · rw [List.getElem?_eq_none (by rw [wipe_length, List.length_set]; omega), List.getElem?_eq_none (by rw [wipe_length]; omega)]
  · rw [wipe_out hj, wipe_out hj, List.getElem?_set_ne (show i ≠ j from fun z => by subst z; exact hj h)]
def gN (i : Nat) : GT := fun x ev => some (ev.set i (some (.d x)))
def gsNil : List PyData → Ev → Option Ev
  | [], ev => some ev
  | _, _ => none
def gsCons (g : GT) (r : List PyData → Ev → Option Ev) : List PyData → Ev → Option Ev
  | x :: xs, ev => (g x ev).bind fun ev' => r xs ev'
  | _, _ => none
def gT (g : List PyData → Ev → Option Ev) : GT := fun x ev => match x with
  | .tuple xs => g xs ev
  | _ => none
def cSetT (g : GT) (e : SE) : SS := fun ev st => (e ev st).bind fun p => match p.1 with
  | .d x => (g x ev).map fun ev' => .nx ev' p.2
  | _ => none
def cParN (is : List Nat) (a : SA) : SS := fun ev st => (a ev st).bind fun p => if p.1.length = is.length then some (.nx ((is.zip p.1).foldl (fun ev q => ev.set q.1 (some q.2)) ev) p.2) else none
section
variable {X : Cx} {e c tg : Expr} {es : List Expr} {pos : Pos} {ce : SE} {g : GT} {zs : List Nat}
theorem g_name {i : Nat} {x : Str} (hm : i ∈ zs) (hN : X.N.Nodup) (hi : X.N[i]? = some x) (hx : Loc X.env.scope x) (hf : X.fn x = true ∨ X.env.scope.names.lookup x = some .local := by first | exact .inl rfl | exact .inr rfl | assumption) : PG X (.Name x pos) (tG X.K zs (gN i)) :=
  (pg_name hN hi hx hf).weak fun v σ H Q ⟨ρ, F, ev, x, ev', hs, sr, d, e, q⟩ => by
    cases e
    exact q _ (sr.set (w := .d x) d i) (wipe_set hm)
theorem gs_nil : PGs X [] (tGs X.K zs gsNil) := ⟨fun pins s σ H vs us Q I r ⟨ρ, F, ev, xs, ev', hs, sr, d, e, q⟩ => pgs_nil.run pins s σ H vs us Q I r (by
  cases d with
  | nil => cases e; exact ⟨rfl, q _ sr rfl⟩
  | cons a b => cases e)⟩
theorem gs_cons {r : List PyData → Ev → Option Ev} (h1 : PG X e (tG X.K zs g)) (h2 : PGs X es (tGs X.K zs r)) (hs : (assignEach (e :: es) X.env).map (·.2) = assign e X.env :: (assignEach es X.env).map (·.2) := by rfl) : PGs X (e :: es) (tGs X.K zs (gsCons g r)) :=
  ⟨fun pins s σ H vs us Q I r ⟨ρ, F, ev, xs, ev', hs', sr, d, e, q⟩ => (pgs_cons h1 h2 hs).run pins s σ H vs us Q I r (by
    cases d with
    | nil => cases e
    | cons a b =>
      simp only [gsCons, Option.bind_eq_some_iff] at e
      obtain ⟨ev1, e1, e2⟩ := e
      exact ⟨_, _, rfl, ρ, F, ev, _, ev1, hs', sr, a, e1, fun σ' sr' w1 => ⟨ρ, F, ev1, _, ev', hs', sr', b, e2, fun σ2 sr2 w2 => q σ2 sr2 (w2.trans w1)⟩⟩)⟩
theorem gs_len {r : List PyData → Ev → Option Ev} {n : Nat} (h : ∀ xs ev ev', r xs ev = some ev' → xs.length = n) (g : GT) : ∀ xs ev ev', gsCons g r xs ev = some ev' → xs.length = n + 1
  | [], _, _, e => by cases e
  | x :: xs, ev, ev', e => by
    simp only [gsCons, Option.bind_eq_some_iff] at e
    obtain ⟨ev1, _, e2⟩ := e
    simp [h _ _ _ e2]
theorem gs_len0 : ∀ xs ev ev', gsNil xs ev = some ev' → xs.length = 0
  | [], _, _, _ => rfl
  | x :: xs, ev, ev', e => by cases e
theorem g_tup {k : Nat} {r : List PyData → Ev → Option Ev} {n : Nat} (hc : X.calm = true) (h : PGs X es (tGs X.K zs r)) (hl : ∀ xs ev ev', r xs ev = some ev' → xs.length = n)
    (hn : (assignEach es X.env).length = n := by rfl) (hst : (assignEach es X.env).findIdx? (·.1) = none := by rfl) : PG X (.Tuple es k pos) (tG X.K zs (gT r)) :=
  (pg_tup hc h hn hst).weak fun v σ H Q ⟨ρ, F, ev, x, ev', hs, sr, d, e, q⟩ => by
    cases d with
    | tup h a => exact ⟨_, _, rfl, SqT.of (hs _ _ h), by rw [a.length]; exact hl _ _ _ e, ρ, F, ev, _, ev', hs, sr, a, e, q⟩
    | _ => cases e
theorem s_setT (he : PE X e (tI X.K ce)) (hg : PG X tg (tG X.K zs g)) (hs : swapsWithSole [tg] e pos.line X.env = pure false := by rfl) (hw : swappedStores [tg] e X.env = pure none := by rfl)
    (h1 : (assignEach [tg] X.env).map (·.2) = [assign tg X.env] := by rfl) : PS X (.Assign [tg] e pos) (tSS X.K (cSetT g ce)) := (ps_asg he hg hs hw h1).weak fun D σ H ⟨ρ, F, ev, st, o, hr, sr, e, ok⟩ => by
  simp only [cSetT, Option.bind_eq_some_iff] at e
  obtain ⟨⟨w, st'⟩, e1, e2⟩ := e
  cases w with
  | d x =>
    simp only [Option.map_eq_some_iff] at e2
    obtain ⟨ev', e3, e4⟩ := e2
    subst e4
    exact ⟨ρ, F, ev, st, _, st', hr, sr, e1, fun v ρ' F' H' x hr' wr => ⟨ρ', F', ev, _, ev', hr'.sub, sr.mono x, wr, e3, fun σ' sr' _ => ok _ ρ' F' H' x hr' sr'⟩⟩
  | l n => cases e2
  | s n => cases e2
/-- a, b = x, y with two plain local names -/
theorem s_par {i j : Nat} {x y : Str} {a b : Expr} {sa : SA} {px py pt : Pos} {kt k2 pt2} (hc : X.calm = true) (hN : X.N.Nodup) (hi : X.N[i]? = some x) (hj : X.N[j]? = some y) (hij : i ≠ j)
    (hx : X.env.scope.names.lookup x = some .local) (hy : X.env.scope.names.lookup y = some .local) (ha : PA X [a, b] (tA X.K sa))
    (hw : Swaps X (.Tuple [.Name x px, .Name y py] kt pt) (.Tuple [a, b] k2 pt2) (some [x, y])) (hs : NoSole X (.Tuple [.Name x px, .Name y py] kt pt) (.Tuple [a, b] k2 pt2) pos := by rfl) :
    PS X (.Assign [.Tuple [.Name x px, .Name y py] kt pt] (.Tuple [a, b] k2 pt2) pos) (tSS X.K (cParN [i, j] sa)) := (ps_par hc hN hi hj hij hx hy ha hw hs).weak fun D σ H ⟨ρ, F, ev, st, o, hr, sr, e, ok⟩ => by
  simp only [cParN, Option.bind_eq_some_iff] at e
  obtain ⟨⟨ws, st'⟩, e1, e2⟩ := e
  split at e2
  · rename_i hl
    cases e2
    refine ⟨ρ, F, ev, st, ws, st', hr, sr, e1, fun vs ρ' F' H' x hr' wr => ?_⟩
    cases wr with
    | nil => cases hl
    | cons w1 t =>
      cases t with
      | nil => cases hl
      | cons w2 t =>
        cases t with
        | nil => exact ⟨_, _, rfl, ok _ ρ' F' H' x hr' (((sr.mono x).set w1 i).set w2 j)⟩
        | cons w3 t => simp at hl
  · cases e2
/-- a, b, .. = x, y, .. by the tuple (some name is a cell) -/
def gNames : List Nat → TGs
  | [] => gNil
  | i :: is => gCons (gName i) (gNames is)
theorem names_ok {K : PySem.W.Frag} {ρ : List Addr} {F : Hp} {H : Hp} {Q : L2.St → Hp → Prop} : ∀ {is : List Nat} {vs : List V} {ws : List U} {ev : Ev} {σ : L2.St}, SR K ρ F ev σ → WRs K ρ F vs ws → ws.length = is.length →
    (∀ σ', SR K ρ F ((is.zip ws).foldl (fun ev q => ev.set q.1 (some q.2)) ev) σ' → Q σ' H) → gNames is vs σ H Q
  | [], _, _, ev, σ, sr, .nil, _, q => ⟨rfl, q _ sr⟩
  | [], _, _, ev, σ, sr, .cons _ _, hl, q => by simp at hl
  | i :: is, _, _, ev, σ, sr, .nil, hl, q => by simp at hl
  | i :: is, _, _, ev, σ, sr, .cons w t, hl, q => ⟨_, _, rfl, names_ok (is := is) (sr.set w i) t (by simpa using hl) q⟩
theorem s_parT {es ts : List Expr} {is : List Nat} {sa : SA} {pt : Pos} {kt k2 pt2} (hc : X.calm = true) (hg : PGs X ts (gNames is)) (ha : PA X es (tA X.K sa)) (hl : is.length ≤ lim := by decide)
    (hn : (assignEach ts X.env).length = is.length := by rfl) (hst : (assignEach ts X.env).findIdx? (·.1) = none := by rfl)
    (hs : swapsWithSole [.Tuple ts kt pt] (.Tuple es k2 pt2) pos.line X.env = pure false := by rfl) (hw : swappedStores [.Tuple ts kt pt] (.Tuple es k2 pt2) X.env = pure none := by rfl)
    (h1 : (assignEach [.Tuple ts kt pt] X.env).map (·.2) = [assign (.Tuple ts kt pt) X.env] := by rfl) :
    PS X (.Assign [.Tuple ts kt pt] (.Tuple es k2 pt2) pos) (tSS X.K (cParN is sa)) := (ps_asg (pe_tup ha) (pg_tup hc hg hn hst) hs hw h1).weak fun D σ H ⟨ρ, F, ev, st, o, hr, sr, e, ok⟩ => by
  simp only [cParN, Option.bind_eq_some_iff] at e
  obtain ⟨⟨ws, st'⟩, e1, e2⟩ := e
  split at e2
  · rename_i hlw
    cases e2
    refine ⟨ρ, F, ev, st, ws, st', hr, sr, e1, fun vs ρ' F' H' x hr' wr => ⟨?_, fun p np => ⟨p, vs, rfl, SqT.of upd_same, ?_, ?_⟩⟩⟩
    · rw [wr.length, hlw]
      exact lim_le hl
    · rw [wr.length]
      exact hlw
    · have hr2 : HR ρ' F' (upd H' p (.tup vs)) st' := ⟨hr'.sub.trans (same_upd np), fun n xs e => by
        obtain ⟨a, us, k1, k2, k3, k4⟩ := hr'.cell n xs e
        exact ⟨a, us, k1, same_upd np _ _ k2, k3, k4⟩, hr'.inj, hr'.len⟩
      exact names_ok (sr.mono x) wr hlw fun σ' sr' => ok _ ρ' F' _ x hr2 sr'
  · cases e2
end

/-! ### what is walked -/
inductive Src where
  | fix (xs : List PyData)
  | cell (n : Nat)
abbrev SI := Ev → Sto → Option (Src × Sto)
/-- the walk gives the items one by one, whatever grows meanwhile -/
def Yld (F : Hp) (J : It) (xs : List PyData) : Prop := ∀ F1 H, Same F F1 → Same F1 H →
  (∀ i d, xs[i]? = some d → J.go i H ∧ ∀ x H', J.yld i H x H' → ∃ F2, Grow F1 H F2 H' ∧ Dq F2 x d) ∧ J.stop xs.length H
def YldS (K : PySem.W.Frag) (ρ : List Addr) (F : Hp) (J : It) : Src → Prop
  | .fix xs => Yld F J xs
  | .cell n => ∃ a, ρ[n]? = some a ∧ J = Itl K a
def tIt (K : PySem.W.Frag) (c : SI) : TI := fun σ H R => ∃ ρ F ev st src st', HR ρ F H st ∧ SR K ρ F ev σ ∧ c ev st = some (src, st') ∧ ∀ J ρ' F' H', Ext ρ F ρ' F' → HR ρ' F' H' st' → YldS K ρ' F' J src → R J H'
def forL (g : GT) (b : SS) : List PyData → SS
  | [], ev, st => some (.nx ev st)
  | x :: xs, ev, st => (g x ev).bind fun ev1 => (b ev1 st).bind fun o => match o with
    | .nx ev' st' => forL g b xs ev' st'
    | .ct ev' st' => forL g b xs ev' st'
    | .bk ev' st' => some (.nx ev' st')
    | .rt w st' => some (.rt w st')
/-- over a list of the store, as it stands at each turn -/
def forC (g : GT) (b : SS) (n : Nat) : Nat → Nat → SS
  | 0, _, _, _ => none
  | k + 1, i, ev, st => match st[n]? with
    | some (some xs) => match xs[i]? with
      | none => some (.nx ev st)
      | some x => (g x ev).bind fun ev1 => (b ev1 st).bind fun o => match o with
        | .nx ev' st' => forC g b n k (i + 1) ev' st'
        | .ct ev' st' => forC g b n k (i + 1) ev' st'
        | .bk ev' st' => some (.nx ev' st')
        | .rt w st' => some (.rt w st')
    | _ => none
def cFor (it : SI) (g : GT) (b : SS) : SS := fun ev st => (it ev st).bind fun p => match p.1 with
  | .fix xs => forL g b xs ev p.2
  | .cell n => forC g b n lim 0 ev p.2
section
variable {X : Cx} {tg iter : Expr} {ss : List Stmt} {pos : Pos} {ci : SI} {g : GT} {b : SS} {zs : List Nat}
theorem for_ok {D : Ends} {σ : L2.St} {H : Hp} (h : tSS X.K (cFor ci g b) D σ H) : tFor (tIt X.K ci) (tG X.K zs g) (tSS X.K b) D σ H := by
  obtain ⟨ρ, F, ev, st, o, hr, sr, e, ok⟩ := h
  simp only [cFor, Option.bind_eq_some_iff] at e
  obtain ⟨⟨src, st'⟩, e1, e2⟩ := e
  refine ⟨ρ, F, ev, st, src, st', hr, sr, e1, fun J ρ' F' H' x hr' y => ?_⟩
  cases src with
  | fix xs =>
    refine ⟨fun i m σ H => m = xs.length - i ∧ i ≤ xs.length ∧ ∃ ρ1 F1 ev1 st1, Ext ρ' F' ρ1 F1 ∧ HR ρ1 F1 H st1 ∧ SR X.K ρ1 F1 ev1 σ ∧ forL g b (xs.drop i) ev1 st1 = some o, ⟨xs.length, rfl, Nat.zero_le _, ρ', F', ev, st', .refl _ _, hr', sr.mono x, e2⟩, ?_⟩
    rintro i m σ1 H1 ⟨rfl, hi, ρ1, F1, ev1, st1, x1, hr1, sr1, e3⟩
    obtain ⟨yg, ys⟩ := y F1 H1 x1.same hr1.sub
    by_cases hlt : i < xs.length
    · rw [List.drop_eq_getElem_cons hlt] at e3
      simp only [forL, Option.bind_eq_some_iff] at e3
      obtain ⟨ev2, e4, o1, e5, e6⟩ := e3
      obtain ⟨go, yl⟩ := yg i xs[i] (List.getElem?_eq_getElem hlt)
      refine .inr ⟨go, fun σ H => ∃ ρ1 F1 ev1 st1, Ext ρ' F' ρ1 F1 ∧ HR ρ1 F1 H st1 ∧ SR X.K ρ1 F1 ev1 σ ∧ forL g b (xs.drop (i + 1)) ev1 st1 = some o, fun σ' H' w => ⟨xs.length - (i + 1), by omega, rfl, hlt, w⟩, fun v H2 yv => ?_⟩
      obtain ⟨F2, gr, d⟩ := yl v H2 yv
      have x2 : Ext ρ1 F1 ρ1 F2 := .of gr
      refine ⟨ρ1, F2, ev1, xs[i], ev2, gr.fh, sr1.mono x2, d, e4, fun σ3 sr3 _ => ⟨ρ1, F2, ev2, st1, o1, hr1.grow gr, sr3, e5, ?_⟩⟩
      refine OutOk.loop (o' := o) (fun ev' st'' q σ' ρ'' F'' H'' x' hr'' sr'' => ⟨ρ'', F'', ev', st'', (x1.trans x2).trans x', hr'', sr'', ?_⟩) (fun ev' st'' q => ?_) (fun w st'' q => ?_) (ok.mono ((x.trans x1).trans x2))
      · rcases q with q | q <;> (subst q; exact e6)
      · subst q; cases e6; rfl
      · subst q; cases e6; rfl
    · have hx : i = xs.length := by omega
      subst hx
      rw [List.drop_length] at e3
      cases e3
      exact .inl ⟨ys, ok _ ρ1 F1 H1 (x.trans x1) hr1 sr1⟩
  | cell n =>
    obtain ⟨a, ha, rfl⟩ := y
    refine ⟨fun i m σ H => ∃ ρ1 F1 ev1 st1, Ext ρ' F' ρ1 F1 ∧ HR ρ1 F1 H st1 ∧ SR X.K ρ1 F1 ev1 σ ∧ forC g b n m i ev1 st1 = some o, ⟨lim, ρ', F', ev, st', .refl _ _, hr', sr.mono x, e2⟩, ?_⟩
    rintro i m σ1 H1 ⟨ρ1, F1, ev1, st1, x1, hr1, sr1, e3⟩
    cases m with
    | zero => cases e3
    | succ m =>
      simp only [forC] at e3
      split at e3
      · rename_i xs q
        obtain ⟨a', vs, h1, h2, h3, h4⟩ := hr1.cell n xs q
        rw [x1.pre n a ha] at h1
        cases h1
        have hq : SqL X.K H1 a vs := SqL.of h2
        have fn : ∀ ys, SqL X.K H1 a ys → True := fun _ _ => trivial
        split at e3
        · rename_i q2
          cases e3
          refine .inl ⟨⟨vs, hq, ?_⟩, ok _ ρ1 F1 H1 (x.trans x1) hr1 sr1⟩
          rw [h4.length]
          exact List.getElem?_eq_none_iff.mp q2
        · rename_i d q2
          simp only [Option.bind_eq_some_iff] at e3
          obtain ⟨ev2, e4, o1, e5, e6⟩ := e3
          obtain ⟨v, hv, dv⟩ := h4.get' q2
          refine .inr ⟨⟨vs, v, hq, hv⟩, fun σ H => ∃ ρ1 F1 ev1 st1, Ext ρ' F' ρ1 F1 ∧ HR ρ1 F1 H st1 ∧ SR X.K ρ1 F1 ev1 σ ∧ forC g b n m (i + 1) ev1 st1 = some o, fun σ' H' w => ⟨m, Nat.lt_succ_self _, w⟩, fun v' H2 ⟨eH, yv⟩ => ?_⟩
          subst eH
          have ev' : v' = v := Option.some.inj ((yv vs hq).symm.trans hv)
          subst ev'
          refine ⟨ρ1, F1, ev1, d, ev2, hr1.sub, sr1, dv, e4, fun σ3 sr3 _ => ⟨ρ1, F1, ev2, st1, o1, hr1, sr3, e5, ?_⟩⟩
          refine OutOk.loop (o' := o) (fun ev' st'' q σ' ρ'' F'' H'' x' hr'' sr'' => ⟨ρ'', F'', ev', st'', x1.trans x', hr'', sr'', ?_⟩) (fun ev' st'' q => ?_) (fun w st'' q => ?_) (ok.mono (x.trans x1))
          · rcases q with q | q <;> (subst q; exact e6)
          · subst q; cases e6; rfl
          · subst q; cases e6; rfl
      · cases e3
theorem s_for (hp : PassesOwn (model X.prog X.w) X.A X.env X.xe) (hc : X.calm = true) (hi : PI X tg iter (tIt X.K ci)) (hg : PG X tg (tG X.K zs g)) (hb : PSs X ss (tSS X.K b))
    (hs : ∀ x, foldedSetIterable iter X.env x = pure x := by exact fun _ => rfl) : PS X (.For tg iter ss [] pos) (tSS X.K (cFor ci g b)) := (ps_for hp hc hi hg hb hs).weak fun _ _ _ h => for_ok h
end
/-! sources -/
def iSeq (a : SE) : SI := fun ev st => (a ev st).bind fun p => match p.1 with
  | .l n => match p.2[n]? with
    | some (some _) => some (.cell n, p.2)
    | _ => none
  | .d (.list xs) => some (.fix xs, p.2)
  | .d (.tuple xs) => some (.fix xs, p.2)
  | _ => none
theorem walk_yld {J : It} {n : Nat} {G : Hp → Prop} {Y : Nat → Hp → V → Hp → Prop} {F : Hp} {xs : List PyData} (w : Walk J n G Y) (hn : n = xs.length) (hG : ∀ F1 H, Same F F1 → Same F1 H → G H)
    (hy : ∀ F1 H i d x H', Same F F1 → Same F1 H → xs[i]? = some d → Y i H x H' → ∃ F2, Grow F1 H F2 H' ∧ Dq F2 x d) : Yld F J xs := fun F1 H s1 s2 => by
  subst hn
  have lt : ∀ i d, xs[i]? = some d → i < xs.length := fun i d e => by
    rcases Nat.lt_or_ge i xs.length with q | q
    · exact q
    · rw [List.getElem?_eq_none q] at e
      cases e
  exact ⟨fun i d e => ⟨w.goes i H (lt i d e) (hG F1 H s1 s2), fun x H' y => hy F1 H i d x H' s1 s2 e (w.yields i H x H' (lt i d e) (hG F1 H s1 s2) y)⟩, w.stops H (hG F1 H s1 s2)⟩
theorem yld_list {K : PySem.W.Frag} {F : Hp} {a : Addr} {vs : List V} {xs : List PyData} (h : ∀ F1 H, Same F F1 → Same F1 H → SqL K H a vs) (d : DqA F vs xs) : Yld F (Itl K a) xs :=
  walk_yld (walk_list (xs := vs)) d.length h fun F1 H i x v H' s1 s2 e ⟨e1, e2⟩ => by
    subst e1
    obtain ⟨v', h1, h2⟩ := d.get' e
    rw [e2] at h1
    cases h1
    exact ⟨F1, .refl s2, h2.mono s1⟩
theorem yld_tup {K : PySem.W.Frag} {F : Hp} {a : Addr} {vs : List V} {xs : List PyData} (h : F a = some (.tup vs)) (d : DqA F vs xs) : Yld F (Itt K a) xs :=
  walk_yld (walk_tup (xs := vs)) d.length (fun F1 H s1 s2 => SqT.of (s2 _ _ (s1 _ _ h))) fun F1 H i x v H' s1 s2 e ⟨e1, e2⟩ => by
    subst e1
    obtain ⟨v', h1, h2⟩ := d.get' e
    rw [e2] at h1
    cases h1
    exact ⟨F1, .refl s2, h2.mono s1⟩
section
variable {X : Cx} {tg e e1 e2 : Expr} {es : List Expr} {p pos : Pos} {ce : SE} {sa : SA}
theorem PI.or {u v : TI} {l : Expr} (h1 : PI X tg l u) (h2 : PI X tg l v) {w : TI} (h : ∀ σ H R, w σ H R → u σ H R ∨ v σ H R) : PI X tg l w := ⟨fun pins s σ H R I q => (h σ H R q).elim (fun z => h1.run pins s σ H R I z) fun z => h2.run pins s σ H R I z⟩
theorem i_seq (he : PE X e (tI X.K ce)) : PI X tg e (tIt X.K (iSeq ce)) := PI.or (pi_list he) (pi_tup he) fun σ H R ⟨ρ, F, ev, st, src, st', hr, sr, e, post⟩ => by
  simp only [iSeq, Option.bind_eq_some_iff] at e
  obtain ⟨⟨w, st1⟩, e1, e2⟩ := e
  split at e2
  · rename_i n q
    cases q
    split at e2
    · rename_i ys q2
      cases e2
      refine .inl ⟨ρ, F, ev, st, _, _, hr, sr, e1, fun v ρ' F' H' x hr' ⟨a, ha, hv⟩ => ⟨a, hv, ?_, post _ ρ' F' H' x hr' ⟨a, ha, rfl⟩⟩⟩
      obtain ⟨b, vs, k1, k2, _⟩ := hr'.cell n ys q2
      rw [ha] at k1
      cases k1
      exact ⟨vs, SqL.of k2⟩
    · cases e2
  · rename_i xs q
    cases q
    cases e2
    refine .inl ⟨ρ, F, ev, st, _, _, hr, sr, e1, fun v ρ' F' H' x hr' d => ?_⟩
    cases d with
    | lst h a => exact ⟨_, rfl, ⟨_, SqL.of (hr'.sub _ _ h)⟩, post _ ρ' F' H' x hr' (yld_list (fun F1 H s1 s2 => SqL.of (s2 _ _ (s1 _ _ h))) a)⟩
  · rename_i xs q
    cases q
    cases e2
    refine .inr ⟨ρ, F, ev, st, _, _, hr, sr, e1, fun v ρ' F' H' x hr' d => ?_⟩
    cases d with
    | tup h a => exact ⟨_, rfl, ⟨_, SqT.of (hr'.sub _ _ h)⟩, post _ ρ' F' H' x hr' (yld_tup h a)⟩
  · cases e2
end
end Cm

set_option Elab.async false
set_option linter.all false
set_option maxRecDepth 100000
set_option maxHeartbeats 1000000
/-! enumerate(tuple) -/
namespace Cm
open PySem PySem.Spec PyProof.Rows L2
abbrev tupIt (t : Addr) : Obj := { cls := .type "tuple_iterator", data := .fields #[.ref t, .int 0 0] }
abbrev enumO (a : Addr) : Obj := { cls := .type "enumerate", data := .fields #[.none, .bool false, .ref a, rawInt 0, .none, .none] }
theorem enum_new_tup (l : Addr) (its : Array Value) : Meets (Builtin.«enumerate.__new__» ⟨[.type "enumerate", .ref l], []⟩)
    (fun _ R s => s.heap.IsTuple l its ∧ R (.ok (.ret (.ref (s.heap.push (tupIt l)).objs.size))) { s with heap := (s.heap.push (tupIt l)).push (enumO s.heap.objs.size) }) :=
  .of_wp fun prog w A R s hh => by
    obtain ⟨h0, g, dr, tk, os⟩ := s
    obtain ⟨ht, q⟩ := hh
    have hsub := sub_enumerate
    have hT : Heap.IsTuple (Shared.heap ⟨h0, g, dr, tk, os⟩) l its := ht
    wp_walk using wpAny_pyIter_tuple hT
    apply wpAny_stack_any
    intro st
    apply wpAny_pure
    split
    · rename_i c _ _ _ _ _
      by_cases hc : (c == Value.type "enumerate") = true
      all_goals
        first | rw [hc] | rw [Bool.eq_false_iff.mpr hc]
        wp_walk using wpAny_pyIter_tuple hT
        exact ⟨_, rfl, q⟩
    · wp_walk using wpAny_pyIter_tuple hT
      exact ⟨_, rfl, q⟩
theorem enum_call_tup {prog : Program} {w : World} {A : Around} {E : Value → Shared → Prop} {s : Shared} {l : Addr} {its : Array Value} {Q : Value → Shared → Prop} (ht : s.heap.IsTuple l its)
    (h : ∀ h', IsEnum h' (s.heap.objs.size + 1) s.heap.objs.size 0 .none → h'.IsTupleIter s.heap.objs.size l 0 → (∀ b o, s.heap.get? b = some o → h'.get? b = some o) →
      Q (.ref (s.heap.objs.size + 1)) { s with heap := h' }) : wpAny (model prog w) A (call (.type "enumerate") [.ref l]) Q E s := by
  have z : (s.heap.push (tupIt l)).objs.size = s.heap.objs.size + 1 := Heap.size_push ..
  have e1 : ((s.heap.push (tupIt l)).push (enumO s.heap.objs.size)).get? (s.heap.push (tupIt l)).objs.size = some (enumO s.heap.objs.size) := Heap.get?_push_size _ rfl
  have e2 : ((s.heap.push (tupIt l)).push (enumO s.heap.objs.size)).get? s.heap.objs.size = some (tupIt l) := Heap.get?_push_of_some _ (Heap.get?_push_size _ rfl)
  refine callType_new F.called_enumerate (by decide) (F.typeCall_enumerate_1 _) (F.newCall_enumerate_1 _) (fun o => F.args_object_init_2 o _) F.entry_enumerate_new (enum_new_tup l its) ⟨ht, ?_⟩
  rw [z] at e1
  show _ ∧ _
  rw [z]
  exact ⟨⟨_, e1, rfl⟩, h _ e1 ⟨_, e2, rfl, rfl⟩ fun b o q => Heap.get?_push_of_some _ (Heap.get?_push_of_some _ q)⟩
/-- the tuple at a, each item in a new pair behind its number -/
def ItE (K : PySem.W.Frag) (a : Addr) : It :=
  ⟨fun i H => ∃ (xs : List V) (x : V), H a = some (.tup xs) ∧ xs[i]? = some x, fun i H v H' => ∃ T x, v = .ref T ∧ H T = none ∧ H' = upd H T (.tup [.int (i : Nat), x]) ∧ ∀ xs, H a = some (.tup xs) → xs[i]? = some x, fun i H => ∃ xs : List V, H a = some (.tup xs) ∧ xs.length = i⟩
theorem turn_enumT {P : Program} {w : World} {K : PySem.W.Frag} {elts : List Expr} {kk : Nat} {tpos : Pos} (a e it : Addr) (hai : a ≠ it) (hae : e ≠ a) (hne : e ≠ it) :
    Turn P w K (.Tuple elts kk tpos) (ItE K a) [e, it] e (fun i h => (∃ old, IsEnum h e it ((i : Nat) : Int) old) ∧ h.IsTupleIter it a i) where
  mem := by simp
  obj := by
    rintro i h ⟨⟨old, atE⟩, ob, atI, _, dat⟩ c inC
    have cases2 : c = e ∨ c = it := by simpa using inC
    cases cases2 with
    | inl q => exact q ▸ ⟨_, atE, fun _ bad => nomatch bad⟩
    | inr q => exact q ▸ ⟨ob, atI, fun _ bad => nomatch dat.symm.trans bad⟩
  keep := by
    rintro i h g ⟨⟨old, atE⟩, walk⟩ same
    exact ⟨⟨old, same e (by simp) _ atE⟩, walk.at (same it (by simp))⟩
  item := by
    rintro X rfl rfl rfl calm i pins s σ H E inv away ⟨⟨old, atE⟩, walk⟩ ⟨xs, x, tupA, nth⟩
    obtain ⟨its, vals, isT, _⟩ := inv.tuple (SqT.of tupA)
    obtain ⟨v, nthV, rel⟩ := vals.get nth
    have quiet : X.A.in1.handled = none := inv.ok.hd calm
    have below : i < its.toArray.size := by
      have : i < its.length := (List.getElem?_eq_some_iff.mp nthV).1
      simpa using this
    have eLow := Heap.lt_size atE
    have iLow : it < s.heap.objs.size := let ⟨_, q, _⟩ := walk; Heap.lt_size q
    refine wpAny_pyNext_enum_itemD (Draws.tuple quiet it a hai its.toArray) atE ⟨walk, isT⟩ below hne (by simp [hne, hae]) ?_
    intro v' h1 tk nthV' made next tupNew _ rest
    obtain rfl : v = v' := by
      have two : its[i]? = some v' := by simpa using nthV'
      exact Option.some.inj (nthV.symm.trans two)
    refine ⟨_, rfl, wpAny_letOwnedTupleGo_enum (s := { s with heap := h1, toks := tk + 1 }) made ?_⟩
    intro h2 madeAgain but
    have pairAt : h2.get? s.heap.objs.size = some { cls := .type "tuple", data := .seq #[.int i tk, v] } := (but.2 _ (Nat.ne_of_gt eLow)).trans tupNew
    let pair : HO := .tup [.int (i : Nat), x]
    have pairOk : ObjOk X.prog X.w (upd H s.heap.objs.size pair) h2 s.heap.objs.size pair := ⟨(by decide : 2 ≤ sizeLine), _, .cons ⟨tk, rfl⟩ (.cons rel .nil), _, pairAt, rfl, _, rfl⟩
    have stands : ∀ c o, c ∉ [e, it] → s.heap.get? c = some o → h2.get? c = some o := by
      intro c o out old
      have ne : c ≠ e ∧ c ≠ it := by simpa using out
      exact (but.2 c ne.1).trans (rest c o ne.1 ne.2 old)
    have inv2 : Inv X pins σ (upd H s.heap.objs.size pair) { s with heap := h2, toks := tk + 1 } := inv.turnedNew (ch := [e, it]) stands away (Nat.le_refl _) pairOk
    refine ⟨.ref s.heap.objs.size, _, inv2, rfl, ⟨_, x, rfl, inv.fresh, rfl, ?_⟩, ⟨⟨v, ?_⟩, next.1.at fun _ q => (but.2 it hne.symm).trans q⟩, ?_⟩
    · intro ys tupA'
      cases tupA.symm.trans tupA'
      exact nth
    · have up : ((i + 1 : Nat) : Int) = (i : Int) + 1 := by omega
      exact up ▸ madeAgain
    · intro c inC
      have low : c < s.heap.objs.size := by
        have cases2 : c = e ∨ c = it := by simpa using inC
        exact cases2.elim (fun q => q ▸ eLow) (fun q => q ▸ iLow)
      exact (upd_ne (Nat.ne_of_lt low)).trans (away c inC).1
  done := by
    rintro X rfl rfl rfl calm i pins s σ H E inv away ⟨⟨old, atE⟩, walk⟩ ⟨xs, tupA, len⟩
    obtain ⟨its, vals, isT, _⟩ := inv.tuple (SqT.of tupA)
    have quiet : X.A.in1.handled = none := inv.ok.hd calm
    have size : its.toArray.size = i := by
      have := vals.length
      simp
      omega
    have ⟨g0, g1, _, g3, g4, g5⟩ := away it (by simp)
    refine wpAny_pyNext_enum_endD (Draws.tuple quiet it a hai its.toArray) atE ⟨size ▸ walk, isT⟩ ?_
    intro h1 but
    exact ⟨rfl, inv.turned (t' := s.toks) but g0 g1 g3 g4 g5⟩
  self := by
    rintro A i s Q E ⟨⟨_, atE⟩, _⟩ go
    exact wpAny_pyIter_enum atE go
def iEnumT (ta : TA) (K : PySem.W.Frag) : TI := fun σ H R => ta σ H fun vs H1 => ∃ a xs, vs = [.ref a] ∧ H1 a = some (.tup xs) ∧ R (ItE K a) H1
theorem pi_enumT {X : Cx} {e : Expr} {ta : TA} {p pos tpos : Pos} {elts : List Expr} {kk : Nat} (hg : Gl X "enumerate") (hm : X.mg "enumerate" = none) (ha : PA X [e] ta) (hs : starEach [e] X.env = [(false, eval e X.env)] := by rfl) :
    PI X (.Tuple elts kk tpos) (.Call (.Name "enumerate" p) [e] [] pos) (iEnumT ta X.K) := by
  constructor
  intro pins s σ H R inv asked
  have args := ha.run pos pins s σ H _ inv asked
  refine Call_ ?_
  refine ld_blt inv hg hm boot_enumerate ?_
  refine PyProof.Rows.callWith_type1 (thn args ?_) hs rfl
  rintro us g ⟨_, H1, inv1, rel, a, xs, rfl, tupA, go⟩
  obtain ⟨its, _, isT, _⟩ := inv1.tuple (SqT.of tupA)
  rw [Vals.ref1 rel]
  refine enum_call_tup (its := its.toArray) isT ?_
  intro h1 madeE madeI stands
  apply wpAny_pyIter_enum madeE
  have aLow : a < g.heap.objs.size := isT.lt
  have inv2 := inv1.kept (t' := g.toks) stands
  have turn := turn_enumT (P := X.prog) (w := X.w) (K := X.K) (elts := elts) (kk := kk) (tpos := tpos) a (g.heap.objs.size + 1) g.heap.objs.size (Nat.ne_of_lt aLow) (Nat.ne_of_gt (Nat.lt_succ_of_lt aLow)) (Nat.succ_ne_self _)
  refine ⟨_, _, _, _, H1, rfl, inv2, turn, ⟨⟨.none, madeE⟩, madeI⟩, ?_, go⟩
  intro c inC
  have high : g.heap.objs.size ≤ c := by
    have cases2 : c = g.heap.objs.size + 1 ∨ c = g.heap.objs.size := by simpa using inC
    exact cases2.elim (fun q => q ▸ Nat.le_succ _) (fun q => q ▸ Nat.le_refl _)
  exact inv1.fpOk high (inv1.hok.fresh high)
end Cm

set_option Elab.async false
set_option linter.all false
set_option maxRecDepth 100000
namespace Cm
open PySem PySem.Spec PyProof.Rows L2

/-! ### more that is walked -/
def rangeD (lo : Int) (n : Nat) : List PyData := (List.range n).map fun k => .int (lo + (k : Nat))
def big (i : Int) : Bool := decide (-4611686018427387904 ≤ i ∧ i < 4611686018427387904)
def iRange1 (a : SA) : SI := fun ev st => (a ev st).bind fun p => match p.1 with
  | [.d (.int j)] => if big j then some (.fix (rangeD 0 j.toNat), p.2) else none
  | _ => none
def iRange2 (a : SA) : SI := fun ev st => (a ev st).bind fun p => match p.1 with
  | [.d (.int i), .d (.int j)] => if big i && big j then some (.fix (rangeD i (j - i).toNat), p.2) else none
  | _ => none
def rangeC (lo c : Int) (n : Nat) : List PyData := (List.range n).map fun k => .int (lo + (k : Nat) * c)
/-- range(i, j, c): n turns, as RgC says -/
def iRange3 (a : SA) : SI := fun ev st => (a ev st).bind fun p => match p.1 with
  | [.d (.int i), .d (.int j), .d (.int c)] => if c ≠ 0 ∧ c.natAbs < 1073741824 ∧ Builtin.Range.small i j c = true ∧ 0 ≤ Builtin.Range.rangeSize i j c then some (.fix (rangeC i c (Builtin.Range.rangeSize i j c).toNat), p.2) else none
  | _ => none
def iZip2 (a : SA) : SI := fun ev st => (a ev st).bind fun p => match p.1 with
  | [.d (.list xs), .d (.list ys)] => some (.fix (List.zipWith (fun x y => .tuple [x, y]) xs ys), p.2)
  | [.d (.tuple xs), .d (.tuple ys)] => some (.fix (List.zipWith (fun x y => .tuple [x, y]) xs ys), p.2)
  | _ => none
def enumD (i : Nat) : List PyData → List PyData
  | [] => []
  | x :: xs => .tuple [.int (i : Nat), x] :: enumD (i + 1) xs
def iEnum1 (a : SA) : SI := fun ev st => (a ev st).bind fun p => match p.1 with
  | [.d (.list xs)] => some (.fix (enumD 0 xs), p.2)
  | [.d (.tuple xs)] => some (.fix (enumD 0 xs), p.2)
  | [.s ns] => some (.fix (enumD 0 (ns.map .int)), p.2)
  | _ => none
theorem enumD_get : ∀ (xs : List PyData) (i k : Nat), (enumD k xs)[i]? = (xs[i]?).map fun x => .tuple [.int ((k + i : Nat) : Int), x]
  | [], i, k => by simp [enumD]
  | x :: xs, 0, k => by simp [enumD]
  | x :: xs, i + 1, k => by
    simp only [enumD, List.getElem?_cons_succ]
    rw [enumD_get xs i (k + 1)]
    congr 1
    funext y
    rw [show k + 1 + i = k + (i + 1) by omega]
theorem enumD_length : ∀ (xs : List PyData) (k : Nat), (enumD k xs).length = xs.length
  | [], _ => rfl
  | x :: xs, k => by simp [enumD, enumD_length xs (k + 1)]
theorem yld_range {F : Hp} {lo : Int} {n : Nat} : Yld F (Itr lo n) (rangeD lo n) :=
  walk_yld walk_range (by simp [rangeD]) (fun _ _ _ _ => trivial) fun F1 H i d x H' s1 s2 e ⟨e1, e2⟩ => by
    subst e1 e2
    have : d = .int (lo + (i : Nat)) := by
      simp only [rangeD, List.getElem?_map, Option.map_eq_some_iff] at e
      obtain ⟨k, e3, e4⟩ := e
      have := List.getElem?_range (n := n) (i := i) (by
        rcases Nat.lt_or_ge i n with q | q
        · exact q
        · rw [List.getElem?_eq_none (by simpa using q)] at e3
          cases e3)
      rw [this] at e3
      cases e3
      exact e4.symm
    subst this
    exact ⟨F1, .refl s2, .int _⟩
theorem yld_rangeC {F : Hp} {lo c : Int} {n : Nat} : Yld F (Itc lo c n) (rangeC lo c n) :=
  walk_yld walk_rangeC (by simp [rangeC]) (fun _ _ _ _ => trivial) fun F1 H i d x H' s1 s2 e ⟨e1, e2⟩ => by
    subst e1 e2
    have : d = .int (lo + (i : Nat) * c) := by
      simp only [rangeC, List.getElem?_map, Option.map_eq_some_iff] at e
      obtain ⟨k, e3, e4⟩ := e
      have := List.getElem?_range (n := n) (i := i) (by
        rcases Nat.lt_or_ge i n with q | q
        · exact q
        · rw [List.getElem?_eq_none (by simpa using q)] at e3
          cases e3)
      rw [this] at e3
      cases e3
      exact e4.symm
    subst this
    exact ⟨F1, .refl s2, .int _⟩
/-- a walk that makes pairs -/
theorem yld_pair {J : It} {n : Nat} {G : Hp → Prop} {f g : Nat → Option V} {F : Hp} {xs : List PyData} (w : Walk J n G (YPair f g)) (hn : n = xs.length) (hG : ∀ F1 H, Same F F1 → Same F1 H → G H)
    (hy : ∀ i d x y, xs[i]? = some d → f i = some x → g i = some y → ∃ a b, d = .tuple [a, b] ∧ Dq F x a ∧ Dq F y b) : Yld F J xs :=
  walk_yld w hn hG fun F1 H i d v H' s1 s2 e ⟨T, x, y, e1, e2, e3, e4, e5⟩ => by
    subst e1 e3
    obtain ⟨a, b, rfl, h1, h2⟩ := hy i d x y e e4 e5
    have nT : F1 T = none := s2.free e2
    have s3 : Same F (upd F1 T (.tup [x, y])) := s1.trans (same_upd nT)
    exact ⟨upd F1 T (.tup [x, y]), .new s2 e2, .tup upd_same (.cons (h1.mono s3) (.cons (h2.mono s3) .nil))⟩
theorem walk_zipT {K : PySem.W.Frag} {a b : Addr} {xs ys : List V} {n : Nat} (hn : n = min xs.length ys.length) : Walk (RZ.ItzT K a b) n (fun H => SqT K H a xs ∧ SqT K H b ys) (YPair (fun i => xs[i]?) (fun i => ys[i]?)) := by
  subst hn
  refine ⟨fun i H hi q => ?_, fun H q => ⟨xs, ys, q.1, q.2, by omega⟩, fun i H v H' _ q ⟨T, x, z, t1, t2, t3, px, pz⟩ => ⟨T, x, z, t1, t2, t3, px xs q.1, pz ys q.2⟩⟩
  obtain ⟨lx, ly⟩ := Nat.lt_min.mp hi
  exact ⟨xs, ys, _, _, q.1, q.2, List.getElem?_eq_getElem lx, List.getElem?_eq_getElem ly⟩
theorem walk_enumT {K : PySem.W.Frag} {a : Addr} {xs : List V} : Walk (ItE K a) xs.length (fun H => H a = some (.tup xs)) (YPair (fun i => some (.int (i : Nat))) (fun i => xs[i]?)) :=
  ⟨fun _ _ hi q => ⟨xs, _, q, List.getElem?_eq_getElem hi⟩, fun _ q => ⟨xs, q, rfl⟩, fun i _ _ _ _ q ⟨T, x, t1, t2, t3, px⟩ => ⟨T, .int (i : Nat), x, t1, t2, t3, rfl, px xs q⟩⟩
theorem zipWith_get {xs ys : List PyData} {i : Nat} {d : PyData} (e : (List.zipWith (fun x y => PyData.tuple [x, y]) xs ys)[i]? = some d) : ∃ a b, xs[i]? = some a ∧ ys[i]? = some b ∧ d = .tuple [a, b] := by
  rw [List.getElem?_zipWith] at e
  split at e
  · rename_i a b h1 h2
    cases e
    exact ⟨a, b, h1, h2, rfl⟩
  · cases e
section
variable {X : Cx} {tg e e1 e2 e3 : Expr} {es elts : List Expr} {p pos tpos : Pos} {kk : Nat} {ce : SE} {sa : SA}
theorem i_range1 (hg : Gl X "range") (hm : X.mg "range" = none) (ha : PA X [e] (tA X.K sa)) (hs : starEach [e] X.env = [(false, eval e X.env)] := by rfl) : PI X tg (.Call (.Name "range" p) [e] [] pos) (tIt X.K (iRange1 sa)) :=
  L2.PI.weak (pi_range1 hg hm ha hs) fun σ H R ⟨ρ, F, ev, st, src, st', hr, sr, e, post⟩ => by
    simp only [iRange1, Option.bind_eq_some_iff] at e
    obtain ⟨⟨ws, st1⟩, e1, e2⟩ := e
    refine ⟨ρ, F, ev, st, ws, st1, hr, sr, e1, fun vs ρ' F' H' x hr' wr => ?_⟩
    split at e2
    · rename_i j q
      cases q
      split at e2
      · rename_i hb
        cases e2
        have hb' := of_decide_eq_true hb
        cases wr with
        | cons w1 t =>
          cases w1
          cases t
          exact ⟨j, rfl, by omega, by omega, post _ ρ' F' H' x hr' yld_range⟩
      · cases e2
    · cases e2
theorem i_range2 (hg : Gl X "range") (hm : X.mg "range" = none) (ha : PA X [e1, e2] (tA X.K sa)) (hs : starEach [e1, e2] X.env = [(false, eval e1 X.env), (false, eval e2 X.env)] := by rfl) (hs2 : starEach [e2] X.env = [(false, eval e2 X.env)] := by rfl) : PI X tg (.Call (.Name "range" p) [e1, e2] [] pos) (tIt X.K (iRange2 sa)) :=
  L2.PI.weak (pi_range2 hg hm ha hs hs2) fun σ H R ⟨ρ, F, ev, st, src, st', hr, sr, e, post⟩ => by
    simp only [iRange2, Option.bind_eq_some_iff] at e
    obtain ⟨⟨ws, st1⟩, e1, e2⟩ := e
    refine ⟨ρ, F, ev, st, ws, st1, hr, sr, e1, fun vs ρ' F' H' x hr' wr => ?_⟩
    split at e2
    · rename_i i j q
      cases q
      split at e2
      · rename_i hb
        cases e2
        rw [Bool.and_eq_true] at hb
        have h1 := of_decide_eq_true hb.1
        have h2 := of_decide_eq_true hb.2
        cases wr with
        | cons w1 t =>
          cases w1
          cases t with
          | cons w2 t =>
            cases w2
            cases t
            exact ⟨i, j, rfl, ⟨by omega, by omega, by omega, by omega⟩, post _ ρ' F' H' x hr' yld_range⟩
      · cases e2
    · cases e2
theorem i_range3 (hg : Gl X "range") (hm : X.mg "range" = none) (ha : PA X [e1, e2, e3] (tA X.K sa)) (hs : starEach [e1, e2, e3] X.env = (false, eval e1 X.env) :: starEach [e2, e3] X.env := by rfl) (hpl : (backTo pos (starEach [e2, e3] X.env)).any (·.1) = false := by rfl) : PI X tg (.Call (.Name "range" p) [e1, e2, e3] [] pos) (tIt X.K (iRange3 sa)) :=
  L2.PI.weak (pi_range3 hg hm ha hs hpl) fun σ H R ⟨ρ, F, ev, st, src, st', hr, sr, e, post⟩ => by
    simp only [iRange3, Option.bind_eq_some_iff] at e
    obtain ⟨⟨ws, st1⟩, e1, e2⟩ := e
    refine ⟨ρ, F, ev, st, ws, st1, hr, sr, e1, fun vs ρ' F' H' x hr' wr => ?_⟩
    split at e2
    · rename_i i j c q
      cases q
      split at e2
      · rename_i hb
        cases e2
        cases wr with
        | cons w1 t =>
          cases w1
          cases t with
          | cons w2 t =>
            cases w2
            cases t with
            | cons w3 t =>
              cases w3
              cases t
              exact ⟨i, j, c, _, rfl, ⟨hb.1, hb.2.1, hb.2.2.1, by have := hb.2.2.2; omega⟩, post _ ρ' F' H' x hr' yld_rangeC⟩
      · cases e2
    · cases e2
theorem i_zip (hg : Gl X "zip") (hm : X.mg "zip" = none) (ha : PA X [e1, e2] (tA X.K sa)) (hs : starEach [e1, e2] X.env = (false, eval e1 X.env) :: starEach [e2] X.env := by rfl) (hpl : (backTo pos (starEach [e2] X.env)).any (·.1) = false := by rfl) :
    PI X (.Tuple elts kk tpos) (.Call (.Name "zip" p) [e1, e2] [] pos) (tIt X.K (iZip2 sa)) :=
  L2.PI.weak (RZ.pi_zipA hg hm ha hs hpl) fun σ H R ⟨ρ, F, ev, st, src, st', hr, sr, e, post⟩ => by
    simp only [iZip2, Option.bind_eq_some_iff] at e
    obtain ⟨⟨ws, st1⟩, e1, e2⟩ := e
    refine ⟨ρ, F, ev, st, ws, st1, hr, sr, e1, fun vs ρ' F' H' x hr' wr => ?_⟩
    split at e2
    · rename_i xs ys q
      cases q
      cases e2
      cases wr with
      | cons w1 t =>
        cases t with
        | cons w2 t =>
          cases t
          cases w1 with
          | lst h1 a1 =>
            cases w2 with
            | lst h2 a2 =>
              refine ⟨_, _, _, _, rfl, .inl ⟨SqL.of (hr'.sub _ _ h1), SqL.of (hr'.sub _ _ h2), post _ ρ' F' H' x hr' ?_⟩⟩
              refine yld_pair (walk_zip rfl) (by simp [a1.length, a2.length]) (fun F1 H s1 s2 => ⟨SqL.of (s2 _ _ (s1 _ _ h1)), SqL.of (s2 _ _ (s1 _ _ h2))⟩) fun i d u v e e' e'' => ?_
              obtain ⟨a, b, k1, k2, k3⟩ := zipWith_get e
              obtain ⟨u', k4, k5⟩ := a1.get' k1
              obtain ⟨v', k6, k7⟩ := a2.get' k2
              rw [e'] at k4
              rw [e''] at k6
              cases k4
              cases k6
              exact ⟨a, b, k3, k5, k7⟩
    · rename_i xs ys q
      cases q
      cases e2
      cases wr with
      | cons w1 t =>
        cases t with
        | cons w2 t =>
          cases t
          cases w1 with
          | tup h1 a1 =>
            cases w2 with
            | tup h2 a2 =>
              refine ⟨_, _, _, _, rfl, .inr ⟨SqT.of (hr'.sub _ _ h1), SqT.of (hr'.sub _ _ h2), post _ ρ' F' H' x hr' ?_⟩⟩
              refine yld_pair (walk_zipT rfl) (by simp [a1.length, a2.length]) (fun F1 H s1 s2 => ⟨SqT.of (s2 _ _ (s1 _ _ h1)), SqT.of (s2 _ _ (s1 _ _ h2))⟩) fun i d u v e e' e'' => ?_
              obtain ⟨a, b, k1, k2, k3⟩ := zipWith_get e
              obtain ⟨u', k4, k5⟩ := a1.get' k1
              obtain ⟨v', k6, k7⟩ := a2.get' k2
              rw [e'] at k4
              rw [e''] at k6
              cases k4
              cases k6
              exact ⟨a, b, k3, k5, k7⟩
    · cases e2
theorem i_enum (hg : Gl X "enumerate") (hm : X.mg "enumerate" = none) (ha : PA X [e] (tA X.K sa)) (hs : starEach [e] X.env = [(false, eval e X.env)] := by rfl) :
    PI X (.Tuple elts kk tpos) (.Call (.Name "enumerate" p) [e] [] pos) (tIt X.K (iEnum1 sa)) :=
  PI.or (pi_enum hg hm ha hs) (pi_enumT hg hm ha hs) fun σ H R ⟨ρ, F, ev, st, src, st', hr, sr, e, post⟩ => by
    simp only [iEnum1, Option.bind_eq_some_iff] at e
    obtain ⟨⟨ws, st1⟩, e1, e2⟩ := e
    have lst : ∀ {F' : Hp} {a : Addr} {vs : List V} {xs : List PyData}, (∀ F1 H, Same F' F1 → Same F1 H → SqL X.K H a vs) → DqA F' vs xs → Yld F' (Ite X.K a) (enumD 0 xs) := fun hq d =>
      yld_pair walk_enum (by rw [enumD_length, d.length]) hq fun i z u v e e' e'' => by
        rw [enumD_get] at e
        obtain ⟨y, k1, k2⟩ := Option.map_eq_some_iff.mp e
        obtain ⟨v', k3, k4⟩ := d.get' k1
        rw [e''] at k3
        cases k3
        cases e'
        subst k2
        refine ⟨_, _, rfl, ?_, k4⟩
        rw [Nat.zero_add]
        exact .int _
    split at e2
    · rename_i xs q
      cases q
      cases e2
      refine .inl ⟨ρ, F, ev, st, _, _, hr, sr, e1, fun vs ρ' F' H' x hr' wr => ?_⟩
      cases wr with
      | cons w1 t =>
        cases t
        cases w1 with
        | lst h a => exact ⟨_, _, rfl, SqL.of (hr'.sub _ _ h), post _ ρ' F' H' x hr' (lst (fun F1 H s1 s2 => SqL.of (s2 _ _ (s1 _ _ h))) a)⟩
    · rename_i xs q
      cases q
      cases e2
      refine .inr ⟨ρ, F, ev, st, _, _, hr, sr, e1, fun vs ρ' F' H' x hr' wr => ?_⟩
      cases wr with
      | cons w1 t =>
        cases t
        cases w1 with
        | tup h a =>
          refine ⟨_, _, rfl, hr'.sub _ _ h, post _ ρ' F' H' x hr' ?_⟩
          refine yld_pair walk_enumT (by rw [enumD_length, a.length]) (fun F1 H s1 s2 => s2 _ _ (s1 _ _ h)) fun i z u v e e' e'' => ?_
          rw [enumD_get] at e
          obtain ⟨y, k1, k2⟩ := Option.map_eq_some_iff.mp e
          obtain ⟨v', k3, k4⟩ := a.get' k1
          rw [e''] at k3
          cases k3
          cases e'
          subst k2
          refine ⟨_, _, rfl, ?_, k4⟩
          rw [Nat.zero_add]
          exact .int _
    · rename_i ns q
      cases q
      cases e2
      refine .inl ⟨ρ, F, ev, st, _, _, hr, sr, e1, fun vs ρ' F' H' x hr' wr => ?_⟩
      cases wr with
      | cons w1 t =>
        cases t
        obtain ⟨a, h1, h2⟩ := w1
        have sq : ∀ F1 H, Same F' F1 → Same F1 H → SqL X.K H a (ns.map V.int) := fun F1 H s1 s2 => s2.seq (s1.seq h2)
        exact ⟨a, _, by rw [h1], sq F' H' (Same.refl _) hr'.sub, post _ ρ' F' H' x hr' (lst sq DqA.ints)⟩
    · cases e2
end
end Cm

set_option Elab.async false
set_option linter.all false
set_option maxRecDepth 100000
namespace Cm
open PySem PySem.Spec PyProof.Rows L2

/-! ### a list of the store is written -/
theorem HR.write {ρ : List Addr} {F H : Hp} {st : Sto} {n : Nat} {a : Addr} {xs ys : List PyData} {vs : List V} (h : HR ρ F H st) (e : st[n]? = some (some xs)) (ha : ρ[n]? = some a) (d : DqA F vs ys) :
    HR ρ F (upd H a (.lst vs)) (st.set n (some ys)) := by
  obtain ⟨a', us, h1, h2, h3, h4⟩ := h.cell n xs e
  rw [ha] at h1
  cases h1
  have hn : n < st.length := by
    rcases Nat.lt_or_ge n st.length with q | q
    · exact q
    · rw [List.getElem?_eq_none q] at e
      cases e
  have li : ∀ j : Nat, (∃ zs, (st.set n (some ys))[j]? = some (some zs)) → ∃ zs, st[j]? = some (some zs) := fun j ⟨zs, q⟩ => by
    by_cases hj : n = j
    · subst hj
      exact ⟨_, e⟩
    · rw [List.getElem?_set_ne hj] at q
      exact ⟨zs, q⟩
  refine ⟨fun b o q => ?_, fun m zs q => ?_, fun m k b e1 e2 l1 l2 => h.inj m k b e1 e2 (li m l1) (li k l2), by simp [h.len]⟩
  · have hb : b ≠ a := fun z => by
      subst z
      rw [h3] at q
      cases q
    rw [upd_ne hb]
    exact h.sub _ _ q
  · by_cases hm : n = m
    · subst hm
      rw [List.getElem?_set_self hn] at q
      cases q
      exact ⟨a, vs, ha, upd_same, h3, d⟩
    · rw [List.getElem?_set_ne hm] at q
      obtain ⟨b, ws, k1, k2, k3, k4⟩ := h.cell m zs q
      have hb : b ≠ a := fun z => by
        subst z
        exact hm (h.inj n m b ha k1 ⟨_, e⟩ ⟨_, q⟩)
      exact ⟨b, ws, k1, by rw [upd_ne hb]; exact k2, k3, k4⟩
theorem take_set {α : Type} (l : List α) (n : Nat) (x : α) (h : n < l.length) : (l.set n x).take (n + 1) = l.take n ++ [x] := by
  rw [List.take_add_one, List.getElem?_set_self h, List.take_set_of_le (Nat.le_refl _)]
  rfl
theorem lt_of_get {α : Type} {l : List α} {n : Nat} {x : α} (e : l[n]? = some x) : n < l.length := by
  rcases Nat.lt_or_ge n l.length with q | q
  · exact q
  · rw [List.getElem?_eq_none q] at e
    cases e
theorem take_get {α : Type} {l : List α} {n : Nat} {x : α} (e : l[n]? = some x) : l.take (n + 1) = l.take n ++ [x] := by
  rw [List.take_add_one, e]
  rfl

/-! ### comprehensions -/
def lcL (g : GT) (tt : SB) (te : SE) (ev : Ev) : List PyData → Sto → List PyData → Option (List PyData × Sto)
  | [], st, acc => some (acc, st)
  | x :: xs, st, acc => (g x ev).bind fun ev1 => (tt ev1 (st ++ [some acc])).bind fun p =>
    if p.1 then (te ev1 p.2).bind fun q => match q.1, q.2[st.length]? with
      | .d y, some (some acc') => if acc'.length < lim then lcL g tt te ev xs (q.2.take st.length) (acc' ++ [y]) else none
      | _, _ => none
    else match p.2[st.length]? with
      | some (some acc') => lcL g tt te ev xs (p.2.take st.length) acc'
      | _ => none
def lcC (g : GT) (tt : SB) (te : SE) (ev : Ev) (n : Nat) : Nat → Nat → Sto → List PyData → Option (List PyData × Sto)
  | 0, _, _, _ => none
  | k + 1, i, st, acc => match (st ++ [some acc])[n]? with
    | some (some xs) => match xs[i]? with
      | none => some (acc, st)
      | some x => (g x ev).bind fun ev1 => (tt ev1 (st ++ [some acc])).bind fun p =>
        if p.1 then (te ev1 p.2).bind fun q => match q.1, q.2[st.length]? with
          | .d y, some (some acc') => if acc'.length < lim then lcC g tt te ev n k (i + 1) (q.2.take st.length) (acc' ++ [y]) else none
          | _, _ => none
        else match p.2[st.length]? with
          | some (some acc') => lcC g tt te ev n k (i + 1) (p.2.take st.length) acc'
          | _ => none
    | _ => none
def lcR (it : SI) (g : GT) (tt : SB) (te : SE) (vs : List Nat) (ev : Ev) (st : Sto) : Option (List PyData × Sto) := (it ev st).bind fun p => match p.1 with
  | .fix xs => lcL g tt te (wipeE ev vs) xs p.2 []
  | .cell n => lcC g tt te (wipeE ev vs) n lim 0 p.2 []
def cLc (it : SI) (g : GT) (tt : SB) (te : SE) (vs : List Nat) : SE := fun ev st => (lcR it g tt te vs ev st).map fun p => (.d (.list p.1), p.2)
def cLcM (it : SI) (g : GT) (tt : SB) (te : SE) (vs : List Nat) : SE := fun ev st => (lcR it g tt te vs ev st).map fun p => (.l p.2.length, p.2 ++ [some p.1])
def bYes : SB := fun _ st => some (true, st)
section
variable {X : Cx} {e c : Expr}
theorem ts_nil : PTs X [] (tT X.K bYes) := pts_nil.weak fun σ H Q ⟨ρ, F, ev, st, w, st', hr, sr, e, post⟩ => by
  cases e
  exact post ρ F H (.refl _ _) hr
theorem ts_one {b : SB} (h : PT X c (tT X.K b)) : PTs X [c] (tT X.K b) := pts_one h
end
/-- the new list's place stays while a turn runs; what a turn leaves is cut back -/
theorem HR.lcNext {ρ ρ1 : List Addr} {F F1 H1 : Hp} {st st1 : Sto} {D : Addr} {acc acc' : List PyData} (hl : ρ.length = st.length) (x : Ext (ρ ++ [D]) F ρ1 F1) (h : HR ρ1 F1 H1 st1) (e : st1[st.length]? = some (some acc')) :
    ρ1[st.length]? = some D ∧ ∃ vs, H1 D = some (.lst vs) ∧ DqA F1 vs acc' := by
  have hD : ρ1[st.length]? = some D := x.pre _ _ (by
    rw [List.getElem?_append_right (by omega), hl]
    simp)
  obtain ⟨a, vs, h1, h2, h3, h4⟩ := h.cell _ _ e
  rw [hD] at h1
  cases h1
  exact ⟨hD, vs, h2, h4⟩
theorem Ext.unpush {ρ ρ1 : List Addr} {F F1 : Hp} {D : Addr} (x : Ext (ρ ++ [D]) F ρ1 F1) : Ext ρ F (ρ1.take ρ.length) F1 := ((Ext.push D).trans x).take _ (Nat.le_refl _)
theorem length_take_of {α : Type} {l : List α} {n : Nat} {x : α} (e : l[n]? = some x) : (l.take n).length = n := by
  rw [List.length_take]
  have := lt_of_get e
  omega
section
variable {ci : SI} {g : GT} {ct : SB} {ce : SE} {vs : List Nat}
/-- one turn of a comprehension -/
theorem lc_turn {K : PySem.W.Frag} {σ : L2.St} {ev ev1 : Ev} {ρ : List Addr} {F H : Hp} {st : Sto} {D : Addr} {acc : List PyData} {x : PyData} {v : V} {Nx : Hp → Prop} {R : List PyData → Sto → Prop}
    (hl : ρ.length = st.length) (hr : HR (ρ ++ [D]) F H (st ++ [some acc])) (sr : SR K ρ F (wipeE ev vs) (L2.wipe σ vs)) (d : Dq F v x) (e1 : g x (wipeE ev vs) = some ev1)
    {p : Bool × Sto} (e2 : ct ev1 (st ++ [some acc]) = some p)
    (e3 : if p.1 then ∃ q y acc', ce ev1 p.2 = some q ∧ q.1 = .d y ∧ q.2[st.length]? = some (some acc') ∧ acc'.length < lim ∧ R (acc' ++ [y]) (q.2.take st.length) else ∃ acc', p.2[st.length]? = some (some acc') ∧ R acc' (p.2.take st.length))
    (nx : ∀ ρ1 F1 H1 st1 acc1, Ext ρ F ρ1 F1 → ρ1.length = st1.length → HR (ρ1 ++ [D]) F1 H1 (st1 ++ [some acc1]) → R acc1 st1 → Nx H1) :
    tG K vs g v (L2.wipe σ vs) H fun σ2 H2 => L2.wipe σ2 vs = L2.wipe σ vs ∧ tT K ct σ2 H2 fun b H3 => if b = true then tI K ce σ2 H3 fun y H4 => ∃ acc, H4 D = some (.lst acc) ∧ acc.length < sizeLine ∧ Nx (upd H4 D (.lst (acc ++ [y]))) else Nx H3 := by
  have hwipe : ∀ τ : L2.St, L2.wipe (L2.wipe τ vs) vs = L2.wipe τ vs := fun τ => by
    apply List.ext_getElem?
    intro j
    by_cases hj : j ∈ vs
    · by_cases hlj : j < τ.length
      · rw [wipe_in hj (by rw [wipe_length]; exact hlj), wipe_in hj hlj]
      · rw [List.getElem?_eq_none (by rw [wipe_length, wipe_length]; omega), List.getElem?_eq_none (by rw [wipe_length]; omega)]
    · rw [wipe_out hj]
  refine ⟨ρ, F, _, x, ev1, hr.sub, sr, d, e1, fun σ2 sr2 w2 => ⟨w2.trans (hwipe σ), ?_⟩⟩
  have xp : Ext ρ F (ρ ++ [D]) F := .push D
  refine ⟨ρ ++ [D], F, ev1, st ++ [some acc], p.1, p.2, hr, sr2.mono xp, e2, fun ρ3 F3 H3 x3 hr3 => ?_⟩
  cases hb : p.1 with
  | false =>
    rw [hb] at e3
    simp only [Bool.false_eq_true, if_false] at e3 ⊢
    obtain ⟨acc', e4, r⟩ := e3
    obtain ⟨hD, us, h1, h2⟩ := HR.lcNext (acc := acc) hl x3 hr3 e4
    refine nx (ρ3.take st.length) F3 H3 (p.2.take st.length) acc' (by rw [← hl]; exact x3.unpush) ?_ ?_ r
    · rw [length_take_of hD, length_take_of e4]
    · rw [← take_get hD, ← take_get e4]
      exact hr3.take _
  | true =>
    rw [hb] at e3
    simp only [if_true] at e3 ⊢
    obtain ⟨q, y, acc', e4, e5, e6, e7, r⟩ := e3
    obtain ⟨w, st4⟩ := q
    simp only at e5 e6 r
    subst e5
    refine ⟨ρ3, F3, ev1, p.2, .d y, st4, hr3, (sr2.mono xp).mono x3, e4, fun vy ρ4 F4 H4 x4 hr4 wy => ?_⟩
    obtain ⟨hD, us, h1, h2⟩ := HR.lcNext (acc := acc) hl (x3.trans x4) hr4 e6
    refine ⟨us, h1, ?_, ?_⟩
    · rw [h2.length]
      exact Nat.lt_of_lt_of_le e7 (lim_le (Nat.le_refl _))
    · refine nx (ρ4.take st.length) F4 _ (st4.take st.length) (acc' ++ [y]) (by rw [← hl]; exact (x3.trans x4).unpush) ?_ ?_ r
      · rw [length_take_of hD, length_take_of e6]
      · have hw := hr4.write (ys := acc' ++ [y]) (vs := us ++ [vy]) e6 hD (h2.append (.cons wy .nil))
        have := hw.take (st.length + 1)
        rw [take_get hD, take_set _ _ _ (lt_of_get e6)] at this
        exact this
theorem lc_ok {K : PySem.W.Frag} {σ : L2.St} {H : Hp} {Q : VK} {ρ : List Addr} {F : Hp} {ev : Ev} {st : Sto} {r : List PyData × Sto} (hr : HR ρ F H st) (sr : SR K ρ F ev σ) (e : lcR ci g ct ce vs ev st = some r)
    (fin : ∀ D ρ' F' H', Ext ρ F ρ' F' → ρ'.length = r.2.length → HR (ρ' ++ [D]) F' H' (r.2 ++ [some r.1]) → Q (.ref D) H') : tLc (tIt K ci) (tG K vs g) (tT K ct) (tI K ce) vs σ H Q := by
  simp only [lcR, Option.bind_eq_some_iff] at e
  obtain ⟨⟨src, st1⟩, e1, e2⟩ := e
  refine ⟨ρ, F, ev, st, src, st1, hr, sr, e1, fun J ρ1 F1 H1 x1 hr1 y D nD => ?_⟩
  have srw : ∀ {ρ2 : List Addr} {F2 : Hp}, Ext ρ1 F1 ρ2 F2 → SR K ρ2 F2 (wipeE ev vs) (L2.wipe σ vs) := fun x2 => (((sr.mono x1).mono x2).wipe vs)
  cases src with
  | fix xs =>
    refine ⟨fun i m H => m = xs.length - i ∧ i ≤ xs.length ∧ ∃ ρ2 F2 st2 acc, Ext ρ1 F1 ρ2 F2 ∧ ρ2.length = st2.length ∧ HR (ρ2 ++ [D]) F2 H (st2 ++ [some acc]) ∧ lcL g ct ce (wipeE ev vs) (xs.drop i) st2 acc = some r,
      ⟨xs.length, rfl, Nat.zero_le _, ρ1, F1, st1, [], .refl _ _, hr1.len, hr1.push nD .nil, e2⟩, ?_⟩
    rintro i m H2 ⟨rfl, hi, ρ2, F2, st2, acc, x2, hl2, hr2, e3⟩
    obtain ⟨yg, ys⟩ := y F2 H2 x2.same hr2.sub
    by_cases hlt : i < xs.length
    · rw [List.drop_eq_getElem_cons hlt] at e3
      simp only [lcL, Option.bind_eq_some_iff] at e3
      obtain ⟨ev1, e4, p, e5, e6⟩ := e3
      obtain ⟨go, yl⟩ := yg i xs[i] (List.getElem?_eq_getElem hlt)
      refine .inr ⟨go, fun H => ∃ ρ2 F2 st2 acc, Ext ρ1 F1 ρ2 F2 ∧ ρ2.length = st2.length ∧ HR (ρ2 ++ [D]) F2 H (st2 ++ [some acc]) ∧ lcL g ct ce (wipeE ev vs) (xs.drop (i + 1)) st2 acc = some r, fun H' w => ⟨xs.length - (i + 1), by omega, rfl, hlt, w⟩, fun v H3 yv => ?_⟩
      obtain ⟨F3, gr, d⟩ := yl v H3 yv
      have x3 : Ext ρ2 F2 ρ2 F3 := .of gr
      refine lc_turn (R := fun acc st => lcL g ct ce (wipeE ev vs) (xs.drop (i + 1)) st acc = some r) hl2 (hr2.grow gr) (srw (x2.trans x3)) d e4 e5 ?_ fun ρ4 F4 H4 st4 acc4 x4 hl4 hr4 e7 => ⟨ρ4, F4, st4, acc4, (x2.trans x3).trans x4, hl4, hr4, e7⟩
      split at e6
      · rename_i hp
        rw [if_pos hp]
        simp only [Option.bind_eq_some_iff] at e6
        obtain ⟨q, e7, e8⟩ := e6
        split at e8
        · rename_i y acc' k1 k2
          split at e8
          · rename_i hlm
            exact ⟨q, y, acc', e7, k1, k2, hlm, e8⟩
          · cases e8
        · cases e8
      · rename_i hp
        rw [if_neg hp]
        split at e6
        · rename_i acc' k2
          exact ⟨acc', k2, e6⟩
        · cases e6
    · have hx : i = xs.length := by omega
      subst hx
      rw [List.drop_length] at e3
      cases e3
      exact .inl ⟨ys, fin D ρ2 F2 H2 (x1.trans x2) hl2 hr2⟩
  | cell n =>
    obtain ⟨a, ha, rfl⟩ := y
    refine ⟨fun i m H => ∃ ρ2 F2 st2 acc, Ext ρ1 F1 ρ2 F2 ∧ ρ2.length = st2.length ∧ HR (ρ2 ++ [D]) F2 H (st2 ++ [some acc]) ∧ lcC g ct ce (wipeE ev vs) n m i st2 acc = some r,
      ⟨lim, ρ1, F1, st1, [], .refl _ _, hr1.len, hr1.push nD .nil, e2⟩, ?_⟩
    rintro i m H2 ⟨ρ2, F2, st2, acc, x2, hl2, hr2, e3⟩
    cases m with
    | zero => cases e3
    | succ m =>
      simp only [lcC] at e3
      split at e3
      · rename_i xs q
        obtain ⟨a', us, h1, h2, h3, h4⟩ := hr2.cell n xs q
        rw [((x2.trans (.push D)).pre n a ha)] at h1
        cases h1
        have hq : SqL K H2 a us := SqL.of h2
        split at e3
        · rename_i q2
          cases e3
          refine .inl ⟨⟨us, hq, ?_⟩, fin D ρ2 F2 H2 (x1.trans x2) hl2 hr2⟩
          rw [h4.length]
          exact List.getElem?_eq_none_iff.mp q2
        · rename_i d q2
          simp only [Option.bind_eq_some_iff] at e3
          obtain ⟨ev1, e4, p, e5, e6⟩ := e3
          obtain ⟨v, hv, dv⟩ := h4.get' q2
          refine .inr ⟨⟨us, v, hq, hv⟩, fun H => ∃ ρ2 F2 st2 acc, Ext ρ1 F1 ρ2 F2 ∧ ρ2.length = st2.length ∧ HR (ρ2 ++ [D]) F2 H (st2 ++ [some acc]) ∧ lcC g ct ce (wipeE ev vs) n m (i + 1) st2 acc = some r, fun H' w => ⟨m, Nat.lt_succ_self _, w⟩, fun v' H3 ⟨eH, yv⟩ => ?_⟩
          subst eH
          have ev' : v' = v := Option.some.inj ((yv us hq).symm.trans hv)
          subst ev'
          refine lc_turn (R := fun acc st => lcC g ct ce (wipeE ev vs) n m (i + 1) st acc = some r) hl2 hr2 (srw x2) dv e4 e5 ?_ fun ρ4 F4 H4 st4 acc4 x4 hl4 hr4 e7 => ⟨ρ4, F4, st4, acc4, x2.trans x4, hl4, hr4, e7⟩
          split at e6
          · rename_i hp
            rw [if_pos hp]
            simp only [Option.bind_eq_some_iff] at e6
            obtain ⟨q, e7, e8⟩ := e6
            split at e8
            · rename_i y acc' k1 k2
              split at e8
              · rename_i hlm
                exact ⟨q, y, acc', e7, k1, k2, hlm, e8⟩
              · cases e8
            · cases e8
          · rename_i hp
            rw [if_neg hp]
            split at e6
            · rename_i acc' k2
              exact ⟨acc', k2, e6⟩
            · cases e6
      · cases e3
theorem lcD_ok {K : PySem.W.Frag} {σ : L2.St} {H : Hp} {Q : VK} (h : tI K (cLc ci g ct ce vs) σ H Q) : tLc (tIt K ci) (tG K vs g) (tT K ct) (tI K ce) vs σ H Q := by
  obtain ⟨ρ, F, ev, st, w, st', hr, sr, e, post⟩ := h
  simp only [cLc, Option.map_eq_some_iff] at e
  obtain ⟨⟨xs, st1⟩, e1, e2⟩ := e
  cases e2
  refine lc_ok hr sr e1 fun D ρ' F' H' x hl hr' => ?_
  replace hl : ρ'.length = st1.length := hl
  have e3 : (st1 ++ [some xs])[st1.length]? = some (some xs) := by simp
  obtain ⟨a, vs, h1, h2, h3, h4, h5⟩ := hr'.freeze e3
  have ha : a = D := by
    rw [List.getElem?_append_right (by omega), hl] at h1
    simpa using h1.symm
  subst ha
  have t := h5.take st1.length
  have e4 : (ρ' ++ [a]).take st1.length = ρ' := by rw [List.take_append_of_le_length (by omega), List.take_of_length_le (by omega)]
  have e5 : ((st1 ++ [some xs]).set st1.length none).take st1.length = st1 := by
    rw [List.take_set_of_le (Nat.le_refl _), List.take_append_of_le_length (Nat.le_refl _), List.take_length]
  rw [e4, e5] at t
  exact post _ ρ' _ H' (x.trans (.upd h2)) t (.lst upd_same (h4.mono (same_upd h2)))
theorem lcM_ok {K : PySem.W.Frag} {σ : L2.St} {H : Hp} {Q : VK} (h : tI K (cLcM ci g ct ce vs) σ H Q) : tLc (tIt K ci) (tG K vs g) (tT K ct) (tI K ce) vs σ H Q := by
  obtain ⟨ρ, F, ev, st, w, st', hr, sr, e, post⟩ := h
  simp only [cLcM, Option.map_eq_some_iff] at e
  obtain ⟨⟨xs, st1⟩, e1, e2⟩ := e
  cases e2
  refine lc_ok hr sr e1 fun D ρ' F' H' x hl hr' => ?_
  replace hl : ρ'.length = st1.length := hl
  exact post _ _ _ H' (x.trans (.push D)) hr' ⟨D, by
    show (ρ' ++ [D])[st1.length]? = some D
    rw [List.getElem?_append_right (by omega), hl]
    simp, rfl⟩
end
section
variable {X : Cx} {elt tg iter : Expr} {ifs : List Expr} {scope : Scope} {own : List (Str × Nat)} {pos : Pos} {ci : SI} {g : GT} {ct : SB} {ce : SE}
theorem se_lc (hc : X.calm = true) (hN : X.N.Nodup) (hi : PI X tg iter (tIt X.K ci)) (ok : BlkOk X.N X.env.scope scope own)
    (hg : ∀ (s : Shared) (H : Hp) (C : Addr) (cl : List (Str × Addr)) (fp : List Addr), PG (X.blk s H scope (compEnvC scope cl C X.env) fp) tg (tG X.K (own.map (·.2)) g)) (ht : ∀ (s : Shared) (H : Hp) (C : Addr) (cl : List (Str × Addr)) (fp : List Addr), PTs (X.blk s H scope (compEnvC scope cl C X.env) fp) ifs (tT X.K ct))
    (he : ∀ (s : Shared) (H : Hp) (C : Addr) (cl : List (Str × Addr)) (fp : List Addr), PE (X.blk s H scope (compEnvC scope cl C X.env) fp) elt (tI X.K ce)) (hs : ∀ x, foldedSetIterable iter X.env x = pure x := by exact fun _ => rfl) :
    PE X (.ListComp elt [⟨tg, iter, ifs, 0⟩] scope pos) (tI X.K (cLc ci g ct ce (own.map (·.2)))) := (pe_lc hc hN hi ok hg ht he hs).weak fun _ _ _ h => lcD_ok h
theorem se_lcM (hc : X.calm = true) (hN : X.N.Nodup) (hi : PI X tg iter (tIt X.K ci)) (ok : BlkOk X.N X.env.scope scope own)
    (hg : ∀ (s : Shared) (H : Hp) (C : Addr) (cl : List (Str × Addr)) (fp : List Addr), PG (X.blk s H scope (compEnvC scope cl C X.env) fp) tg (tG X.K (own.map (·.2)) g)) (ht : ∀ (s : Shared) (H : Hp) (C : Addr) (cl : List (Str × Addr)) (fp : List Addr), PTs (X.blk s H scope (compEnvC scope cl C X.env) fp) ifs (tT X.K ct))
    (he : ∀ (s : Shared) (H : Hp) (C : Addr) (cl : List (Str × Addr)) (fp : List Addr), PE (X.blk s H scope (compEnvC scope cl C X.env) fp) elt (tI X.K ce)) (hs : ∀ x, foldedSetIterable iter X.env x = pure x := by exact fun _ => rfl) :
    PE X (.ListComp elt [⟨tg, iter, ifs, 0⟩] scope pos) (tI X.K (cLcM ci g ct ce (own.map (·.2)))) := (pe_lc hc hN hi ok hg ht he hs).weak fun _ _ _ h => lcM_ok h
theorem asg_lc {i : Nat} {c : SE} {t : TE} (h : ∀ σ H Q, tI X.K c σ H Q → t σ H Q) {D : Ends} {σ : L2.St} {H : Hp} (q : tSS X.K (cSet i c) D σ H) : tAsg t (gName i) D σ H := h σ H _ (set_ok q)
theorem s_setLc {i : Nat} {y : Str} {py spos : Pos} (hc : X.calm = true) (hN : X.N.Nodup) (hy : X.N[i]? = some y) (hyl : X.env.scope.names.lookup y = some .local)
    (hsw : swapsWith (.ListComp elt [⟨tg, iter, ifs, 0⟩] scope pos) (some (.Name y py)) spos.line X.env = pure true) (hi : PI X tg iter (tIt X.K ci)) (ok : BlkOk X.N X.env.scope scope own)
    (hg : ∀ (s : Shared) (H : Hp) (C : Addr) (cl : List (Str × Addr)) (fp : List Addr), PG (X.blk s H scope (compEnvC scope cl C X.env) fp) tg (tG X.K (own.map (·.2)) g)) (ht : ∀ (s : Shared) (H : Hp) (C : Addr) (cl : List (Str × Addr)) (fp : List Addr), PTs (X.blk s H scope (compEnvC scope cl C X.env) fp) ifs (tT X.K ct))
    (he : ∀ (s : Shared) (H : Hp) (C : Addr) (cl : List (Str × Addr)) (fp : List Addr), PE (X.blk s H scope (compEnvC scope cl C X.env) fp) elt (tI X.K ce)) (hs : ∀ x, foldedSetIterable iter X.env x = pure x := by exact fun _ => rfl) :
    PS X (.Assign [.Name y py] (.ListComp elt [⟨tg, iter, ifs, 0⟩] scope pos) spos) (tSS X.K (cSet i (cLc ci g ct ce (own.map (·.2))))) := (ps_setLc hc hN hy hyl hsw hi ok hg ht he hs).weak fun _ _ _ h => asg_lc (fun _ _ _ z => lcD_ok z) h
theorem s_setLcM {i : Nat} {y : Str} {py spos : Pos} (hc : X.calm = true) (hN : X.N.Nodup) (hy : X.N[i]? = some y) (hyl : X.env.scope.names.lookup y = some .local)
    (hsw : swapsWith (.ListComp elt [⟨tg, iter, ifs, 0⟩] scope pos) (some (.Name y py)) spos.line X.env = pure true) (hi : PI X tg iter (tIt X.K ci)) (ok : BlkOk X.N X.env.scope scope own)
    (hg : ∀ (s : Shared) (H : Hp) (C : Addr) (cl : List (Str × Addr)) (fp : List Addr), PG (X.blk s H scope (compEnvC scope cl C X.env) fp) tg (tG X.K (own.map (·.2)) g)) (ht : ∀ (s : Shared) (H : Hp) (C : Addr) (cl : List (Str × Addr)) (fp : List Addr), PTs (X.blk s H scope (compEnvC scope cl C X.env) fp) ifs (tT X.K ct))
    (he : ∀ (s : Shared) (H : Hp) (C : Addr) (cl : List (Str × Addr)) (fp : List Addr), PE (X.blk s H scope (compEnvC scope cl C X.env) fp) elt (tI X.K ce)) (hs : ∀ x, foldedSetIterable iter X.env x = pure x := by exact fun _ => rfl) :
    PS X (.Assign [.Name y py] (.ListComp elt [⟨tg, iter, ifs, 0⟩] scope pos) spos) (tSS X.K (cSet i (cLcM ci g ct ce (own.map (·.2))))) := (ps_setLc hc hN hy hyl hsw hi ok hg ht he hs).weak fun _ _ _ h => asg_lc (fun _ _ _ z => lcM_ok z) h
end
end Cm

set_option Elab.async false
set_option linter.all false
set_option maxRecDepth 100000
namespace Cm
open PySem PySem.Spec PyProof.Rows L2

/-! ### methods that change a list of the store -/
abbrev MF := List PyData → List PyData → Option (PyData × List PyData)
def cM (f : MF) (o : SE) (a : SA) : SE := fun ev st => (o ev st).bind fun p => match p.1 with
  | .l n => match p.2[n]? with
    | some (some _) => (a ev p.2).bind fun q => (allD q.1).bind fun ds => match q.2[n]? with
      | some (some xs) => (f xs ds).bind fun r => if r.2.length ≤ lim then some (.d r.1, q.2.set n (some r.2)) else none
      | _ => none
    | _ => none
  | _ => none
def SndM (r : V → List V → Hp → VK → Prop) (f : MF) : Prop := ∀ F H l vs xs us ds z ys Q, Same F H → H l = some (.lst vs) → DqA F vs xs → DqA F us ds → f xs ds = some (z, ys) → ys.length ≤ lim →
  (∀ v vs', Dq F v z → DqA F vs' ys → Q v (upd H l (.lst vs'))) → r (.ref l) us H Q
section
variable {X : Cx} {o e : Expr} {es : List Expr} {co : SE} {sa : SA} {name : Str} {apos cpos : Pos} {id : String} {r : V → List V → Hp → VK → Prop} {f : MF}
theorem meth_ok {K : PySem.W.Frag} (hs : SndM r f) {σ : L2.St} {H : Hp} {Q : VK} (h : tI K (cM f co sa) σ H Q) : tBM K "list" r (tI K co) (tA K sa) σ H Q := by
  obtain ⟨ρ, F, ev, st, w, st', hr, sr, e, post⟩ := h
  simp only [cM, Option.bind_eq_some_iff] at e
  obtain ⟨⟨w1, st1⟩, e1, e2⟩ := e
  refine ⟨ρ, F, ev, st, w1, st1, hr, sr, e1, fun v1 ρ1 F1 H1 x1 hr1 wr1 => ?_⟩
  split at e2
  · rename_i n q
    cases q
    split at e2
    · rename_i xs0 q0
      simp only [Option.bind_eq_some_iff] at e2
      obtain ⟨⟨ws, st2⟩, e3, ds, e4, e5⟩ := e2
      obtain ⟨a, ha, rfl⟩ := wr1
      refine ⟨?_, ρ1, F1, ev, st1, ws, st2, hr1, sr.mono x1, e3, fun us ρ2 F2 H2 x2 hr2 wr2 => ?_⟩
      · obtain ⟨a', vs, k1, k2, _⟩ := hr1.cell n xs0 q0
        rw [ha] at k1
        cases k1
        exact .inl ⟨rfl, vs, SqL.of k2⟩
      · split at e5
        · rename_i xs q1
          simp only [Option.bind_eq_some_iff] at e5
          obtain ⟨⟨z, ys⟩, e6, e7⟩ := e5
          split at e7
          · rename_i hl
            cases e7
            obtain ⟨a', vs, k1, k2, k3, k4⟩ := hr2.cell n xs q1
            rw [x2.pre n a ha] at k1
            cases k1
            refine hs F2 H2 a vs xs us ds z ys Q hr2.sub k2 k4 (allD_ok wr2 e4) e6 hl fun v vs' d1 d2 => ?_
            exact post v ρ2 F2 _ (x1.trans x2) (hr2.write q1 (x2.pre n a ha) d2) d1
          · cases e7
        · cases e5
    · cases e2
  · cases e2
theorem meth0_ok {K : PySem.W.Frag} (hs : SndM r f) {σ : L2.St} {H : Hp} {Q : VK} (h : tI K (cM f co cNil) σ H Q) : tBM0 K "list" r (tI K co) σ H Q := by
  obtain ⟨ρ, F, ev, st, w1, st1, hr, sr, e1, k⟩ := meth_ok (K := K) hs h
  refine ⟨ρ, F, ev, st, w1, st1, hr, sr, e1, fun v1 ρ1 F1 H1 x1 hr1 wr1 => ?_⟩
  obtain ⟨ty, ρ2, F2, ev2, st2, ws, st3, h2, s2, e2, k2⟩ := k v1 ρ1 F1 H1 x1 hr1 wr1
  cases e2
  exact ⟨ty, k2 [] ρ2 F2 H1 (.refl _ _) h2 .nil⟩
theorem se_meth (pa : PlainAttrs "list") (slot : Slot "list" name id) (hty : typeOf (.builtin id) = pure (.type "method_descriptor")) (hm : MtR X id r) (hs : SndM r f) (ho : PE X o (tI X.K co)) (ha : PA X (e :: es) (tA X.K sa))
    (hbase : BareBase X o name := by rfl) (hfew : Few X (e :: es) cpos := by rfl) (hline : (apos.endLine == cpos.line) = true := by rfl) (hst : Bare1 X e es := by rfl) (hplain : NoStar X es cpos := by rfl) :
    PE X (.Call (.Attribute o name apos) (e :: es) [] cpos) (tI X.K (cM f co sa)) := (pe_bm pa slot hty hm ho ha hbase hfew hline hst hplain).weak fun _ _ _ h => meth_ok hs h
theorem se_meth0 (pa : PlainAttrs "list") (slot : Slot "list" name id) (hty : typeOf (.builtin id) = pure (.type "method_descriptor")) (hm : MtR X id r) (hs : SndM r f) (ho : PE X o (tI X.K co))
    (hbase : BareBase X o name := by rfl) (hline : (apos.endLine == cpos.line) = true := by rfl) :
    PE X (.Call (.Attribute o name apos) [] [] cpos) (tI X.K (cM f co cNil)) := (pe_bm0 pa slot hty hm ho hbase hline).weak fun _ _ _ h => meth0_ok hs h
end
def mAppend : MF := fun xs ds => match ds with
  | [y] => if xs.length < lim then some (.none, xs ++ [y]) else none
  | _ => none
def mExtend : MF := fun xs ds => match ds with
  | [.list ys] => if xs.length + ys.length ≤ lim then some (.none, xs ++ ys) else none
  | _ => none
def mPop : MF := fun xs ds => match ds with
  | [] => (xs[xs.length - 1]?).map fun y => (y, xs.dropLast)
  | _ => none
def mPopAt : MF := fun xs ds => match ds with
  | [.int i] => if 0 ≤ i ∧ i < xs.length then (xs[i.toNat]?).map fun y => (y, xs.eraseIdx i.toNat) else none
  | _ => none
def mInsert : MF := fun xs ds => match ds with
  | [.int i, y] => if 0 ≤ i ∧ i ≤ xs.length ∧ xs.length < lim then some (.none, xs.take i.toNat ++ y :: xs.drop i.toNat) else none
  | _ => none
theorem snd_append : SndM rAppend mAppend := fun F H l vs xs us ds z ys Q hs h d d2 e hl q => by
  unfold mAppend at e
  split at e
  · rename_i y
    split at e
    · rename_i hlm
      cases e
      cases d2 with
      | cons a t =>
        cases t
        exact ⟨l, vs, _, rfl, rfl, h, by rw [d.length]; exact Nat.lt_of_lt_of_le hlm (lim_le (Nat.le_refl _)), q _ _ .non (d.append (.cons a .nil))⟩
    · cases e
  · cases e
theorem snd_extend : SndM rExtend mExtend := fun F H l vs xs us ds z ys Q hs h d d2 e hl q => by
  unfold mExtend at e
  split at e
  · rename_i y
    split at e
    · rename_i hlm
      cases e
      cases d2 with
      | cons a t =>
        cases t
        cases a with
        | lst h2 d3 => exact ⟨l, _, vs, _, rfl, rfl, h, hs _ _ h2, by rw [d.length, d3.length]; exact lim_le hlm, q _ _ .non (d.append d3)⟩
    · cases e
  · cases e
theorem snd_pop : SndM rPop mPop := fun F H l vs xs us ds z ys Q hs h d d2 e hl q => by
  unfold mPop at e
  split at e
  · simp only [Option.map_eq_some_iff] at e
    obtain ⟨y, e1, e2⟩ := e
    cases e2
    cases d2
    obtain ⟨v, k1, k2⟩ := d.get' e1
    exact ⟨l, vs, v, rfl, rfl, h, by rw [d.length]; exact k1, q _ _ k2 d.dropLast⟩
  · cases e
theorem snd_popAt : SndM rPopAt mPopAt := fun F H l vs xs us ds z ys Q hs h d d2 e hl q => by
  unfold mPopAt at e
  split at e
  · rename_i i
    split at e
    · rename_i hi
      simp only [Option.map_eq_some_iff] at e
      obtain ⟨y, e1, e2⟩ := e
      cases e2
      cases d2 with
      | cons a t =>
        cases t
        cases a
        obtain ⟨v, k1, k2⟩ := d.get' e1
        have hi2 : ixN vs.length i = some i.toNat := by
          unfold ixN
          rw [if_pos hi.1, d.length, if_pos hi.2]
        have hsz : xs.length ≤ lim + 1 := by
          rw [List.length_eraseIdx] at hl
          split at hl <;> omega
        have e2 : (lim : Int) = 1000000 := by decide
        exact ⟨l, vs, i, i.toNat, v, rfl, rfl, h, by omega, by omega, (ixN_seq hi2).1, k1, q _ _ k2 (d.eraseIdx _)⟩
    · cases e
  · cases e
def rInsert : V → List V → Hp → VK → Prop := fun x vs H Q => ∃ (l : Addr) (xs : List V) (i : Int) (y : V), x = .ref l ∧ vs = [.int i, y] ∧ H l = some (.lst xs) ∧ xs.length < sizeLine ∧ 0 ≤ i ∧ i < 2 ^ 63 ∧
    Q .non (upd H l (.lst (xs.take i.toNat ++ [y] ++ xs.drop i.toNat)))
theorem mt_ins {X : Cx} : MtR X "list.insert" rInsert := mt_insert
theorem snd_insert : SndM rInsert mInsert := fun F H l vs xs us ds z ys Q hs h d d2 e hl q => by
  unfold mInsert at e
  split at e
  · rename_i i y
    split at e
    · rename_i hi
      cases e
      cases d2 with
      | cons a t =>
        cases t with
        | cons b t =>
          cases t
          cases a
          have e2 : (lim : Int) = 1000000 := by decide
          refine ⟨l, vs, i, _, rfl, rfl, h, ?_, hi.1, by omega, q _ _ .non ?_⟩
          · rw [d.length]
            exact Nat.lt_of_lt_of_le hi.2.2 (lim_le (Nat.le_refl _))
          · rw [List.append_assoc]
            exact (d.take _).append ((DqA.cons b .nil).append (d.drop _))
    · cases e
  · cases e
/-! o[i] = e at a list of the store -/
def cSetIx (o i e : SE) : SS := fun ev st => (e ev st).bind fun p => match p.1 with
  | .d y => (o ev p.2).bind fun q => match q.1 with
    | .l n => (i ev q.2).bind fun t => match t.1, t.2[n]? with
      | .d (.int k), some (some xs) => (ixN xs.length k).map fun j => .nx ev (t.2.set n (some (xs.set j y)))
      | _, _ => none
    | _ => none
  | _ => none
section
variable {X : Cx} {o i e : Expr} {co ci ce : SE} {pos p2 : Pos}
theorem s_setIx (he : PE X e (tI X.K ce)) (ho : PE X o (tI X.K co)) (hi : PE X i (tI X.K ci))
    (ha : ∀ v, assign (.Subscript o i p2) X.env v = (holding [v] (eval o X.env) >>= fun u => holding [v, u] (eval i X.env) >>= fun j => standAt p2 >>= fun _ => holding [v, u, j] (setItem u j v) >>= fun _ => release [v, u, j] []) := by exact fun _ => rfl)
    (hs : swapsWithSole [.Subscript o i p2] e pos.line X.env = pure false := by rfl) (hw : swappedStores [.Subscript o i p2] e X.env = pure none := by rfl)
    (h1 : (assignEach [.Subscript o i p2] X.env).map (·.2) = [assign (.Subscript o i p2) X.env] := by rfl) : PS X (.Assign [.Subscript o i p2] e pos) (tSS X.K (cSetIx co ci ce)) :=
  (ps_asg he (pg_sub ho hi set_list ha) hs hw h1).weak fun D σ H ⟨ρ, F, ev, st, out, hr, sr, e, ok⟩ => by
    simp only [cSetIx, Option.bind_eq_some_iff] at e
    obtain ⟨⟨w1, st1⟩, e1, e2⟩ := e
    refine ⟨ρ, F, ev, st, w1, st1, hr, sr, e1, fun v1 ρ1 F1 H1 x1 hr1 wr1 => ?_⟩
    split at e2
    · rename_i y q
      cases q
      simp only [Option.bind_eq_some_iff] at e2
      obtain ⟨⟨w2, st2⟩, e3, e4⟩ := e2
      refine ⟨ρ1, F1, ev, st1, w2, st2, hr1, sr.mono x1, e3, fun v2 ρ2 F2 H2 x2 hr2 wr2 => ?_⟩
      split at e4
      · rename_i n q
        cases q
        simp only [Option.bind_eq_some_iff] at e4
        obtain ⟨⟨w3, st3⟩, e5, e6⟩ := e4
        refine ⟨ρ2, F2, ev, st2, w3, st3, hr2, (sr.mono x1).mono x2, e5, fun v3 ρ3 F3 H3 x3 hr3 wr3 => ?_⟩
        split at e6
        · rename_i k xs q1 q2
          cases q1
          simp only [Option.map_eq_some_iff] at e6
          obtain ⟨j, e7, e8⟩ := e6
          subst e8
          obtain ⟨a, ha, rfl⟩ := wr2
          obtain ⟨a', vs, k1, k2, k3, k4⟩ := hr3.cell n xs q2
          rw [x3.pre n a ha] at k1
          cases k1
          cases wr3
          refine ⟨a, vs, k, j, rfl, rfl, k2, by rw [k4.length]; exact e7, ?_⟩
          have dy : Dq F3 v1 y := ((show Dq F1 v1 y from wr1).mono x2.same).mono x3.same
          exact ok _ ρ3 F3 _ ((x1.trans x2).trans x3) (hr3.write q2 (x3.pre n a ha) (k4.set dy j)) (((sr.mono x1).mono x2).mono x3)
        · cases e6
      · cases e4
    · cases e2
end
/-! x op= e -/
def cAug (i : Nat) (f : PyData → PyData → Option PyData) (e : SE) : SS := fun ev st => match ev[i]? with
  | some (some (.d x)) => (e ev st).bind fun p => (rd p.2 p.1).bind fun y => (f x y).map fun z => .nx (ev.set i (some (.d z))) p.2
  | _ => none
theorem s_aug {X : Cx} {e : Expr} {ce : SE} {i : Nat} {x : Str} {op : Operator} {ti : TIp} {f : PyData → PyData → Option PyData} {pos pos' : Pos} (hN : X.N.Nodup) (hi : X.N[i]? = some x) (hx : Loc X.env.scope x) (he : PE X e (tI X.K ce)) (ho : PIp X op ti) (hs : Snd2 X.K ti f)
    (hf : X.fn x = true ∨ X.env.scope.names.lookup x = some .local := by first | exact .inl rfl | exact .inr rfl | assumption) : PS X (.AugAssign (.Name x pos') op e pos) (tSS X.K (cAug i f ce)) :=
  (ps_aug hN hi hx he ho hf).weak fun D σ H ⟨ρ, F, ev, st, out, hr, sr, e, ok⟩ => by
    unfold cAug at e
    split at e
    · rename_i x q
      simp only [Option.bind_eq_some_iff, Option.map_eq_some_iff] at e
      obtain ⟨⟨w1, st1⟩, e1, y, e2, z, e3, e4⟩ := e
      subst e4
      obtain ⟨v, k1, k2⟩ := sr.get i _ q
      refine ⟨v, k1, ρ, F, ev, st, w1, st1, hr, sr, e1, fun v1 ρ1 F1 H1 x1 hr1 wr1 => ?_⟩
      refine hs F1 H1 v v1 x y z _ hr1.sub (.inl ((show Dq F v x from k2).mono x1.same)) (rd_ok hr1 wr1 e2) e3 fun v2 F2 H2 g d => ?_
      exact ok _ ρ1 F2 H2 (x1.trans (.of g)) (hr1.grow g) (((sr.mono x1).mono (.of g)).set (w := .d z) d i)
    · cases e
/-! ### defs -/
abbrev FS := List U → Sto → Option (U × Sto)
def leave (n : Nat) (w : U) (st : Sto) : Option (U × Sto) := match w with
  | .d x => some (.d x, st.take n)
  | .s ns => some (.s ns, st.take n)
  | .l k => if k < n then some (.l k, st.take n) else match st[k]? with
    | some (some xs) => some (.d (.list xs), st.take n)
    | _ => none
/-- a def by its body: its own lists are gone behind it, a list of its own that it returns is data -/
def defS (N : Nat) (b : SS) : FS := fun ws st => (b (ws.map some ++ List.replicate (N - ws.length) none) st).bind fun o => match o with
  | .rt w st' => leave st.length w st'
  | .nx _ st' => some (.d .none, st'.take st.length)
  | _ => none
def spF (K : PySem.W.Frag) (f : FS) (n : Nat) : Sp := fun vs H Q _ => ∃ ρ F ws st w st', HR ρ F H st ∧ WRs K ρ F vs ws ∧ ws.length = n ∧ f ws st = some (w, st') ∧ Post K ρ F w st' Q
def cDef (n : Nat) (f : FS) (a : SA) : SE := fun ev st => (a ev st).bind fun p => if p.1.length = n then f p.1 p.2 else none
theorem leave_ok {K : PySem.W.Frag} {ρ ρ' : List Addr} {F F' H' : Hp} {st st' st2 : Sto} {v : V} {w w2 : U} {Q : VK} (hl : ρ.length = st.length) (x : Ext ρ F ρ' F') (h : HR ρ' F' H' st') (r : WR K ρ' F' v w) (e : leave st.length w st' = some (w2, st2)) (post : Post K ρ F w2 st2 Q) : Q v H' := by
  have xt : Ext ρ F (ρ'.take st.length) F' := by
    rw [← hl]
    exact x.take _ (Nat.le_refl _)
  cases w with
  | d y =>
    cases e
    exact post v _ F' H' xt (h.take _) r
  | s ns =>
    cases e
    exact post v _ F' H' xt (h.take _) r
  | l k =>
    simp only [leave] at e
    split at e
    · rename_i hk
      cases e
      obtain ⟨a, h1, h2⟩ := r
      refine post v _ F' H' xt (h.take _) ⟨a, ?_, h2⟩
      rw [List.getElem?_take, if_pos hk]
      exact h1
    · rename_i hk
      split at e
      · rename_i xs q
        cases e
        obtain ⟨a, h1, rfl⟩ := r
        obtain ⟨a', vs, k1, k2, k3, k4, k5⟩ := h.freeze q
        rw [h1] at k1
        cases k1
        have t := k5.take st.length
        rw [List.take_set_of_le (by omega)] at t
        exact post _ _ _ H' (xt.trans (.upd k2)) t (.lst upd_same (k4.mono (same_upd k2)))
      · cases e
section
variable {P : Program} {w : World} {K : PySem.W.Frag} {mg : Str → Option Value} {base : Heap}
theorem SR.start {ρ : List Addr} {F : Hp} {vs : List V} {ws : List U} {N : List Str} (h : WRs K ρ F vs ws) : SR K ρ F (ws.map some ++ List.replicate (N.length - ws.length) Option.none) (L2.start N vs) := by
  have hl := h.length
  refine ⟨by simp [L2.start, hl], fun i w e => ?_⟩
  have g : ∀ {vs : List V} {ws : List U} (i : Nat) (w : U), WRs K ρ F vs ws → ws[i]? = some w → ∃ v, vs[i]? = some v ∧ WR K ρ F v w := by
    intro vs ws i w h
    induction h generalizing i with
    | nil => intro e; simp at e
    | cons a t ih =>
      intro e
      cases i with
      | zero =>
        simp only [List.getElem?_cons_zero, Option.some.injEq] at e
        subst e
        exact ⟨_, rfl, a⟩
      | succ i =>
        rw [List.getElem?_cons_succ] at e ⊢
        exact ih i e
  by_cases hi : i < ws.length
  · rw [List.getElem?_append_left (by simpa using hi), List.getElem?_map] at e
    obtain ⟨u, e1, e2⟩ := Option.map_eq_some_iff.mp e
    cases e2
    obtain ⟨v, k1, k2⟩ := g i w h e1
    refine ⟨v, ?_, k2⟩
    unfold L2.start
    rw [List.getElem?_append_left (by rw [List.length_map, hl]; exact hi), List.getElem?_map, k1]
    rfl
  · rw [List.getElem?_append_right (by simp; omega)] at e
    have := List.mem_of_getElem? e
    rw [List.mem_replicate] at this
    cases this.2
/-- THE RULE for a def -/
theorem def_ok {x qual : Str} {st : Stmt} {f : Addr} {fd : FuncData} {N ps : List Str} {k : Nat} {b : SS} (F : Fun K x qual st f fd) (S : FnScope N ps (defScope st))
    (h : ∀ (cdv : Value) (A : Around) (outer : List Env) (s : Shared) (H : Hp) (E : XK), Room k (A.deeper (envOfC qual (defScope st) s.heap.objs.size f cdv)) → PSs (cxOf CX0 P w K mg base N qual (defScope st) f cdv A outer s H E).nox (defBody st) (tSS K b)) :
    FnOk P w K mg base CX0 (k + 1) f fd ps (spF K (defS N.length b) ps.length) := by
  refine F.ok S (fun vs H Q E ⟨ρ, F, ws, st, w, st', hr, wr, hl, e, post⟩ => by rw [wr.length, hl]) fun cdv A outer s H vs Q E hrm hsp => ⟨tSS K b, h cdv A outer s H E hrm, ?_⟩
  obtain ⟨ρ, F, ws, st, w, st', hr, wr, hl, e, post⟩ := hsp
  simp only [defS, Option.bind_eq_some_iff] at e
  obtain ⟨o, e1, e2⟩ := e
  refine ⟨ρ, F, _, st, o, hr, SR.start wr, e1, ?_⟩
  cases o with
  | rt w1 st1 => exact fun v ρ' F' H' x hr' r => leave_ok hr.len x hr' r e2 post
  | nx ev1 st1 =>
    cases e2
    exact fun σ' ρ' F' H' x hr' _ => post .non _ F' H' (by rw [← hr.len]; exact x.take _ (Nat.le_refl _)) (hr'.take _) .non
  | bk ev1 st1 => cases e2
  | ct ev1 st1 => cases e2
end
section
variable {X : Cx} {k : Nat} {f : Addr} {fd : FuncData} {ps : List Str} {fs : FS} {x : Str} {e : Expr} {es : List Expr} {sa : SA} {p pos : Pos}
theorem defc_ok {E : XK} {σ : L2.St} {H : Hp} {Q : VK} (h : tI X.K (cDef ps.length fs sa) σ H Q) : tCall (spF X.K fs ps.length) [] E (tA X.K sa) σ H Q := by
  obtain ⟨ρ, F, ev, st, w, st', hr, sr, e, post⟩ := h
  simp only [cDef, Option.bind_eq_some_iff] at e
  obtain ⟨⟨ws, st1⟩, e1, e2⟩ := e
  split at e2
  · rename_i hl
    refine ⟨ρ, F, ev, st, ws, st1, hr, sr, e1, fun vs ρ' F' H' x hr' wr => ⟨ρ', F', ws, st1, w, st', hr', by rw [List.append_nil]; exact wr, hl, e2, fun v ρ2 F2 H2 x2 h2 r2 => post v ρ2 F2 H2 (x.trans x2) h2 r2⟩⟩
  · cases e2
theorem se_def (F : FnOk X.prog X.w X.K X.mg X.base CX0 k f fd ps (spF X.K fs ps.length)) (hr : Room k X.A) (hg : Gl X x) (hm : X.mg x = some (.ref f)) (hk : PySem.W.keepIn X.K (.ref f) = true) (hb : Binds X.K fd ps []) (ha : PA X (e :: es) (tA X.K sa))
    (hdb : NotDbg x := by decide) (he : Bare1 X e es := by rfl) (hpl : NoStar X es pos := by rfl) :
    PE X (.Call (.Name x p) (e :: es) [] pos) (tI X.K (cDef ps.length fs sa)) := (pe_call F hr hg hm hk hb .nil pass0 ha hdb he hpl).weak fun _ _ _ h => defc_ok h
theorem se_def0 (F : FnOk X.prog X.w X.K X.mg X.base CX0 k f fd ps (spF X.K fs ps.length)) (hr : Room k X.A) (hg : Gl X x) (hm : X.mg x = some (.ref f)) (hk : PySem.W.keepIn X.K (.ref f) = true) (hb : Binds X.K fd ps [])
    (hdb : NotDbg x := by decide) :
    PE X (.Call (.Name x p) [] [] pos) (tI X.K (cDef ps.length fs cNil)) := (pe_call0 F hr hg hm hk hb .nil pass0 hdb).weak fun σ H Q h => by
  obtain ⟨ρ, F, ev, st, ws, st1, hr, sr, e, k⟩ := defc_ok (E := E0) h
  cases e
  exact k [] ρ F H (.refl _ _) hr .nil
end
end Cm

set_option Elab.async false
set_option linter.all false
set_option maxRecDepth 100000
namespace Cm
open PySem PySem.Spec PyProof.Rows L2

/-! ### operators -/
def fAdd : PyData → PyData → Option PyData
  | .int a, .int b => some (.int (a + b))
  | .list a, .list b => if a.length + b.length ≤ lim then some (.list (a ++ b)) else none
  | .tuple a, .tuple b => if a.length + b.length ≤ lim then some (.tuple (a ++ b)) else none
  | .str a, .str b => if a.length + b.length ≤ lim then some (.str (a ++ b)) else none
  | _, _ => none
def fSub : PyData → PyData → Option PyData
  | .int a, .int b => some (.int (a - b))
  | _, _ => none
def p64 : Int := 18446744073709551616
def mulOk (a b : Int) : Bool := decide ((-p64 < a ∧ a < p64) ∨ (-p64 < b ∧ b < p64) ∨ a.natAbs.log2 + b.natAbs.log2 < 1000000)
def fMul : PyData → PyData → Option PyData
  | .int a, .int b => if mulOk a b then some (.int (a * b)) else none
  | .list a, .int b => if b < 1000000 ∧ -1000000 < b ∧ a.length * b.toNat ≤ lim then some (.list (List.replicate b.toNat a).flatten) else none
  | .tuple a, .int b => if 2 ≤ b ∧ b ≤ 1000 ∧ 0 < a.length ∧ a.length ≤ 1000 then some (.tuple (List.replicate b.toNat a).flatten) else none
  | _, _ => none
def fMod : PyData → PyData → Option PyData
  | .int a, .int b => if 0 < b then some (.int (a % b)) else none
  | _, _ => none
def fDiv : PyData → PyData → Option PyData
  | .int a, .int b => if 0 < b ∧ b.natAbs.log2 < 9000 then some (.int (a / b)) else none
  | _, _ => none
def fPow : PyData → PyData → Option PyData
  | .int a, .int b => if 0 ≤ b ∧ b ≤ 1000000 ∧ a.natAbs < 18446744073709551616 then some (.int (a ^ b.toNat)) else none
  | _, _ => none
def fNeg : PyData → Option PyData
  | .int a => some (.int (-a))
  | _ => none
def asInts : List PyData → Option (List Int)
  | [] => some []
  | .int i :: r => (asInts r).map (i :: ·)
  | _ :: _ => none
def asBools : List PyData → Option (List Bool)
  | [] => some []
  | .bool i :: r => (asBools r).map (i :: ·)
  | _ :: _ => none
def asPairs : List PyData → Option (List (Int × Int))
  | [] => some []
  | .tuple [.int i, .int j] :: r => (asPairs r).map ((i, j) :: ·)
  | _ :: _ => none
theorem asInts_eq : ∀ {xs : List PyData} {ns : List Int}, asInts xs = some ns → xs = ns.map .int
  | [], _, e => by cases e; rfl
  | .int i :: r, _, e => by
    simp only [asInts, Option.map_eq_some_iff] at e
    obtain ⟨ns, e1, rfl⟩ := e
    rw [asInts_eq e1]
    rfl
  | .none :: _, _, e => by cases e
  | .bool _ :: _, _, e => by cases e
  | .str _ :: _, _, e => by cases e
  | .list _ :: _, _, e => by cases e
  | .tuple _ :: _, _, e => by cases e
  | .dict _ :: _, _, e => by cases e
theorem asBools_eq : ∀ {xs : List PyData} {ns : List Bool}, asBools xs = some ns → xs = ns.map .bool
  | [], _, e => by cases e; rfl
  | .bool i :: r, _, e => by
    simp only [asBools, Option.map_eq_some_iff] at e
    obtain ⟨ns, e1, rfl⟩ := e
    rw [asBools_eq e1]
    rfl
  | .none :: _, _, e => by cases e
  | .int _ :: _, _, e => by cases e
  | .str _ :: _, _, e => by cases e
  | .list _ :: _, _, e => by cases e
  | .tuple _ :: _, _, e => by cases e
  | .dict _ :: _, _, e => by cases e
@[simp] theorem asInts_map : ∀ ns : List Int, asInts (ns.map .int) = some ns
  | [] => rfl
  | n :: ns => by simp [asInts, asInts_map ns]
@[simp] theorem asBools_map : ∀ ns : List Bool, asBools (ns.map .bool) = some ns
  | [] => rfl
  | n :: ns => by simp [asBools, asBools_map ns]
def pairD (p : Int × Int) : PyData := .tuple [.int p.1, .int p.2]
theorem asPairs_eq : ∀ {xs : List PyData} {ns : List (Int × Int)}, asPairs xs = some ns → xs = ns.map pairD
  | [], _, e => by cases e; rfl
  | x :: r, _, e => by
    unfold asPairs at e
    split at e
    · rename_i h
      cases h
    · rename_i i j r' h
      cases h
      simp only [Option.map_eq_some_iff] at e
      obtain ⟨ns, e1, rfl⟩ := e
      rw [asPairs_eq e1]
      rfl
    · cases e
@[simp] theorem asPairs_map : ∀ ns : List (Int × Int), asPairs (ns.map pairD) = some ns
  | [] => rfl
  | n :: ns => by simp [asPairs, pairD]; exact asPairs_map ns
def fLt : PyData → PyData → Option PyData
  | .int a, .int b => some (.bool (decide (a < b)))
  | .tuple a, .tuple b => (asInts a).bind fun ns => (asInts b).map fun ms => .bool (HT.lexLt ns ms)
  | _, _ => none
def fLe : PyData → PyData → Option PyData
  | .int a, .int b => some (.bool (decide (a ≤ b)))
  | _, _ => none
def fGt : PyData → PyData → Option PyData
  | .int a, .int b => some (.bool (decide (b < a)))
  | _, _ => none
def fGe : PyData → PyData → Option PyData
  | .int a, .int b => some (.bool (decide (b ≤ a)))
  | _, _ => none
def fEq (x y : PyData) : Option PyData := if SeqAt.shaped x && SeqAt.shaped y then some (.bool (PyData.eqv x y)) else none
def fNe (x y : PyData) : Option PyData := if SeqAt.shaped x && SeqAt.shaped y then some (.bool (!PyData.eqv x y)) else none
def isNone : PyData → Bool
  | .none => true
  | _ => false
def fIs : PyData → PyData → Option PyData
  | x, .none => some (.bool (isNone x))
  | .bool a, .bool b => some (.bool (decide (a = b)))
  | _, _ => none
def fIsNot : PyData → PyData → Option PyData
  | x, .none => some (.bool (!isNone x))
  | .bool a, .bool b => some (.bool (!decide (a = b)))
  | _, _ => none
def flatD : PyData → Bool
  | .none => true
  | .bool _ => true
  | .int _ => true
  | .str _ => true
  | _ => false
def hasD (ds : List PyData) (x : PyData) : Bool := ds.any fun z => PyData.eqv z x
def fIn (x : PyData) : PyData → Option PyData
  | .list ds => if SeqAt.shaped x && SeqAt.shaped (.list ds) then some (.bool (hasD ds x)) else none
  | .tuple ds => if flatD x && ds.all flatD then some (.bool (hasD ds x)) else none
  | _ => none
def fNotIn (x : PyData) : PyData → Option PyData
  | .list ds => if SeqAt.shaped x && SeqAt.shaped (.list ds) then some (.bool (!hasD ds x)) else none
  | .tuple ds => if flatD x && ds.all flatD then some (.bool (!hasD ds x)) else none
  | _ => none
def fIx : PyData → PyData → Option PyData
  | .list xs, .int i => atI xs i
  | .tuple xs, .int i => atI xs i
  | .str z, .int i => if z.length ≤ lim then (atI z.cps.toList i).map fun c => .str ⟨#[c]⟩ else none
  | _, _ => none
/-! sound -/
abbrev rAdd (K : PySem.W.Frag) : R2 := fun x y H Q => rI0 (fun i j => .int (i + j)) x y H Q ∨ (rCat x y H Q ∨ (rCatA K x y H Q ∨ (∃ i j, x = .str i ∧ y = .str j ∧ i.length + j.length ≤ sizeLine ∧ Q (.str (i ++ j)) H)))
theorem op_addA {X : Cx} : OpR X (binaryOp .Add) (rAdd X.K) := op_add.or (op_cat.or (op_catA.or op_add_str))
theorem snd_add {K : PySem.W.Frag} : Snd2s (rAdd K) fAdd := fun F H v u x y z Q hs rx ry e q => by
  unfold fAdd at e
  split at e
  · cases e
    cases (rx.rdd (K := K)).int
    cases (ry.rdd (K := K)).int
    exact .inl ⟨_, _, rfl, rfl, q.now hs (.int _)⟩
  · split at e
    · rename_i hl
      cases e
      obtain ⟨a, vs, rfl, h1, d1⟩ := rx.list hs
      obtain ⟨b, us, rfl, h2, d2⟩ := ry.list hs
      exact .inr (.inl ⟨a, b, vs, us, rfl, rfl, h1, h2, by rw [d1.length, d2.length]; exact lim_le hl, fun p np => q.lst hs (d1.append d2) p np⟩)
    · cases e
  · split at e
    · rename_i hl
      cases e
      obtain ⟨a, vs, rfl, h1, f1, d1⟩ := (rx.rdd (K := K)).tup hs
      obtain ⟨b, us, rfl, h2, f2, d2⟩ := (ry.rdd (K := K)).tup hs
      refine .inr (.inr (.inl ⟨a, b, vs, us, rfl, rfl, SqT.of h1, SqT.of h2, by rw [d1.length, d2.length]; exact lim_le hl, fun e => ?_, fun _ e => ?_, fun _ _ p np => q.tup hs (d1.append d2) p np⟩))
      · subst e
        cases d1
        exact q.now hs (.tup f2 d2)
      · subst e
        cases d2
        rw [List.append_nil] at q
        exact q.now hs (.tup f1 d1)
    · cases e
  · split at e
    · rename_i hl
      cases e
      cases (rx.rdd (K := K)).str
      cases (ry.rdd (K := K)).str
      exact .inr (.inr (.inr ⟨_, _, rfl, rfl, lim_le hl, q.now hs (.str _)⟩))
    · cases e
  · cases e
theorem snd_sub {K : PySem.W.Frag} : Snd2 K (rI0 fun i j => .int (i - j)) fSub := fun F H v u x y z Q hs rx ry e q => by
  unfold fSub at e
  split at e
  · cases e
    cases rx.int
    cases ry.int
    exact ⟨_, _, rfl, rfl, q.now hs (.int _)⟩
  · cases e
abbrev rMul (K : PySem.W.Frag) : R2 := fun x y H Q => rI CMul (fun i j => .int (i * j)) x y H Q ∨ (rI CMulW (fun i j => .int (i * j)) x y H Q ∨ (rRep x y H Q ∨ rRepT K x y H Q))
theorem op_mulA {X : Cx} : OpR X (binaryOp .Mult) (rMul X.K) := op_mul.or (op_mulW.or (op_rep.or op_repT))
theorem snd_mul {K : PySem.W.Frag} : Snd2s (rMul K) fMul := fun F H v u x y z Q hs rx ry e q => by
  unfold fMul at e
  split at e
  · rename_i a b
    split at e
    · rename_i hm
      cases e
      cases (rx.rdd (K := [])).int
      cases (ry.rdd (K := [])).int
      have hm' := of_decide_eq_true hm
      have ep : p64 = 2 ^ 64 := by decide
      rcases hm' with h | h | h
      · rw [ep] at h
        exact .inl ⟨_, _, rfl, rfl, .inl h, q.now hs (.int _)⟩
      · rw [ep] at h
        exact .inl ⟨_, _, rfl, rfl, .inr h, q.now hs (.int _)⟩
      · exact .inr (.inl ⟨_, _, rfl, rfl, h, q.now hs (.int _)⟩)
    · cases e
  · rename_i a b
    split at e
    · rename_i hm
      cases e
      cases (ry.rdd (K := [])).int
      obtain ⟨l, vs, rfl, h1, d1⟩ := rx.list hs
      refine .inr (.inr (.inl ⟨l, b, vs, rfl, rfl, h1, by omega, by omega, ?_, fun p np => q.lst hs (d1.rep _) p np⟩))
      rw [d1.length]
      exact lim_le hm.2.2
    · cases e
  · rename_i a b
    split at e
    · rename_i hm
      cases e
      cases (ry.rdd (K := K)).int
      obtain ⟨l, vs, rfl, h1, f1, d1⟩ := (rx.rdd (K := K)).tup hs
      have hl := d1.length
      refine .inr (.inr (.inr ⟨l, b, vs, rfl, rfl, SqT.of h1, ?_, hm.1, hm.2.1, by omega, fun p np => q.tup hs (d1.rep _) p np⟩))
      intro h0
      rw [h0] at hl
      simp at hl
      omega
    · cases e
  · cases e
theorem snd_mod {K : PySem.W.Frag} : Snd2 K (rI (fun _ j => 0 < j) fun i j => .int (i % j)) fMod := fun F H v u x y z Q hs rx ry e q => by
  unfold fMod at e
  split at e
  · split at e
    · rename_i h
      cases e
      cases rx.int
      cases ry.int
      exact ⟨_, _, rfl, rfl, h, q.now hs (.int _)⟩
    · cases e
  · cases e
theorem snd_div {K : PySem.W.Frag} : Snd2 K (rI CDivW fun i j => .int (i / j)) fDiv := fun F H v u x y z Q hs rx ry e q => by
  unfold fDiv at e
  split at e
  · split at e
    · rename_i h
      cases e
      cases rx.int
      cases ry.int
      exact ⟨_, _, rfl, rfl, h, q.now hs (.int _)⟩
    · cases e
  · cases e
theorem snd_pow {K : PySem.W.Frag} : Snd2 K (rI CPow fun i j => .int (i ^ j.toNat)) fPow := fun F H v u x y z Q hs rx ry e q => by
  unfold fPow at e
  split at e
  · split at e
    · rename_i h
      cases e
      cases rx.int
      cases ry.int
      exact ⟨_, _, rfl, rfl, ⟨h.1, h.2.1, by omega⟩, q.now hs (.int _)⟩
    · cases e
  · cases e
theorem snd_neg {K : PySem.W.Frag} : Snd1 K (rU fun i => .int (-i)) fNeg := fun F H v x z Q hs rx e q => by
  unfold fNeg at e
  split at e
  · cases e
    cases rx.int
    exact ⟨_, rfl, q.now hs (.int _)⟩
  · cases e
abbrev rLt (K : PySem.W.Frag) : R2 := fun x y H Q => rI0 (fun i j => .bl (decide (i < j))) x y H Q ∨ rLtT K x y H Q
theorem op_ltA {X : Cx} {k : Nat} (hr : Room k X.A) : OpR X (compareOp .Lt) (rLt X.K) := op_lt.or (op_ltT hr.units0)
theorem snd_lt {K : PySem.W.Frag} : Snd2 K (rLt K) fLt := fun F H v u x y z Q hs rx ry e q => by
  unfold fLt at e
  split at e
  · cases e
    cases rx.int
    cases ry.int
    exact .inl ⟨_, _, rfl, rfl, q.now hs (.bl _)⟩
  · simp only [Option.bind_eq_some_iff, Option.map_eq_some_iff] at e
    obtain ⟨ns, e1, ms, e2, rfl⟩ := e
    obtain ⟨a, vs, rfl, h1, _, d1⟩ := rx.tup hs
    obtain ⟨b, us, rfl, h2, _, d2⟩ := ry.tup hs
    rw [asInts_eq e1] at d1
    rw [asInts_eq e2] at d2
    rw [d1.of_ints] at h1
    rw [d2.of_ints] at h2
    exact .inr ⟨a, b, ns, ms, rfl, rfl, SqT.of h1, SqT.of h2, q.now hs (.bl _)⟩
  · cases e
theorem snd_le {K : PySem.W.Frag} : Snd2 K (rI0 fun i j => .bl (decide (i ≤ j))) fLe := fun F H v u x y z Q hs rx ry e q => by
  unfold fLe at e
  split at e
  · cases e
    cases rx.int
    cases ry.int
    exact ⟨_, _, rfl, rfl, q.now hs (.bl _)⟩
  · cases e
theorem snd_gt {K : PySem.W.Frag} : Snd2 K (rI0 fun i j => .bl (decide (j < i))) fGt := fun F H v u x y z Q hs rx ry e q => by
  unfold fGt at e
  split at e
  · cases e
    cases rx.int
    cases ry.int
    exact ⟨_, _, rfl, rfl, q.now hs (.bl _)⟩
  · cases e
theorem snd_ge {K : PySem.W.Frag} : Snd2 K (rI0 fun i j => .bl (decide (j ≤ i))) fGe := fun F H v u x y z Q hs rx ry e q => by
  unfold fGe at e
  split at e
  · cases e
    cases rx.int
    cases ry.int
    exact ⟨_, _, rfl, rfl, q.now hs (.bl _)⟩
  · cases e
theorem snd_eq {K : PySem.W.Frag} : Snd2 K (rEqD K) fEq := fun F H v u x y z Q hs rx ry e q => by
  unfold fEq at e
  split at e
  · rename_i h
    cases e
    rw [Bool.and_eq_true] at h
    exact ⟨x, y, rx.dp hs, ry.dp hs, h.1, h.2, q.now hs (.bl _)⟩
  · cases e
theorem snd_ne {K : PySem.W.Frag} : Snd2 K (rNeD K) fNe := fun F H v u x y z Q hs rx ry e q => by
  unfold fNe at e
  split at e
  · rename_i h
    cases e
    rw [Bool.and_eq_true] at h
    exact ⟨x, y, rx.dp hs, ry.dp hs, h.1, h.2, q.now hs (.bl _)⟩
  · cases e
theorem isNone_ok {K : PySem.W.Frag} {F H : Hp} {v : V} {x : PyData} (hs : Same F H) (r : Rdd K F H v x) : decide (v = .non) = isNone x := by
  cases x with
  | none => cases r.non; rfl
  | bool b => cases r.bl; rfl
  | int b => cases r.int; rfl
  | str b => cases r.str; rfl
  | list xs => obtain ⟨a, vs, rfl, _⟩ := r.list hs; rfl
  | tuple xs => obtain ⟨a, vs, rfl, _⟩ := r.tup hs; rfl
  | dict z => exact r.nodict.elim
abbrev rIs : R2 := fun x y H Q => (y = .non ∧ Q (.bl (decide (x = .non))) H) ∨ rIsB x y H Q
abbrev rIsNot : R2 := fun x y H Q => (y = .non ∧ Q (.bl (!decide (x = .non))) H) ∨ rNotB x y H Q
theorem op_isA {X : Cx} : OpR X (compareOp .Is) rIs := op_isN.or op_isBl
theorem op_notA {X : Cx} : OpR X (compareOp .IsNot) rIsNot := op_notN.or op_notBl
theorem snd_is {K : PySem.W.Frag} : Snd2 K rIs fIs := fun F H v u x y z Q hs rx ry e q => by
  unfold fIs at e
  split at e
  · cases e
    cases ry.non
    rw [← isNone_ok hs rx] at q
    exact .inl ⟨rfl, q.now hs (.bl _)⟩
  · cases e
    cases rx.bl
    cases ry.bl
    exact .inr ⟨_, _, rfl, rfl, q.now hs (.bl _)⟩
  · cases e
theorem snd_isnot {K : PySem.W.Frag} : Snd2 K rIsNot fIsNot := fun F H v u x y z Q hs rx ry e q => by
  unfold fIsNot at e
  split at e
  · cases e
    cases ry.non
    rw [← isNone_ok hs rx] at q
    exact .inl ⟨rfl, q.now hs (.bl _)⟩
  · cases e
    cases rx.bl
    cases ry.bl
    exact .inr ⟨_, _, rfl, rfl, q.now hs (.bl _)⟩
  · cases e
theorem flat_ok {K : PySem.W.Frag} {F H : Hp} {v : V} {x : PyData} (hs : Same F H) (r : Rdd K F H v x) (f : flatD x = true) : flatV v = true ∧ ∀ (u : V) (y : PyData), Dq F u y → flatD y = true → eqV u v = PyData.eqv y x := by
  have flat2 : ∀ {u : V} {y : PyData}, Dq F u y → flatD y = true → (y = .none ∧ u = .non) ∨ (∃ b, y = .bool b ∧ u = .bl b) ∨ (∃ b, y = .int b ∧ u = .int b) ∨ ∃ b, y = .str b ∧ u = .str b := fun d f => by
    cases d with
    | non => exact .inl ⟨rfl, rfl⟩
    | bl b => exact .inr (.inl ⟨b, rfl, rfl⟩)
    | int b => exact .inr (.inr (.inl ⟨b, rfl, rfl⟩))
    | str b => exact .inr (.inr (.inr ⟨b, rfl, rfl⟩))
    | lst h a => cases f
    | tup h a => cases f
  cases x with
  | none =>
    cases r.non
    refine ⟨rfl, fun u y d f2 => ?_⟩
    rcases flat2 d f2 with ⟨rfl, rfl⟩ | ⟨b, rfl, rfl⟩ | ⟨b, rfl, rfl⟩ | ⟨b, rfl, rfl⟩ <;> simp [eqV, PyData.eqv]
  | bool c =>
    cases r.bl
    refine ⟨rfl, fun u y d f2 => ?_⟩
    rcases flat2 d f2 with ⟨rfl, rfl⟩ | ⟨b, rfl, rfl⟩ | ⟨b, rfl, rfl⟩ | ⟨b, rfl, rfl⟩ <;> simp [eqV, PyData.eqv]
  | int c =>
    cases r.int
    refine ⟨rfl, fun u y d f2 => ?_⟩
    rcases flat2 d f2 with ⟨rfl, rfl⟩ | ⟨b, rfl, rfl⟩ | ⟨b, rfl, rfl⟩ | ⟨b, rfl, rfl⟩ <;> simp [eqV, PyData.eqv]
  | str c =>
    cases r.str
    refine ⟨rfl, fun u y d f2 => ?_⟩
    rcases flat2 d f2 with ⟨rfl, rfl⟩ | ⟨b, rfl, rfl⟩ | ⟨b, rfl, rfl⟩ | ⟨b, rfl, rfl⟩ <;> simp [eqV, PyData.eqv]
  | list xs => cases f
  | tuple xs => cases f
  | dict z => cases f
theorem in_flat {F : Hp} {v : V} {x : PyData} (h : ∀ (u : V) (y : PyData), Dq F u y → flatD y = true → eqV u v = PyData.eqv y x) : ∀ {vs : List V} {ds : List PyData}, DqA F vs ds → ds.all flatD = true → inV v vs = hasD ds x
  | _, _, .nil, _ => rfl
  | _, _, .cons a t, f => by
    simp only [List.all_cons, Bool.and_eq_true] at f
    have ih := in_flat h t f.2
    simp only [inV, hasD, List.any_cons] at ih ⊢
    rw [ih, h _ _ a f.1]
theorem all_flat {F : Hp} : ∀ {vs : List V} {ds : List PyData}, DqA F vs ds → ds.all flatD = true → vs.all flatV = true
  | _, _, .nil, _ => rfl
  | _, _, .cons a t, f => by
    simp only [List.all_cons, Bool.and_eq_true] at f ⊢
    refine ⟨?_, all_flat t f.2⟩
    cases a with
    | lst h a => cases f.1
    | tup h a => cases f.1
    | _ => rfl
abbrev rInA (K : PySem.W.Frag) : R2 := fun x y H Q => rInD K x y H Q ∨ rIn K false x y H Q
abbrev rNotInA (K : PySem.W.Frag) : R2 := fun x y H Q => rNotInD K x y H Q ∨ rIn K true x y H Q
theorem op_inA {X : Cx} {k : Nat} (hr : Room k X.A) : OpR X (compareOp .In) (rInA X.K) := (op_inD (by have := hr.un; omega)).or op_in_seq
theorem op_notInA {X : Cx} {k : Nat} (hr : Room k X.A) : OpR X (compareOp .NotIn) (rNotInA X.K) := (op_notInD (by have := hr.un; omega)).or op_notIn_seq
theorem snd_in {K : PySem.W.Frag} : Snd2 K (rInA K) fIn := fun F H v u x y z Q hs rx ry e q => by
  unfold fIn at e
  split at e
  · split at e
    · rename_i h
      cases e
      rw [Bool.and_eq_true] at h
      exact .inl ⟨x, _, rx.dp hs, ry.dp hs, h.1, h.2, q.now hs (.bl _)⟩
    · cases e
  · split at e
    · rename_i h
      cases e
      rw [Bool.and_eq_true] at h
      obtain ⟨f1, f2⟩ := flat_ok hs rx h.1
      obtain ⟨a, vs, rfl, h1, _, d1⟩ := ry.tup hs
      rw [← in_flat f2 d1 h.2] at q
      exact .inr ⟨a, vs, rfl, .inr (SqT.of h1), f1, all_flat d1 h.2, q.now hs (.bl _)⟩
    · cases e
  · cases e
theorem snd_notIn {K : PySem.W.Frag} : Snd2 K (rNotInA K) fNotIn := fun F H v u x y z Q hs rx ry e q => by
  unfold fNotIn at e
  split at e
  · split at e
    · rename_i h
      cases e
      rw [Bool.and_eq_true] at h
      exact .inl ⟨x, _, rx.dp hs, ry.dp hs, h.1, h.2, q.now hs (.bl _)⟩
    · cases e
  · split at e
    · rename_i h
      cases e
      rw [Bool.and_eq_true] at h
      obtain ⟨f1, f2⟩ := flat_ok hs rx h.1
      obtain ⟨a, vs, rfl, h1, _, d1⟩ := ry.tup hs
      rw [← in_flat f2 d1 h.2] at q
      exact .inr ⟨a, vs, rfl, .inr (SqT.of h1), f1, all_flat d1 h.2, q.now hs (.bl _)⟩
    · cases e
  · cases e
theorem atI_ok {F : Hp} {vs : List V} {ds : List PyData} {i : Int} {d : PyData} (h : DqA F vs ds) (e : atI ds i = some d) : ∃ v, atI vs i = some v ∧ Dq F v d := by
  unfold atI at e ⊢
  rw [h.length]
  obtain ⟨j, e1, e2⟩ := Option.bind_eq_some_iff.mp e
  rw [e1]
  exact h.get' e2
theorem snd_ix {K : PySem.W.Frag} : Snd2 K (rIx K) fIx := fun F H v u x y z Q hs rx ry e q => by
  unfold fIx at e
  split at e
  · cases ry.int
    obtain ⟨a, vs, rfl, h1, d1⟩ := rx.list hs
    obtain ⟨w, k1, k2⟩ := atI_ok d1 e
    exact .inl ⟨a, vs, _, w, rfl, rfl, h1, k1, q.now hs k2⟩
  · cases ry.int
    obtain ⟨a, vs, rfl, h1, _, d1⟩ := rx.tup hs
    obtain ⟨w, k1, k2⟩ := atI_ok d1 e
    exact .inr (.inl ⟨a, vs, _, w, rfl, rfl, SqT.of h1, k1, q.now hs k2⟩)
  · split at e
    · rename_i h
      cases ry.int
      cases rx.str
      obtain ⟨c, e1, rfl⟩ := Option.map_eq_some_iff.mp e
      exact .inr (.inr ⟨_, _, c, rfl, rfl, lim_le h, e1, q.now hs (.str _)⟩)
    · cases e
  · cases e
end Cm

set_option Elab.async false
set_option linter.all false
set_option maxRecDepth 100000
namespace Cm
open PySem PySem.Spec PyProof.Rows L2

/-! ### tuples of ints: sum, min, max, sorted, at the library's level -/
section
variable {prog : Program} {w : World} {A : Around} {s : Shared} {E Q : Value → Shared → Prop}
variable {l : Addr} {its : List Value} {ns : List Int}
theorem intsAre_get : ∀ {us : List Value} {ns : List Int} {i : Nat} {v : Value}, IntsAre us ns → us[i]? = some v → ∃ t, v = .int (ns.getD i 0) t
  | _, _, i, v, .nil, e => by simp at e
  | _, _, 0, v, .cons n t r, e => by
    simp only [List.getElem?_cons_zero, Option.some.injEq] at e
    exact ⟨t, by rw [← e]; rfl⟩
  | _, _, i + 1, v, .cons n t r, e => by
    rw [List.getElem?_cons_succ] at e
    obtain ⟨t', h⟩ := intsAre_get r e
    exact ⟨t', by rw [h]; rfl⟩
theorem preSum_getD (ns : List Int) : ∀ k : Nat, k ≤ ns.length → preSum (fun i => ns.getD i 0) k = (ns.take k).sum
  | 0, _ => by simp [preSum]
  | k + 1, h => by
    have e : ns[k]? = some (ns[k]'(by omega)) := List.getElem?_eq_getElem (by omega)
    have e2 : ns.getD k 0 = ns[k]'(by omega) := by
      simp [List.getD_eq_getElem?_getD, e]
    rw [preSum, preSum_getD ns k (by omega), e2, take_get e, List.sum_append]
    simp
/-- what stood before stands -/
def Stands (g h : Heap) : Prop := ∀ c ob, g.get? c = some ob → h.get? c = some ob
theorem sum_tup (hh : A.handled = none) (hl : s.heap.IsTuple l its.toArray) (hi : IntsAre its ns)
    (h : ∀ (g : Heap) (k u : Nat), Stands s.heap g → Q (.int ns.sum u) { s with heap := g, toks := k }) : wpAny (model prog w) A (call (.builtin "sum") [.ref l]) Q E s := by
  have hlt : l < s.heap.objs.size := by
    obtain ⟨_, e, _⟩ := hl
    exact Heap.lt_size e
  refine call_sum_walkG (wpAny_pyIter_tuple hl ?_)
  have hlen : its.length = ns.length := by
    have := (vals_of_ints hi).length
    simpa using this.symm
  refine ⟨_, _, _, _, _, _, fun i => ns.getD i 0, rfl, Walks.tuple (A := A.in1) hh s.heap.objs.size l (Nat.ne_of_lt hlt) its.toArray, ⟨⟨_, Heap.get?_push_size _ rfl, rfl, rfl⟩, hl.push _⟩, fun b hb => ?_, fun i v hv => ?_, fun h' tk t' hk => ?_⟩
  · have grown : ∀ ob, (s.heap.push ob).objs.size = s.heap.objs.size + 1 := fun ob => Heap.size_push ..
    have one : b = s.heap.objs.size ∨ b = l := by simpa using hb
    refine (grown _).symm ▸ one.elim (fun q => q ▸ Nat.lt_succ_self _) (fun q => q ▸ Nat.lt_succ_of_lt hlt)
  · exact intsAre_get hi (by simpa using hv)
  · rw [show its.toArray.size = ns.length by simpa using hlen, preSum_getD ns _ (Nat.le_refl _), List.take_length]
    refine h h' tk t' fun b o e => hk b o (fun z => ?_) (Heap.get?_push_of_some _ e)
    have z' : b = s.heap.objs.size := by simpa using z
    subst z'
    exact absurd (Heap.lt_size e) (Nat.lt_irrefl _)
end
section
variable {X : Cx}
abbrev rSumT (K : PySem.W.Frag) : List V → Hp → VK → Prop := fun vs H Q => ∃ (a : Addr) (ns : List Int), vs = [V.ref a] ∧ SqT K H a (ns.map V.int) ∧ Q (.int ns.sum) H
theorem cr_sumT (hc : X.calm = true) : CallR X (.builtin "sum") (rSumT X.K) := by
  intro pins s σ H vs us Q I r h
  obtain ⟨a, ns, rfl, hq, q⟩ := h
  obtain ⟨its, rv, hl, hz⟩ := I.tuple hq
  rw [Vals.ref1 r]
  exact sum_tup (I.ok.hd hc) (show s.heap.IsTuple a its.toArray from hl) rv.ints fun h' tk t' hk => ⟨.int _, H, I.kept hk, ⟨_, rfl⟩, q⟩
/-- z is ns, put in order -/
def InOrder (z ns : List Int) : Prop := z.Perm ns ∧ z.Pairwise (· ≤ ·)
abbrev rSortedT (K : PySem.W.Frag) : List V → Hp → VK → Prop := fun vs H Q => ∃ (a : Addr) (ns : List Int), vs = [V.ref a] ∧ SqT K H a (ns.map V.int) ∧
  ∀ (z : List Int) (p : Addr), InOrder z ns → H p = none → Q (.ref p) (upd H p (.lst (z.map V.int)))
theorem cr_sortedT : CallR X (.builtin "sorted") (rSortedT X.K) := by
  intro pins s σ H vs us Q I r h
  obtain ⟨a, ns, rfl, hq, q⟩ := h
  obtain ⟨its, rv, ⟨o, ho, hc, k, hd⟩, hz⟩ := I.tuple hq
  have hi := rv.ints
  have hz2 : its.length ≤ sizeLine := by
    rw [← rv.length]
    exact hz
  rw [Vals.ref1 r]
  apply Calls.call_function_entry kind_sorted plain_sorted entry_sorted (args_sorted1 _)
  simp only [Builtin.«sorted»]
  apply wpAny_bind (m := checkCount "sorted" 1 1 _)
  apply wpAny_pure
  refine wpAny_bind (wpAny_collect_seq a (.inr rfl) ho hc hd (fun h1 k1 => ?_) (by simpa using hz2))
  have e0 : its.toArray.toList = its := by simp
  rw [e0]
  have I1 : Inv X pins σ H { s with heap := h1 } := I.kept (t' := s.toks) k1
  refine wpAny_bind (wpAny_newList ?_ hz2)
  have hoL : (h1.push (seqObj "list" its.toArray 0)).get? h1.objs.size = some (seqObj "list" its.toArray 0) := Heap.get?_push_size _ rfl
  refine wpAny_bind (wpAny_holding (wpAny_call_entry slot_list_sort ⟨_, hoL, rfl⟩ entry_list_sort (SrtO.list_sort_ord SrtO.swo_int hoL hz2 (fun h2 => SrtO.ints_sortable hi h2) fun out hs hb => ⟨_, rfl, ?_⟩) (args_list_sort _)))
  obtain ⟨a1, a2, a3⟩ := SrtO.ints_out hi hs hb
  obtain ⟨n, hn⟩ := sortedHeap_at (out := out.toArray) hoL
  have old : ∀ b u, h1.get? b = some u → (sortedHeap (h1.push (seqObj "list" its.toArray 0)) h1.objs.size its out.toArray).get? b = some u := fun b u e => by
    have hb : b < h1.objs.size := Heap.lt_size e
    rw [sortedHeap_old (Nat.ne_of_lt hb) (by rw [Heap.size_push]; exact Nat.lt_succ_of_lt hb)]
    exact Heap.get?_push_of_some _ e
  refine wpAny_pure ⟨_, rfl, .ref h1.objs.size, upd H h1.objs.size (.lst ((out.map SrtO.iv).map V.int)), ?_, rfl, q _ _ ⟨a2, a3⟩ (I1.hok.fresh (Nat.le_refl _))⟩
  refine I1.laid (t' := s.toks) old (Nat.le_refl _) ⟨?_, out, n, vals_of_ints a1, hn⟩
  rw [List.length_map, a2.length_eq]
  rw [List.length_map] at hz
  exact hz
end
end Cm

set_option Elab.async false
set_option linter.all false
set_option maxRecDepth 100000
namespace Cm
open PySem PySem.Spec PyProof.Rows L2

/-! ### built-in functions -/
def minI : List Int → Option Int
  | [] => none
  | x :: xs => some (xs.foldl (fun a y => if y < a then y else a) x)
def maxI : List Int → Option Int
  | [] => none
  | x :: xs => some (xs.foldl (fun a y => if a < y then y else a) x)
theorem ite_le {z x : Int} : (if z < x then z else x) ≤ x ∧ (if z < x then z else x) ≤ z := by
  split <;> omega
theorem ite_ge {z x : Int} : x ≤ (if x < z then z else x) ∧ z ≤ (if x < z then z else x) := by
  split <;> omega
theorem foldmin_mem : ∀ (xs : List Int) (x : Int), (xs.foldl (fun a y => if y < a then y else a) x ∈ x :: xs) ∧ ∀ y ∈ x :: xs, xs.foldl (fun a y => if y < a then y else a) x ≤ y
  | [], x => by simp
  | z :: zs, x => by
    obtain ⟨h1, h2⟩ := foldmin_mem zs (if z < x then z else x)
    simp only [List.foldl_cons, List.mem_cons] at h1 h2 ⊢
    refine ⟨?_, fun y hy => ?_⟩
    · rcases h1 with h | h
      · rw [h]
        split
        · exact .inr (.inl rfl)
        · exact .inl rfl
      · exact .inr (.inr h)
    · have h0 := h2 _ (.inl rfl)
      rcases hy with rfl | rfl | hy
      · exact Int.le_trans h0 ite_le.1
      · exact Int.le_trans h0 ite_le.2
      · exact h2 y (.inr hy)
theorem foldmax_mem : ∀ (xs : List Int) (x : Int), (xs.foldl (fun a y => if a < y then y else a) x ∈ x :: xs) ∧ ∀ y ∈ x :: xs, y ≤ xs.foldl (fun a y => if a < y then y else a) x
  | [], x => by simp
  | z :: zs, x => by
    obtain ⟨h1, h2⟩ := foldmax_mem zs (if x < z then z else x)
    simp only [List.foldl_cons, List.mem_cons] at h1 h2 ⊢
    refine ⟨?_, fun y hy => ?_⟩
    · rcases h1 with h | h
      · rw [h]
        split
        · exact .inr (.inl rfl)
        · exact .inl rfl
      · exact .inr (.inr h)
    · have h0 := h2 _ (.inl rfl)
      rcases hy with rfl | rfl | hy
      · exact Int.le_trans ite_ge.1 h0
      · exact Int.le_trans ite_ge.2 h0
      · exact h2 y (.inr hy)
theorem minI_spec {ns : List Int} {m : Int} (e : minI ns = some m) : m ∈ ns ∧ ∀ y ∈ ns, m ≤ y := by
  cases ns with
  | nil => cases e
  | cons x xs =>
    cases e
    exact foldmin_mem xs x
theorem maxI_spec {ns : List Int} {m : Int} (e : maxI ns = some m) : m ∈ ns ∧ ∀ y ∈ ns, y ≤ m := by
  cases ns with
  | nil => cases e
  | cons x xs =>
    cases e
    exact foldmax_mem xs x
theorem minD_ints : ∀ (xs : List Int) (x : Int), PySem.W.minD (.int x) (xs.map .int) = .int (xs.foldl (fun a y => if y < a then y else a) x)
  | [], x => rfl
  | z :: zs, x => by
    show PySem.W.minD (if PySem.W.dataLt (.int z) (.int x) then .int z else .int x) (zs.map .int) = _
    rw [PySem.W.dataLt_int, List.foldl_cons, ← minD_ints zs]
    by_cases h : z < x <;> simp [h]
theorem maxD_ints : ∀ (xs : List Int) (x : Int), PySem.W.maxD (.int x) (xs.map .int) = .int (xs.foldl (fun a y => if a < y then y else a) x)
  | [], x => rfl
  | z :: zs, x => by
    show PySem.W.maxD (if PySem.W.dataLt (.int x) (.int z) then .int z else .int x) (zs.map .int) = _
    rw [PySem.W.dataLt_int, List.foldl_cons, ← maxD_ints zs]
    by_cases h : x < z <;> simp [h]
theorem alike_of_ints (ns : List Int) : PySem.W.AlikeAll (ns.map .int) := by
  refine ⟨fun x hx y hy => ?_, fun x hx => ?_⟩
  · obtain ⟨a, _, rfl⟩ := List.mem_map.mp hx
    obtain ⟨b, _, rfl⟩ := List.mem_map.mp hy
    simp [PySem.W.alike]
  · obtain ⟨a, _, rfl⟩ := List.mem_map.mp hx
    intro z
    cases z
theorem readsAll_ints {h : Heap} : ∀ {us : List Value} {ns : List Int}, IntsAre us ns → ∃ as, ReadsAll h us (ns.map .int) as
  | _, _, .nil => ⟨[], .nil⟩
  | _, _, .cons n t r => by
    obtain ⟨as, q⟩ := readsAll_ints (h := h) r
    exact ⟨_, .cons (.int n t) q⟩
theorem depth_of_ints : ∀ ns : List Int, PyData.depthAll (ns.map .int) = 0
  | [] => rfl
  | n :: ns => by
    rw [List.map_cons, PyData.depthAll, PyData.depth, depth_of_ints ns]
    rfl
section
variable {X : Cx} {k : Nat}
abbrev rMinT (K : PySem.W.Frag) : List V → Hp → VK → Prop := fun vs H Q => ∃ (a : Addr) (ns : List Int) (m : Int), vs = [V.ref a] ∧ SqT K H a (ns.map V.int) ∧ minI ns = some m ∧ Q (.int m) H
abbrev rMaxT (K : PySem.W.Frag) : List V → Hp → VK → Prop := fun vs H Q => ∃ (a : Addr) (ns : List Int) (m : Int), vs = [V.ref a] ∧ SqT K H a (ns.map V.int) ∧ maxI ns = some m ∧ Q (.int m) H
theorem cr_minT (hc : X.calm = true) (hr : Room k X.A) : CallR X (.builtin "min") (rMinT X.K) := by
  intro pins s σ H vs us Q I r h
  obtain ⟨a, ns, m, rfl, hq, em, q⟩ := h
  obtain ⟨its, rv, hl, hz⟩ := I.tuple hq
  rw [Vals.ref1 r]
  cases ns with
  | nil => cases em
  | cons x xs =>
    cases em
    obtain ⟨as, ra⟩ := readsAll_ints (h := s.heap) rv.ints
    refine PySem.W.min_tuple_data (vs := its.toArray) (x := .int x) (xs := xs.map .int) (as := as) (I.ok.hd hc) (show s.heap.IsTuple a its.toArray from hl) (by simpa using ra) (alike_of_ints (x :: xs)) ?_ fun i v h' tk bs hv rd hk => ?_
    · have := hr.un
      have e := depth_of_ints (x :: xs)
      rw [List.map_cons] at e
      rw [e]
      omega
    · rw [minD_ints] at rd
      cases rd
      exact ⟨.int _, H, I.kept hk, ⟨_, rfl⟩, q⟩
theorem cr_maxT (hc : X.calm = true) (hr : Room k X.A) : CallR X (.builtin "max") (rMaxT X.K) := by
  intro pins s σ H vs us Q I r h
  obtain ⟨a, ns, m, rfl, hq, em, q⟩ := h
  obtain ⟨its, rv, hl, hz⟩ := I.tuple hq
  rw [Vals.ref1 r]
  cases ns with
  | nil => cases em
  | cons x xs =>
    cases em
    obtain ⟨as, ra⟩ := readsAll_ints (h := s.heap) rv.ints
    refine PySem.W.max_tuple_data (vs := its.toArray) (x := .int x) (xs := xs.map .int) (as := as) (I.ok.hd hc) (show s.heap.IsTuple a its.toArray from hl) (by simpa using ra) (alike_of_ints (x :: xs)) ?_ fun i v h' tk bs hv rd hk => ?_
    · have := hr.un
      have e := depth_of_ints (x :: xs)
      rw [List.map_cons] at e
      rw [e]
      omega
    · rw [maxD_ints] at rd
      cases rd
      exact ⟨.int _, H, I.kept hk, ⟨_, rfl⟩, q⟩
end
def fLen : List PyData → Option PyData
  | [.list xs] => some (.int xs.length)
  | [.tuple xs] => some (.int xs.length)
  | [.str z] => if z.length ≤ lim then some (.int z.length) else none
  | _ => none
def fAbs : List PyData → Option PyData
  | [.int i] => some (.int (if i < 0 then -i else i))
  | _ => none
def fMax : List PyData → Option PyData
  | [.int i, .int j] => some (.int (if j > i then j else i))
  | [.list xs] => (asInts xs).bind fun ns => (maxI ns).map .int
  | [.tuple xs] => (asInts xs).bind fun ns => (maxI ns).map .int
  | _ => none
def fMin : List PyData → Option PyData
  | [.int i, .int j] => some (.int (if j < i then j else i))
  | [.list xs] => (asInts xs).bind fun ns => (minI ns).map .int
  | [.tuple xs] => (asInts xs).bind fun ns => (minI ns).map .int
  | _ => none
def fInt : List PyData → Option PyData
  | [.int i] => some (.int i)
  | [.bool b] => some (.int (if b then 1 else 0))
  | _ => none
def fTuple : List PyData → Option PyData
  | [.list xs] => some (.tuple xs)
  | [.tuple xs] => some (.tuple xs)
  | _ => none
def fList : List PyData → Option PyData
  | [.list xs] => some (.list xs)
  | [.tuple xs] => some (.list xs)
  | _ => none
def fSum : List PyData → Option PyData
  | [.list xs] => (asInts xs).map fun ns => .int ns.sum
  | [.tuple xs] => (asInts xs).map fun ns => .int ns.sum
  | _ => none
def fAll : List PyData → Option PyData
  | [.list xs] => (asBools xs).map fun bs => .bool (bs.all id)
  | _ => none
def fAny : List PyData → Option PyData
  | [.list xs] => (asBools xs).map fun bs => .bool (bs.any id)
  | _ => none
/-! sorting by putting in: the kernel can run it -/
section
variable {α : Type} (le : α → α → Bool)
def putIn (x : α) : List α → List α
  | [] => [x]
  | y :: ys => if le x y then x :: y :: ys else y :: putIn x ys
def sortBy : List α → List α
  | [] => []
  | x :: xs => putIn le x (sortBy xs)
end
theorem putIn_perm {α : Type} (le : α → α → Bool) (x : α) : ∀ ys : List α, (putIn le x ys).Perm (x :: ys)
  | [] => List.Perm.refl _
  | y :: ys => by
    rw [putIn]
    split
    · exact List.Perm.refl _
    · exact ((putIn_perm le x ys).cons y).trans (List.Perm.swap x y ys)
theorem sortBy_perm {α : Type} (le : α → α → Bool) : ∀ xs : List α, (sortBy le xs).Perm xs
  | [] => List.Perm.refl _
  | x :: xs => (putIn_perm le x _).trans ((sortBy_perm le xs).cons x)
theorem putIn_sorted {α : Type} {le : α → α → Bool} (tr : ∀ a b c, le a b = true → le b c = true → le a c = true) (to : ∀ a b, (le a b || le b a) = true) (x : α) : ∀ {ys : List α}, ys.Pairwise (fun a b => le a b = true) → (putIn le x ys).Pairwise (fun a b => le a b = true)
  | [], _ => by simp [putIn]
  | y :: ys, h => by
    have h' := List.pairwise_cons.mp h
    rw [putIn]
    split
    · rename_i c
      refine List.Pairwise.cons (fun z hz => ?_) h
      rcases List.mem_cons.mp hz with rfl | hz
      · exact c
      · exact tr _ _ _ c (h'.1 z hz)
    · rename_i c
      refine List.Pairwise.cons (fun z hz => ?_) (putIn_sorted tr to x h'.2)
      rcases List.mem_cons.mp ((putIn_perm le x ys).mem_iff.mp hz) with rfl | hz
      · have := to z y
        rcases Bool.or_eq_true_iff.mp this with q | q
        · exact absurd q c
        · exact q
      · exact h'.1 z hz
theorem sortBy_sorted {α : Type} {le : α → α → Bool} (tr : ∀ a b c, le a b = true → le b c = true → le a c = true) (to : ∀ a b, (le a b || le b a) = true) : ∀ xs : List α, (sortBy le xs).Pairwise (fun a b => le a b = true)
  | [] => List.Pairwise.nil
  | x :: xs => putIn_sorted tr to x (sortBy_sorted tr to xs)
def sortI (ns : List Int) : List Int := sortBy (fun a b => decide (a ≤ b)) ns
def leP (p q : Int × Int) : Bool := !SrtO.lexB q p
def sortP (ps : List (Int × Int)) : List (Int × Int) := sortBy leP ps
def fSorted : List PyData → Option PyData
  | [.list xs] => match asInts xs with
    | some ns => some (.list ((sortI ns).map .int))
    | none => (asPairs xs).map fun ps => .list ((sortP ps).map pairD)
  | [.tuple xs] => (asInts xs).map fun ns => .list ((sortI ns).map .int)
  | _ => none
theorem sortI_perm (ns : List Int) : (sortI ns).Perm ns := sortBy_perm _ _
theorem sortI_sorted (ns : List Int) : (sortI ns).Pairwise (· ≤ ·) := by
  have := sortBy_sorted (le := fun a b : Int => decide (a ≤ b)) (fun a b c h1 h2 => by
    have h1 := of_decide_eq_true h1
    have h2 := of_decide_eq_true h2
    exact decide_eq_true (by omega)) (fun a b => by
    by_cases h : a ≤ b
    · simp [h]
    · have : b ≤ a := by omega
      simp [this]) ns
  exact this.imp fun h => of_decide_eq_true h
theorem sortI_uniq {ns ms : List Int} (p : ms.Perm ns) (s : ms.Pairwise (· ≤ ·)) : ms = sortI ns :=
  (p.trans (sortI_perm ns).symm).eq_of_pairwise (fun a b _ _ h1 h2 => by omega) s (sortI_sorted ns)
theorem leP_iff {p q : Int × Int} : leP p q = true ↔ p.1 < q.1 ∨ (p.1 = q.1 ∧ p.2 ≤ q.2) := by
  unfold leP
  rw [Bool.not_eq_true', SrtO.lexB_no]
  omega
theorem sortP_perm (ns : List (Int × Int)) : (sortP ns).Perm ns := sortBy_perm _ _
theorem sortP_sorted (ns : List (Int × Int)) : (sortP ns).Pairwise (fun p q => leP p q = true) :=
  sortBy_sorted (le := leP) (fun a b c h1 h2 => by
    rw [leP_iff] at h1 h2 ⊢
    omega) (fun a b => by
    rw [Bool.or_eq_true, leP_iff, leP_iff]
    omega) ns
theorem sortP_uniq {ns ms : List (Int × Int)} (p : ms.Perm ns) (s : ms.Pairwise (fun p q => leP p q = true)) : ms = sortP ns :=
  (p.trans (sortP_perm ns).symm).eq_of_pairwise (fun a b _ _ h1 h2 => by
    rw [leP_iff] at h1 h2
    apply Prod.ext <;> omega) s (sortP_sorted ns)
theorem RdA.one {K : PySem.W.Frag} {F H : Hp} {vs : List V} {x : PyData} (h : RdA K F H vs [x]) : ∃ v, vs = [v] ∧ Rdd K F H v x := by
  cases h with
  | cons a t =>
    cases t
    exact ⟨_, rfl, a⟩
theorem RdA.two {K : PySem.W.Frag} {F H : Hp} {vs : List V} {x y : PyData} (h : RdA K F H vs [x, y]) : ∃ v u, vs = [v, u] ∧ Rdd K F H v x ∧ Rdd K F H u y := by
  cases h with
  | cons a t =>
    obtain ⟨u, rfl, b⟩ := t.one
    exact ⟨_, u, rfl, a, b⟩
section
variable {X : Cx} {k : Nat}
abbrev rLen (K : PySem.W.Frag) : List V → Hp → VK → Prop := fun xs H Q => (∃ p ys, xs = [.ref p] ∧ (SqL K H p ys ∨ SqT K H p ys) ∧ Q (.int ys.length) H) ∨ ∃ z, xs = [.str z] ∧ z.length ≤ sizeLine ∧ Q (.int z.length) H
theorem call_lenA : CallR X (.builtin "len") (rLen X.K) := call_len_seq.or call_len_str
theorem snd_len {K : PySem.W.Frag} : SndN K (rLen K) fLen := fun F H vs xs z Q hs r e q => by
  unfold fLen at e
  split at e
  · cases e
    obtain ⟨v, rfl, r0⟩ := r.one
    obtain ⟨a, us, rfl, h, d⟩ := r0.list hs
    rw [← d.length] at q
    exact .inl ⟨a, us, rfl, .inl h, q.now hs (.int _)⟩
  · cases e
    obtain ⟨v, rfl, r0⟩ := r.one
    obtain ⟨a, us, rfl, h, _, d⟩ := r0.tup hs
    rw [← d.length] at q
    exact .inl ⟨a, us, rfl, .inr (SqT.of h), q.now hs (.int _)⟩
  · split at e
    · rename_i hl
      cases e
      obtain ⟨v, rfl, r0⟩ := r.one
      cases r0.str
      exact .inr ⟨_, rfl, lim_le hl, q.now hs (.int _)⟩
    · cases e
  · cases e
abbrev rAbs : List V → Hp → VK → Prop := fun xs H Q => ∃ i, xs = [.int i] ∧ Q (.int (if i < 0 then -i else i)) H
theorem snd_abs {K : PySem.W.Frag} : SndN K rAbs fAbs := fun F H vs xs z Q hs r e q => by
  unfold fAbs at e
  split at e
  · cases e
    obtain ⟨v, rfl, r0⟩ := r.one
    cases r0.int
    exact ⟨_, rfl, q.now hs (.int _)⟩
  · cases e
abbrev rMaxA (K : PySem.W.Frag) : List V → Hp → VK → Prop := fun xs H Q => (∃ i j, xs = [.int i, .int j] ∧ Q (.int (if j > i then j else i)) H) ∨ (rMax K xs H Q ∨ rMaxT K xs H Q)
theorem call_maxA (hc : X.calm = true) (hr : Room k X.A) : CallR X (.builtin "max") (rMaxA X.K) := (call_max2 hc).or ((cr_max hc).or (cr_maxT hc hr))
theorem snd_max {K : PySem.W.Frag} : SndN K (rMaxA K) fMax := fun F H vs xs z Q hs r e q => by
  unfold fMax at e
  split at e
  · cases e
    obtain ⟨v, u, rfl, r1, r2⟩ := r.two
    cases r1.int
    cases r2.int
    exact .inl ⟨_, _, rfl, q.now hs (.int _)⟩
  · simp only [Option.bind_eq_some_iff, Option.map_eq_some_iff] at e
    obtain ⟨ns, e1, m, e2, rfl⟩ := e
    obtain ⟨v, rfl, r0⟩ := r.one
    obtain ⟨a, us, rfl, h, d⟩ := r0.list hs
    rw [asInts_eq e1] at d
    rw [d.of_ints] at h
    obtain ⟨h1, h2⟩ := maxI_spec e2
    refine .inr (.inl ⟨a, ns, rfl, h, List.length_pos_of_mem h1, fun m' k1 k2 => ?_⟩)
    have : m' = m := Int.le_antisymm (h2 m' k1) (k2 m h1)
    subst this
    exact q.now hs (.int _)
  · simp only [Option.bind_eq_some_iff, Option.map_eq_some_iff] at e
    obtain ⟨ns, e1, m, e2, rfl⟩ := e
    obtain ⟨v, rfl, r0⟩ := r.one
    obtain ⟨a, us, rfl, h, _, d⟩ := r0.tup hs
    rw [asInts_eq e1] at d
    rw [d.of_ints] at h
    exact .inr (.inr ⟨a, ns, m, rfl, SqT.of h, e2, q.now hs (.int _)⟩)
  · cases e
abbrev rMinA (K : PySem.W.Frag) : List V → Hp → VK → Prop := fun xs H Q => (∃ i j, xs = [.int i, .int j] ∧ Q (.int (if j < i then j else i)) H) ∨ (rMin K xs H Q ∨ rMinT K xs H Q)
theorem call_minA (hc : X.calm = true) (hr : Room k X.A) : CallR X (.builtin "min") (rMinA X.K) := (call_min2 hc).or ((cr_min hc).or (cr_minT hc hr))
theorem snd_min {K : PySem.W.Frag} : SndN K (rMinA K) fMin := fun F H vs xs z Q hs r e q => by
  unfold fMin at e
  split at e
  · cases e
    obtain ⟨v, u, rfl, r1, r2⟩ := r.two
    cases r1.int
    cases r2.int
    exact .inl ⟨_, _, rfl, q.now hs (.int _)⟩
  · simp only [Option.bind_eq_some_iff, Option.map_eq_some_iff] at e
    obtain ⟨ns, e1, m, e2, rfl⟩ := e
    obtain ⟨v, rfl, r0⟩ := r.one
    obtain ⟨a, us, rfl, h, d⟩ := r0.list hs
    rw [asInts_eq e1] at d
    rw [d.of_ints] at h
    obtain ⟨h1, h2⟩ := minI_spec e2
    refine .inr (.inl ⟨a, ns, rfl, h, List.length_pos_of_mem h1, fun m' k1 k2 => ?_⟩)
    have : m' = m := Int.le_antisymm (k2 m h1) (h2 m' k1)
    subst this
    exact q.now hs (.int _)
  · simp only [Option.bind_eq_some_iff, Option.map_eq_some_iff] at e
    obtain ⟨ns, e1, m, e2, rfl⟩ := e
    obtain ⟨v, rfl, r0⟩ := r.one
    obtain ⟨a, us, rfl, h, _, d⟩ := r0.tup hs
    rw [asInts_eq e1] at d
    rw [d.of_ints] at h
    exact .inr (.inr ⟨a, ns, m, rfl, SqT.of h, e2, q.now hs (.int _)⟩)
  · cases e
abbrev rInt : List V → Hp → VK → Prop := fun xs H Q => (∃ i, xs = [.int i] ∧ Q (.int i) H) ∨ ∃ k, xs = [.bl k] ∧ Q (.int (if k then 1 else 0)) H
theorem snd_int {K : PySem.W.Frag} : SndN K rInt fInt := fun F H vs xs z Q hs r e q => by
  unfold fInt at e
  split at e
  · cases e
    obtain ⟨v, rfl, r0⟩ := r.one
    cases r0.int
    exact .inl ⟨_, rfl, q.now hs (.int _)⟩
  · cases e
    obtain ⟨v, rfl, r0⟩ := r.one
    cases r0.bl
    exact .inr ⟨_, rfl, q.now hs (.int _)⟩
  · cases e
abbrev rTuple (K : PySem.W.Frag) : List V → Hp → VK → Prop := fun xs H Q => ∃ p ys, xs = [.ref p] ∧ ((SqL K H p ys ∧ ∀ l, H l = none → Q (.ref l) (upd H l (.tup ys))) ∨ (SqT K H p ys ∧ Q (.ref p) H))
theorem snd_tuple {K : PySem.W.Frag} : SndN K (rTuple K) fTuple := fun F H vs xs z Q hs r e q => by
  unfold fTuple at e
  split at e
  · cases e
    obtain ⟨v, rfl, r0⟩ := r.one
    obtain ⟨a, us, rfl, h, d⟩ := r0.list hs
    exact ⟨a, us, rfl, .inl ⟨h, fun p np => q.tup hs d p np⟩⟩
  · cases e
    obtain ⟨v, rfl, r0⟩ := r.one
    obtain ⟨a, us, rfl, h, hf, d⟩ := r0.tup hs
    exact ⟨a, us, rfl, .inr ⟨SqT.of h, q.now hs (.tup hf d)⟩⟩
  · cases e
abbrev rList (K : PySem.W.Frag) : List V → Hp → VK → Prop := fun xs H Q => ∃ p ys, xs = [.ref p] ∧ (SqL K H p ys ∨ SqT K H p ys) ∧ ∀ l, H l = none → Q (.ref l) (upd H l (.lst ys))
theorem list_src {K : PySem.W.Frag} {F H : Hp} {vs : List V} {x : PyData} {xs : List PyData} (hs : Same F H) (r : RdA K F H vs [x]) (e : x = .list xs ∨ x = .tuple xs) : ∃ a us, vs = [.ref a] ∧ (SqL K H a us ∨ SqT K H a us) ∧ DqA F us xs := by
  obtain ⟨v, rfl, r0⟩ := r.one
  rcases e with rfl | rfl
  · obtain ⟨a, us, rfl, h, d⟩ := r0.list hs
    exact ⟨a, us, rfl, .inl h, d⟩
  · obtain ⟨a, us, rfl, h, _, d⟩ := r0.tup hs
    exact ⟨a, us, rfl, .inr (SqT.of h), d⟩
theorem snd_list {K : PySem.W.Frag} : SndN K (rList K) fList := fun F H vs xs z Q hs r e q => by
  unfold fList at e
  split at e
  · cases e
    obtain ⟨a, us, rfl, h, d⟩ := list_src hs r (.inl rfl)
    exact ⟨a, us, rfl, h, fun p np => q.lst hs d p np⟩
  · cases e
    obtain ⟨a, us, rfl, h, d⟩ := list_src hs r (.inr rfl)
    exact ⟨a, us, rfl, h, fun p np => q.lst hs d p np⟩
  · cases e
/-- list(x) as a list of the store -/
def cListM (a : SA) : SE := fun ev st => (a ev st).bind fun p => (rdAll p.2 p.1).bind fun xs => match xs with
  | [.list ys] => some (.l p.2.length, p.2 ++ [some ys])
  | [.tuple ys] => some (.l p.2.length, p.2 ++ [some ys])
  | _ => none
theorem se_listM {e : Expr} {es : List Expr} {sa : SA} {p pos : Pos} (hg : Gl X "list") (hm : X.mg "list" = none) (ha : PA X (e :: es) (tA X.K sa))
    (he : starEach (e :: es) X.env = (false, eval e X.env) :: starEach es X.env := by rfl) (hpl : (backTo pos (starEach es X.env)).any (·.1) = false := by rfl) : PE X (.Call (.Name "list" p) (e :: es) [] pos) (tI X.K (cListM sa)) :=
  (pe_callTy call_list_of hg hm PyProof.Rows.boot_list ha (by decide) (by decide) he hpl).weak fun σ H Q ⟨ρ, F, ev, st, w, st', hr, sr, e, post⟩ => by
    simp only [cListM, Option.bind_eq_some_iff] at e
    obtain ⟨⟨ws, st1⟩, e1, xs, e2, e3⟩ := e
    refine ⟨ρ, F, ev, st, ws, st1, hr, sr, e1, fun vs ρ' F' H' x h r => ?_⟩
    have rr := rdAll_ok (K := X.K) h r e2
    split at e3
    · cases e3
      obtain ⟨a, us, rfl, k1, d⟩ := list_src h.sub rr (.inl rfl)
      exact ⟨a, us, rfl, k1, fun p np => post _ _ _ _ (x.trans (.push p)) (h.push np d) (.pushed h)⟩
    · cases e3
      obtain ⟨a, us, rfl, k1, d⟩ := list_src h.sub rr (.inr rfl)
      exact ⟨a, us, rfl, k1, fun p np => post _ _ _ _ (x.trans (.push p)) (h.push np d) (.pushed h)⟩
    · cases e3
abbrev rSumA (K : PySem.W.Frag) : List V → Hp → VK → Prop := fun xs H Q => rSum K xs H Q ∨ rSumT K xs H Q
theorem call_sumA (hc : X.calm = true) : CallR X (.builtin "sum") (rSumA X.K) := (cr_sum hc).or (cr_sumT hc)
theorem snd_sum {K : PySem.W.Frag} : SndN K (rSumA K) fSum := fun F H vs xs z Q hs r e q => by
  unfold fSum at e
  split at e
  · obtain ⟨ns, e1, rfl⟩ := Option.map_eq_some_iff.mp e
    obtain ⟨v, rfl, r0⟩ := r.one
    obtain ⟨a, us, rfl, h, d⟩ := r0.list hs
    rw [asInts_eq e1] at d
    rw [d.of_ints] at h
    exact .inl ⟨a, ns, rfl, h, q.now hs (.int _)⟩
  · obtain ⟨ns, e1, rfl⟩ := Option.map_eq_some_iff.mp e
    obtain ⟨v, rfl, r0⟩ := r.one
    obtain ⟨a, us, rfl, h, _, d⟩ := r0.tup hs
    rw [asInts_eq e1] at d
    rw [d.of_ints] at h
    exact .inr ⟨a, ns, rfl, SqT.of h, q.now hs (.int _)⟩
  · cases e
theorem snd_all {K : PySem.W.Frag} : SndN K (rAll K) fAll := fun F H vs xs z Q hs r e q => by
  unfold fAll at e
  split at e
  · obtain ⟨bs, e1, rfl⟩ := Option.map_eq_some_iff.mp e
    obtain ⟨v, rfl, r0⟩ := r.one
    obtain ⟨a, us, rfl, h, d⟩ := r0.list hs
    rw [asBools_eq e1] at d
    rw [d.of_bools] at h
    exact ⟨a, bs, rfl, h, q.now hs (.bl _)⟩
  · cases e
theorem snd_any {K : PySem.W.Frag} : SndN K (rAny K) fAny := fun F H vs xs z Q hs r e q => by
  unfold fAny at e
  split at e
  · obtain ⟨bs, e1, rfl⟩ := Option.map_eq_some_iff.mp e
    obtain ⟨v, rfl, r0⟩ := r.one
    obtain ⟨a, us, rfl, h, d⟩ := r0.list hs
    rw [asBools_eq e1] at d
    rw [d.of_bools] at h
    exact ⟨a, bs, rfl, h, q.now hs (.bl _)⟩
  · cases e
abbrev rSortedA (K : PySem.W.Frag) : List V → Hp → VK → Prop := fun xs H Q => rSortedI K xs H Q ∨ (rSortedPO K xs H Q ∨ rSortedT K xs H Q)
theorem call_sortedA : CallR X (.builtin "sorted") (rSortedA X.K) := cr_sortedI.or (cr_sortedPO.or cr_sortedT)
/-- the pair that stands at a value -/
def pairAt (H : Hp) : V → Int × Int
  | .ref t => match H t with
    | some (.tup [.int a, .int b]) => (a, b)
    | _ => (0, 0)
  | _ => (0, 0)
theorem pairs_at {F H : Hp} (hs : Same F H) : ∀ {vs : List V} {ps : List (Int × Int)}, DqA F vs (ps.map pairD) → vs.map (pairAt H) = ps ∧ ∀ x ∈ vs, ∃ t, x = V.ref t ∧ H t = some (.tup [.int (pairAt H x).1, .int (pairAt H x).2]) ∧ Dq F x (pairD (pairAt H x))
  | _, [], .nil => ⟨rfl, fun x h => by cases h⟩
  | _, p :: ps, .cons (.tup h (.cons (.int _) (.cons (.int _) .nil))) t => by
    obtain ⟨h1, h2⟩ := pairs_at hs t
    have e : ∀ a, F a = some (.tup [.int p.1, .int p.2]) → pairAt H (.ref a) = p := fun a q => by
      simp only [pairAt, hs _ _ q]
    refine ⟨by rw [List.map_cons, h1, e _ h], fun x hx => ?_⟩
    rcases List.mem_cons.mp hx with rfl | hx
    · rw [e _ h]
      exact ⟨_, rfl, hs _ _ h, .tup h (.cons (.int _) (.cons (.int _) .nil))⟩
    · exact h2 x hx
theorem dqa_of {F : Hp} (g : V → PyData) : ∀ {vs : List V}, (∀ x ∈ vs, Dq F x (g x)) → DqA F vs (vs.map g)
  | [], _ => .nil
  | v :: vs, h => .cons (h v List.mem_cons_self) (dqa_of g fun x hx => h x (List.mem_cons_of_mem _ hx))
theorem snd_sorted {K : PySem.W.Frag} : SndN K (rSortedA K) fSorted := fun F H vs xs z Q hs r e q => by
  unfold fSorted at e
  split at e
  · split at e
    · rename_i ns e1
      cases e
      obtain ⟨v, rfl, r0⟩ := r.one
      obtain ⟨a, us, rfl, h, d⟩ := r0.list hs
      rw [asInts_eq e1] at d
      rw [d.of_ints] at h
      refine .inl ⟨a, ns, rfl, h, fun ns' p k1 k2 np => ?_⟩
      rw [← sortI_uniq k1 k2] at q
      exact q.lst hs DqA.ints p np
    · obtain ⟨ps, e1, rfl⟩ := Option.map_eq_some_iff.mp e
      obtain ⟨v, rfl, r0⟩ := r.one
      obtain ⟨a, us, rfl, h, d⟩ := r0.list hs
      rw [asPairs_eq e1] at d
      obtain ⟨h1, h2⟩ := pairs_at hs d
      refine .inr (.inl ⟨a, us, pairAt H, rfl, h, fun x hx => ?_, fun ys p k1 k2 np => ?_⟩)
      · obtain ⟨t, e2, e3, _⟩ := h2 x hx
        exact ⟨t, e2, e3⟩
      · have pm : ys.Perm us := k2.perm
        have ey : ys.map (pairAt H) = sortP ps := by
          refine sortP_uniq ?_ ?_
          · rw [← h1]
            exact pm.map _
          · rw [List.pairwise_map]
            exact k1.imp fun {a b} (z : ltP (pairAt H) b a = false) => by
              show (!SrtO.lexB (pairAt H b) (pairAt H a)) = true
              rw [show SrtO.lexB (pairAt H b) (pairAt H a) = false from z]
              rfl
        have dy : DqA F ys (ys.map fun y => pairD (pairAt H y)) := dqa_of _ fun x hx => by
          obtain ⟨t, _, _, e4⟩ := h2 x (pm.mem_iff.mp hx)
          exact e4
        have e5 : (ys.map fun y => pairD (pairAt H y)) = (sortP ps).map pairD := by
          rw [← ey, List.map_map]
          rfl
        rw [e5] at dy
        exact q.lst hs dy p np
  · obtain ⟨ns, e1, rfl⟩ := Option.map_eq_some_iff.mp e
    obtain ⟨v, rfl, r0⟩ := r.one
    obtain ⟨a, us, rfl, h, _, d⟩ := r0.tup hs
    rw [asInts_eq e1] at d
    rw [d.of_ints] at h
    refine .inr (.inr ⟨a, ns, rfl, SqT.of h, fun z p k np => ?_⟩)
    rw [← sortI_uniq k.1 k.2] at q
    exact q.lst hs DqA.ints p np
  · cases e
end
end Cm

set_option Elab.async false
set_option linter.all false
set_option maxRecDepth 100000
namespace Cm
open PySem PySem.Spec PyProof.Rows L2

/-! ### slices -/
def cutD (xs : List PyData) (lo hi : Option Int) : List PyData := (xs.drop (HT.sIx xs.length 0 lo)).take (HT.sIx xs.length xs.length hi - HT.sIx xs.length 0 lo)
abbrev SO := Ev → Sto → Option (Option Int × Sto)
def oNone : SO := fun _ st => some (none, st)
def oSome (a : SE) : SO := fun ev st => (a ev st).bind fun p => match p.1 with
  | .d (.int i) => some (some i, p.2)
  | _ => none
def tO (K : PySem.W.Frag) (c : SO) : TO := fun σ H Q => ∃ ρ F ev st i st', HR ρ F H st ∧ SR K ρ F ev σ ∧ c ev st = some (i, st') ∧ ∀ ρ' F' H', Ext ρ F ρ' F' → HR ρ' F' H' st' → Q i H'
def fSl (x : PyData) (lo hi : Option Int) : Option PyData := match x with
  | .list xs => some (.list (cutD xs lo hi))
  | .tuple xs => some (.tuple (cutD xs lo hi))
  | .str z => if z.length ≤ lim then some (.str (cutS z lo hi)) else none
  | _ => none
def cSl (a : SE) (lo hi : SO) : SE := fun ev st => (a ev st).bind fun p => (lo ev p.2).bind fun q => (hi ev q.2).bind fun r => (rd r.2 p.1).bind fun x => (fSl x q.1 r.1).map fun z => (.d z, r.2)
theorem DqA.cut {F : Hp} {vs : List V} {xs : List PyData} (h : DqA F vs xs) (lo hi : Option Int) : DqA F (cutV vs lo hi) (cutD xs lo hi) := by
  unfold cutV cutD
  rw [h.length]
  exact (h.drop _).take _
theorem cutD_whole {xs : List PyData} {lo hi : Option Int} (h : HT.sIx xs.length 0 lo = 0 ∧ HT.sIx xs.length xs.length hi = xs.length) : cutD xs lo hi = xs := by
  unfold cutD
  rw [h.1, h.2]
  simp
section
variable {X : Cx} {e : Expr} {lo hi : Option Expr} {ca : SE} {cl ch : SO} {p2 pos : Pos}
theorem so_none : PO X none (tO X.K oNone) := ⟨fun pins s σ H Q I ⟨ρ, F, ev, st, i, st', hr, sr, e, post⟩ => po_none.run pins s σ H Q I (by
  cases e
  exact post ρ F H (.refl _ _) hr)⟩
theorem so_some (h : PE X e (tI X.K ca)) : PO X (some e) (tO X.K (oSome ca)) := ⟨fun pins s σ H Q I ⟨ρ, F, ev, st, i, st', hr, sr, e, post⟩ => (po_some h).run pins s σ H Q I (by
  simp only [oSome, Option.bind_eq_some_iff] at e
  obtain ⟨⟨w, st1⟩, e1, e2⟩ := e
  refine ⟨ρ, F, ev, st, w, st1, hr, sr, e1, fun v ρ' F' H' x h r => ?_⟩
  split at e2
  · rename_i k q
    cases q
    cases e2
    cases r
    exact ⟨_, rfl, post _ _ _ x h⟩
  · cases e2)⟩
abbrev rSl (K : PySem.W.Frag) : V → Option Int → Option Int → Hp → VK → Prop := fun x lo hi H Q => rSlL K x lo hi H Q ∨ (rSlA K x lo hi H Q ∨ rSlS x lo hi H Q)
theorem sl_any : SlR X (rSl X.K) := sl_list.or (sl_tupA.or sl_str)
theorem se_sl (ha : PE X e (tI X.K ca)) (hl : PO X lo (tO X.K cl)) (hh : PO X hi (tO X.K ch)) : PE X (.Subscript e (.Slice lo hi none p2) pos) (tI X.K (cSl ca cl ch)) :=
  (pe_slice sl_any ha hl hh).weak fun σ H Q ⟨ρ, F, ev, st, w, st', hr, sr, e, post⟩ => by
    simp only [cSl, Option.bind_eq_some_iff, Option.map_eq_some_iff] at e
    obtain ⟨⟨w1, st1⟩, e1, ⟨i, st2⟩, e2, ⟨j, st3⟩, e3, x, e4, z, e5, e6⟩ := e
    cases e6
    refine ⟨ρ, F, ev, st, w1, st1, hr, sr, e1, fun v1 ρ1 F1 H1 x1 hr1 wr1 => ⟨ρ1, F1, ev, st1, i, st2, hr1, sr.mono x1, e2, fun ρ2 F2 H2 x2 hr2 => ⟨ρ2, F2, ev, st2, j, st3, hr2, (sr.mono x1).mono x2, e3, fun ρ3 F3 H3 x3 hr3 => ?_⟩⟩⟩
    have rr : Rdd X.K F3 H3 v1 x := rd_ok hr3 ((wr1.mono x2).mono x3) e4
    have q : Rep F3 H3 z Q := post.grow ((x1.trans x2).trans x3) hr3
    have hs := hr3.sub
    cases x with
    | list xs =>
      cases e5
      obtain ⟨a, vs, rfl, h, d⟩ := rr.list hs
      exact .inl ⟨a, vs, rfl, h, fun p np => q.lst hs (d.cut _ _) p np⟩
    | tuple xs =>
      cases e5
      obtain ⟨a, vs, rfl, h, hf, d⟩ := rr.tup hs
      refine .inr (.inl ⟨a, vs, rfl, SqT.of h, fun hw => ?_, fun _ p np => q.tup hs (d.cut _ _) p np⟩)
      rw [d.length] at hw
      rw [cutD_whole hw] at q
      exact q.now hs (.tup hf d)
    | str z =>
      simp only [fSl] at e5
      split at e5
      · rename_i hlm
        cases e5
        cases rr.str
        exact .inr (.inr ⟨_, rfl, lim_le hlm, q.now hs (.str _)⟩)
      · cases e5
    | _ => cases e5
end
/-! ### isinstance -/
def tyD : PyData → Option String
  | .none => some "NoneType"
  | .bool _ => some "bool"
  | .int _ => some "int"
  | .str _ => some "str"
  | .list _ => some "list"
  | .tuple _ => some "tuple"
  | .dict _ => none
def isaT (t T : String) : Bool := t == T || (t == "bool" && T == "int")
def known (T : String) : Bool := T == "int" || T == "bool" || T == "str" || T == "list" || T == "tuple"
theorem kitB_ok {x : PyData} {t T : String} (ht : tyD x = some t) (hT : known T = true) : kitB t T = some (isaT t T) := by
  have h1 : t = "NoneType" ∨ t = "bool" ∨ t = "int" ∨ t = "str" ∨ t = "list" ∨ t = "tuple" := by
    cases x <;> simp only [tyD, Option.some.injEq, reduceCtorEq] at ht <;> simp [← ht]
  have h2 : T = "int" ∨ T = "bool" ∨ T = "str" ∨ T = "list" ∨ T = "tuple" := by simpa [known, or_assoc] using hT
  rcases h1 with rfl | rfl | rfl | rfl | rfl | rfl <;> rcases h2 with rfl | rfl | rfl | rfl | rfl <;> decide +kernel
def cIsi (Ts : List String) (a : SE) : SE := fun ev st => (a ev st).bind fun p => (rd p.2 p.1).bind fun x => (tyD x).bind fun t => if Ts.all known then some (.d (.bool (Ts.any (isaT t))), p.2) else none
theorem tyX_of {K : PySem.W.Frag} {ρ : List Addr} {F H : Hp} {st : Sto} {v : V} {w : U} {x : PyData} {t : String} (h : HR ρ F H st) (r : WR K ρ F v w) (e : rd st w = some x) (et : tyD x = some t) : TyX K H v (.type t) := by
  cases w with
  | d y =>
    cases e
    cases (show Dq F v x from r) with
    | non => cases et; exact .base .non
    | bl b => cases et; exact .base (.bl b)
    | int b => cases et; exact .base (.int b)
    | str b => cases et; exact .base (.str b)
    | lst q a => cases et; exact .base (.lst (h.sub _ _ q))
    | tup q a => cases et; exact .base (.tup (h.sub _ _ q))
  | l n =>
    simp only [rd] at e
    split at e
    · rename_i xs q
      cases e
      cases et
      obtain ⟨a, vs, h1, h2, h3, h4⟩ := h.cell n xs q
      obtain ⟨b, h5, rfl⟩ := r
      rw [h1] at h5
      cases h5
      exact .base (.lst h2)
    · cases e
  | s ns =>
    cases e
    cases et
    obtain ⟨a, rfl, h2⟩ := r
    rcases h2 with (z | ⟨o, z⟩) | ⟨o, its, n, k1, k2, _⟩
    · exact .base (.lst (h.sub _ _ z))
    · exact .base (.frz (h.sub _ _ z))
    · exact .kList k1 k2
section
variable {X : Cx} {a : Expr} {ca : SE} {p p1 p2 pos : Pos}
theorem se_isi {T : Str} {t : String} (hg : Gl X "isinstance") (hm : X.mg "isinstance" = none) (hgT : Gl X T) (hmT : X.mg T = none) (hv : bootBuiltins T = some (.type t)) (hk : known t = true) (ha : PE X a (tI X.K ca)) (hn : T ≠ "__name__" := by decide) (hd : (T == ("__debug__" : Str)) = false := by decide)
    (hst : starEach [a, .Name T p2] X.env = (false, eval a X.env) :: starEach [.Name T p2] X.env := by rfl) (hpl : (backTo pos (starEach [.Name T p2] X.env)).any (·.1) = false := by rfl) :
    PE X (.Call (.Name "isinstance" p) [a, .Name T p2] [] pos) (tI X.K (cIsi [t] ca)) :=
  (pe_callB call_isi hg hm PyProof.Rows.boot_isinstance (pa_cons ha (pa_cons (pe_bltn (v := .ty t) hgT hmT hv rfl hn hd) pa_nil) hst) (by decide) (by decide) hst hpl).weak fun σ H Q ⟨ρ, F, ev, st, w, st', hr, sr, e, post⟩ => by
    simp only [cIsi, Option.bind_eq_some_iff] at e
    obtain ⟨⟨w1, st1⟩, e1, x, e2, ty, e3, e4⟩ := e
    refine ⟨ρ, F, ev, st, w1, st1, hr, sr, e1, fun v ρ' F' H' x1 h r => ?_⟩
    split at e4
    · cases e4
      have kb := kitB_ok e3 hk
      have q := post (.bl (isaT ty t)) ρ' F' H' x1 h (by
        show Dq F' _ _
        have : ([t].any (isaT ty)) = isaT ty t := by simp
        rw [this]
        exact .bl _)
      exact ⟨v, .ty t, .type ty, .type t, isaT ty t, rfl, .ty t, tyX_of h r e2 e3, kit_ty kb, q⟩
    · cases e4
theorem se_isi2 {T1 T2 : Str} {t1 t2 : String} {k : Nat} {q1 q2 : Pos} (hg : Gl X "isinstance") (hm : X.mg "isinstance" = none) (hgT : Gl X T1) (hmT : X.mg T1 = none) (hv : bootBuiltins T1 = some (.type t1)) (hk : known t1 = true)
    (hgT2 : Gl X T2) (hmT2 : X.mg T2 = none) (hv2 : bootBuiltins T2 = some (.type t2)) (hk2 : known t2 = true) (ha : PE X a (tI X.K ca)) (hn : T1 ≠ "__name__" := by decide) (hd : (T1 == ("__debug__" : Str)) = false := by decide) (hn2 : T2 ≠ "__name__" := by decide) (hd2 : (T2 == ("__debug__" : Str)) = false := by decide)
    (hst : starEach [a, .Tuple [.Name T1 q1, .Name T2 q2] k p2] X.env = (false, eval a X.env) :: starEach [.Tuple [.Name T1 q1, .Name T2 q2] k p2] X.env := by rfl) (hpl : (backTo pos (starEach [.Tuple [.Name T1 q1, .Name T2 q2] k p2] X.env)).any (·.1) = false := by rfl) :
    PE X (.Call (.Name "isinstance" p) [a, .Tuple [.Name T1 q1, .Name T2 q2] k p2] [] pos) (tI X.K (cIsi [t1, t2] ca)) :=
  (pe_callB call_isiT hg hm PyProof.Rows.boot_isinstance (pa_cons ha (pa_cons (pe_tup (pa_cons (pe_bltn (v := .ty t1) hgT hmT hv rfl hn hd) (pa_cons (pe_bltn (v := .ty t2) hgT2 hmT2 hv2 rfl hn2 hd2) pa_nil))) pa_nil) hst) (by decide) (by decide) hst hpl).weak fun σ H Q ⟨ρ, F, ev, st, w, st', hr, sr, e, post⟩ => by
    simp only [cIsi, Option.bind_eq_some_iff] at e
    obtain ⟨⟨w1, st1⟩, e1, x, e2, ty, e3, e4⟩ := e
    refine ⟨ρ, F, ev, st, w1, st1, hr, sr, e1, fun v ρ' F' H' x1 h r => ⟨by show 2 ≤ sizeLine; decide, fun tp np => ?_⟩⟩
    split at e4
    · cases e4
      have hr2 : HR ρ' F' (upd H' tp (.tup [.ty t1, .ty t2])) st1 := ⟨h.sub.trans (same_upd np), fun n xs e => by
        obtain ⟨b, us, k1, k2, k3, k4⟩ := h.cell n xs e
        exact ⟨b, us, k1, same_upd np _ _ k2, k3, k4⟩, h.inj, h.len⟩
      have b1 := kitB_ok e3 hk
      have b2 := kitB_ok e3 hk2
      have q := post (.bl ([t1, t2].any (isaT ty))) ρ' F' _ x1 hr2 (.bl _)
      refine ⟨v, tp, [.ty t1, .ty t2], .type ty, [.type t1, .type t2], [t1, t2].any (isaT ty), rfl, upd_same, .cons (.ty t1) (.cons (.ty t2) .nil), tyX_of hr2 r e2 e3, ?_, q⟩
      refine kitAny_cons (kit_ty b1) (fun f => kitAny_cons (kit_ty b2) (fun f2 => ?_) fun f2 => ?_) fun f => ?_
      · simp [f, f2, kitAny_nil]
      · simp [f, f2]
      · simp [f]
    · cases e4
end
/-! ### calls with keywords -/
def pick {α : Type} (ix : List Nat) (l : List α) : List α := ix.filterMap fun i => l[i]?
def cDefK (n m k : Nat) (ix : List Nat) (f : FS) (a b : SA) : SE := fun ev st => (a ev st).bind fun p => (b ev p.2).bind fun q => if p.1.length = m ∧ q.1.length = k ∧ (pick ix (p.1 ++ q.1)).length = n then f (pick ix (p.1 ++ q.1)) q.2 else none
theorem Vals.pick {vs : List V} {us : List Value} (h : Vals vs us) : ∀ ix : List Nat, Vals (Cm.pick ix vs) (Cm.pick ix us)
  | [] => .nil
  | i :: ix => by
    have ih := Vals.pick h ix
    unfold Cm.pick
    rw [List.filterMap_cons, List.filterMap_cons]
    cases e : vs[i]? with
    | none =>
      have e2 : us[i]? = none := L2.Vals.none_of h e
      rw [e2]
      exact ih
    | some v =>
      obtain ⟨u, e2, r⟩ := L2.Vals.get h e
      rw [e2]
      exact .cons r ih
theorem WRs.get {K : PySem.W.Frag} {ρ : List Addr} {F : Hp} : ∀ {vs : List V} {ws : List U} {i : Nat} {v : V}, WRs K ρ F vs ws → vs[i]? = some v → ∃ w, ws[i]? = some w ∧ WR K ρ F v w
  | _, _, _, _, .nil, e => by simp at e
  | _, _, 0, _, .cons a _, e => by
    simp only [List.getElem?_cons_zero, Option.some.injEq] at e
    subst e
    exact ⟨_, rfl, a⟩
  | _, _, i + 1, _, .cons _ t, e => by
    rw [List.getElem?_cons_succ] at e ⊢
    exact WRs.get t e
theorem WRs.pick {K : PySem.W.Frag} {ρ : List Addr} {F : Hp} {vs : List V} {ws : List U} (h : WRs K ρ F vs ws) : ∀ ix : List Nat, WRs K ρ F (Cm.pick ix vs) (Cm.pick ix ws)
  | [] => .nil
  | i :: ix => by
    have ih := WRs.pick h ix
    unfold Cm.pick
    rw [List.filterMap_cons, List.filterMap_cons]
    cases e : vs[i]? with
    | none =>
      have e2 : ws[i]? = none := List.getElem?_eq_none_iff.mpr (by rw [← h.length]; exact List.getElem?_eq_none_iff.mp e)
      rw [e2]
      exact ih
    | some v =>
      obtain ⟨u, e2, r⟩ := WRs.get h e
      rw [e2]
      exact .cons r ih
section
variable {X : Cx} {k n : Nat} {f : Addr} {fd : FuncData} {ps ks : List Str} {fs : FS} {x : Str} {e : Expr} {es : List Expr} {kws : List Keyword} {sa sb : SA} {p pos kpos : Pos} {nm : Option Str} {ce : SE} {ix : List Nat}
theorem sk_nil : PK X [] (tA X.K cNil) := ⟨fun pos pins s σ H Q I ⟨ρ, F, ev, st, w, st', hr, sr, e, post⟩ => pk_nil.run pos pins s σ H Q I (by
  cases e
  exact post [] ρ F H (.refl _ _) hr .nil)⟩
theorem sk_cons (ha : PE X e (tI X.K ce)) (hr : PK X kws (tA X.K sb)) : PK X (⟨nm, e, kpos⟩ :: kws) (tA X.K (cCons ce sb)) := ⟨fun pos pins s σ H Q I ⟨ρ, F, ev, st, w, st', hr', sr, e, post⟩ => (pk_cons ha hr).run pos pins s σ H Q I (by
  simp only [cCons, Option.bind_eq_some_iff, Option.map_eq_some_iff] at e
  obtain ⟨⟨w1, st1⟩, e1, ⟨ws, st2⟩, e2, e3⟩ := e
  cases e3
  exact ⟨ρ, F, ev, st, w1, st1, hr', sr, e1, fun v1 ρ1 F1 H1 x1 hr1 wr1 => ⟨ρ1, F1, ev, st1, ws, st2, hr1, sr.mono x1, e2, fun vs ρ2 F2 H2 x2 hr2 wr2 => post _ ρ2 F2 H2 (x1.trans x2) hr2 (.cons (wr1.mono x2) wr2)⟩⟩)⟩
theorem kw_ok {E : XK} {σ : L2.St} {H : Hp} {Q : VK} {m j : Nat} (h : tI X.K (cDefK ps.length m j ix fs sa sb) σ H Q) : tCallN m j (spF X.K fs ps.length) (fun us ws => pick ix (us ++ ws)) E (tA X.K sa) (tA X.K sb) σ H Q := by
  obtain ⟨ρ, F, ev, st, w, st', hr, sr, e, post⟩ := h
  simp only [cDefK, Option.bind_eq_some_iff] at e
  obtain ⟨⟨ws, st1⟩, e1, ⟨zs, st2⟩, e2, e3⟩ := e
  split at e3
  · rename_i hl
    refine ⟨ρ, F, ev, st, ws, st1, hr, sr, e1, fun vs ρ1 F1 H1 x1 hr1 wr1 => ⟨ρ1, F1, ev, st1, zs, st2, hr1, sr.mono x1, e2, fun us ρ2 F2 H2 x2 hr2 wr2 => ?_⟩⟩
    have wr : WRs X.K ρ2 F2 (vs ++ us) (ws ++ zs) := (wr1.mono x2).append wr2
    exact ⟨by rw [wr1.length]; exact hl.1, by rw [wr2.length]; exact hl.2.1, ρ2, F2, _, st2, w, st', hr2, wr.pick ix, hl.2.2, e3, fun v ρ3 F3 H3 x3 h3 r3 => post v ρ3 F3 H3 ((x1.trans x2).trans x3) h3 r3⟩
  · cases e3
theorem se_defK (F : FnOk X.prog X.w X.K X.mg X.base CX0 k f fd ps (spF X.K fs ps.length)) (hr : Room k X.A) (hg : Gl X x) (hm : X.mg x = some (.ref f)) (hk : PySem.W.keepIn X.K (.ref f) = true) (hb : KBn X.K fd ps n ks (fun us ws => pick ix (us ++ ws)) (fun us ws => pick ix (us ++ ws)))
    (ha : PA X (e :: es) (tA X.K sa)) (hkw : PK X kws (tA X.K sb)) (hall : Named X kws pos := by rfl) (hks : NamesAre X kws pos ks := by rfl)
    (hdb : NotDbg x := by decide) (he : Bare1 X e es := by rfl)
    (hpl : NoStarK X (e :: es) kws pos := by rfl) :
    PE X (.Call (.Name x p) (e :: es) kws pos) (tI X.K (cDefK ps.length n ks.length ix fs sa sb)) := (pe_callN F hr hg hm hk hb pass0 ha hkw hall hks hdb he hpl).weak fun _ _ _ h => kw_ok h
theorem se_defK0 (F : FnOk X.prog X.w X.K X.mg X.base CX0 k f fd ps (spF X.K fs ps.length)) (hr : Room k X.A) (hg : Gl X x) (hm : X.mg x = some (.ref f)) (hk : PySem.W.keepIn X.K (.ref f) = true) (hb : KBn X.K fd ps 0 ks (fun us ws => pick ix (us ++ ws)) (fun us ws => pick ix (us ++ ws)))
    (hkw : PK X kws (tA X.K sb)) (hall : Named X kws pos := by rfl) (hks : NamesAre X kws pos ks := by rfl)
    (hdb : NotDbg x := by decide)
    (hpl : NoStarK X [] kws pos := by rfl) :
    PE X (.Call (.Name x p) [] kws pos) (tI X.K (cDefK ps.length 0 ks.length ix fs cNil sb)) := by
  constructor
  intro pins s σ H Q I h
  obtain ⟨ρ, F0, ev, st, ws, st1, hr0, sr0, e0, kk⟩ := kw_ok (E := E0) h
  cases e0
  refine wpAny_Call_Name_kw (ld_glob I hg hm (PySem.W.callWith_KW0 (h₀ := X.base) I.ok.mod.kin hk hall (thn (hkw.run pos pins s σ H _ I (kk [] ρ F0 H (.refl _ _) hr0 .nil)) fun zs s2 ⟨us, H2, I2, rz, l1, l2, q2⟩ => ⟨I2.kIn, ?_⟩) hpl) hdb)
  rw [show _ = ks from hks]
  exact run_fnN F hr hb pass0 I2 .nil rz l1 l2 q2
end
end Cm

set_option Elab.async false
set_option linter.all false
set_option maxRecDepth 100000
namespace Cm
open PySem PySem.Spec PyProof.Rows L2

/-! ### a def that hands back a list of its own, to be changed by the caller -/
def leaveO (n : Nat) (w : U) (st : Sto) : Option (U × Sto) := match w with
  | .l k => if k < n then none else match st[k]? with
    | some (some xs) => some (.l n, st.take n ++ [some xs])
    | _ => none
  | _ => none
def defSO (N : Nat) (b : SS) : FS := fun ws st => (b (ws.map some ++ List.replicate (N - ws.length) none) st).bind fun o => match o with
  | .rt w st' => leaveO st.length w st'
  | _ => none
theorem HR.moved {ρ : List Addr} {F H : Hp} {st : Sto} {n k : Nat} {xs : List PyData} {a : Addr} (h : HR ρ F H st) (hk : n ≤ k) (e : st[k]? = some (some xs)) (ha : ρ[k]? = some a) : HR (ρ.take n ++ [a]) F H (st.take n ++ [some xs]) := by
  have lk := lt_of_get e
  have l1 : (st.take n).length = n := by
    rw [List.length_take]
    omega
  have l2 : (ρ.take n).length = n := by
    rw [List.length_take, h.len]
    omega
  have sp : ∀ (m : Nat) (ys : List PyData), (st.take n ++ [some xs])[m]? = some (some ys) → (m < n ∧ st[m]? = some (some ys)) ∨ (m = n ∧ ys = xs) := fun m ys q => by
    rw [List.getElem?_append] at q
    split at q
    · rename_i hm
      rw [l1] at hm
      rw [List.getElem?_take, if_pos hm] at q
      exact .inl ⟨hm, q⟩
    · rename_i hm
      rw [l1] at hm q
      by_cases hmn : m = n
      · subst hmn
        simp at q
        exact .inr ⟨rfl, q.symm⟩
      · rw [List.getElem?_eq_none (by simp; omega)] at q
        cases q
  have r1 : ∀ (m : Nat) (b : Addr), m < n → (ρ.take n ++ [a])[m]? = some b → ρ[m]? = some b := fun m b hm q => by
    rw [List.getElem?_append_left (by omega), List.getElem?_take, if_pos hm] at q
    exact q
  have r2 : (ρ.take n ++ [a])[n]? = some a := by
    rw [List.getElem?_append_right (by omega), l2]
    simp
  refine ⟨h.sub, fun m ys q => ?_, fun m j b e1 e2 ⟨y1, q1⟩ ⟨y2, q2⟩ => ?_, by simp [l1, l2]⟩
  · rcases sp m ys q with ⟨hm, q⟩ | ⟨rfl, rfl⟩
    · obtain ⟨b, vs, k1, k2, k3, k4⟩ := h.cell m ys q
      refine ⟨b, vs, ?_, k2, k3, k4⟩
      rw [List.getElem?_append_left (by omega), List.getElem?_take, if_pos hm]
      exact k1
    · obtain ⟨b, vs, k1, k2, k3, k4⟩ := h.cell k ys e
      rw [ha] at k1
      cases k1
      exact ⟨a, vs, r2, k2, k3, k4⟩
  · rcases sp m y1 q1 with ⟨hm, p1⟩ | ⟨hm, _⟩
    · rcases sp j y2 q2 with ⟨hj, p2⟩ | ⟨hj, _⟩
      · exact h.inj m j b (r1 m b hm e1) (r1 j b hj e2) ⟨_, p1⟩ ⟨_, p2⟩
      · rw [hj, r2] at e2
        cases e2
        have := h.inj m k a (r1 m a hm e1) ha ⟨_, p1⟩ ⟨_, e⟩
        omega
    · rcases sp j y2 q2 with ⟨hj, p2⟩ | ⟨hj, _⟩
      · rw [hm, r2] at e1
        cases e1
        have := h.inj j k a (r1 j a hj e2) ha ⟨_, p2⟩ ⟨_, e⟩
        omega
      · omega
theorem leaveO_ok {K : PySem.W.Frag} {ρ ρ' : List Addr} {F F' H' : Hp} {st st' st2 : Sto} {v : V} {w w2 : U} {Q : VK} (hl : ρ.length = st.length) (x : Ext ρ F ρ' F') (h : HR ρ' F' H' st') (r : WR K ρ' F' v w) (e : leaveO st.length w st' = some (w2, st2)) (post : Post K ρ F w2 st2 Q) : Q v H' := by
  cases w with
  | d y => cases e
  | s ns => cases e
  | l k =>
    simp only [leaveO] at e
    split at e
    · cases e
    · rename_i hk
      split at e
      · rename_i xs q
        cases e
        obtain ⟨a, h1, rfl⟩ := r
        have xt : Ext ρ F (ρ'.take st.length) F' := by
          rw [← hl]
          exact x.take _ (Nat.le_refl _)
        have lk := lt_of_get q
        have lr := h.len
        refine post _ _ F' H' (xt.trans (.push a)) (h.moved (Nat.le_of_not_lt hk) q h1) ⟨a, ?_, rfl⟩
        rw [List.getElem?_append_right (by rw [List.length_take]; omega), List.length_take]
        rw [show st.length - min st.length ρ'.length = 0 by omega]
        rfl
      · cases e
section
variable {P : Program} {w : World} {K : PySem.W.Frag} {mg : Str → Option Value} {base : Heap}
abbrev FnP (K : PySem.W.Frag) (x : Str) (st : Stmt) : Addr → FuncData → Prop := FunD K x x (defArgs st) (defBody st) (defScope st) [] []
/-- THE RULE for a def, its frame's end told by lv -/
theorem def_any {x : Str} {st : Stmt} {f : Addr} {fd : FuncData} {N ps : List Str} {k : Nat} {b : SS} {g : FS} (F : FnP K x st f fd) (S : FnScope N ps (defScope st))
    (hg : ∀ {ρ F H st ws w st' Q} {vs : List V}, HR ρ F H st → WRs K ρ F vs ws → g ws st = some (w, st') → Post K ρ F w st' Q → ∃ o, b (ws.map some ++ List.replicate (N.length - ws.length) none) st = some o ∧ OutOk K ρ F { nx := fun _ H' => Q .non H', rt := Q } o)
    (h : ∀ (cdv : Value) (A : Around) (outer : List Env) (s : Shared) (H : Hp) (E : XK), Room k (A.deeper (envOfC x (defScope st) s.heap.objs.size f cdv)) → PSs (cxOf CX0 P w K mg base N x (defScope st) f cdv A outer s H E).nox (defBody st) (tSS K b)) :
    FnOk P w K mg base CX0 (k + 1) f fd ps (spF K g ps.length) := by
  refine F.ok S (fun vs H Q E ⟨ρ, F, ws, st, w, st', hr, wr, hl, e, post⟩ => by rw [wr.length, hl]) fun cdv A outer s H vs Q E hrm hsp => ⟨tSS K b, PSs.nox (h cdv A outer s H E hrm), ?_⟩
  obtain ⟨ρ, F, ws, st, w, st', hr, wr, hl, e, post⟩ := hsp
  obtain ⟨o, e1, ok⟩ := hg hr wr e post
  exact ⟨ρ, F, _, st, o, hr, SR.start wr, e1, ok⟩
theorem def_okD {x : Str} {st : Stmt} {f : Addr} {fd : FuncData} {N ps : List Str} {k : Nat} {b : SS} (F : FnP K x st f fd) (S : FnScope N ps (defScope st))
    (h : ∀ (cdv : Value) (A : Around) (outer : List Env) (s : Shared) (H : Hp) (E : XK), Room k (A.deeper (envOfC x (defScope st) s.heap.objs.size f cdv)) → PSs (cxOf CX0 P w K mg base N x (defScope st) f cdv A outer s H E).nox (defBody st) (tSS K b)) :
    FnOk P w K mg base CX0 (k + 1) f fd ps (spF K (defS N.length b) ps.length) :=
  def_any F S (fun {ρ F H st ws w st' Q vs} hr wr e post => by
    simp only [defS, Option.bind_eq_some_iff] at e
    obtain ⟨o, e1, e2⟩ := e
    refine ⟨o, e1, ?_⟩
    cases o with
    | rt w1 st1 => exact fun v ρ' F' H' x hr' r => leave_ok hr.len x hr' r e2 post
    | nx ev1 st1 =>
      cases e2
      exact fun σ' ρ' F' H' x hr' _ => post .non _ F' H' (by rw [← hr.len]; exact x.take _ (Nat.le_refl _)) (hr'.take _) .non
    | bk ev1 st1 => cases e2
    | ct ev1 st1 => cases e2) h
theorem def_okO {x : Str} {st : Stmt} {f : Addr} {fd : FuncData} {N ps : List Str} {k : Nat} {b : SS} (F : FnP K x st f fd) (S : FnScope N ps (defScope st))
    (h : ∀ (cdv : Value) (A : Around) (outer : List Env) (s : Shared) (H : Hp) (E : XK), Room k (A.deeper (envOfC x (defScope st) s.heap.objs.size f cdv)) → PSs (cxOf CX0 P w K mg base N x (defScope st) f cdv A outer s H E).nox (defBody st) (tSS K b)) :
    FnOk P w K mg base CX0 (k + 1) f fd ps (spF K (defSO N.length b) ps.length) :=
  def_any F S (fun {ρ F H st ws w st' Q vs} hr wr e post => by
    simp only [defSO, Option.bind_eq_some_iff] at e
    obtain ⟨o, e1, e2⟩ := e
    refine ⟨o, e1, ?_⟩
    cases o with
    | rt w1 st1 => exact fun v ρ' F' H' x hr' r => leaveO_ok hr.len x hr' r e2 post
    | nx ev1 st1 => cases e2
    | bk ev1 st1 => cases e2
    | ct ev1 st1 => cases e2) h
/-- a def of which nothing is said -/
def fNo : FS := fun _ _ => none
theorem def_none {f : Addr} {fd : FuncData} {ps : List Str} {k n : Nat} : FnOk P w K mg base CX0 k f fd ps (spF K fNo n) :=
  { len := fun vs H Q E ⟨ρ, F, ws, st, w, st', hr, wr, hl, e, post⟩ => nomatch e
    run := fun A outer s H args us vs Q E _ _ _ _ ⟨ρ, F, ws, st, w, st', hr, wr, hl, e, post⟩ => nomatch e }
end
theorem kbn_mkD {K : PySem.W.Frag} {x : Str} {st : Stmt} {f : Addr} {fd : FuncData} {ps ks : List Str} {n : Nat} (ix : List Nat) (F : FnP K x st f fd)
    (h : ∀ (kV doc pm : Value) (an : Option Addr) (cdv ct : Value) (us ws : List Value), us.length = n → ws.length = ks.length → bindArgs (PySem.W.fnOf x x (defArgs st) (defBody st) (defScope st) .none kV doc pm an cdv ct) ⟨us, ks.zip ws⟩ = pure (ps.zip (pick ix (us ++ ws)))) :
    KBn K fd ps n ks (fun us ws => pick ix (us ++ ws)) (fun us ws => pick ix (us ++ ws)) := by
  obtain ⟨oc, od, dV, kV, doc, pm, an, cdv, ct, osl, rfl, lk, hcd, hdf, _⟩ := F.ex
  have e : dV = .none := by
    rcases hdf with ⟨_, e⟩ | ⟨e, _⟩
    · exact e
    · exact absurd rfl e
  subst e
  exact ⟨fun s us ws _ h1 h2 => .of_eq (h kV doc pm an cdv ct us ws h1 h2), fun r1 r2 => Vals.pick (L2.Vals.append r1 r2) ix⟩
/-! ### the law itself -/
theorem Only.same {H : Hp} : Same H H := Same.refl _
/-- what the end asks of the law's promise -/
theorem law_end {K : PySem.W.Frag} {g : FS} {H : Hp} {a : Addr} {ns : List Int} (hS : SqL K H a (ns.map V.int)) {st : Sto} (e : g [.s ns] [] = some (.d (.bool true), st)) : spF K g 1 [.ref a] H (fun v _ => v = .bl true) fun _ _ _ => False := by
  refine ⟨[], H, [.s ns], [], _, st, ⟨Same.refl _, fun n xs e => by simp at e, fun n m a e => by simp at e, rfl⟩, .cons ⟨a, rfl, hS⟩ .nil, rfl, e, fun v ρ' F' H' x h r => ?_⟩
  cases r
  rfl
/-- the def of name d.name does g at every world in which the module stands -/
abbrev Serves (P : Program) (YP : World → Heap → Prop) (d : DefRec) (k : Nat) (x : Str) (g : FS) : Prop :=
  ∀ (w : World) (mg : Str → Option Value) (fa : Addr) (hp : Heap), YP w hp → hp.Ns mainGlobals mg → mg d.name = some (.ref fa) →
    ∃ (K : PySem.W.Frag) (fd : FuncData), K.In hp ∧ (∀ (s : Shared) (u : Value), BindsTo s fd ⟨[u], []⟩ [(x, u)]) ∧
      ∀ base : Heap, K.In base → base.Ns mainGlobals mg → FnOk P w K mg base CX0 k fa fd [x] (spF K g 1)
abbrev Ends (q : Program) (loose : List Str) (XP : (Str → Option Value) → Heap → Prop) (YP : World → Heap → Prop) (l : PySem.W.OpenLaw) (d : DefRec) : Prop :=
  PySem.W.WalkO q loose XP YP l.row.toRowW d [] fun g ws => PySem.call g ws
/-- the end of a law's proof, with the script's bits told -/
theorem walk_cm {l : PySem.W.OpenLaw} {n k : Nat} {q : Program} {loose : List Str} {XP : (Str → Option Value) → Heap → Prop} {YP : World → Heap → Prop} {d : DefRec} {x : Str} {g : FS} (hn : l.most = some n) (hn2 : n ≤ sizeLine) (hdf : d.params.defaults = []) (hr : Room k callerA)
    (F : Serves l.prog YP d k x g) (law : ∀ ns : List Int, ns.length ≤ n → (∀ z ∈ ns, Builtin.Int.intBits z ≤ 1048576) → ∃ st, g [.s ns] [] = some (.d (.bool true), st)) : Ends q loose XP YP l d := by
  refine Att.attach_callB hn hdf fun w _ _ mg _ fa _ _ _ _ _ _ ns G Y _ _ _ hmg hobj hints hlen hbits hg => ?_
  obtain ⟨K, fd, KX, hb, hF⟩ := F w mg fa _ Y G.T.g hmg
  obtain ⟨st, e⟩ := law ns hlen hbits
  exact law_call KX G.T.g G.T.b G.T.builtins G.T.nolimit hg hobj hints (Nat.le_trans hlen hn2) hr hF hb (fun H _ hS => law_end hS e) fun H e s' z => z
end Cm

set_option Elab.async false
set_option linter.all false
set_option maxRecDepth 100000
namespace Cm
open PySem PySem.Spec PyProof.Rows L2
/-- a def of the text that may be called, worth g at level k -/
structure Cal (P : Program) (w : World) (K : PySem.W.Frag) (mg : Str → Option Value) (base : Heap) (k : Nat) (x : Str) (st : Stmt) (ps : List Str) (g : FS) : Prop where
  ex : ∃ (a : Addr) (fd : FuncData), FnOk P w K mg base CX0 k a fd ps (spF K g ps.length) ∧ mg x = some (.ref a) ∧ FnP K x st a fd ∧ Binds K fd ps []
/-- where a def stands -/
def At (K : PySem.W.Frag) (mg : Str → Option Value) (x : Str) (st : Stmt) : Prop := ∃ (a : Addr) (fd : FuncData), FnP K x st a fd ∧ mg x = some (.ref a)
section
variable {P : Program} {w : World} {K : PySem.W.Frag} {mg : Str → Option Value} {base : Heap} {x : Str} {st : Stmt} {N ps : List Str} {k : Nat} {b : SS}
theorem Cal.of {g : FS} (h : At K mg x st) (ok : ∀ a fd, FnP K x st a fd → mg x = some (.ref a) → FnOk P w K mg base CX0 k a fd ps (spF K g ps.length))
    (hb : ∀ (kV doc pm : Value) (an : Option Addr) (cdv ct : Value) (us : List Value), us.length = ps.length → bindArgs (PySem.W.fnOf x x (defArgs st) (defBody st) (defScope st) .none kV doc pm an cdv ct) ⟨us, []⟩ = pure (ps.zip us)) : Cal P w K mg base k x st ps g := by
  obtain ⟨a, fd, F, hm⟩ := h
  exact ⟨a, fd, ok a fd F hm, hm, F, FunD.bindsN F hb⟩
end
theorem Cal.pick {P : Program} {w : World} {K : PySem.W.Frag} {mg : Str → Option Value} {base : Heap} {x : Str} {st : Stmt} {ps : List Str} {k : Nat} {g : FS} {a : Addr} {fd : FuncData} (c : Cal P w K mg base k x st ps g) (F : FnP K x st a fd) (hm : mg x = some (.ref a)) :
    FnOk P w K mg base CX0 k a fd ps (spF K g ps.length) := by
  obtain ⟨a2, fd2, ok, hm2, F2, _⟩ := c.ex
  rw [hm] at hm2
  injection hm2 with hm2
  injection hm2 with hm2
  subst hm2
  obtain ⟨_, _, _, _, _, _, _, _, _, _, _, l1, _⟩ := F.ex
  obtain ⟨_, _, _, _, _, _, _, _, _, _, _, l2, _⟩ := F2.ex
  rw [l1] at l2
  injection l2 with l2
  injection l2 with _ _ l2 _
  injection l2 with l2
  subst l2
  exact ok
section
variable {X : Cx} {k n : Nat} {ps ks : List Str} {fs : FS} {x : Str} {st : Stmt} {e : Expr} {es : List Expr} {kws : List Keyword} {sa sb : SA} {p pos : Pos}
theorem se_cal (c : Cal X.prog X.w X.K X.mg X.base k x st ps fs) (hr : Room k X.A) (hg : Gl X x) (ha : PA X (e :: es) (tA X.K sa))
    (hdb : NotDbg x := by decide) (he : Bare1 X e es := by rfl) (hpl : NoStar X es pos := by rfl) :
    PE X (.Call (.Name x p) (e :: es) [] pos) (tI X.K (cDef ps.length fs sa)) := by
  obtain ⟨a, fd, F, hm, G, hb⟩ := c.ex
  exact se_def F hr hg hm G.kp hb ha hdb he hpl
theorem se_cal0 (c : Cal X.prog X.w X.K X.mg X.base k x st ps fs) (hr : Room k X.A) (hg : Gl X x) (hdb : NotDbg x := by decide) :
    PE X (.Call (.Name x p) [] [] pos) (tI X.K (cDef ps.length fs cNil)) := by
  obtain ⟨a, fd, F, hm, G, hb⟩ := c.ex
  exact se_def0 F hr hg hm G.kp hb hdb
theorem se_calK (ix : List Nat) (c : Cal X.prog X.w X.K X.mg X.base k x st ps fs) (hr : Room k X.A) (hg : Gl X x)
    (hb : ∀ (kV doc pm : Value) (an : Option Addr) (cdv ct : Value) (us ws : List Value), us.length = n → ws.length = ks.length → bindArgs (PySem.W.fnOf x x (defArgs st) (defBody st) (defScope st) .none kV doc pm an cdv ct) ⟨us, ks.zip ws⟩ = pure (ps.zip (pick ix (us ++ ws))))
    (ha : PA X (e :: es) (tA X.K sa)) (hkw : PK X kws (tA X.K sb)) (hall : Named X kws pos := by rfl) (hks : NamesAre X kws pos ks := by rfl)
    (hdb : NotDbg x := by decide) (he : Bare1 X e es := by rfl)
    (hpl : NoStarK X (e :: es) kws pos := by rfl) :
    PE X (.Call (.Name x p) (e :: es) kws pos) (tI X.K (cDefK ps.length n ks.length ix fs sa sb)) := by
  obtain ⟨a, fd, F, hm, G, _⟩ := c.ex
  exact se_defK F hr hg hm G.kp (kbn_mkD ix G hb) ha hkw hall hks hdb he hpl
theorem se_calK0 (ix : List Nat) (c : Cal X.prog X.w X.K X.mg X.base k x st ps fs) (hr : Room k X.A) (hg : Gl X x)
    (hb : ∀ (kV doc pm : Value) (an : Option Addr) (cdv ct : Value) (us ws : List Value), us.length = 0 → ws.length = ks.length → bindArgs (PySem.W.fnOf x x (defArgs st) (defBody st) (defScope st) .none kV doc pm an cdv ct) ⟨us, ks.zip ws⟩ = pure (ps.zip (pick ix (us ++ ws))))
    (hkw : PK X kws (tA X.K sb)) (hall : Named X kws pos := by rfl) (hks : NamesAre X kws pos ks := by rfl)
    (hdb : NotDbg x := by decide)
    (hpl : NoStarK X [] kws pos := by rfl) :
    PE X (.Call (.Name x p) [] kws pos) (tI X.K (cDefK ps.length 0 ks.length ix fs cNil sb)) := by
  obtain ⟨a, fd, F, hm, G, _⟩ := c.ex
  exact se_defK0 F hr hg hm G.kp (kbn_mkD ix G hb) hkw hall hks hdb hpl
end
def fAddI : PyData → PyData → Option PyData
  | .int a, .int b => some (.int (a + b))
  | _, _ => none
theorem snd_ipadd {K : PySem.W.Frag} : Snd2 K (ipI fun i j => i + j) fAddI := fun F H v u x y z Q hs rx ry e q => by
  unfold fAddI at e
  split at e
  · cases e
    cases rx.int
    cases ry.int
    exact ⟨_, _, rfl, rfl, q.now hs (.int _)⟩
  · cases e
theorem snd_ipsub {K : PySem.W.Frag} : Snd2 K (ipI fun i j => i - j) fSub := fun F H v u x y z Q hs rx ry e q => by
  unfold fSub at e
  split at e
  · cases e
    cases rx.int
    cases ry.int
    exact ⟨_, _, rfl, rfl, q.now hs (.int _)⟩
  · cases e
end Cm

set_option Elab.async false
set_option linter.all false
set_option maxRecDepth 100000
namespace Cm
open PySem PySem.Spec PyProof.Rows L2
abbrev VS := U × Sto
def var1 (st : Sto) : Option (Option U) → Option VS
  | some (some w) => some (w, st)
  | _ => none
@[simp] theorem var1_s (st : Sto) (w : U) : var1 st (some (some w)) = some (w, st) := rfl
@[simp] theorem cVar_ap (i : Nat) (ev : Ev) (st : Sto) : cVar i ev st = var1 st ev[i]? := rfl
@[simp] theorem cD_ap (x : PyData) (ev : Ev) (st : Sto) : cD x ev st = some (.d x, st) := rfl
def toD (st : Sto) : Option PyData → Option VS
  | some z => some (.d z, st)
  | none => none
@[simp] theorem toD_s (st : Sto) (z : PyData) : toD st (some z) = some (.d z, st) := rfl
theorem toD_eq (st : Sto) (x : Option PyData) : (x.map fun z => ((.d z : U), st)) = toD st x := by cases x <;> rfl
def d1a (f : PyData → Option PyData) : VS → Option VS := fun p => toD p.2 ((rd p.2 p.1).bind f)
@[simp] theorem d1a_ap (f : PyData → Option PyData) (u : U) (s : Sto) : d1a f (u, s) = toD s ((rd s u).bind f) := rfl
@[simp] theorem cD1_ap (f : PyData → Option PyData) (a : SE) (ev : Ev) (st : Sto) : cD1 f a ev st = (a ev st).bind (d1a f) := by
  unfold cD1 d1a
  congr; funext p
  cases rd p.2 p.1 with
  | none => rfl
  | some x => exact toD_eq _ _
def d2c (f : PyData → PyData → Option PyData) (y : Option PyData) (x : PyData) : Option PyData := y.bind (f x)
@[simp] theorem d2c_s (f : PyData → PyData → Option PyData) (y x : PyData) : d2c f (some y) x = f x y := rfl
def d2b (f : PyData → PyData → Option PyData) (u : U) : VS → Option VS := fun q => toD q.2 ((rd q.2 u).bind (d2c f (rd q.2 q.1)))
@[simp] theorem d2b_ap (f : PyData → PyData → Option PyData) (u v : U) (s : Sto) : d2b f u (v, s) = toD s ((rd s u).bind (d2c f (rd s v))) := rfl
def d2a (f : PyData → PyData → Option PyData) (b : SE) (ev : Ev) : VS → Option VS := fun p => (b ev p.2).bind (d2b f p.1)
@[simp] theorem d2a_ap (f : PyData → PyData → Option PyData) (b : SE) (ev : Ev) (u : U) (s : Sto) : d2a f b ev (u, s) = (b ev s).bind (d2b f u) := rfl
@[simp] theorem cD2_ap (f : PyData → PyData → Option PyData) (a b : SE) (ev : Ev) (st : Sto) : cD2 f a b ev st = (a ev st).bind (d2a f b ev) := by
  unfold cD2 d2a d2b d2c
  congr; funext p; congr; funext q
  cases rd q.2 p.1 with
  | none => rfl
  | some x => cases rd q.2 q.1 with
    | none => rfl
    | some y => exact toD_eq _ _
def d2sb (f : PyData → PyData → Option PyData) (u : U) : VS → Option VS := fun q => toD q.2 ((rdS q.2 u).bind (d2c f (rdS q.2 q.1)))
@[simp] theorem d2sb_ap (f : PyData → PyData → Option PyData) (u v : U) (s : Sto) : d2sb f u (v, s) = toD s ((rdS s u).bind (d2c f (rdS s v))) := rfl
def d2sa (f : PyData → PyData → Option PyData) (b : SE) (ev : Ev) : VS → Option VS := fun p => (b ev p.2).bind (d2sb f p.1)
@[simp] theorem d2sa_ap (f : PyData → PyData → Option PyData) (b : SE) (ev : Ev) (u : U) (s : Sto) : d2sa f b ev (u, s) = (b ev s).bind (d2sb f u) := rfl
@[simp] theorem cD2s_ap (f : PyData → PyData → Option PyData) (a b : SE) (ev : Ev) (st : Sto) : cD2s f a b ev st = (a ev st).bind (d2sa f b ev) := by
  unfold cD2s d2sa d2sb d2c
  congr; funext p; congr; funext q
  cases rdS q.2 p.1 with
  | none => rfl
  | some x => cases rdS q.2 q.1 with
    | none => rfl
    | some y => exact toD_eq _ _
@[simp] theorem cNil_ap (ev : Ev) (st : Sto) : cNil ev st = some ([], st) := rfl
def cons1 (u : U) : List U × Sto → List U × Sto := fun q => (u :: q.1, q.2)
@[simp] theorem cons1_ap (u : U) (us : List U) (s : Sto) : cons1 u (us, s) = (u :: us, s) := rfl
def consa (r : SA) (ev : Ev) : VS → Option (List U × Sto) := fun p => (r ev p.2).map (cons1 p.1)
@[simp] theorem consa_ap (r : SA) (ev : Ev) (u : U) (s : Sto) : consa r ev (u, s) = (r ev s).map (cons1 u) := rfl
@[simp] theorem cCons_ap (a : SE) (r : SA) (ev : Ev) (st : Sto) : cCons a r ev st = (a ev st).bind (consa r ev) := rfl
def app1 (xs : List PyData) : List U × Sto → List U × Sto := fun q => (xs.map U.d ++ q.1, q.2)
@[simp] theorem app1_ap (xs : List PyData) (us : List U) (s : Sto) : app1 xs (us, s) = (xs.map U.d ++ us, s) := rfl
def starb (r : SA) (ev : Ev) (s : Sto) : List PyData → Option (List U × Sto) := fun xs => (r ev s).map (app1 xs)
@[simp] theorem starb_ap (r : SA) (ev : Ev) (s : Sto) (xs : List PyData) : starb r ev s xs = (r ev s).map (app1 xs) := rfl
def stara (r : SA) (ev : Ev) : VS → Option (List U × Sto) := fun p => ((rd p.2 p.1).bind items).bind (starb r ev p.2)
@[simp] theorem stara_ap (r : SA) (ev : Ev) (u : U) (s : Sto) : stara r ev (u, s) = ((rd s u).bind items).bind (starb r ev s) := rfl
@[simp] theorem cStar_ap (a : SE) (r : SA) (ev : Ev) (st : Sto) : cStar a r ev st = (a ev st).bind (stara r ev) := by
  unfold cStar stara
  congr; funext p
  cases rd p.2 p.1 <;> rfl
def lsta (s : Sto) : List PyData → Option VS := fun xs => if xs.length ≤ lim then some (.d (.list xs), s) else none
@[simp] theorem lsta_ap (s : Sto) (xs : List PyData) : lsta s xs = if xs.length ≤ lim then some (.d (.list xs), s) else none := rfl
def tupa (s : Sto) : List PyData → Option VS := fun xs => if xs.length ≤ lim then some (.d (.tuple xs), s) else none
@[simp] theorem tupa_ap (s : Sto) (xs : List PyData) : tupa s xs = if xs.length ≤ lim then some (.d (.tuple xs), s) else none := rfl
def lstMa (s : Sto) : List PyData → Option VS := fun xs => if xs.length ≤ lim then some (.l s.length, s ++ [some xs]) else none
@[simp] theorem lstMa_ap (s : Sto) (xs : List PyData) : lstMa s xs = if xs.length ≤ lim then some (.l s.length, s ++ [some xs]) else none := rfl
def lstb (k : Sto → List PyData → Option VS) : List U × Sto → Option VS := fun p => (allD p.1).bind (k p.2)
@[simp] theorem lstb_ap (k : Sto → List PyData → Option VS) (us : List U) (s : Sto) : lstb k (us, s) = (allD us).bind (k s) := rfl
@[simp] theorem cLst_ap (a : SA) (ev : Ev) (st : Sto) : cLst a ev st = (a ev st).bind (lstb lsta) := rfl
@[simp] theorem cTup_ap (a : SA) (ev : Ev) (st : Sto) : cTup a ev st = (a ev st).bind (lstb tupa) := rfl
@[simp] theorem cLstM_ap (a : SA) (ev : Ev) (st : Sto) : cLstM a ev st = (a ev st).bind (lstb lstMa) := rfl
def calla (f : List PyData → Option PyData) : List U × Sto → Option VS := fun p => toD p.2 ((rdAll p.2 p.1).bind f)
@[simp] theorem calla_ap (f : List PyData → Option PyData) (us : List U) (s : Sto) : calla f (us, s) = toD s ((rdAll s us).bind f) := rfl
@[simp] theorem cCall_ap (f : List PyData → Option PyData) (a : SA) (ev : Ev) (st : Sto) : cCall f a ev st = (a ev st).bind (calla f) := by
  unfold cCall calla
  congr; funext p
  cases rdAll p.2 p.1 with
  | none => rfl
  | some x => exact toD_eq _ _
def toB (st : Sto) : Option Bool → Option (Bool × Sto)
  | some z => some (z, st)
  | none => none
@[simp] theorem toB_s (st : Sto) (z : Bool) : toB st (some z) = some (z, st) := rfl
def tra : VS → Option (Bool × Sto) := fun p => toB p.2 ((rd p.2 p.1).bind truth)
@[simp] theorem tra_ap (u : U) (s : Sto) : tra (u, s) = toB s ((rd s u).bind truth) := rfl
@[simp] theorem cTr_ap (a : SE) (ev : Ev) (st : Sto) : cTr a ev st = (a ev st).bind tra := by
  unfold cTr tra
  congr; funext p
  cases rd p.2 p.1 with
  | none => rfl
  | some x =>
    show (truth x).map _ = toB p.2 (truth x)
    cases truth x <;> rfl
def ba : VS → Option (Bool × Sto) := fun p => match p.1 with
  | .d (.bool b) => some (b, p.2)
  | _ => none
@[simp] theorem ba_ap (b : Bool) (s : Sto) : ba (.d (.bool b), s) = some (b, s) := rfl
@[simp] theorem cB_ap (a : SE) (ev : Ev) (st : Sto) : cB a ev st = (a ev st).bind ba := rfl
def anda (b : SB) (ev : Ev) : Bool × Sto → Option (Bool × Sto) := fun p => if p.1 then b ev p.2 else some (false, p.2)
@[simp] theorem anda_ap (b : SB) (ev : Ev) (t : Bool) (s : Sto) : anda b ev (t, s) = if t then b ev s else some (false, s) := rfl
@[simp] theorem bAnd_ap (a b : SB) (ev : Ev) (st : Sto) : bAnd a b ev st = (a ev st).bind (anda b ev) := rfl
def ora (b : SB) (ev : Ev) : Bool × Sto → Option (Bool × Sto) := fun p => if p.1 then some (true, p.2) else b ev p.2
@[simp] theorem ora_ap (b : SB) (ev : Ev) (t : Bool) (s : Sto) : ora b ev (t, s) = if t then some (true, s) else b ev s := rfl
@[simp] theorem bOr_ap (a b : SB) (ev : Ev) (st : Sto) : bOr a b ev st = (a ev st).bind (ora b ev) := rfl
def nota : Bool × Sto → Bool × Sto := fun p => (!p.1, p.2)
@[simp] theorem nota_ap (t : Bool) (s : Sto) : nota (t, s) = (!t, s) := rfl
@[simp] theorem bNot_ap (a : SB) (ev : Ev) (st : Sto) : bNot a ev st = (a ev st).map nota := rfl
def andEb (b : SE) (ev : Ev) (p : VS) : Bool → Option VS := fun t => if t then b ev p.2 else some p
@[simp] theorem andEb_ap (b : SE) (ev : Ev) (u : U) (s : Sto) (t : Bool) : andEb b ev (u, s) t = if t then b ev s else some (u, s) := rfl
def andEa (b : SE) (ev : Ev) : VS → Option VS := fun p => ((rd p.2 p.1).bind truth).bind (andEb b ev p)
@[simp] theorem andEa_ap (b : SE) (ev : Ev) (u : U) (s : Sto) : andEa b ev (u, s) = ((rd s u).bind truth).bind (andEb b ev (u, s)) := rfl
@[simp] theorem cAnd_ap (a b : SE) (ev : Ev) (st : Sto) : cAnd a b ev st = (a ev st).bind (andEa b ev) := by
  unfold cAnd andEa
  congr; funext p
  cases rd p.2 p.1 <;> rfl
def orEb (b : SE) (ev : Ev) (p : VS) : Bool → Option VS := fun t => if t then some p else b ev p.2
@[simp] theorem orEb_ap (b : SE) (ev : Ev) (u : U) (s : Sto) (t : Bool) : orEb b ev (u, s) t = if t then some (u, s) else b ev s := rfl
def orEa (b : SE) (ev : Ev) : VS → Option VS := fun p => ((rd p.2 p.1).bind truth).bind (orEb b ev p)
@[simp] theorem orEa_ap (b : SE) (ev : Ev) (u : U) (s : Sto) : orEa b ev (u, s) = ((rd s u).bind truth).bind (orEb b ev (u, s)) := rfl
@[simp] theorem cOr_ap (a b : SE) (ev : Ev) (st : Sto) : cOr a b ev st = (a ev st).bind (orEa b ev) := by
  unfold cOr orEa
  congr; funext p
  cases rd p.2 p.1 <;> rfl
def notEb (s : Sto) : Bool → VS := fun t => (.d (.bool !t), s)
@[simp] theorem notEb_ap (s : Sto) (t : Bool) : notEb s t = (.d (.bool !t), s) := rfl
def notEa : VS → Option VS := fun p => ((rd p.2 p.1).bind truth).map (notEb p.2)
@[simp] theorem notEa_ap (u : U) (s : Sto) : notEa (u, s) = ((rd s u).bind truth).map (notEb s) := rfl
@[simp] theorem cNot_ap (a : SE) (ev : Ev) (st : Sto) : cNot a ev st = (a ev st).bind notEa := by
  unfold cNot notEa
  congr; funext p
  cases rd p.2 p.1 <;> rfl
def ifa {β : Type} (a b : Ev → Sto → Option β) (ev : Ev) : Bool × Sto → Option β := fun p => if p.1 then a ev p.2 else b ev p.2
@[simp] theorem ifa_ap {β : Type} (a b : Ev → Sto → Option β) (ev : Ev) (t : Bool) (s : Sto) : ifa a b ev (t, s) = if t then a ev s else b ev s := rfl
@[simp] theorem cIf_ap (c : SB) (a b : SE) (ev : Ev) (st : Sto) : cIf c a b ev st = (c ev st).bind (ifa a b ev) := rfl
@[simp] theorem cIfS_ap (c : SB) (a b : SS) (ev : Ev) (st : Sto) : cIfS c a b ev st = (c ev st).bind (ifa a b ev) := rfl
@[simp] theorem cSkip_ap (ev : Ev) (st : Sto) : cSkip ev st = some (.nx ev st) := rfl
def seqa (b : SS) : Out → Option Out
  | .nx ev' st' => b ev' st'
  | o => some o
@[simp] theorem seqa_nx (b : SS) (ev : Ev) (st : Sto) : seqa b (.nx ev st) = b ev st := rfl
@[simp] theorem seqa_rt (b : SS) (w : U) (st : Sto) : seqa b (.rt w st) = some (.rt w st) := rfl
@[simp] theorem seqa_bk (b : SS) (w : Ev) (st : Sto) : seqa b (.bk w st) = some (.bk w st) := rfl
@[simp] theorem seqa_ct (b : SS) (w : Ev) (st : Sto) : seqa b (.ct w st) = some (.ct w st) := rfl
@[simp] theorem cSeq_ap (a b : SS) (ev : Ev) (st : Sto) : cSeq a b ev st = (a ev st).bind (seqa b) := by
  unfold cSeq
  congr
def seta (i : Nat) (ev : Ev) : VS → Out := fun p => .nx (ev.set i (some p.1)) p.2
@[simp] theorem seta_ap (i : Nat) (ev : Ev) (u : U) (s : Sto) : seta i ev (u, s) = .nx (ev.set i (some u)) s := rfl
@[simp] theorem cSet_ap (i : Nat) (e : SE) (ev : Ev) (st : Sto) : cSet i e ev st = (e ev st).map (seta i ev) := rfl
def reta : VS → Out := fun p => .rt p.1 p.2
@[simp] theorem reta_ap (u : U) (s : Sto) : reta (u, s) = .rt u s := rfl
@[simp] theorem cRet_ap (e : SE) (ev : Ev) (st : Sto) : cRet e ev st = (e ev st).map reta := rfl
@[simp] theorem cRetN_ap (ev : Ev) (st : Sto) : cRetN ev st = some (.rt (.d .none) st) := rfl
def expra (ev : Ev) : VS → Out := fun p => .nx ev p.2
@[simp] theorem expra_ap (ev : Ev) (u : U) (s : Sto) : expra ev (u, s) = .nx ev s := rfl
@[simp] theorem cExpr_ap (e : SE) (ev : Ev) (st : Sto) : cExpr e ev st = (e ev st).map (expra ev) := rfl
@[simp] theorem cFail_ap (ev : Ev) (st : Sto) : cFail ev st = none := rfl
@[simp] theorem cBrk_ap (ev : Ev) (st : Sto) : cBrk ev st = some (.bk ev st) := rfl
@[simp] theorem cCont_ap (ev : Ev) (st : Sto) : cCont ev st = some (.ct ev st) := rfl
def nxa (s : Sto) : Ev → Out := fun ev => .nx ev s
@[simp] theorem nxa_ap (s : Sto) (ev : Ev) : nxa s ev = .nx ev s := rfl
def setTa (g : GT) (ev : Ev) : VS → Option Out := fun p => match p.1 with
  | .d x => (g x ev).map (nxa p.2)
  | _ => none
@[simp] theorem setTa_ap (g : GT) (ev : Ev) (x : PyData) (s : Sto) : setTa g ev (.d x, s) = (g x ev).map (nxa s) := rfl
@[simp] theorem cSetT_ap (g : GT) (e : SE) (ev : Ev) (st : Sto) : cSetT g e ev st = (e ev st).bind (setTa g ev) := rfl
def para (is : List Nat) (ev : Ev) : List U × Sto → Option Out := fun p => if p.1.length = is.length then some (.nx ((is.zip p.1).foldl (fun ev q => ev.set q.1 (some q.2)) ev) p.2) else none
@[simp] theorem para_ap (is : List Nat) (ev : Ev) (us : List U) (s : Sto) : para is ev (us, s) = if us.length = is.length then some (.nx ((is.zip us).foldl (fun ev q => ev.set q.1 (some q.2)) ev) s) else none := rfl
@[simp] theorem cParN_ap (is : List Nat) (a : SA) (ev : Ev) (st : Sto) : cParN is a ev st = (a ev st).bind (para is ev) := rfl
def fora (g : GT) (b : SS) (ev : Ev) : Src × Sto → Option Out
  | (.fix xs, s) => forL g b xs ev s
  | (.cell n, s) => forC g b n lim 0 ev s
@[simp] theorem fora_f (g : GT) (b : SS) (ev : Ev) (xs : List PyData) (s : Sto) : fora g b ev (.fix xs, s) = forL g b xs ev s := rfl
@[simp] theorem fora_c (g : GT) (b : SS) (ev : Ev) (n : Nat) (s : Sto) : fora g b ev (.cell n, s) = forC g b n lim 0 ev s := rfl
@[simp] theorem cFor_ap (it : SI) (g : GT) (b : SS) (ev : Ev) (st : Sto) : cFor it g b ev st = (it ev st).bind (fora g b ev) := by
  unfold cFor
  congr; funext p
  obtain ⟨q, s⟩ := p
  cases q <;> rfl
def cella (n : Nat) (s : Sto) : Option (Option (List PyData)) → Option (Src × Sto)
  | some (some _) => some (.cell n, s)
  | _ => none
@[simp] theorem cella_s (n : Nat) (s : Sto) (xs : List PyData) : cella n s (some (some xs)) = some (.cell n, s) := rfl
def iseqa : VS → Option (Src × Sto)
  | (.l n, s) => cella n s s[n]?
  | (.d (.list xs), s) => some (.fix xs, s)
  | (.d (.tuple xs), s) => some (.fix xs, s)
  | _ => none
@[simp] theorem iseqa_c (n : Nat) (s : Sto) : iseqa (.l n, s) = cella n s s[n]? := rfl
@[simp] theorem iseqa_l (xs : List PyData) (s : Sto) : iseqa (.d (.list xs), s) = some (.fix xs, s) := rfl
@[simp] theorem iseqa_t (xs : List PyData) (s : Sto) : iseqa (.d (.tuple xs), s) = some (.fix xs, s) := rfl
@[simp] theorem iSeq_ap (a : SE) (ev : Ev) (st : Sto) : iSeq a ev st = (a ev st).bind iseqa := by
  unfold iSeq
  congr; funext p
  obtain ⟨q, s⟩ := p
  rcases q with x | n | ns
  · cases x <;> rfl
  · rfl
  · rfl
def r1a : List U × Sto → Option (Src × Sto) := fun p => match p.1 with
  | [.d (.int j)] => if big j then some (.fix (rangeD 0 j.toNat), p.2) else none
  | _ => none
@[simp] theorem r1a_ap (j : Int) (s : Sto) : r1a ([.d (.int j)], s) = if big j then some (.fix (rangeD 0 j.toNat), s) else none := rfl
@[simp] theorem iRange1_ap (a : SA) (ev : Ev) (st : Sto) : iRange1 a ev st = (a ev st).bind r1a := rfl
def r2a : List U × Sto → Option (Src × Sto) := fun p => match p.1 with
  | [.d (.int i), .d (.int j)] => if big i && big j then some (.fix (rangeD i (j - i).toNat), p.2) else none
  | _ => none
@[simp] theorem r2a_ap (i j : Int) (s : Sto) : r2a ([.d (.int i), .d (.int j)], s) = if big i && big j then some (.fix (rangeD i (j - i).toNat), s) else none := rfl
@[simp] theorem iRange2_ap (a : SA) (ev : Ev) (st : Sto) : iRange2 a ev st = (a ev st).bind r2a := rfl
def zipD (xs ys : List PyData) : List PyData := List.zipWith (fun x y => .tuple [x, y]) xs ys
def zipa : List U × Sto → Option (Src × Sto) := fun p => match p.1 with
  | [.d (.list xs), .d (.list ys)] => some (.fix (zipD xs ys), p.2)
  | [.d (.tuple xs), .d (.tuple ys)] => some (.fix (zipD xs ys), p.2)
  | _ => none
@[simp] theorem zipa_l (xs ys : List PyData) (s : Sto) : zipa ([.d (.list xs), .d (.list ys)], s) = some (.fix (zipD xs ys), s) := rfl
@[simp] theorem zipa_t (xs ys : List PyData) (s : Sto) : zipa ([.d (.tuple xs), .d (.tuple ys)], s) = some (.fix (zipD xs ys), s) := rfl
@[simp] theorem iZip2_ap (a : SA) (ev : Ev) (st : Sto) : iZip2 a ev st = (a ev st).bind zipa := rfl
def enuma : List U × Sto → Option (Src × Sto) := fun p => match p.1 with
  | [.d (.list xs)] => some (.fix (enumD 0 xs), p.2)
  | [.d (.tuple xs)] => some (.fix (enumD 0 xs), p.2)
  | [.s ns] => some (.fix (enumD 0 (ns.map .int)), p.2)
  | _ => none
@[simp] theorem enuma_l (xs : List PyData) (s : Sto) : enuma ([.d (.list xs)], s) = some (.fix (enumD 0 xs), s) := rfl
@[simp] theorem enuma_t (xs : List PyData) (s : Sto) : enuma ([.d (.tuple xs)], s) = some (.fix (enumD 0 xs), s) := rfl
@[simp] theorem enuma_s (ns : List Int) (s : Sto) : enuma ([.s ns], s) = some (.fix (enumD 0 (ns.map .int)), s) := rfl
@[simp] theorem iEnum1_ap (a : SA) (ev : Ev) (st : Sto) : iEnum1 a ev st = (a ev st).bind enuma := rfl
def lca (g : GT) (tt : SB) (te : SE) (ev : Ev) : Src × Sto → Option (List PyData × Sto)
  | (.fix xs, s) => lcL g tt te ev xs s []
  | (.cell n, s) => lcC g tt te ev n lim 0 s []
@[simp] theorem lca_f (g : GT) (tt : SB) (te : SE) (ev : Ev) (xs : List PyData) (s : Sto) : lca g tt te ev (.fix xs, s) = lcL g tt te ev xs s [] := rfl
@[simp] theorem lca_c (g : GT) (tt : SB) (te : SE) (ev : Ev) (n : Nat) (s : Sto) : lca g tt te ev (.cell n, s) = lcC g tt te ev n lim 0 s [] := rfl
theorem lcR_ap (it : SI) (g : GT) (tt : SB) (te : SE) (vs : List Nat) (ev : Ev) (st : Sto) : lcR it g tt te vs ev st = (it ev st).bind (lca g tt te (wipeE ev vs)) := by
  unfold lcR
  congr; funext p
  obtain ⟨q, s⟩ := p
  cases q <;> rfl
def lcb : List PyData × Sto → VS := fun p => (.d (.list p.1), p.2)
@[simp] theorem lcb_ap (xs : List PyData) (s : Sto) : lcb (xs, s) = (.d (.list xs), s) := rfl
def lcMb : List PyData × Sto → VS := fun p => (.l p.2.length, p.2 ++ [some p.1])
@[simp] theorem lcMb_ap (xs : List PyData) (s : Sto) : lcMb (xs, s) = (.l s.length, s ++ [some xs]) := rfl
@[simp] theorem cLc_ap (it : SI) (g : GT) (tt : SB) (te : SE) (vs : List Nat) (ev : Ev) (st : Sto) : cLc it g tt te vs ev st = ((it ev st).bind (lca g tt te (wipeE ev vs))).map lcb := by
  rw [← lcR_ap]; rfl
@[simp] theorem cLcM_ap (it : SI) (g : GT) (tt : SB) (te : SE) (vs : List Nat) (ev : Ev) (st : Sto) : cLcM it g tt te vs ev st = ((it ev st).bind (lca g tt te (wipeE ev vs))).map lcMb := by
  rw [← lcR_ap]; rfl
@[simp] theorem bYes_ap (ev : Ev) (st : Sto) : bYes ev st = some (true, st) := rfl
def md (n : Nat) (s : Sto) : PyData × List PyData → Option VS := fun r => if r.2.length ≤ lim then some (.d r.1, s.set n (some r.2)) else none
@[simp] theorem md_ap (n : Nat) (s : Sto) (z : PyData) (ys : List PyData) : md n s (z, ys) = if ys.length ≤ lim then some (.d z, s.set n (some ys)) else none := rfl
def mc (f : MF) (n : Nat) (s : Sto) (ds : List PyData) : Option (Option (List PyData)) → Option VS
  | some (some xs) => (f xs ds).bind (md n s)
  | _ => none
@[simp] theorem mc_s (f : MF) (n : Nat) (s : Sto) (ds xs : List PyData) : mc f n s ds (some (some xs)) = (f xs ds).bind (md n s) := rfl
def mb2 (f : MF) (n : Nat) (s : Sto) : List PyData → Option VS := fun ds => mc f n s ds s[n]?
@[simp] theorem mb2_ap (f : MF) (n : Nat) (s : Sto) (ds : List PyData) : mb2 f n s ds = mc f n s ds s[n]? := rfl
def mb1 (f : MF) (n : Nat) : List U × Sto → Option VS := fun q => (allD q.1).bind (mb2 f n q.2)
@[simp] theorem mb1_ap (f : MF) (n : Nat) (us : List U) (s : Sto) : mb1 f n (us, s) = (allD us).bind (mb2 f n s) := rfl
def mb (f : MF) (n : Nat) (a : SA) (ev : Ev) (s : Sto) : Option (Option (List PyData)) → Option VS
  | some (some _) => (a ev s).bind (mb1 f n)
  | _ => none
@[simp] theorem mb_s (f : MF) (n : Nat) (a : SA) (ev : Ev) (s : Sto) (xs : List PyData) : mb f n a ev s (some (some xs)) = (a ev s).bind (mb1 f n) := rfl
def ma (f : MF) (a : SA) (ev : Ev) : VS → Option VS
  | (.l n, s) => mb f n a ev s s[n]?
  | _ => none
@[simp] theorem ma_l (f : MF) (a : SA) (ev : Ev) (n : Nat) (s : Sto) : ma f a ev (.l n, s) = mb f n a ev s s[n]? := rfl
@[simp] theorem cM_ap (f : MF) (o : SE) (a : SA) (ev : Ev) (st : Sto) : cM f o a ev st = (o ev st).bind (ma f a ev) := by
  unfold cM
  congr; funext p
  obtain ⟨q, s⟩ := p
  rcases q with x | n | ns
  · rfl
  · show (match s[n]? with
      | some (some _) => _
      | _ => none) = mb f n a ev s s[n]?
    rcases s[n]? with _ | _ | xs
    · rfl
    · rfl
    · show (a ev s).bind _ = (a ev s).bind _
      congr
  · rfl
def sixd (ev : Ev) (n : Nat) (s : Sto) (xs : List PyData) (y : PyData) : Nat → Out := fun j => .nx ev (s.set n (some (xs.set j y)))
@[simp] theorem sixd_ap (ev : Ev) (n : Nat) (s : Sto) (xs : List PyData) (y : PyData) (j : Nat) : sixd ev n s xs y j = .nx ev (s.set n (some (xs.set j y))) := rfl
def sixc (ev : Ev) (n : Nat) (s : Sto) (y : PyData) (k : Int) : Option (Option (List PyData)) → Option Out
  | some (some xs) => (ixN xs.length k).map (sixd ev n s xs y)
  | _ => none
@[simp] theorem sixc_s (ev : Ev) (n : Nat) (s : Sto) (y : PyData) (k : Int) (xs : List PyData) : sixc ev n s y k (some (some xs)) = (ixN xs.length k).map (sixd ev n s xs y) := rfl
def sixb2 (ev : Ev) (n : Nat) (y : PyData) : VS → Option Out
  | (.d (.int k), s) => sixc ev n s y k s[n]?
  | _ => none
@[simp] theorem sixb2_i (ev : Ev) (n : Nat) (y : PyData) (k : Int) (s : Sto) : sixb2 ev n y (.d (.int k), s) = sixc ev n s y k s[n]? := rfl
def sixb (i : SE) (ev : Ev) (y : PyData) : VS → Option Out
  | (.l n, s) => (i ev s).bind (sixb2 ev n y)
  | _ => none
@[simp] theorem sixb_l (i : SE) (ev : Ev) (y : PyData) (n : Nat) (s : Sto) : sixb i ev y (.l n, s) = (i ev s).bind (sixb2 ev n y) := rfl
def sixa (o i : SE) (ev : Ev) : VS → Option Out
  | (.d y, s) => (o ev s).bind (sixb i ev y)
  | _ => none
@[simp] theorem sixa_d (o i : SE) (ev : Ev) (y : PyData) (s : Sto) : sixa o i ev (.d y, s) = (o ev s).bind (sixb i ev y) := rfl
@[simp] theorem cSetIx_ap (o i e : SE) (ev : Ev) (st : Sto) : cSetIx o i e ev st = (e ev st).bind (sixa o i ev) := by
  unfold cSetIx
  congr; funext p
  obtain ⟨q, s⟩ := p
  rcases q with y | n | ns
  · show (o ev s).bind _ = (o ev s).bind _
    congr; funext p
    obtain ⟨q, s⟩ := p
    rcases q with y | n | ns
    · rfl
    · show (i ev s).bind _ = (i ev s).bind _
      congr; funext p
      obtain ⟨q, s⟩ := p
      rcases q with y | n | ns
      · cases y with
        | int k =>
          show (match (U.d (.int k)), s[n]? with
            | .d (.int k), some (some xs) => _
            | _, _ => none) = sixc ev n s _ k s[n]?
          rcases s[n]? with _ | _ | xs <;> rfl
        | _ => rfl
      · rfl
      · rfl
    · rfl
  · rfl
  · rfl
def augc (f : PyData → PyData → Option PyData) (x : PyData) : VS → Option VS := fun p => toD p.2 ((rd p.2 p.1).bind (f x))
@[simp] theorem augc_ap (f : PyData → PyData → Option PyData) (x : PyData) (u : U) (s : Sto) : augc f x (u, s) = toD s ((rd s u).bind (f x)) := rfl
def auga (i : Nat) (f : PyData → PyData → Option PyData) (e : SE) (ev : Ev) (st : Sto) : Option (Option U) → Option Out
  | some (some (.d x)) => ((e ev st).bind (augc f x)).map (seta i ev)
  | _ => none
@[simp] theorem auga_s (i : Nat) (f : PyData → PyData → Option PyData) (e : SE) (ev : Ev) (st : Sto) (x : PyData) : auga i f e ev st (some (some (.d x))) = ((e ev st).bind (augc f x)).map (seta i ev) := rfl
@[simp] theorem cAug_ap (i : Nat) (f : PyData → PyData → Option PyData) (e : SE) (ev : Ev) (st : Sto) : cAug i f e ev st = auga i f e ev st ev[i]? := by
  unfold cAug
  rcases ev[i]? with _ | _ | w
  · rfl
  · rfl
  · rcases w with x | n | ns
    · show (e ev st).bind _ = ((e ev st).bind _).map _
      cases e ev st with
      | none => rfl
      | some p =>
        show (rd p.2 p.1).bind _ = (toD p.2 ((rd p.2 p.1).bind (f x))).map _
        cases rd p.2 p.1 with
        | none => rfl
        | some y =>
          show (f x y).map _ = (toD p.2 (f x y)).map _
          cases f x y <;> rfl
    · rfl
    · rfl
def defa (n : Nat) (f : FS) : List U × Sto → Option VS := fun p => if p.1.length = n then f p.1 p.2 else none
@[simp] theorem defa_ap (n : Nat) (f : FS) (us : List U) (s : Sto) : defa n f (us, s) = if us.length = n then f us s else none := rfl
@[simp] theorem cDef_ap (n : Nat) (f : FS) (a : SA) (ev : Ev) (st : Sto) : cDef n f a ev st = (a ev st).bind (defa n f) := rfl
def defKb (n m k : Nat) (ix : List Nat) (f : FS) (us : List U) : List U × Sto → Option VS := fun q => if us.length = m ∧ q.1.length = k ∧ (pick ix (us ++ q.1)).length = n then f (pick ix (us ++ q.1)) q.2 else none
@[simp] theorem defKb_ap (n m k : Nat) (ix : List Nat) (f : FS) (us vs : List U) (s : Sto) : defKb n m k ix f us (vs, s) = if us.length = m ∧ vs.length = k ∧ (pick ix (us ++ vs)).length = n then f (pick ix (us ++ vs)) s else none := rfl
def defKa (n m k : Nat) (ix : List Nat) (f : FS) (b : SA) (ev : Ev) : List U × Sto → Option VS := fun p => (b ev p.2).bind (defKb n m k ix f p.1)
@[simp] theorem defKa_ap (n m k : Nat) (ix : List Nat) (f : FS) (b : SA) (ev : Ev) (us : List U) (s : Sto) : defKa n m k ix f b ev (us, s) = (b ev s).bind (defKb n m k ix f us) := rfl
@[simp] theorem cDefK_ap (n m k : Nat) (ix : List Nat) (f : FS) (a b : SA) (ev : Ev) (st : Sto) : cDefK n m k ix f a b ev st = (a ev st).bind (defKa n m k ix f b ev) := rfl
def listMb (s : Sto) : List PyData → Option VS
  | [.list ys] => some (.l s.length, s ++ [some ys])
  | [.tuple ys] => some (.l s.length, s ++ [some ys])
  | _ => none
@[simp] theorem listMb_l (s : Sto) (ys : List PyData) : listMb s [.list ys] = some (.l s.length, s ++ [some ys]) := rfl
@[simp] theorem listMb_t (s : Sto) (ys : List PyData) : listMb s [.tuple ys] = some (.l s.length, s ++ [some ys]) := rfl
def listMa : List U × Sto → Option VS := fun p => (rdAll p.2 p.1).bind (listMb p.2)
@[simp] theorem listMa_ap (us : List U) (s : Sto) : listMa (us, s) = (rdAll s us).bind (listMb s) := rfl
@[simp] theorem cListM_ap (a : SA) (ev : Ev) (st : Sto) : cListM a ev st = (a ev st).bind listMa := rfl
@[simp] theorem oNone_ap (ev : Ev) (st : Sto) : oNone ev st = some (none, st) := rfl
def osa : VS → Option (Option Int × Sto) := fun p => match p.1 with
  | .d (.int i) => some (some i, p.2)
  | _ => none
@[simp] theorem osa_ap (i : Int) (s : Sto) : osa (.d (.int i), s) = some (some i, s) := rfl
@[simp] theorem oSome_ap (a : SE) (ev : Ev) (st : Sto) : oSome a ev st = (a ev st).bind osa := rfl
def slc (lo hi : Option Int) (x : PyData) : Option PyData := fSl x lo hi
@[simp] theorem slc_ap (lo hi : Option Int) (x : PyData) : slc lo hi x = fSl x lo hi := rfl
def slb (u : U) (lo : Option Int) : Option Int × Sto → Option VS := fun r => toD r.2 ((rd r.2 u).bind (slc lo r.1))
@[simp] theorem slb_ap (u : U) (lo hi : Option Int) (s : Sto) : slb u lo (hi, s) = toD s ((rd s u).bind (slc lo hi)) := rfl
def sla2 (u : U) (hi : SO) (ev : Ev) : Option Int × Sto → Option VS := fun q => (hi ev q.2).bind (slb u q.1)
@[simp] theorem sla2_ap (u : U) (hi : SO) (ev : Ev) (lo : Option Int) (s : Sto) : sla2 u hi ev (lo, s) = (hi ev s).bind (slb u lo) := rfl
def sla (lo hi : SO) (ev : Ev) : VS → Option VS := fun p => (lo ev p.2).bind (sla2 p.1 hi ev)
@[simp] theorem sla_ap (lo hi : SO) (ev : Ev) (u : U) (s : Sto) : sla lo hi ev (u, s) = (lo ev s).bind (sla2 u hi ev) := rfl
@[simp] theorem cSl_ap (a : SE) (lo hi : SO) (ev : Ev) (st : Sto) : cSl a lo hi ev st = (a ev st).bind (sla lo hi ev) := by
  unfold cSl sla sla2 slb slc
  congr; funext p; congr; funext q; congr; funext r
  cases rd r.2 p.1 with
  | none => rfl
  | some x => exact toD_eq _ _
def isib (Ts : List String) (t : String) : Option PyData := if Ts.all known then some (.bool (Ts.any (isaT t))) else none
@[simp] theorem isib_ap (Ts : List String) (t : String) : isib Ts t = if Ts.all known then some (.bool (Ts.any (isaT t))) else none := rfl
def isia (Ts : List String) : VS → Option VS := fun p => toD p.2 (((rd p.2 p.1).bind tyD).bind (isib Ts))
@[simp] theorem isia_ap (Ts : List String) (u : U) (s : Sto) : isia Ts (u, s) = toD s (((rd s u).bind tyD).bind (isib Ts)) := rfl
@[simp] theorem cIsi_ap (Ts : List String) (a : SE) (ev : Ev) (st : Sto) : cIsi Ts a ev st = (a ev st).bind (isia Ts) := by
  unfold cIsi isia isib
  congr; funext p
  cases rd p.2 p.1 with
  | none => rfl
  | some x =>
    simp only [Option.bind_some]
    cases tyD x with
    | none => rfl
    | some t =>
      simp only [Option.bind_some]
      cases Ts.all known <;> rfl
@[simp] theorem fAdd_i (a b : Int) : fAdd (.int a) (.int b) = some (.int (a + b)) := rfl
@[simp] theorem fAdd_l (a b : List PyData) : fAdd (.list a) (.list b) = if a.length + b.length ≤ lim then some (.list (a ++ b)) else none := rfl
@[simp] theorem fAdd_t (a b : List PyData) : fAdd (.tuple a) (.tuple b) = if a.length + b.length ≤ lim then some (.tuple (a ++ b)) else none := rfl
@[simp] theorem fAddI_i (a b : Int) : fAddI (.int a) (.int b) = some (.int (a + b)) := rfl
@[simp] theorem fSub_i (a b : Int) : fSub (.int a) (.int b) = some (.int (a - b)) := rfl
@[simp] theorem fMul_i (a b : Int) : fMul (.int a) (.int b) = if mulOk a b then some (.int (a * b)) else none := rfl
@[simp] theorem fMod_i (a b : Int) : fMod (.int a) (.int b) = if 0 < b then some (.int (a % b)) else none := rfl
@[simp] theorem fDiv_i (a b : Int) : fDiv (.int a) (.int b) = if 0 < b ∧ b.natAbs.log2 < 9000 then some (.int (a / b)) else none := rfl
@[simp] theorem fNeg_i (a : Int) : fNeg (.int a) = some (.int (-a)) := rfl
@[simp] theorem fLt_i (a b : Int) : fLt (.int a) (.int b) = some (.bool (decide (a < b))) := rfl
@[simp] theorem fLe_i (a b : Int) : fLe (.int a) (.int b) = some (.bool (decide (a ≤ b))) := rfl
@[simp] theorem fGt_i (a b : Int) : fGt (.int a) (.int b) = some (.bool (decide (b < a))) := rfl
@[simp] theorem fGe_i (a b : Int) : fGe (.int a) (.int b) = some (.bool (decide (b ≤ a))) := rfl
@[simp] theorem fIs_n (x : PyData) : fIs x .none = some (.bool (isNone x)) := by cases x <;> rfl
@[simp] theorem fIsNot_n (x : PyData) : fIsNot x .none = some (.bool (!isNone x)) := by cases x <;> rfl
@[simp] theorem fLen_l (xs : List PyData) : fLen [.list xs] = some (.int xs.length) := rfl
@[simp] theorem fLen_t (xs : List PyData) : fLen [.tuple xs] = some (.int xs.length) := rfl
@[simp] theorem fAbs_i (i : Int) : fAbs [.int i] = some (.int (if i < 0 then -i else i)) := rfl
@[simp] theorem fMax_ii (i j : Int) : fMax [.int i, .int j] = some (.int (if j > i then j else i)) := rfl
@[simp] theorem fMax_l (xs : List PyData) : fMax [.list xs] = (asInts xs).bind fun ns => (maxI ns).map .int := rfl
@[simp] theorem fMax_t (xs : List PyData) : fMax [.tuple xs] = (asInts xs).bind fun ns => (maxI ns).map .int := rfl
@[simp] theorem fMin_ii (i j : Int) : fMin [.int i, .int j] = some (.int (if j < i then j else i)) := rfl
@[simp] theorem fMin_l (xs : List PyData) : fMin [.list xs] = (asInts xs).bind fun ns => (minI ns).map .int := rfl
@[simp] theorem fMin_t (xs : List PyData) : fMin [.tuple xs] = (asInts xs).bind fun ns => (minI ns).map .int := rfl
@[simp] theorem fInt_i (i : Int) : fInt [.int i] = some (.int i) := rfl
@[simp] theorem fInt_b (b : Bool) : fInt [.bool b] = some (.int (if b then 1 else 0)) := rfl
@[simp] theorem fTuple_l (xs : List PyData) : fTuple [.list xs] = some (.tuple xs) := rfl
@[simp] theorem fTuple_t (xs : List PyData) : fTuple [.tuple xs] = some (.tuple xs) := rfl
@[simp] theorem fList_l (xs : List PyData) : fList [.list xs] = some (.list xs) := rfl
@[simp] theorem fList_t (xs : List PyData) : fList [.tuple xs] = some (.list xs) := rfl
@[simp] theorem fSum_l (xs : List PyData) : fSum [.list xs] = (asInts xs).map fun ns => .int ns.sum := rfl
@[simp] theorem fSum_t (xs : List PyData) : fSum [.tuple xs] = (asInts xs).map fun ns => .int ns.sum := rfl
@[simp] theorem fAll_l (xs : List PyData) : fAll [.list xs] = (asBools xs).map fun bs => .bool (bs.all id) := rfl
@[simp] theorem fAny_l (xs : List PyData) : fAny [.list xs] = (asBools xs).map fun bs => .bool (bs.any id) := rfl
@[simp] theorem rdAll_nil (st : Sto) : rdAll st [] = some [] := rfl
def rdcb (x : PyData) (xs : List PyData) : List PyData := x :: xs
@[simp] theorem rdcb_ap (x : PyData) (xs : List PyData) : rdcb x xs = x :: xs := rfl
def rdc (r : Option (List PyData)) (x : PyData) : Option (List PyData) := r.map (rdcb x)
@[simp] theorem rdc_s (r : List PyData) (x : PyData) : rdc (some r) x = some (x :: r) := rfl
@[simp] theorem rdAll_cons (st : Sto) (w : U) (ws : List U) : rdAll st (w :: ws) = (rd st w).bind (rdc (rdAll st ws)) := rfl
@[simp] theorem allD_nil : allD [] = some [] := rfl
@[simp] theorem allD_cons (x : PyData) (ws : List U) : allD (.d x :: ws) = (allD ws).map (rdcb x) := rfl
@[simp] theorem allD_app (xs : List PyData) (ws : List U) : allD (xs.map U.d ++ ws) = (allD ws).map fun ys => xs ++ ys := by
  induction xs with
  | nil => simp
  | cons x xs ih => simp [ih, Function.comp_def]
@[simp] theorem items_l (xs : List PyData) : items (.list xs) = some xs := rfl
@[simp] theorem items_t (xs : List PyData) : items (.tuple xs) = some xs := rfl
@[simp] theorem truth_n : truth .none = some false := rfl
@[simp] theorem truth_b (b : Bool) : truth (.bool b) = some b := rfl
@[simp] theorem truth_i (i : Int) : truth (.int i) = some (i != 0) := rfl
@[simp] theorem truth_l (xs : List PyData) : truth (.list xs) = some (!xs.isEmpty) := rfl
@[simp] theorem truth_t (xs : List PyData) : truth (.tuple xs) = some (!xs.isEmpty) := rfl
def rda : Option (Option (List PyData)) → Option PyData
  | some (some xs) => some (.list xs)
  | _ => none
@[simp] theorem rda_s (xs : List PyData) : rda (some (some xs)) = some (.list xs) := rfl
@[simp] theorem rd_l (st : Sto) (n : Nat) : rd st (.l n) = rda st[n]? := rfl
@[simp] theorem rd_s (st : Sto) (ns : List Int) : rd st (.s ns) = some (.list (ns.map .int)) := rfl
@[simp] theorem rdS_l (st : Sto) (n : Nat) : rdS st (.l n) = rda st[n]? := rfl
def outa (n : Nat) : Out → Option VS
  | .rt w st' => leave n w st'
  | .nx _ st' => some (.d .none, st'.take n)
  | _ => none
@[simp] theorem outa_rt (n : Nat) (w : U) (s : Sto) : outa n (.rt w s) = leave n w s := rfl
@[simp] theorem outa_nx (n : Nat) (w : Ev) (s : Sto) : outa n (.nx w s) = some (.d .none, s.take n) := rfl
theorem defS_ap (N : Nat) (b : SS) (ws : List U) (st : Sto) : defS N b ws st = (b (ws.map some ++ List.replicate (N - ws.length) none) st).bind (outa st.length) := by
  unfold defS
  congr
def outO (n : Nat) : Out → Option VS
  | .rt w st' => leaveO n w st'
  | _ => none
@[simp] theorem outO_rt (n : Nat) (w : U) (s : Sto) : outO n (.rt w s) = leaveO n w s := rfl
theorem defSO_ap (N : Nat) (b : SS) (ws : List U) (st : Sto) : defSO N b ws st = (b (ws.map some ++ List.replicate (N - ws.length) none) st).bind (outO st.length) := by
  unfold defSO
  congr
@[simp] theorem leave_d (n : Nat) (x : PyData) (st : Sto) : leave n (.d x) st = some (.d x, st.take n) := rfl
@[simp] theorem leave_s (n : Nat) (x : List Int) (st : Sto) : leave n (.s x) st = some (.s x, st.take n) := rfl
def leaveb (n : Nat) (s : Sto) : Option (Option (List PyData)) → Option VS
  | some (some xs) => some (.d (.list xs), s.take n)
  | _ => none
@[simp] theorem leaveb_s (n : Nat) (s : Sto) (xs : List PyData) : leaveb n s (some (some xs)) = some (.d (.list xs), s.take n) := rfl
@[simp] theorem leave_l (n k : Nat) (st : Sto) : leave n (.l k) st = if k < n then some (.l k, st.take n) else leaveb n st st[k]? := rfl
def leaveOb (n : Nat) (s : Sto) : Option (Option (List PyData)) → Option VS
  | some (some xs) => some (.l n, s.take n ++ [some xs])
  | _ => none
@[simp] theorem leaveOb_s (n : Nat) (s : Sto) (xs : List PyData) : leaveOb n s (some (some xs)) = some (.l n, s.take n ++ [some xs]) := rfl
@[simp] theorem leaveO_l (n k : Nat) (st : Sto) : leaveO n (.l k) st = if k < n then none else leaveOb n st st[k]? := rfl
@[simp] theorem gN_ap (i : Nat) (x : PyData) (ev : Ev) : gN i x ev = some (ev.set i (some (.d x))) := rfl
@[simp] theorem gsNil_ap (ev : Ev) : gsNil [] ev = some ev := rfl
@[simp] theorem gsCons_ap (g : GT) (r : List PyData → Ev → Option Ev) (x : PyData) (xs : List PyData) (ev : Ev) : gsCons g r (x :: xs) ev = (g x ev).bind (r xs) := rfl
@[simp] theorem gT_ap (g : List PyData → Ev → Option Ev) (xs : List PyData) (ev : Ev) : gT g (.tuple xs) ev = g xs ev := rfl
@[simp] theorem mAppend_ap (xs : List PyData) (y : PyData) : mAppend xs [y] = if xs.length < lim then some (.none, xs ++ [y]) else none := rfl
@[simp] theorem mExtend_ap (xs ys : List PyData) : mExtend xs [.list ys] = if xs.length + ys.length ≤ lim then some (.none, xs ++ ys) else none := rfl
@[simp] theorem wipeE_nil (ev : Ev) : wipeE ev [] = ev := rfl
@[simp] theorem wipeE_cons (ev : Ev) (v : Nat) (vs : List Nat) : wipeE ev (v :: vs) = (wipeE ev vs).set v none := rfl
@[simp] theorem fSl_l (xs : List PyData) (lo hi : Option Int) : fSl (.list xs) lo hi = some (.list (cutD xs lo hi)) := rfl
@[simp] theorem fSl_t (xs : List PyData) (lo hi : Option Int) : fSl (.tuple xs) lo hi = some (.tuple (cutD xs lo hi)) := rfl
@[simp] theorem tyD_n : tyD .none = some "NoneType" := rfl
@[simp] theorem tyD_b (b : Bool) : tyD (.bool b) = some "bool" := rfl
@[simp] theorem tyD_i (b : Int) : tyD (.int b) = some "int" := rfl
@[simp] theorem tyD_s (b : Str) : tyD (.str b) = some "str" := rfl
@[simp] theorem tyD_l (b : List PyData) : tyD (.list b) = some "list" := rfl
@[simp] theorem tyD_t (b : List PyData) : tyD (.tuple b) = some "tuple" := rfl
/-- a store: what was there, and behind it what this call has laid down -/
def ex (st L : Sto) : Sto := st ++ L
theorem ex_nil (st : Sto) : st = ex st [] := (List.append_nil st).symm
@[simp] theorem ex_len (st L : Sto) : (ex st L).length = st.length + L.length := List.length_append
@[simp] theorem ex_put (st L : Sto) (x : Option (List PyData)) : ex st L ++ [x] = ex st (L ++ [x]) := by simp [ex]
@[simp high] theorem ex_get0 (st L : Sto) : (ex st L)[st.length]? = L[0]? := by
  unfold ex
  rw [List.getElem?_append_right (Nat.le_refl _), Nat.sub_self]
@[simp high] theorem ex_get (st L : Sto) (k : Nat) : (ex st L)[st.length + k]? = L[k]? := by
  unfold ex
  rw [List.getElem?_append_right (Nat.le_add_right _ _), Nat.add_sub_cancel_left]
@[simp high] theorem ex_get0s (st L : Sto) (b : Nat) (x : Option (List PyData)) : (ex (st.set b x) L)[st.length]? = L[0]? := by
  have := ex_get0 (st.set b x) L
  rwa [List.length_set] at this
@[simp high] theorem ex_gets (st L : Sto) (k b : Nat) (x : Option (List PyData)) : (ex (st.set b x) L)[st.length + k]? = L[k]? := by
  have := ex_get (st.set b x) L k
  rwa [List.length_set] at this
@[simp] theorem ex_set0 (st L : Sto) (y : Option (List PyData)) : (ex st L).set st.length y = ex st (L.set 0 y) := by simp [ex, List.set_append]
@[simp] theorem ex_set (st L : Sto) (k : Nat) (y : Option (List PyData)) : (ex st L).set (st.length + k) y = ex st (L.set k y) := by simp [ex, List.set_append]
@[simp] theorem ex_set0s (st L : Sto) (b : Nat) (x y : Option (List PyData)) : (ex (st.set b x) L).set st.length y = ex (st.set b x) (L.set 0 y) := by
  have := ex_set0 (st.set b x) L y
  rwa [List.length_set] at this
@[simp] theorem ex_sets (st L : Sto) (k b : Nat) (x y : Option (List PyData)) : (ex (st.set b x) L).set (st.length + k) y = ex (st.set b x) (L.set k y) := by
  have := ex_set (st.set b x) L k y
  rwa [List.length_set] at this
@[simp] theorem ex_take0 (st L : Sto) : (ex st L).take st.length = st := by simp [ex]
@[simp] theorem ex_take (st L : Sto) (k : Nat) : (ex st L).take (st.length + k) = ex st (L.take k) := by
  unfold ex
  rw [List.take_append, List.take_of_length_le (Nat.le_add_right _ _), Nat.add_sub_cancel_left]
@[simp] theorem ex_take0s (st L : Sto) (b : Nat) (x : Option (List PyData)) : (ex (st.set b x) L).take st.length = st.set b x := by
  have := ex_take0 (st.set b x) L
  rwa [List.length_set] at this
@[simp] theorem ex_takes (st L : Sto) (k b : Nat) (x : Option (List PyData)) : (ex (st.set b x) L).take (st.length + k) = ex (st.set b x) (L.take k) := by
  have := ex_take (st.set b x) L k
  rwa [List.length_set] at this
theorem ex_box {st L : Sto} {b : Nat} (h : b < st.length) (x : Option (List PyData)) : (ex (st.set b x) L)[b]? = some x := by
  simp [ex, List.getElem?_append, h]
theorem ex_setb {st L : Sto} {b : Nat} (h : b < st.length) (x y : Option (List PyData)) : (ex (st.set b x) L).set b y = ex (st.set b y) L := by
  simp [ex, List.set_append, h]
theorem ex_self {st : Sto} {b : Nat} {x : Option (List PyData)} (h : st[b]? = some x) : st.set b x = st := by
  obtain ⟨hb, e⟩ := List.getElem?_eq_some_iff.mp h
  rw [← e]
  simp
/-- loops -/
theorem forL_ind {g : GT} {b : SS} (P : List PyData → Ev → Sto → Prop)
    (h : ∀ x xs ev st, P (x :: xs) ev st → ∃ ev1 ev2 st2, g x ev = some ev1 ∧ b ev1 st = some (.nx ev2 st2) ∧ P xs ev2 st2) :
    ∀ (xs : List PyData) (ev : Ev) (st : Sto), P xs ev st → ∃ ev' st', forL g b xs ev st = some (.nx ev' st') ∧ P [] ev' st'
  | [], ev, st, p => ⟨ev, st, rfl, p⟩
  | x :: xs, ev, st, p => by
    obtain ⟨ev1, ev2, st2, e1, e2, p2⟩ := h x xs ev st p
    obtain ⟨ev', st', e3, p3⟩ := forL_ind P h xs ev2 st2 p2
    exact ⟨ev', st', by simp [forL, e1, e2, e3], p3⟩
theorem lcL_ind {g : GT} {tt : SB} {te : SE} {ev : Ev} (P : List PyData → Sto → List PyData → Prop)
    (h : ∀ x xs st acc, P (x :: xs) st acc → ∃ ev1 p, g x ev = some ev1 ∧ tt ev1 (ex st [some acc]) = some p ∧ ((p.1 = false ∧ ∃ st2, p.2 = ex st2 [some acc] ∧ st2.length = st.length ∧ P xs st2 acc) ∨
      (p.1 = true ∧ ∃ y st2, te ev1 p.2 = some (.d y, ex st2 [some acc]) ∧ st2.length = st.length ∧ acc.length < lim ∧ P xs st2 (acc ++ [y])))) :
    ∀ (xs : List PyData) (st : Sto) (acc : List PyData), P xs st acc → ∃ st' acc', lcL g tt te ev xs st acc = some (acc', st') ∧ P [] st' acc'
  | [], st, acc, p => ⟨st, acc, rfl, p⟩
  | x :: xs, st, acc, p => by
    obtain ⟨ev1, q, e1, e2, c⟩ := h x xs st acc p
    have e2' : tt ev1 (st ++ [some acc]) = some q := e2
    rcases c with ⟨t, st2, e3, hl, p2⟩ | ⟨t, y, st2, e3, hl, ha, p2⟩
    · obtain ⟨st', acc', e4, p4⟩ := lcL_ind P h xs st2 acc p2
      refine ⟨st', acc', ?_, p4⟩
      have g1 : (ex st2 [some acc])[st.length]? = some (some acc) := by rw [← hl, ex_get0]; rfl
      have g2 : (ex st2 [some acc]).take st.length = st2 := by rw [← hl]; simp
      simp [lcL, e1, e2', t, e3, g1, g2, e4]
    · obtain ⟨st', acc', e4, p4⟩ := lcL_ind P h xs st2 (acc ++ [y]) p2
      refine ⟨st', acc', ?_, p4⟩
      have g1 : (ex st2 [some acc])[st.length]? = some (some acc) := by rw [← hl, ex_get0]; rfl
      have g2 : (ex st2 [some acc]).take st.length = st2 := by rw [← hl]; simp
      simp [lcL, e1, e2', t, e3, g1, g2, e4, ha]
/-- a comprehension that reads alone -/
theorem lcL_pure {g : GT} {tt : SB} {te : SE} {ev : Ev} (c : PyData → Bool) (f : PyData → PyData) (st : Sto) :
    ∀ (xs : List PyData) (acc : List PyData), (∀ x ∈ xs, ∀ acc, ∃ ev1, g x ev = some ev1 ∧ tt ev1 (ex st [some acc]) = some (c x, ex st [some acc]) ∧ (c x = true → te ev1 (ex st [some acc]) = some (.d (f x), ex st [some acc]))) →
    acc.length + xs.length ≤ lim → lcL g tt te ev xs st acc = some (acc ++ (xs.filter c).map f, st)
  | [], acc, _, _ => by simp [lcL]
  | x :: xs, acc, h, hl => by
    obtain ⟨ev1, e1, e2, e3⟩ := h x List.mem_cons_self acc
    have e2' : tt ev1 (st ++ [some acc]) = some (c x, ex st [some acc]) := e2
    have g1 : (ex st [some acc])[st.length]? = some (some acc) := by rw [ex_get0]; rfl
    have g2 : (ex st [some acc]).take st.length = st := by simp
    simp only [List.length_cons] at hl
    by_cases t : c x = true
    · have := lcL_pure c f st xs (acc ++ [f x]) (fun y hy => h y (List.mem_cons_of_mem _ hy)) (by simp; omega)
      have ha : acc.length < lim := by omega
      simp [lcL, e1, e2', t, e3 t, g1, g2, ha, this]
    · have := lcL_pure c f st xs acc (fun y hy => h y (List.mem_cons_of_mem _ hy)) (by omega)
      have t' : c x = false := by simpa using t
      simp [lcL, e1, e2', t', g1, g2, this]
@[simp] theorem shaped_int (i : Int) : SeqAt.shaped (.int i) = true := rfl
@[simp] theorem shaped_bool (i : Bool) : SeqAt.shaped (.bool i) = true := rfl
@[simp] theorem shaped_none : SeqAt.shaped .none = true := rfl
@[simp] theorem fEq_int (i j : Int) : fEq (.int i) (.int j) = some (.bool (i == j)) := rfl
@[simp] theorem fNe_int (i j : Int) : fNe (.int i) (.int j) = some (.bool (!(i == j))) := rfl
@[simp] theorem fEq_bool (i j : Bool) : fEq (.bool i) (.bool j) = some (.bool (i == j)) := rfl
@[simp] theorem fNe_bool (i j : Bool) : fNe (.bool i) (.bool j) = some (.bool (!(i == j))) := rfl
@[simp] theorem fIx_list (xs : List PyData) (k : Nat) (h : k < xs.length) : fIx (.list xs) (.int (k : Int)) = some xs[k] := by
  simp [fIx, atI, ixN, h]
@[simp] theorem fIx_tuple (xs : List PyData) (k : Nat) (h : k < xs.length) : fIx (.tuple xs) (.int (k : Int)) = some xs[k] := by
  simp [fIx, atI, ixN, h]
@[simp] theorem big_of {i : Int} (h1 : -4611686018427387904 ≤ i) (h2 : i < 4611686018427387904) : big i = true := by simp [big, h1, h2]
theorem mul_small {a b : Int} (h1 : -18446744073709551616 < b) (h2 : b < 18446744073709551616) : mulOk a b = true := by
  simp [mulOk, p64, h1, h2]
theorem mul_smallL {a b : Int} (h1 : -18446744073709551616 < a) (h2 : a < 18446744073709551616) : mulOk a b = true := by
  simp [mulOk, p64, h1, h2]
/-- a loop over states that are told apart from where the store lies -/
theorem forL_abs {T S : Type} {g : GT} {b : SS} (Θ : T → Prop) (evOf : T → S → Ev) (stOf : T → S → Sto) (P : List PyData → S → Prop)
    (h : ∀ x xs s, P (x :: xs) s → ∃ s', P xs s' ∧ ∀ θ, Θ θ → ∃ ev1, g x (evOf θ s) = some ev1 ∧ b ev1 (stOf θ s) = some (.nx (evOf θ s') (stOf θ s'))) :
    ∀ (xs : List PyData) (s : S), P xs s → ∃ s', P [] s' ∧ ∀ θ, Θ θ → forL g b xs (evOf θ s) (stOf θ s) = some (.nx (evOf θ s') (stOf θ s'))
  | [], s, p => ⟨s, p, fun θ _ => rfl⟩
  | x :: xs, s, p => by
    obtain ⟨s1, p1, e1⟩ := h x xs s p
    obtain ⟨s2, p2, e2⟩ := forL_abs Θ evOf stOf P h xs s1 p1
    refine ⟨s2, p2, fun θ t => ?_⟩
    obtain ⟨ev1, a1, a2⟩ := e1 θ t
    simp [forL, a1, a2, e2 θ t]
theorem lcL_abs {T S : Type} {g : GT} {te : SE} (Θ : T → Prop) (evOf : T → Ev) (stOf : T → S → Sto) (hl : ∀ θ s s', (stOf θ s).length = (stOf θ s').length) (P : List PyData → S → List PyData → Prop)
    (h : ∀ x xs s acc, P (x :: xs) s acc → ∃ y s', P xs s' (acc ++ [y]) ∧ acc.length < lim ∧ ∀ θ, Θ θ → ∃ ev1, g x (evOf θ) = some ev1 ∧ te ev1 (ex (stOf θ s) [some acc]) = some (.d y, ex (stOf θ s') [some acc])) :
    ∀ (xs : List PyData) (s : S) (acc : List PyData), P xs s acc → ∃ s' acc', P [] s' acc' ∧ ∀ θ, Θ θ → lcL g bYes te (evOf θ) xs (stOf θ s) acc = some (acc', stOf θ s')
  | [], s, acc, p => ⟨s, acc, p, fun θ _ => rfl⟩
  | x :: xs, s, acc, p => by
    obtain ⟨y, s1, p1, ha, e1⟩ := h x xs s acc p
    obtain ⟨s2, acc2, p2, e2⟩ := lcL_abs Θ evOf stOf hl P h xs s1 (acc ++ [y]) p1
    refine ⟨s2, acc2, p2, fun θ t => ?_⟩
    obtain ⟨ev1, a1, a2⟩ := e1 θ t
    have a2' : te ev1 (stOf θ s ++ [some acc]) = some (.d y, ex (stOf θ s1) [some acc]) := a2
    have g1 : (ex (stOf θ s1) [some acc])[(stOf θ s).length]? = some (some acc) := by rw [hl θ s s1, ex_get0]; rfl
    have g2 : (ex (stOf θ s1) [some acc]).take (stOf θ s).length = stOf θ s1 := by rw [hl θ s s1]; simp
    simp [lcL, bYes, a1, a2', g1, g2, ha, e2 θ t]
@[simp] theorem rangeD_len (a : Int) (n : Nat) : (rangeD a n).length = n := by simp [rangeD]
theorem rangeD_mem {a : Int} {n : Nat} {x : PyData} : x ∈ rangeD a n ↔ ∃ k : Nat, k < n ∧ x = .int (a + k) := by
  unfold rangeD
  simp only [List.mem_map, List.mem_range]
  constructor
  · rintro ⟨k, h, e⟩; exact ⟨k, h, e.symm⟩
  · rintro ⟨k, h, e⟩; exact ⟨k, h, e.symm⟩
@[simp] theorem fPow_i (a b : Int) : fPow (.int a) (.int b) = if 0 ≤ b ∧ b ≤ 1000000 ∧ a.natAbs < 18446744073709551616 then some (.int (a ^ b.toNat)) else none := rfl
@[simp] theorem lim_eq : lim = 1000000 := rfl
end Cm

set_option Elab.async false
set_option linter.all false
set_option maxRecDepth 100000
set_option maxHeartbeats 1000000
/-! more rules: list + list to be changed, three plain names, slices from behind -/
namespace Cm
open PySem PySem.Spec PyProof.Rows L2
def cAddM (a b : SE) : SE := fun ev st => (a ev st).bind fun p => (b ev p.2).bind fun q => (rdS q.2 p.1).bind fun x => (rdS q.2 q.1).bind fun y => match x, y with
  | .list xs, .list ys => if xs.length + ys.length ≤ lim then some (.l q.2.length, q.2 ++ [some (xs ++ ys)]) else none
  | _, _ => none
def cSlM (a : SE) (lo hi : SO) : SE := fun ev st => (a ev st).bind fun p => (lo ev p.2).bind fun q => (hi ev q.2).bind fun r => (rd r.2 p.1).bind fun x => match x with
  | .list xs => some (.l r.2.length, r.2 ++ [some (cutD xs q.1 r.1)])
  | _ => none
def fRev : PyData → Option PyData
  | .list xs => some (.list xs.reverse)
  | _ => none
def cRevM (a : SE) : SE := fun ev st => (a ev st).bind fun p => (rd p.2 p.1).bind fun x => match x with
  | .list xs => some (.l p.2.length, p.2 ++ [some xs.reverse])
  | _ => none
section
variable {X : Cx} {a b : Expr} {ca cb : SE} {pos : Pos}
theorem se_addM (ha : PE X a (tI X.K ca)) (hb : PE X b (tI X.K cb)) : PE X (.BinOp a .Add b pos) (tI X.K (cAddM ca cb)) :=
  (pe_op op_cat ha hb).weak fun σ H Q ⟨ρ, F, ev, st, w, st', hr, sr, e, post⟩ => by
    simp only [cAddM, Option.bind_eq_some_iff] at e
    obtain ⟨⟨w1, st1⟩, e1, ⟨w2, st2⟩, e2, x, e3, y, e4, e5⟩ := e
    refine ⟨ρ, F, ev, st, w1, st1, hr, sr, e1, fun v1 ρ1 F1 H1 x1 hr1 wr1 => ⟨ρ1, F1, ev, st1, w2, st2, hr1, sr.mono x1, e2, fun v2 ρ2 F2 H2 x2 hr2 wr2 => ?_⟩⟩
    have rx := rdS_ok hr2 (wr1.mono x2) e3
    have ry := rdS_ok hr2 wr2 e4
    split at e5
    · split at e5
      · rename_i hl
        cases e5
        obtain ⟨a, vs, rfl, h1, d1⟩ := rx.list hr2.sub
        obtain ⟨b, us, rfl, h2, d2⟩ := ry.list hr2.sub
        exact ⟨a, b, vs, us, rfl, rfl, h1, h2, by rw [d1.length, d2.length]; exact lim_le hl, fun p np => post _ _ _ _ ((x1.trans x2).trans (.push p)) (hr2.push np (d1.append d2)) (.pushed hr2)⟩
      · cases e5
    · cases e5
theorem se_slM {lo hi : Option Expr} {cl ch : SO} {p2 : Pos} (ha : PE X a (tI X.K ca)) (hl : PO X lo (tO X.K cl)) (hh : PO X hi (tO X.K ch)) : PE X (.Subscript a (.Slice lo hi none p2) pos) (tI X.K (cSlM ca cl ch)) :=
  (pe_slice sl_list ha hl hh).weak fun σ H Q ⟨ρ, F, ev, st, w, st', hr, sr, e, post⟩ => by
    simp only [cSlM, Option.bind_eq_some_iff] at e
    obtain ⟨⟨w1, st1⟩, e1, ⟨i, st2⟩, e2, ⟨j, st3⟩, e3, x, e4, e5⟩ := e
    refine ⟨ρ, F, ev, st, w1, st1, hr, sr, e1, fun v1 ρ1 F1 H1 x1 hr1 wr1 => ⟨ρ1, F1, ev, st1, i, st2, hr1, sr.mono x1, e2, fun ρ2 F2 H2 x2 hr2 => ⟨ρ2, F2, ev, st2, j, st3, hr2, (sr.mono x1).mono x2, e3, fun ρ3 F3 H3 x3 hr3 => ?_⟩⟩⟩
    have rr : Rdd X.K F3 H3 v1 x := rd_ok hr3 ((wr1.mono x2).mono x3) e4
    split at e5
    · cases e5
      obtain ⟨a, vs, rfl, h, d⟩ := rr.list hr3.sub
      exact ⟨a, vs, rfl, h, fun p np => post _ _ _ _ (((x1.trans x2).trans x3).trans (.push p)) (hr3.push np (d.cut _ _)) (.pushed hr3)⟩
    · cases e5
theorem se_rev {k : Nat} {p1 p2 p3 : Pos} (ha : PE X a (tI X.K ca)) : PE X (.Subscript a (.Slice none none (some (.UnaryOp .USub (.Constant (.int 1) k p1) p2)) p3) pos) (tI X.K (cD1 fRev ca)) :=
  (pe_revL ha).weak fun σ H Q ⟨ρ, F, ev, st, w, st', hr, sr, e, post⟩ => by
    simp only [cD1, Option.bind_eq_some_iff, Option.map_eq_some_iff] at e
    obtain ⟨⟨w1, st1⟩, e1, x, e3, z, e5, e6⟩ := e
    cases e6
    refine ⟨ρ, F, ev, st, w1, st1, hr, sr, e1, fun v1 ρ1 F1 H1 x1 hr1 wr1 => ?_⟩
    have rr : Rdd X.K F1 H1 v1 x := rd_ok hr1 wr1 e3
    have q : Rep F1 H1 z Q := post.grow x1 hr1
    unfold fRev at e5
    split at e5
    · cases e5
      obtain ⟨a, vs, rfl, h, d⟩ := rr.list hr1.sub
      exact ⟨a, vs, rfl, h, fun p np => q.lst hr1.sub d.reverse p np⟩
    · cases e5
theorem se_revM {k : Nat} {p1 p2 p3 : Pos} (ha : PE X a (tI X.K ca)) : PE X (.Subscript a (.Slice none none (some (.UnaryOp .USub (.Constant (.int 1) k p1) p2)) p3) pos) (tI X.K (cRevM ca)) :=
  (pe_revL ha).weak fun σ H Q ⟨ρ, F, ev, st, w, st', hr, sr, e, post⟩ => by
    simp only [cRevM, Option.bind_eq_some_iff] at e
    obtain ⟨⟨w1, st1⟩, e1, x, e3, e5⟩ := e
    refine ⟨ρ, F, ev, st, w1, st1, hr, sr, e1, fun v1 ρ1 F1 H1 x1 hr1 wr1 => ?_⟩
    have rr : Rdd X.K F1 H1 v1 x := rd_ok hr1 wr1 e3
    split at e5
    · cases e5
      obtain ⟨a, vs, rfl, h, d⟩ := rr.list hr1.sub
      exact ⟨a, vs, rfl, h, fun p np => post _ _ _ _ (x1.trans (.push p)) (hr1.push np d.reverse) (.pushed hr1)⟩
    · cases e5
theorem s_par3 {i j l : Nat} {x y z : Str} {a b c : Expr} {sa : SA} {px py pz pt : Pos} {kt k2 pt2} (hc : X.calm = true) (hN : X.N.Nodup) (hi : X.N[i]? = some x) (hj : X.N[j]? = some y) (hl : X.N[l]? = some z) (hij : i ≠ j) (hil : i ≠ l) (hjl : j ≠ l)
    (hx : X.env.scope.names.lookup x = some .local) (hy : X.env.scope.names.lookup y = some .local) (hz : X.env.scope.names.lookup z = some .local) (ha : PA X [a, b, c] (tA X.K sa))
    (hw : Swaps X (.Tuple [.Name x px, .Name y py, .Name z pz] kt pt) (.Tuple [a, b, c] k2 pt2) (some [x, y, z])) (hs : NoSole X (.Tuple [.Name x px, .Name y py, .Name z pz] kt pt) (.Tuple [a, b, c] k2 pt2) pos := by rfl) :
    PS X (.Assign [.Tuple [.Name x px, .Name y py, .Name z pz] kt pt] (.Tuple [a, b, c] k2 pt2) pos) (tSS X.K (cParN [i, j, l] sa)) := (ps_par3 hc hN hi hj hl hij hil hjl hx hy hz ha hw hs).weak fun D σ H ⟨ρ, F, ev, st, o, hr, sr, e, ok⟩ => by
  simp only [cParN, Option.bind_eq_some_iff] at e
  obtain ⟨⟨ws, st'⟩, e1, e2⟩ := e
  split at e2
  · rename_i hlw
    cases e2
    refine ⟨ρ, F, ev, st, ws, st', hr, sr, e1, fun vs ρ' F' H' x hr' wr => ?_⟩
    cases wr with
    | nil => cases hlw
    | cons w1 t =>
      cases t with
      | nil => cases hlw
      | cons w2 t =>
        cases t with
        | nil => cases hlw
        | cons w3 t =>
          cases t with
          | nil => exact ⟨_, _, _, rfl, ok _ ρ' F' H' x hr' ((((sr.mono x).set w1 i).set w2 j).set w3 l)⟩
          | cons w4 t => simp at hlw
  · cases e2
end
def addMc (s : Sto) : PyData → PyData → Option VS
  | .list xs, .list ys => if xs.length + ys.length ≤ lim then some (.l s.length, s ++ [some (xs ++ ys)]) else none
  | _, _ => none
@[simp] theorem addMc_l (s : Sto) (xs ys : List PyData) : addMc s (.list xs) (.list ys) = if xs.length + ys.length ≤ lim then some (.l s.length, s ++ [some (xs ++ ys)]) else none := rfl
def addMd (s : Sto) (y : Option PyData) (x : PyData) : Option VS := y.bind (addMc s x)
@[simp] theorem addMd_s (s : Sto) (y x : PyData) : addMd s (some y) x = addMc s x y := rfl
def addMb (u : U) : VS → Option VS := fun q => (rdS q.2 u).bind (addMd q.2 (rdS q.2 q.1))
@[simp] theorem addMb_ap (u v : U) (s : Sto) : addMb u (v, s) = (rdS s u).bind (addMd s (rdS s v)) := rfl
def addMa (b : SE) (ev : Ev) : VS → Option VS := fun p => (b ev p.2).bind (addMb p.1)
@[simp] theorem addMa_ap (b : SE) (ev : Ev) (u : U) (s : Sto) : addMa b ev (u, s) = (b ev s).bind (addMb u) := rfl
@[simp] theorem cAddM_ap (a b : SE) (ev : Ev) (st : Sto) : cAddM a b ev st = (a ev st).bind (addMa b ev) := by
  unfold cAddM addMa addMb addMd
  congr
def revMb (s : Sto) : PyData → Option VS
  | .list xs => some (.l s.length, s ++ [some xs.reverse])
  | _ => none
@[simp] theorem revMb_l (s : Sto) (xs : List PyData) : revMb s (.list xs) = some (.l s.length, s ++ [some xs.reverse]) := rfl
def revMa : VS → Option VS := fun p => (rd p.2 p.1).bind (revMb p.2)
@[simp] theorem revMa_ap (u : U) (s : Sto) : revMa (u, s) = (rd s u).bind (revMb s) := rfl
@[simp] theorem cRevM_ap (a : SE) (ev : Ev) (st : Sto) : cRevM a ev st = (a ev st).bind revMa := by
  unfold cRevM revMa
  congr
@[simp] theorem fRev_l (xs : List PyData) : fRev (.list xs) = some (.list xs.reverse) := rfl
def slMc (s : Sto) (lo hi : Option Int) : PyData → Option VS
  | .list xs => some (.l s.length, s ++ [some (cutD xs lo hi)])
  | _ => none
@[simp] theorem slMc_l (s : Sto) (lo hi : Option Int) (xs : List PyData) : slMc s lo hi (.list xs) = some (.l s.length, s ++ [some (cutD xs lo hi)]) := rfl
def slMb (u : U) (lo : Option Int) : Option Int × Sto → Option VS := fun r => (rd r.2 u).bind (slMc r.2 lo r.1)
@[simp] theorem slMb_ap (u : U) (lo hi : Option Int) (s : Sto) : slMb u lo (hi, s) = (rd s u).bind (slMc s lo hi) := rfl
def slMa2 (u : U) (hi : SO) (ev : Ev) : Option Int × Sto → Option VS := fun q => (hi ev q.2).bind (slMb u q.1)
@[simp] theorem slMa2_ap (u : U) (hi : SO) (ev : Ev) (lo : Option Int) (s : Sto) : slMa2 u hi ev (lo, s) = (hi ev s).bind (slMb u lo) := rfl
def slMa (lo hi : SO) (ev : Ev) : VS → Option VS := fun p => (lo ev p.2).bind (slMa2 p.1 hi ev)
@[simp] theorem slMa_ap (lo hi : SO) (ev : Ev) (u : U) (s : Sto) : slMa lo hi ev (u, s) = (lo ev s).bind (slMa2 u hi ev) := rfl
@[simp] theorem cSlM_ap (a : SE) (lo hi : SO) (ev : Ev) (st : Sto) : cSlM a lo hi ev st = (a ev st).bind (slMa lo hi ev) := by
  unfold cSlM slMa slMa2 slMb
  congr
def frzb (i : Nat) (s : SS) (ev : Ev) (st : Sto) (n : Nat) : Option (Option (List PyData)) → Option Out
  | some (some xs) => s (ev.set i (some (.d (.list xs)))) (st.set n none)
  | _ => none
@[simp] theorem frzb_s (i : Nat) (s : SS) (ev : Ev) (st : Sto) (n : Nat) (xs : List PyData) : frzb i s ev st n (some (some xs)) = s (ev.set i (some (.d (.list xs)))) (st.set n none) := rfl
def frza (i : Nat) (s : SS) (ev : Ev) (st : Sto) : Option (Option U) → Option Out
  | some (some (.l n)) => frzb i s ev st n st[n]?
  | _ => none
@[simp] theorem frza_s (i : Nat) (s : SS) (ev : Ev) (st : Sto) (n : Nat) : frza i s ev st (some (some (.l n))) = frzb i s ev st n st[n]? := rfl
@[simp] theorem cFreeze_ap (i : Nat) (s : SS) (ev : Ev) (st : Sto) : cFreeze i s ev st = frza i s ev st ev[i]? := by
  unfold cFreeze
  rcases ev[i]? with _ | _ | w
  · rfl
  · rfl
  · rcases w with x | n | ns
    · rfl
    · show (freeze st n).bind _ = frzb i s ev st n st[n]?
      unfold freeze
      rcases st[n]? with _ | _ | xs <;> rfl
    · rfl
def chc (g : PyData → PyData → Option PyData) (c : SE) (ev : Ev) (q : VS) : PyData → Option VS
  | .bool true => (c ev q.2).bind (d2b g q.1)
  | .bool false => some (.d (.bool false), q.2)
  | _ => none
@[simp] theorem chc_b (g : PyData → PyData → Option PyData) (c : SE) (ev : Ev) (u : U) (s : Sto) (t : Bool) : chc g c ev (u, s) (.bool t) = if t then (c ev s).bind (d2b g u) else some (.d (.bool false), s) := by cases t <;> rfl
def chb (f g : PyData → PyData → Option PyData) (c : SE) (ev : Ev) (u : U) : VS → Option VS := fun q => ((rd q.2 u).bind (d2c f (rd q.2 q.1))).bind (chc g c ev q)
@[simp] theorem chb_ap (f g : PyData → PyData → Option PyData) (c : SE) (ev : Ev) (u v : U) (s : Sto) : chb f g c ev u (v, s) = ((rd s u).bind (d2c f (rd s v))).bind (chc g c ev (v, s)) := rfl
def cha (f g : PyData → PyData → Option PyData) (b c : SE) (ev : Ev) : VS → Option VS := fun p => (b ev p.2).bind (chb f g c ev p.1)
@[simp] theorem cha_ap (f g : PyData → PyData → Option PyData) (b c : SE) (ev : Ev) (u : U) (s : Sto) : cha f g b c ev (u, s) = (b ev s).bind (chb f g c ev u) := rfl
@[simp] theorem cChain_ap (f g : PyData → PyData → Option PyData) (a b c : SE) (ev : Ev) (st : Sto) : cChain f g a b c ev st = (a ev st).bind (cha f g b c ev) := by
  unfold cChain
  congr; funext p
  show (b ev p.2).bind _ = (b ev p.2).bind _
  congr; funext q
  unfold chb d2c
  cases rd q.2 p.1 with
  | none => rfl
  | some x =>
    cases rd q.2 q.1 with
    | none => rfl
    | some y =>
      show (f x y).bind _ = (f x y).bind _
      congr; funext z
      cases z with
      | bool t =>
        cases t with
        | false => rfl
        | true =>
          show (c ev q.2).bind _ = (c ev q.2).bind (d2b g q.1)
          congr; funext r
          unfold d2b d2c
          cases rd r.2 q.1 with
          | none => rfl
          | some x =>
            cases rd r.2 r.1 with
            | none => rfl
            | some y => exact toD_eq _ _
      | _ => rfl
theorem fIn_ints (n : Int) (ns : List Int) : fIn (.int n) (.tuple (ns.map .int)) = some (.bool (ns.contains n)) := by
  have h1 : (ns.map PyData.int).all flatD = true := by simp [flatD]
  have h2 : hasD (ns.map .int) (.int n) = ns.contains n := by
    clear h1
    induction ns with
    | nil => rfl
    | cons z zs ih =>
      have e : hasD ((z :: zs).map .int) (.int n) = ((z == n) || hasD (zs.map .int) (.int n)) := rfl
      rw [e, ih, List.contains_cons, BEq.comm]
  simp only [fIn, h1, h2, flatD, Bool.and_self, if_true]
@[simp] theorem fIs_b (a b : Bool) : fIs (.bool a) (.bool b) = some (.bool (decide (a = b))) := rfl
@[simp] theorem fIsNot_b (a b : Bool) : fIsNot (.bool a) (.bool b) = some (.bool (!decide (a = b))) := rfl
end Cm

set_option Elab.async false
set_option linter.all false
set_option maxRecDepth 100000
set_option maxHeartbeats 1000000
/-! a comprehension with two fors; tuples from behind -/
namespace Cm
open PySem PySem.Spec PyProof.Rows L2
def lcL2 (g : GT) (ct : SB) (ci1 : SI) (g1 : GT) (ct1 : SB) (ce : SE) (vs1 : List Nat) (ev : Ev) : List PyData → Sto → List PyData → Option (List PyData × Sto)
  | [], st, acc => some (acc, st)
  | x :: xs, st, acc => (g x ev).bind fun ev1 => (ct ev1 (st ++ [some acc])).bind fun p =>
    if p.1 then (ci1 ev1 p.2).bind fun q => match q.1, q.2[st.length]? with
      | .fix ys, some (some acc') => (lcL g1 ct1 ce (wipeE ev1 vs1) ys (q.2.take st.length) acc').bind fun r => lcL2 g ct ci1 g1 ct1 ce vs1 ev xs r.2 r.1
      | _, _ => none
    else match p.2[st.length]? with
      | some (some acc') => lcL2 g ct ci1 g1 ct1 ce vs1 ev xs (p.2.take st.length) acc'
      | _ => none
def lcR2 (ci : SI) (g : GT) (ct : SB) (ci1 : SI) (g1 : GT) (ct1 : SB) (ce : SE) (vs vs1 : List Nat) (ev : Ev) (st : Sto) : Option (List PyData × Sto) := (ci ev st).bind fun p => match p.1 with
  | .fix xs => lcL2 g ct ci1 g1 ct1 ce vs1 (wipeE ev vs) xs p.2 []
  | .cell _ => none
def cLc2 (ci : SI) (g : GT) (ct : SB) (ci1 : SI) (g1 : GT) (ct1 : SB) (ce : SE) (vs vs1 : List Nat) : SE := fun ev st => (lcR2 ci g ct ci1 g1 ct1 ce vs vs1 ev st).map fun p => (.d (.list p.1), p.2)
section
variable {ci ci1 : SI} {g g1 : GT} {ct ct1 : SB} {ce : SE} {vs vs1 : List Nat}
theorem lc2_ok {K : PySem.W.Frag} {σ : L2.St} {H : Hp} {Q : VK} {ρ : List Addr} {F : Hp} {ev : Ev} {st : Sto} {r : List PyData × Sto} (hr : HR ρ F H st) (sr : SR K ρ F ev σ) (e : lcR2 ci g ct ci1 g1 ct1 ce vs vs1 ev st = some r)
    (fin : ∀ D ρ' F' H', Ext ρ F ρ' F' → ρ'.length = r.2.length → HR (ρ' ++ [D]) F' H' (r.2 ++ [some r.1]) → Q (.ref D) H') : tLc2 (tIt K ci) (tG K vs g) (tT K ct) (tIt K ci1) (tG K vs1 g1) (tT K ct1) (tI K ce) vs vs1 σ H Q := by
  simp only [lcR2, Option.bind_eq_some_iff] at e
  obtain ⟨⟨src, st1⟩, e1, e2⟩ := e
  refine ⟨ρ, F, ev, st, src, st1, hr, sr, e1, fun J ρ1 F1 H1 x1 hr1 y D nD => ?_⟩
  have srw : ∀ {ρ2 : List Addr} {F2 : Hp}, Ext ρ1 F1 ρ2 F2 → SR K ρ2 F2 (wipeE ev vs) (L2.wipe σ vs) := fun x2 => (((sr.mono x1).mono x2).wipe vs)
  have hwipe : ∀ τ : L2.St, L2.wipe (L2.wipe τ vs) vs = L2.wipe τ vs := fun τ => by
    apply List.ext_getElem?
    intro j
    by_cases hj : j ∈ vs
    · by_cases hlj : j < τ.length
      · rw [wipe_in hj (by rw [wipe_length]; exact hlj), wipe_in hj hlj]
      · rw [List.getElem?_eq_none (by rw [wipe_length, wipe_length]; omega), List.getElem?_eq_none (by rw [wipe_length]; omega)]
    · rw [wipe_out hj]
  cases src with
  | cell n => cases e2
  | fix xs =>
    refine ⟨fun i m H => m = xs.length - i ∧ i ≤ xs.length ∧ ∃ ρ2 F2 st2 acc, Ext ρ1 F1 ρ2 F2 ∧ ρ2.length = st2.length ∧ HR (ρ2 ++ [D]) F2 H (st2 ++ [some acc]) ∧ lcL2 g ct ci1 g1 ct1 ce vs1 (wipeE ev vs) (xs.drop i) st2 acc = some r,
      ⟨xs.length, rfl, Nat.zero_le _, ρ1, F1, st1, [], .refl _ _, hr1.len, hr1.push nD .nil, e2⟩, ?_⟩
    rintro i m H2 ⟨rfl, hi, ρ2, F2, st2, acc, x2, hl2, hr2, e3⟩
    obtain ⟨yg, ys⟩ := y F2 H2 x2.same hr2.sub
    by_cases hlt : i < xs.length
    · rw [List.drop_eq_getElem_cons hlt] at e3
      simp only [lcL2, Option.bind_eq_some_iff] at e3
      obtain ⟨ev1, e4, p, e5, e6⟩ := e3
      obtain ⟨go, yl⟩ := yg i xs[i] (List.getElem?_eq_getElem hlt)
      refine .inr ⟨go, fun H => ∃ ρ2 F2 st2 acc, Ext ρ1 F1 ρ2 F2 ∧ ρ2.length = st2.length ∧ HR (ρ2 ++ [D]) F2 H (st2 ++ [some acc]) ∧ lcL2 g ct ci1 g1 ct1 ce vs1 (wipeE ev vs) (xs.drop (i + 1)) st2 acc = some r, fun H' w => ⟨xs.length - (i + 1), by omega, rfl, hlt, w⟩, fun v H3 yv => ?_⟩
      obtain ⟨F3, gr, d⟩ := yl v H3 yv
      have x3 : Ext ρ2 F2 ρ2 F3 := .of gr
      have hr3 := hr2.grow gr
      refine ⟨ρ2, F3, _, xs[i], ev1, hr3.sub, srw (x2.trans x3), d, e4, fun σ2 sr2 w2 => ⟨w2.trans (hwipe σ), ?_⟩⟩
      have xp : Ext ρ2 F3 (ρ2 ++ [D]) F3 := .push D
      refine ⟨ρ2 ++ [D], F3, ev1, st2 ++ [some acc], p.1, p.2, hr3, sr2.mono xp, e5, fun ρ4 F4 H4 x4 hr4 => ?_⟩
      cases hb : p.1 with
      | false =>
        rw [hb] at e6
        simp only [Bool.false_eq_true, if_false] at e6 ⊢
        split at e6
        · rename_i acc' k2
          obtain ⟨hD, us, h1, h2⟩ := HR.lcNext (acc := acc) hl2 x4 hr4 k2
          refine ⟨ρ4.take st2.length, F4, p.2.take st2.length, acc', (x2.trans x3).trans (by rw [← hl2]; exact x4.unpush), ?_, ?_, e6⟩
          · rw [length_take_of hD, length_take_of k2]
          · rw [← take_get hD, ← take_get k2]
            exact hr4.take _
        · cases e6
      | true =>
        rw [hb] at e6
        simp only [if_true, Option.bind_eq_some_iff] at e6 ⊢
        obtain ⟨⟨src1, st5⟩, e7, e8⟩ := e6
        split at e8
        · rename_i ys1 acc' k1 k2
          simp only at k1 k2
          subst k1
          obtain ⟨r1, e9, e10⟩ := Option.bind_eq_some_iff.mp e8
          refine ⟨ρ4, F4, ev1, p.2, .fix ys1, st5, hr4, (sr2.mono xp).mono x4, e7, fun J1 ρ5 F5 H5 x5 hr5 y1 => ?_⟩
          obtain ⟨hD, us, h1, h2⟩ := HR.lcNext (acc := acc) hl2 (x4.trans x5) hr5 k2
          have x5' : Ext ρ2 F3 (ρ5.take st2.length) F5 := by rw [← hl2]; exact (x4.trans x5).unpush
          refine ⟨fun j k H => k = ys1.length - j ∧ j ≤ ys1.length ∧ ∃ ρ6 F6 st6 acc6, Ext (ρ5.take st2.length) F5 ρ6 F6 ∧ ρ6.length = st6.length ∧ HR (ρ6 ++ [D]) F6 H (st6 ++ [some acc6]) ∧ lcL g1 ct1 ce (wipeE ev1 vs1) (ys1.drop j) st6 acc6 = some r1,
            ⟨ys1.length, rfl, Nat.zero_le _, ρ5.take st2.length, F5, st5.take st2.length, acc', .refl _ _, by rw [length_take_of hD, length_take_of k2], by rw [← take_get hD, ← take_get k2]; exact hr5.take _, e9⟩, ?_⟩
          rintro j k H6 ⟨rfl, hj, ρ6, F6, st6, acc6, x6, hl6, hr6, e11⟩
          obtain ⟨yg1, ys2⟩ := y1 F6 H6 x6.same hr6.sub
          by_cases hltj : j < ys1.length
          · rw [List.drop_eq_getElem_cons hltj] at e11
            simp only [lcL, Option.bind_eq_some_iff] at e11
            obtain ⟨ev2, e12, p2, e13, e14⟩ := e11
            obtain ⟨go1, yl1⟩ := yg1 j ys1[j] (List.getElem?_eq_getElem hltj)
            refine .inr ⟨go1, fun H => ∃ ρ6 F6 st6 acc6, Ext (ρ5.take st2.length) F5 ρ6 F6 ∧ ρ6.length = st6.length ∧ HR (ρ6 ++ [D]) F6 H (st6 ++ [some acc6]) ∧ lcL g1 ct1 ce (wipeE ev1 vs1) (ys1.drop (j + 1)) st6 acc6 = some r1, fun H' w => ⟨ys1.length - (j + 1), by omega, rfl, hltj, w⟩, fun v1 H7 yv1 => ?_⟩
            obtain ⟨F7, gr7, d7⟩ := yl1 v1 H7 yv1
            have x7 : Ext ρ6 F6 ρ6 F7 := .of gr7
            refine lc_turn (R := fun acc st => lcL g1 ct1 ce (wipeE ev1 vs1) (ys1.drop (j + 1)) st acc = some r1) hl6 (hr6.grow gr7) ((sr2.mono ((x5'.trans x6).trans x7)).wipe vs1) d7 e12 e13 ?_ fun ρ8 F8 H8 st8 acc8 x8 hl8 hr8 e15 => ⟨ρ8, F8, st8, acc8, (x6.trans x7).trans x8, hl8, hr8, e15⟩
            split at e14
            · rename_i hp
              rw [if_pos hp]
              simp only [Option.bind_eq_some_iff] at e14
              obtain ⟨q, e16, e17⟩ := e14
              split at e17
              · rename_i y2 acc9 k3 k4
                split at e17
                · rename_i hlm
                  exact ⟨q, y2, acc9, e16, k3, k4, hlm, e17⟩
                · cases e17
              · cases e17
            · rename_i hp
              rw [if_neg hp]
              split at e14
              · rename_i acc9 k4
                exact ⟨acc9, k4, e14⟩
              · cases e14
          · have hx : j = ys1.length := by omega
            subst hx
            rw [List.drop_length] at e11
            cases e11
            exact .inl ⟨ys2, ρ6, F6, st6, acc6, (x2.trans x3).trans (x5'.trans x6), hl6, hr6, e10⟩
        · cases e8
    · have hx : i = xs.length := by omega
      subst hx
      rw [List.drop_length] at e3
      cases e3
      exact .inl ⟨ys, fin D ρ2 F2 H2 (x1.trans x2) hl2 hr2⟩
theorem lc2D_ok {K : PySem.W.Frag} {σ : L2.St} {H : Hp} {Q : VK} (h : tI K (cLc2 ci g ct ci1 g1 ct1 ce vs vs1) σ H Q) : tLc2 (tIt K ci) (tG K vs g) (tT K ct) (tIt K ci1) (tG K vs1 g1) (tT K ct1) (tI K ce) vs vs1 σ H Q := by
  obtain ⟨ρ, F, ev, st, w, st', hr, sr, e, post⟩ := h
  simp only [cLc2, Option.map_eq_some_iff] at e
  obtain ⟨⟨xs, st1⟩, e1, e2⟩ := e
  cases e2
  refine lc2_ok hr sr e1 fun D ρ' F' H' x hl hr' => ?_
  replace hl : ρ'.length = st1.length := hl
  have e3 : (st1 ++ [some xs])[st1.length]? = some (some xs) := by simp
  obtain ⟨a, vs, h1, h2, h3, h4, h5⟩ := hr'.freeze e3
  have ha : a = D := by
    rw [List.getElem?_append_right (by omega), hl] at h1
    simpa using h1.symm
  subst ha
  have t := h5.take st1.length
  have e4 : (ρ' ++ [a]).take st1.length = ρ' := by rw [List.take_append_of_le_length (by omega), List.take_of_length_le (by omega)]
  have e5 : ((st1 ++ [some xs]).set st1.length none).take st1.length = st1 := by
    rw [List.take_set_of_le (Nat.le_refl _), List.take_append_of_le_length (Nat.le_refl _), List.take_length]
  rw [e4, e5] at t
  exact post _ ρ' _ H' (x.trans (.upd h2)) t (.lst upd_same (h4.mono (same_upd h2)))
end
theorem se_lc2 {X : Cx} {elt tg iter tg1 iter1 : Expr} {ifs ifs1 : List Expr} {scope : Scope} {own : List (Str × Nat)} {pos : Pos} {ci ci1 : SI} {g g1 : GT} {ct ct1 : SB} {ce : SE} {vs1 : List Nat} (hc : X.calm = true) (hN : X.N.Nodup) (hi : PI X tg iter (tIt X.K ci)) (ok : BlkOk X.N X.env.scope scope own) (hv : ∀ i ∈ vs1, i ∈ own.map (·.2))
    (hg : ∀ (s : Shared) (H : Hp) (C : Addr) (cl : List (Str × Addr)) (fp : List Addr), PG (X.blk s H scope (compEnvC scope cl C X.env) fp) tg (tG X.K (own.map (·.2)) g)) (ht : ∀ (s : Shared) (H : Hp) (C : Addr) (cl : List (Str × Addr)) (fp : List Addr), PTs (X.blk s H scope (compEnvC scope cl C X.env) fp) ifs (tT X.K ct))
    (hi1 : ∀ (s : Shared) (H : Hp) (C : Addr) (cl : List (Str × Addr)) (fp : List Addr), PI (X.blk s H scope (compEnvC scope cl C X.env) fp) tg1 iter1 (tIt X.K ci1))
    (hg1 : ∀ (s : Shared) (H : Hp) (C : Addr) (cl : List (Str × Addr)) (fp : List Addr), PG (X.blk s H scope (compEnvC scope cl C X.env) fp) tg1 (tG X.K vs1 g1)) (ht1 : ∀ (s : Shared) (H : Hp) (C : Addr) (cl : List (Str × Addr)) (fp : List Addr), PTs (X.blk s H scope (compEnvC scope cl C X.env) fp) ifs1 (tT X.K ct1))
    (he : ∀ (s : Shared) (H : Hp) (C : Addr) (cl : List (Str × Addr)) (fp : List Addr), PE (X.blk s H scope (compEnvC scope cl C X.env) fp) elt (tI X.K ce)) (hs : ∀ x, foldedSetIterable iter X.env x = pure x := by exact fun _ => rfl) (hs1 : ∀ env x, foldedSetIterable iter1 env x = pure x := by exact fun _ _ => rfl) :
    PE X (.ListComp elt [⟨tg, iter, ifs, 0⟩, ⟨tg1, iter1, ifs1, 0⟩] scope pos) (tI X.K (cLc2 ci g ct ci1 g1 ct1 ce (own.map (·.2)) vs1)) := (pe_lc2 hc hN hi ok hv hg ht hi1 hg1 ht1 he hs hs1).weak fun _ _ _ h => lc2D_ok h
def lc2a (g : GT) (ct : SB) (ci1 : SI) (g1 : GT) (ct1 : SB) (ce : SE) (vs1 : List Nat) (ev : Ev) : Src × Sto → Option (List PyData × Sto)
  | (.fix xs, s) => lcL2 g ct ci1 g1 ct1 ce vs1 ev xs s []
  | _ => none
@[simp] theorem lc2a_f (g : GT) (ct : SB) (ci1 : SI) (g1 : GT) (ct1 : SB) (ce : SE) (vs1 : List Nat) (ev : Ev) (xs : List PyData) (s : Sto) : lc2a g ct ci1 g1 ct1 ce vs1 ev (.fix xs, s) = lcL2 g ct ci1 g1 ct1 ce vs1 ev xs s [] := rfl
@[simp] theorem cLc2_ap (ci : SI) (g : GT) (ct : SB) (ci1 : SI) (g1 : GT) (ct1 : SB) (ce : SE) (vs vs1 : List Nat) (ev : Ev) (st : Sto) : cLc2 ci g ct ci1 g1 ct1 ce vs vs1 ev st = ((ci ev st).bind (lc2a g ct ci1 g1 ct1 ce vs1 (wipeE ev vs))).map lcb := by
  unfold cLc2 lcR2
  congr
  funext p
  obtain ⟨q, s⟩ := p
  cases q <;> rfl
theorem lcL2_pure {g : GT} {ci1 : SI} {g1 : GT} {ct1 : SB} {ce : SE} {vs1 : List Nat} {ev : Ev} (f : PyData → List PyData) (st : Sto) :
    ∀ (xs : List PyData) (acc : List PyData), (∀ x ∈ xs, ∀ acc : List PyData, ∃ ev1 ys, g x ev = some ev1 ∧ ci1 ev1 (ex st [some acc]) = some (.fix ys, ex st [some acc]) ∧ (acc.length + (f x).length ≤ lim → lcL g1 ct1 ce (wipeE ev1 vs1) ys st acc = some (acc ++ f x, st))) →
    acc.length + (xs.flatMap f).length ≤ lim → lcL2 g bYes ci1 g1 ct1 ce vs1 ev xs st acc = some (acc ++ xs.flatMap f, st)
  | [], acc, _, _ => by simp [lcL2]
  | x :: xs, acc, h, hl => by
    obtain ⟨ev1, ys, e1, e2, e3⟩ := h x List.mem_cons_self acc
    have e2' : ci1 ev1 (st ++ [some acc]) = some (.fix ys, ex st [some acc]) := e2
    have g1 : (ex st [some acc])[st.length]? = some (some acc) := by rw [ex_get0]; rfl
    have g2 : (ex st [some acc]).take st.length = st := by simp
    rw [List.flatMap_cons, List.length_append] at hl
    have ih := lcL2_pure f st xs (acc ++ f x) (fun y hy => h y (List.mem_cons_of_mem _ hy)) (by rw [List.length_append]; omega)
    have e3' := e3 (by omega)
    simp only [lcL2, e1, bYes, e2', g1, g2, e3', ih, Option.bind_some, if_true]
    rw [List.flatMap_cons, List.append_assoc]
end Cm

set_option Elab.async false
set_option linter.all false
set_option maxHeartbeats 1000000
/-! a tuple from behind -/
namespace Cm
open PySem PySem.Spec PyProof.Rows L2
theorem back_places (n : Nat) : Builtin.Slice.slicePlaces ((n : Int) - 1) (-1) (-1) = n := by
  simp [Builtin.Slice.slicePlaces]; omega
section
variable {P : Program} {wd : World} {R : Around} {Er : Value → Shared → Prop} {h : Shared}
/-- where a slice with the step -1 and no ends goes -/
theorem back_applied {c : Addr} {x y z : Value} {n : Nat} {K : Int × Int × Nat → Shared → Prop} (is : h.heap.IsSliceOf c x y z) (ex : IsPart x none) (ey : IsPart y none) (ez : IsPart z (some (-1)))
    (go : K ((n : Int) - 1, -1, n) h) : wpAny (model P wd) R (Builtin.Slice.sliceApplied (.ref c) (pure (n : Int))) K Er h := by
  have ⟨ob, at_, _, fields⟩ := is
  simp only [Builtin.Slice.sliceApplied, Builtin.Slice.sliceFields]
  apply wpAny_bind
  have three : wpAny (model P wd) R (do let a ← field (.ref c) 0; let b ← field (.ref c) 1; let d ← field (.ref c) 2; pure (a, b, d)) (fun r s' => r = (x, y, z) ∧ s' = h) Er h := by
    apply wpAny_bind; apply wpAny_field at_ fields (x := x) rfl
    apply wpAny_bind; apply wpAny_field at_ fields (x := y) rfl
    apply wpAny_bind; apply wpAny_field at_ fields (x := z) rfl
    exact wpAny_pure ⟨rfl, rfl⟩
  refine wpAny_mono three (fun r s' ⟨e1, e2⟩ => ?_) (fun _ _ q => q)
  subst e1 e2
  apply wpAny_bind; apply HT.slicePart_ ez
  apply wpAny_bind; apply HT.slicePart_ ex
  apply wpAny_bind; apply HT.slicePart_ ey
  have adj : Builtin.Slice.sliceAdjust none none (-1) (n : Int) = ((n : Int) - 1, -1) := by simp [Builtin.Slice.sliceAdjust]
  apply wpAny_bind; apply wpAny_pure
  simp only [Option.getD_some, adj, back_places]
  exact wpAny_pure go
/-- the items that such a slice picks -/
theorem back_pick (xs : Array Value) : (List.range xs.size).filterMap (fun (k : Nat) => xs[((xs.size : Int) - 1 + (k : Int) * -1).toNat]?) = xs.toList.reverse := by
  have step : ∀ m : Nat, m ≤ xs.size → (List.range m).filterMap (fun (k : Nat) => xs[((xs.size : Int) - 1 + (k : Int) * -1).toNat]?) = xs.toList.reverse.take m := by
    intro m
    induction m with
    | zero => intro _; simp
    | succ m ih =>
      intro hm
      have at1 : ((xs.size : Int) - 1 + (m : Int) * -1).toNat = xs.size - 1 - m := by omega
      have lt1 : xs.size - 1 - m < xs.size := by omega
      have lt2 : m < xs.toList.reverse.length := by simp; omega
      have one : xs[((xs.size : Int) - 1 + (m : Int) * -1).toNat]? = some xs[xs.size - 1 - m] := by rw [at1]; exact Array.getElem?_eq_getElem lt1
      have last : xs.toList.reverse[m] = xs[xs.size - 1 - m] := by simp [List.getElem_reverse]
      rw [List.range_succ, List.filterMap_append, ih (by omega), List.take_succ_eq_append_getElem lt2, last]
      simp only [List.filterMap_cons, one, List.filterMap_nil]
  have all := step xs.size (Nat.le_refl _)
  rwa [List.take_of_length_le (by simp)] at all
/-- t[::-1] of a tuple is a new tuple -/
theorem back_item {t c : Addr} {its : Array Value} {x y z : Value} {K : Value → Shared → Prop} (tup : IsTup h.heap t its) (is : h.heap.IsSliceOf c x y z) (ex : IsPart x none) (ey : IsPart y none) (ez : IsPart z (some (-1))) (room : its.size ≤ sizeLine)
    (go : K (.ref h.heap.objs.size) { h with heap := h.heap.push { cls := .type "tuple", data := .seq its.toList.reverse.toArray } }) : wpAny (model P wd) R (getItem (.ref t) (.ref c)) K Er h := by
  have fits : sizeOk (.seq its.toList.reverse.toArray) := by
    show its.toList.reverse.toArray.size ≤ sizeLine
    simpa using room
  have slice : h.TypeIs (.ref c) "slice" := let ⟨ob, e, k, _⟩ := is; ⟨ob, e, k⟩
  simp only [getItem]
  try with_reducible apply wpAny_holding
  first | (apply wpAny_bind; apply wpAny_pure) | skip
  apply wpAny_bind; apply wpAny_sequenceKey tup.typeIs (by decide)
  apply wpAny_bind
  apply wpAny_callSpecial?_slot (name := Str.ofString "__getitem__") tup.typeIs PyProof.Rows.slot_tuple_getitem
  apply wpAny_call_entry PyProof.Rows.slot_tuple_getitem tup.typeIs entry_tuple_getitem _ (args_tuple_getitem _ _)
  show wpAny (model P wd) _ (do let xs ← Builtin.Tuple.tupleItemsOf (.ref t); _) _ _ h
  apply wpAny_bind; apply tupleItemsOf_ tup
  apply wpAny_bind; apply wpAny_typeOf slice
  rw [if_pos (by decide)]
  apply wpAny_bind; apply back_applied is ex ey ez
  have other : (((its.size : Int) - 1 == 0) && ((-1 : Int) == 1) && (its.size == its.size)) = false := by
    have : ((-1 : Int) == 1) = false := by decide
    simp [this]
  simp only [other, Bool.false_eq_true, if_false, back_pick]
  have made : wpAny (model P wd) R.in1 (Builtin.Tuple.tupleExact its.toList.reverse.toArray) (fun v g => v = .ref h.heap.objs.size ∧ g = { h with heap := h.heap.push { cls := .type "tuple", data := .seq its.toList.reverse.toArray } }) Er h :=
    wpAny_newObj_type ⟨rfl, rfl⟩ fits
  apply wpAny_bind
  refine wpAny_mono made (fun v g both => ?_) (fun _ _ q => q)
  rw [both.1, both.2]
  exact wpAny_pure ⟨_, rfl, wpAny_pure go⟩
end
/-- what t[::-1] asks of its tuple -/
def askBack (K : PySem.W.Frag) (te : TE) : TE := fun σ H Q => te σ H fun x G => ∃ (a : Addr) (xs : List V), x = .ref a ∧ SqT K G a xs ∧ ∀ p, G p = none → Q (.ref p) (upd G p (.tup xs.reverse))
theorem pe_back {X : Cx} {e : Expr} {te : TE} {k : Nat} {p1 p2 p3 pos : Pos} (run_e : PE X e te) : PE X (.Subscript e (.Slice none none (some (.UnaryOp .USub (.Constant (.int 1) k p1) p2)) p3) pos) (askBack X.K te) := by
  constructor
  intro pins s σ H Q inv asked
  apply Subscript_
  refine thn (run_e.run pins s σ H _ inv asked) ?_
  rintro _ s1 ⟨_, H1, inv1, rel, a, xs, rfl, seq, fin⟩
  cases rel
  apply wpAny_Slice
  refine thn (po_none.run pins s1 σ H1 (fun o G => o = none ∧ G = H1) inv1 ⟨rfl, rfl⟩) ?_
  rintro x s2 ⟨_, _, inv2, ex, rfl, rfl⟩
  refine thn (po_none.run pins s2 σ _ (fun o G => o = none ∧ G = _) inv2 ⟨rfl, rfl⟩) ?_
  rintro y s3 ⟨_, _, inv3, ey, rfl, rfl⟩
  have minus : PO X (some (.UnaryOp .USub (.Constant (.int 1) k p1) p2)) (tPart (tUn (rU fun i => .int (-i)) (tC (.int 1)))) := po_some (pe_un un_neg pe_int)
  refine thn (minus.run pins s3 σ _ (fun o G => o = some (-1) ∧ G = _) inv3 ⟨1, rfl, -1, rfl, rfl, rfl⟩) ?_
  rintro z s4 ⟨_, G, inv4, ez, rfl, rfl⟩
  have grown : Inv X pins σ G { s4 with heap := s4.heap.push { cls := .type "slice", data := .fields #[x, y, z] } } := inv4.kept (t' := s4.toks) (fun _ _ old => Heap.get?_push_of_some _ old)
  obtain ⟨its, vals, tup, room⟩ := grown.tuple seq
  have many := vals.length
  refine tail_any (ops := [.ref a, .ref s4.heap.objs.size]) tup.typeIs PyProof.Rows.slot_tuple_getitem.lookup ?_ (by with_unfolding_all rfl)
  apply back_item tup (Heap.IsSliceOf.new _ x y z) ex ey ez (by simp; omega)
  refine ⟨V.ref _, _, grown.laid (t' := s4.toks) (o := .tup xs.reverse) (fun _ _ old => Heap.get?_push_of_some _ old) (Nat.le_refl _) ?_, rfl, fin _ (grown.hok.fresh (Nat.le_refl _))⟩
  refine ⟨?_, _, vals.reverse, ⟨_, Heap.get?_push_size _ rfl, rfl, _, rfl⟩⟩
  show xs.reverse.length ≤ sizeLine
  simp
  omega
def fRevA : PyData → Option PyData
  | .list xs => some (.list xs.reverse)
  | .tuple xs => some (.tuple xs.reverse)
  | _ => none
@[simp] theorem fRevA_l (xs : List PyData) : fRevA (.list xs) = some (.list xs.reverse) := rfl
@[simp] theorem fRevA_t (xs : List PyData) : fRevA (.tuple xs) = some (.tuple xs.reverse) := rfl
/-- x[::-1], of a list by se_rev, of a tuple by pe_back -/
theorem se_revA {X : Cx} {e : Expr} {c : SE} {k : Nat} {p1 p2 p3 pos : Pos} (he : PE X e (tI X.K c)) : PE X (.Subscript e (.Slice none none (some (.UnaryOp .USub (.Constant (.int 1) k p1) p2)) p3) pos) (tI X.K (cD1 fRevA c)) := by
  have onList := se_rev (pos := pos) (k := k) (p1 := p1) (p2 := p2) (p3 := p3) he
  have onTup := pe_back (pos := pos) (k := k) (p1 := p1) (p2 := p2) (p3 := p3) he
  refine ⟨fun pins s σ H Q inv asked => ?_⟩
  obtain ⟨ρ, F, ev, st, w, st', hr, sr, eq, post⟩ := asked
  simp only [cD1, Option.bind_eq_some_iff, Option.map_eq_some_iff] at eq
  obtain ⟨⟨u, st1⟩, eu, d, ed, z, ez, last⟩ := eq
  cases d with
  | list xs =>
    refine onList.run pins s σ H Q inv ⟨ρ, F, ev, st, w, st', hr, sr, ?_, post⟩
    simp only [cD1, Option.bind_eq_some_iff, Option.map_eq_some_iff]
    exact ⟨⟨u, st1⟩, eu, .list xs, ed, z, ez, last⟩
  | tuple xs =>
    cases ez
    cases last
    refine onTup.run pins s σ H Q inv ⟨ρ, F, ev, st, u, st1, hr, sr, eu, fun v ρ1 F1 H1 grow hr1 wr => ?_⟩
    obtain ⟨a, vs, rfl, at_, _, items⟩ := (rd_ok (K := X.K) hr1 wr ed).tup hr1.sub
    exact ⟨a, vs, rfl, SqT.of at_, fun p free => (post.grow grow hr1).tup hr1.sub items.reverse p free⟩
  | _ => cases ez
end Cm

set_option Elab.async false
set_option linter.all false
set_option maxRecDepth 100000
set_option maxHeartbeats 4000000
namespace My
open PySem PySem.Spec PyProof.Rows L2 Cm
/- slots of _law_box: 0 _law_script, 1 _law_k, 2 _law_cell -/
def b__law_box : SS :=
  (cSeq (cSet 2 (cIf (cB (cD2 fLt (cVar 1) (cCall fLen (cCons (cVar 0) cNil)))) (cD2 fIx (cVar 0) (cVar 1)) (cD (.int 0))))
  (cRet (cLstM (cCons (cD2s fMul (cCall fAbs (cCons (cVar 2) cNil)) (cCall fInt (cCons (cD2 fGe (cCall fAbs (cCons (cVar 2) cNil)) (cD2 fPow (cD (.int 10)) (cD (.int 18)))) cNil))) (cCons (cD2s fAdd (cD2s fAdd (cD2 fMod (cCall fInt (cCons (cVar 2) cNil)) (cD (.int 2305843009213693951))) (cD2s fMul (cD (.int 39373)) (cVar 1))) (cD (.int 967))) (cCons (cD (.int 0)) cNil))))))
def f__law_box : FS := defSO 3 b__law_box
/- slots of _law_with: 0 _law_found, 1 _law_number_so, 2 _law_own -/
def b__law_with : SS :=
  (cRet (cCall fTuple (cCons (cD2s fAdd (cD2s fAdd (cLc (iSeq (cVar 0)) (gN 2) (cB (cD2 fGt (cVar 2) (cVar 1))) (cVar 2) [2]) (cLst (cCons (cVar 1) cNil))) (cLc (iSeq (cVar 0)) (gN 2) (cB (cD2 fLt (cVar 2) (cVar 1))) (cVar 2) [2])) cNil)))
def f__law_with : FS := defS 3 b__law_with
/- slots of is_lone: 0 row, 1 least, 2 limit -/
def b_is_lone : SS :=
  (cRet (cCall fAny (cCons (cLc (iSeq (cVar 0)) (gN 2) bYes (cD2 fLt (cVar 2) (cD2s fMul (cD (.int 2)) (cVar 1))) [2]) cNil)))
def f_is_lone : FS := defS 3 b_is_lone
/- slots of joined_blocks: 0 blocks, 1 least, 2 found, 3 low, 4 high -/
def b_joined_blocks : SS :=
  (cSeq (cSet 2 (cLstM cNil))
  (cSeq (cFor (iSeq (cVar 0)) (gT (gsCons (gN 3) (gsCons (gN 4) gsNil))) (cIfS (bAnd (cB (cD2 fGt (cCall fLen (cCons (cVar 2) cNil)) (cD (.int 0)))) (cB (cD2 fLe (cD2 fSub (cVar 3) (cD2 fIx (cD2 fIx (cVar 2) (cD1 fNeg (cD (.int 1)))) (cD (.int 1)))) (cVar 1)))) (cSetIx (cVar 2) (cD1 fNeg (cD (.int 1))) (cTup (cCons (cD2 fIx (cD2 fIx (cVar 2) (cD1 fNeg (cD (.int 1)))) (cD (.int 0))) (cCons (cVar 4) cNil)))) (cExpr (cM mAppend (cVar 2) (cCons (cTup (cCons (cVar 3) (cCons (cVar 4) cNil))) cNil)))))
  (cRet (cCall fTuple (cCons (cVar 2) cNil)))))
def f_joined_blocks : FS := defS 5 b_joined_blocks
/- slots of records: 0 row, 1 found, 2 limit -/
def b_records : SS :=
  (cSeq (cSet 1 (cLstM cNil))
  (cSeq (cFor (iSeq (cVar 0)) (gN 2) (cIfS (bOr (cB (cD2 fEq (cCall fLen (cCons (cVar 1) cNil)) (cD (.int 0)))) (cB (cD2 fLt (cVar 2) (cD2 fIx (cVar 1) (cD1 fNeg (cD (.int 1))))))) (cExpr (cM mAppend (cVar 1) (cCons (cVar 2) cNil))) cSkip))
  (cRet (cCall fTuple (cCons (cVar 1) cNil)))))
def f_records : FS := defS 3 b_records
/- slots of filling: 0 row, 1 least, 2 limit -/
def b_filling : SS :=
  (cSeq (cIfS (cTr (cDef 2 f_is_lone (cCons (cVar 0) (cCons (cVar 1) cNil)))) (cRet (cD .none)) cSkip)
  (cRet (cDef 2 f_joined_blocks (cCons (cLc (iSeq (cCall fSorted (cCons (cDef 1 f_records (cCons (cVar 0) cNil)) cNil))) (gN 2) bYes (cTup (cCons (cVar 2) (cCons (cVar 2) cNil))) [2]) (cCons (cVar 1) cNil)))))
def f_filling : FS := defS 3 b_filling
/- slots of alike: 0 row, 1 other, 2 least -/
def b_alike : SS :=
  (cRet (cD2 fEq (cDef 2 f_filling (cCons (cVar 0) (cCons (cVar 2) cNil))) (cDef 2 f_filling (cCons (cVar 1) (cCons (cVar 2) cNil)))))
def f_alike : FS := defS 3 b_alike
/- slots of tupled: 0 thing, 1 part -/
def b_tupled (g : FS) : SS :=
  (cRet (cIf (cTr (cIsi ["list", "tuple"] (cVar 0))) (cCall fTuple (cCons (cLc (iSeq (cVar 0)) (gN 1) bYes (cDef 1 g (cCons (cVar 1) cNil)) [1]) cNil)) (cVar 0)))
def f_tupled : Nat → FS
  | 0 => fNo
  | d + 1 => defS 2 (b_tupled (f_tupled d))
/- slots of blocks_of: 0 blocks -/
def b_blocks_of : SS :=
  (cRet (cIf (cB (cD2 fIs (cVar 0) (cD .none))) (cTup cNil) (cDef 1 (f_tupled 16) (cCons (cVar 0) cNil))))
def f_blocks_of : FS := defS 1 b_blocks_of
/- slots of many_numbers: 0 blocks, 1 low, 2 high -/
def b_many_numbers : SS :=
  (cRet (cCall fSum (cCons (cLc (iSeq (cDef 1 f_blocks_of (cCons (cVar 0) cNil))) (gT (gsCons (gN 1) (gsCons (gN 2) gsNil))) bYes (cD2s fAdd (cD2 fSub (cVar 2) (cVar 1)) (cD (.int 1))) [1, 2]) cNil)))
def f_many_numbers : FS := defS 3 b_many_numbers
/- slots of _law_by_hand_right: 0 _law_number_so, 1 _law_whole_so, 2 _law_row_so, 3 _law_said -/
def b__law_by_hand_right : SS :=
  (cSeq (cParN [2, 3] (cCons (cTup (cCons (cD (.int 100)) (cCons (cD (.int 93)) (cCons (cD (.int 88)) (cCons (cD (.int 80)) cNil))))) (cCons (cLstM cNil) cNil)))
  (cSeq (cFor (iSeq (cTup (cCons (cD (.int 79)) (cCons (cD (.int 80)) (cCons (cD (.int 85)) (cCons (cD (.int 99)) (cCons (cD (.int 100)) (cCons (cD (.int 101)) (cCons (cD (.int 110)) (cCons (cD (.int 70)) (cCons (cD (.int 20)) cNil))))))))))) (gN 0) (cExpr (cM mAppend (cVar 3) (cCons (cDef 3 f_alike (cCons (cDef 2 f__law_with (cCons (cVar 2) (cCons (cVar 0) cNil))) (cCons (cVar 2) (cCons (cD (.int 10)) cNil)))) cNil))))
  (cSeq (cIfS (cB (cD2 fNe (cVar 3) (cLst (cCons (cD (.bool false)) (cCons (cD (.bool true)) (cCons (cD (.bool true)) (cCons (cD (.bool true)) (cCons (cD (.bool true)) (cCons (cD (.bool false)) (cCons (cD (.bool false)) (cCons (cD (.bool false)) (cCons (cD (.bool false)) cNil)))))))))))) (cRet (cD (.bool false))) cSkip)
  (cSeq (cIfS (bOr (bNot (cTr (cDef 3 f_alike (cCons (cDef 2 f__law_with (cCons (cTup (cCons (cD (.int 3)) cNil)) (cCons (cD (.int 50)) cNil))) (cCons (cTup (cCons (cD (.int 3)) cNil)) (cCons (cD (.int 2)) cNil)))))) (bOr (cTr (cDef 3 f_alike (cCons (cDef 2 f__law_with (cCons (cTup (cCons (cD (.int 50)) cNil)) (cCons (cD (.int 3)) cNil))) (cCons (cTup (cCons (cD (.int 50)) cNil)) (cCons (cD (.int 2)) cNil))))) (cTr (cDef 3 f_alike (cCons (cTup (cCons (cD (.int 7)) cNil)) (cCons (cTup cNil) (cCons (cD (.int 2)) cNil))))))) (cRet (cD (.bool false))) cSkip)
  (cSeq (cSet 1 (cTup (cCons (cD (.int 12)) (cCons (cD (.int 11)) (cCons (cD (.int 10)) (cCons (cD (.int 9)) (cCons (cD (.int 8)) (cCons (cD (.int 7)) (cCons (cD (.int 6)) (cCons (cD (.int 4)) cNil))))))))))
  (cRet (cAnd (cDef 3 f_alike (cCons (cTup (cCons (cD (.int 12)) (cCons (cD (.int 10)) (cCons (cD (.int 8)) (cCons (cD (.int 6)) (cCons (cD (.int 4)) cNil)))))) (cCons (cVar 1) (cCons (cD (.int 2)) cNil)))) (cD2 fEq (cDef 1 f_many_numbers (cCons (cDef 2 f_filling (cCons (cTup (cCons (cD (.int 12)) (cCons (cD (.int 10)) (cCons (cD (.int 8)) (cCons (cD (.int 6)) (cCons (cD (.int 4)) cNil)))))) (cCons (cD (.int 1)) cNil))) cNil)) (cD (.int 5))))))))))
def f__law_by_hand_right : FS := defS 4 b__law_by_hand_right
/- slots of _law_cells: 0 _law_script, 1 _law_most_so, 2 _law_cells_here, 3 _law_k, 4 _law_cell, 5 _law_at_so -/
def b__law_cells : SS :=
  (cSeq (cSet 2 (cOr (cListM (cCons (cSl (cVar 0) oNone (oSome (cVar 1))) cNil)) (cLstM (cCons (cD (.int 0)) cNil))))
  (cSeq (cFor (iEnum1 (cCons (cSl (cVar 0) (oSome (cVar 1)) (oSome (cD (.int 63)))) cNil)) (gT (gsCons (gN 3) (gsCons (gN 4) gsNil))) (cSeq (cSet 5 (cD2 fMod (cCall fInt (cCons (cVar 3) cNil)) (cVar 1)))
  (cSetIx (cVar 2) (cVar 5) (cD2s fAdd (cD2 fIx (cVar 2) (cVar 5)) (cD2s fMul (cVar 4) (cD2s fAdd (cVar 3) (cD (.int 2))))))))
  (cRet (cVar 2))))
def f__law_cells : FS := defS 6 b__law_cells
/- slots of _law_take: 0 _law_box_here, 1 _law_below, 2 _law_once, 3 _law_far, 4 _law_twice, 5 _law_drawn -/
def b__law_take : SS :=
  (cSeq (cIfS (cB (cD2 fGt (cD2 fIx (cVar 0) (cD (.int 0))) (cD (.int 0)))) (cSeq (cSet 5 (cD2 fMod (cCall fInt (cCons (cD2 fIx (cVar 0) (cD (.int 0))) cNil)) (cVar 1)))
  (cSeq (cSetIx (cVar 0) (cD (.int 0)) (cD2 fDiv (cD2 fIx (cVar 0) (cD (.int 0))) (cVar 1)))
  (cRet (cVar 5)))) cSkip)
  (cSeq (cSetIx (cVar 0) (cD (.int 2)) (cD2s fAdd (cD2 fIx (cVar 0) (cD (.int 2))) (cD (.int 1))))
  (cSeq (cSet 2 (cD2 fMod (cCall fInt (cCons (cD2s fMul (cD2s fAdd (cD2 fIx (cVar 0) (cD (.int 1))) (cD2s fMul (cD (.int 48271)) (cD2 fIx (cVar 0) (cD (.int 2))))) (cD2s fAdd (cD (.int 39373)) (cD2 fIx (cVar 0) (cD (.int 2))))) cNil)) (cD (.int 2147483647))))
  (cSeq (cSet 3 (cD2s fAdd (cD2 fMod (cCall fInt (cCons (cVar 2) cNil)) (cD (.int 40009))) (cD (.int 7))))
  (cSeq (cSet 4 (cD2 fMod (cCall fInt (cCons (cD2s fMul (cD2s fAdd (cD2s fAdd (cVar 2) (cD2 fIx (cVar 0) (cD (.int 2)))) (cD2 fDiv (cD2 fIx (cVar 0) (cD (.int 1))) (cD (.int 1000003)))) (cVar 3)) cNil)) (cD (.int 2147483629))))
  (cRet (cD2 fMod (cCall fInt (cCons (cD2 fDiv (cD2 fMod (cCall fInt (cCons (cD2s fAdd (cD2s fMul (cVar 4) (cD (.int 48271))) (cVar 2)) cNil)) (cD (.int 2147483587))) (cD (.int 64))) cNil)) (cVar 1))))))))
def f__law_take : FS := defS 6 b__law_take
/- slots of _law_of: 0 _law_box_here, 1 _law_some_here -/
def b__law_of : SS :=
  (cRet (cD2 fIx (cVar 1) (cDef 2 f__law_take (cCons (cVar 0) (cCons (cCall fLen (cCons (cVar 1) cNil)) cNil)))))
def f__law_of : FS := defS 2 b__law_of
/- slots of _law_least: 0 _law_box_here -/
def b__law_least : SS :=
  (cRet (cDef 2 f__law_of (cCons (cVar 0) (cCons (cLst (cCons (cD (.int 1)) (cCons (cD (.int 1)) (cCons (cD (.int 2)) (cCons (cD (.int 3)) (cCons (cD2s fAdd (cD (.int 4)) (cDef 2 f__law_take (cCons (cVar 0) (cCons (cD (.int 9)) cNil)))) (cCons (cD2s fAdd (cD (.int 1)) (cDef 2 f__law_take (cCons (cVar 0) (cCons (cD2 fPow (cD (.int 10)) (cD (.int 30))) cNil)))) cNil))))))) cNil))))
def f__law_least : FS := defS 1 b__law_least
/- slots of _law_batch: 0 _law_box_here, 1 _law_least_so, 2 _law_at_most, 3 _law_found, 4 _law_turn, 5 _law_more -/
def b__law_batch : SS :=
  (cSeq (cSet 3 (cLstM cNil))
  (cSeq (cFor (iRange1 (cCons (cD2s fAdd (cD (.int 1)) (cDef 2 f__law_take (cCons (cVar 0) (cCons (cVar 2) cNil)))) cNil)) (gN 4) (cSeq (cSet 5 (cDef 2 f__law_of (cCons (cVar 0) (cCons (cLst (cCons (cD (.int 0)) (cCons (cD (.int 0)) (cCons (cD (.int 1)) (cCons (cDef 2 f__law_take (cCons (cVar 0) (cCons (cD2s fAdd (cVar 1) (cD (.int 1))) cNil))) (cCons (cDef 2 f__law_take (cCons (cVar 0) (cCons (cD2s fAdd (cD2s fMul (cD (.int 6)) (cVar 1)) (cD (.int 2))) cNil))) cNil)))))) cNil))))
  (cExpr (cM mAppend (cVar 3) (cCons (cD2s fAdd (cVar 1) (cVar 5)) cNil)))))
  (cRet (cCall fTuple (cCons (cVar 3) cNil)))))
def f__law_batch : FS := defS 6 b__law_batch
/- slots of _law_same: 0 _law_got, 1 _law_due, 2 _law_mine, 3 _law_its -/
def b__law_same (g : FS) : SS :=
  (cSeq (cIfS (cTr (cIsi ["list", "tuple"] (cVar 1))) (cSeq (cIfS (bOr (cB (cD2 fNe (cIsi ["list"] (cVar 0)) (cIsi ["list"] (cVar 1)))) (cB (cD2 fNe (cIsi ["tuple"] (cVar 0)) (cIsi ["tuple"] (cVar 1))))) (cRet (cD (.bool false))) cSkip)
  (cRet (cAnd (cD2 fEq (cCall fLen (cCons (cVar 0) cNil)) (cCall fLen (cCons (cVar 1) cNil))) (cCall fAll (cCons (cLc (iZip2 (cCons (cVar 0) (cCons (cVar 1) cNil))) (gT (gsCons (gN 2) (gsCons (gN 3) gsNil))) bYes (cDef 2 g (cCons (cVar 2) (cCons (cVar 3) cNil))) [2, 3]) cNil))))) cSkip)
  (cSeq (cIfS (bOr (cB (cD2 fIs (cVar 1) (cD .none))) (cTr (cIsi ["bool", "str"] (cVar 1)))) (cRet (cAnd (cD2 fEq (cVar 0) (cVar 1)) (cAnd (cD2 fEq (cIsi ["bool"] (cVar 0)) (cIsi ["bool"] (cVar 1))) (cD2 fEq (cD2 fIs (cVar 0) (cD .none)) (cD2 fIs (cVar 1) (cD .none)))))) cSkip)
  (cRet (cAnd (cIsi ["int"] (cVar 0)) (cAnd (cNot (cIsi ["bool"] (cVar 0))) (cD2 fEq (cVar 0) (cVar 1)))))))
def f__law_same : Nat → FS
  | 0 => fNo
  | d + 1 => defS 4 (b__law_same (f__law_same d))
/- slots of behind: 0 first, 1 second, 2 least, 3 bottom, 4 lower, 5 ahead, 6 later, 7 low, 8 high -/
def b_behind : SS :=
  (cSeq (cIfS (bOr (cB (cD2 fIs (cVar 0) (cD .none))) (cB (cD2 fIs (cVar 1) (cD .none)))) (cRet (cD .none)) cSkip)
  (cSeq (cParN [5, 6] (cCons (cDef 1 (f_tupled 16) (cCons (cVar 0) cNil)) (cCons (cDef 1 (f_tupled 16) (cCons (cVar 1) cNil)) cNil)))
  (cSeq (cIfS (cB (cD2 fEq (cCall fLen (cCons (cVar 5) cNil)) (cD (.int 0)))) (cRet (cVar 6)) cSkip)
  (cSeq (cSet 3 (cD2 fIx (cD2 fIx (cVar 5) (cD (.int 0))) (cD (.int 0))))
  (cSeq (cSet 4 (cLc (iSeq (cVar 6)) (gT (gsCons (gN 7) (gsCons (gN 8) gsNil))) (cB (cD2 fLt (cVar 7) (cVar 3))) (cTup (cCons (cVar 7) (cCons (cCall fMin (cCons (cVar 8) (cCons (cD2 fSub (cVar 3) (cD (.int 1))) cNil))) cNil))) [7, 8]))
  (cRet (cDef 2 f_joined_blocks (cCons (cD2s fAdd (cVar 4) (cCall fList (cCons (cVar 5) cNil))) (cCons (cVar 2) cNil)))))))))
def f_behind : FS := defS 9 b_behind
/- slots of holds: 0 blocks, 1 number, 2 low, 3 high -/
def b_holds : SS :=
  (cRet (cCall fAny (cCons (cLc (iSeq (cDef 1 f_blocks_of (cCons (cVar 0) cNil))) (gT (gsCons (gN 2) (gsCons (gN 3) gsNil))) bYes (cChain fLe fLe (cVar 2) (cVar 1) (cVar 3)) [2, 3]) cNil)))
def f_holds : FS := defS 4 b_holds
/- slots of greatest_apart: 0 mine, 1 its, 2 one, 3 other, 4 low, 5 high, 6 bottom, 7 top -/
def b_greatest_apart : SS :=
  (cSeq (cParN [2, 3] (cCons (cListM (cCons (cVar 0) cNil)) (cCons (cListM (cCons (cVar 1) cNil)) cNil)))
  (cSeq (cWhile (cB (cD2 fEq (cD2 fIx (cVar 2) (cD1 fNeg (cD (.int 1)))) (cD2 fIx (cVar 3) (cD1 fNeg (cD (.int 1)))))) (cSeq (cExpr (cM mPop (cVar 2) cNil))
  (cExpr (cM mPop (cVar 3) cNil))))
  (cSeq (cSetT (gT (gsCons (gT (gsCons (gN 4) (gsCons (gN 5) gsNil))) (gsCons (gT (gsCons (gN 6) (gsCons (gN 7) gsNil))) gsNil))) (cTup (cCons (cD2 fIx (cVar 2) (cD1 fNeg (cD (.int 1)))) (cCons (cD2 fIx (cVar 3) (cD1 fNeg (cD (.int 1)))) cNil))))
  (cRet (cIf (cB (cD2 fNe (cVar 5) (cVar 7))) (cCall fMax (cCons (cVar 5) (cCons (cVar 7) cNil))) (cD2 fSub (cCall fMax (cCons (cVar 4) (cCons (cVar 6) cNil))) (cD (.int 1))))))))
def f_greatest_apart : FS := defS 8 b_greatest_apart
/- slots of next_above: 0 blocks, 1 number, 2 found, 3 low, 4 high -/
def b_next_above : SS :=
  (cSeq (cSet 2 (cLc (iSeq (cDef 1 f_blocks_of (cCons (cVar 0) cNil))) (gT (gsCons (gN 3) (gsCons (gN 4) gsNil))) (cB (cD2 fGt (cVar 4) (cVar 1))) (cCall fMax (cCons (cVar 3) (cCons (cD2s fAdd (cVar 1) (cD (.int 1))) cNil))) [3, 4]))
  (cRet (cIf (cB (cD2 fGt (cCall fLen (cCons (cVar 2) cNil)) (cD (.int 0)))) (cD2 fIx (cVar 2) (cD (.int 0))) (cD .none))))
def f_next_above : FS := defS 5 b_next_above
/- slots of parting: 0 row, 1 other, 2 least, 3 number, 4 above, 5 total, 6 mine, 7 its -/
def b_parting : SS :=
  (cSeq (cParN [6, 7] (cCons (cDef 2 f_filling (cCons (cVar 0) (cCons (cVar 2) cNil))) (cCons (cDef 2 f_filling (cCons (cVar 1) (cCons (cVar 2) cNil))) cNil)))
  (cSeq (cIfS (cB (cD2 fEq (cVar 6) (cVar 7))) (cRet (cD .none)) cSkip)
  (cSeq (cIfS (bOr (cB (cD2 fIs (cVar 6) (cD .none))) (cB (cD2 fIs (cVar 7) (cD .none)))) (cRet (cTup (cCons (cVar 2) (cCons (cVar 2) cNil)))) cSkip)
  (cSeq (cIfS (bOr (cB (cD2 fEq (cVar 6) (cTup cNil))) (cB (cD2 fEq (cVar 7) (cTup cNil)))) (cRet (cTup (cCons (cD2 fSub (cD2s fAdd (cD2 fIx (cD2 fIx (cD2s fAdd (cVar 6) (cVar 7)) (cD (.int 0))) (cD (.int 0))) (cD (.int 1))) (cVar 2)) (cCons (cVar 2) cNil)))) cSkip)
  (cSeq (cIfS (cB (cD2 fNe (cD2 fIx (cD2 fIx (cVar 6) (cD (.int 0))) (cD (.int 0))) (cD2 fIx (cD2 fIx (cVar 7) (cD (.int 0))) (cD (.int 0))))) (cRet (cTup (cCons (cD2 fSub (cCall fMax (cCons (cD2 fIx (cD2 fIx (cVar 6) (cD (.int 0))) (cD (.int 0))) (cCons (cD2 fIx (cD2 fIx (cVar 7) (cD (.int 0))) (cD (.int 0))) cNil))) (cVar 2)) (cCons (cVar 2) cNil)))) cSkip)
  (cSeq (cSet 3 (cDef 2 f_greatest_apart (cCons (cVar 6) (cCons (cVar 7) cNil))))
  (cSeq (cSet 4 (cDef 2 f_next_above (cCons (cIf (cTr (cDef 2 f_holds (cCons (cVar 6) (cCons (cVar 3) cNil)))) (cVar 6) (cVar 7)) (cCons (cVar 3) cNil))))
  (cSeq (cSet 5 (cIf (cB (cD2 fIs (cVar 4) (cD .none))) (cVar 3) (cCall fMin (cCons (cVar 3) (cCons (cD2 fSub (cVar 4) (cVar 2)) cNil)))))
  (cRet (cTup (cCons (cD2 fSub (cVar 5) (cVar 2)) (cCons (cVar 2) (cCons (cVar 2) cNil)))))))))))))
def f_parting : FS := defS 8 b_parting
/- slots of hop_places: 0 limit, 1 batch, 2 start, 3 end, 4 place, 5 found, 6 total -/
def b_hop_places : SS :=
  (cSeq (cParN [5, 6] (cCons (cLstM cNil) (cCons (cD2 fIx (cVar 1) (cVar 2)) cNil)))
  (cSeq (cFor (iRange2 (cCons (cD2s fAdd (cVar 2) (cD (.int 1))) (cCons (cVar 3) cNil))) (gN 4) (cSeq (cIfS (cB (cD2 fGt (cD2s fAdd (cVar 6) (cD2 fIx (cVar 1) (cVar 4))) (cVar 0))) (cSeq (cExpr (cM mAppend (cVar 5) (cCons (cVar 4) cNil)))
  (cSet 6 (cD (.int 0)))) cSkip)
  (cAug 6 fAddI (cD2 fIx (cVar 1) (cVar 4)))))
  (cRet (cVar 5))))
def f_hop_places : FS := defS 7 b_hop_places
/- slots of cuts: 0 row, 1 batch, 2 items, 3 found, 4 hop, 5 limit, 6 ends, 7 start, 8 end, 9 place, 10 other -/
def b_cuts : SS :=
  (cSeq (cParN [2, 3] (cCons (cCall fTuple (cCons (cVar 1) cNil)) (cCons (cLstM cNil) cNil)))
  (cSeq (cFor (iEnum1 (cCons (cVar 0) cNil)) (gT (gsCons (gN 4) (gsCons (gN 5) gsNil))) (cSeq (cSet 6 (cCall fSorted (cCons (cLc (iSeq (cVar 3)) (gT (gsCons (gN 9) (gsCons (gN 10) gsNil))) bYes (cVar 9) [9, 10]) cNil)))
  (cFor (iZip2 (cCons (cLst (cCons (cD (.int 0)) (cStar (cVar 6) cNil))) (cCons (cLst (cStar (cVar 6) (cCons (cCall fLen (cCons (cVar 2) cNil)) cNil))) cNil))) (gT (gsCons (gN 7) (gsCons (gN 8) gsNil))) (cExpr (cM mExtend (cVar 3) (cCons (cLc (iSeq (cDef 4 f_hop_places (cCons (cVar 5) (cCons (cVar 2) (cCons (cVar 7) (cCons (cVar 8) cNil)))))) (gN 9) bYes (cTup (cCons (cVar 9) (cCons (cVar 4) cNil))) [9]) cNil))))))
  (cRet (cCall fSorted (cCons (cVar 3) cNil)))))
def f_cuts : FS := defS 11 b_cuts
/- slots of parts: 0 row, 1 batch, 2 items, 3 places, 4 start, 5 end, 6 place, 7 hop -/
def b_parts : SS :=
  (cSeq (cParN [2, 3] (cCons (cCall fTuple (cCons (cVar 1) cNil)) (cCons (cLc (iSeq (cDef 2 f_cuts (cCons (cVar 0) (cCons (cVar 1) cNil)))) (gT (gsCons (gN 6) (gsCons (gN 7) gsNil))) bYes (cVar 6) [6, 7]) cNil)))
  (cRet (cLc (iZip2 (cCons (cLst (cCons (cD (.int 0)) (cStar (cVar 3) cNil))) (cCons (cLst (cStar (cVar 3) (cCons (cCall fLen (cCons (cVar 2) cNil)) cNil))) cNil))) (gT (gsCons (gN 4) (gsCons (gN 5) gsNil))) bYes (cSl (cVar 2) (oSome (cVar 4)) (oSome (cVar 5))) [4, 5])))
def f_parts : FS := defS 8 b_parts
/- slots of _law_put_right: 0 _law_box_here, 1 _law_row_so, 2 _law_least_so, 3 _law_number_so, 4 _law_own, 5 _law_more, 6 _law_is_in, 7 _law_there, 8 _law_batch_so, 9 _law_got -/
def b__law_put_right : SS :=
  (cSeq (cSet 4 (cDef 2 f_filling (cCons (cVar 1) (cCons (cVar 2) cNil))))
  (cSeq (cSet 5 (cDef 2 f__law_with (cCons (cDef 1 f_records (cCons (cVar 1) cNil)) (cCons (cVar 3) cNil))))
  (cSeq (cSet 6 (cOr (cD2 fIs (cVar 4) (cD .none)) (cDef 2 f_holds (cCons (cVar 4) (cCons (cVar 3) cNil)))))
  (cSeq (cIfS (bNot (cTr (cDef 2 (f__law_same 16) (cCons (cDef 3 f_alike (cCons (cVar 5) (cCons (cVar 1) (cCons (cVar 2) cNil)))) (cCons (cVar 6) cNil))))) (cRet (cD (.bool false))) cSkip)
  (cSeq (cSet 7 (cDef 3 f_behind (cCons (cDef 2 f_filling (cCons (cTup (cCons (cVar 3) cNil)) (cCons (cVar 2) cNil))) (cCons (cVar 4) (cCons (cVar 2) cNil)))))
  (cSeq (cIfS (bNot (cTr (cDef 2 (f__law_same 16) (cCons (cDef 2 f_filling (cCons (cD2s fAdd (cTup (cCons (cVar 3) cNil)) (cVar 1)) (cCons (cVar 2) cNil))) (cCons (cVar 7) cNil))))) (cRet (cD (.bool false))) cSkip)
  (cSeq (cSet 8 (cDef 3 f__law_batch (cCons (cVar 0) (cCons (cVar 2) (cCons (cD (.int 8)) cNil)))))
  (cSeq (cIfS (cTr (cVar 6)) (cRet (cD2 fEq (cDef 2 f_parts (cCons (cVar 5) (cCons (cVar 8) cNil))) (cDef 2 f_parts (cCons (cVar 1) (cCons (cVar 8) cNil))))) cSkip)
  (cSeq (cSet 9 (cDef 3 f_parting (cCons (cVar 5) (cCons (cVar 1) (cCons (cVar 2) cNil)))))
  (cRet (cAnd (cD2 fNe (cCall fLen (cCons (cDef 2 f_parts (cCons (cVar 5) (cCons (cVar 9) cNil))) cNil)) (cCall fLen (cCons (cDef 2 f_parts (cCons (cVar 1) (cCons (cVar 9) cNil))) cNil))) (cD2 fGe (cCall fMin (cCons (cVar 9) cNil)) (cVar 2)))))))))))))
def f__law_put_right : FS := defS 10 b__law_put_right
/- slots of _law_row: 0 _law_box_here, 1 _law_least_so, 2 _law_at_most, 3 _law_top, 4 _law_turn, 5 _law_way_so, 6 _law_found -/
def b__law_row : SS :=
  (cSeq (cParN [5, 6] (cCons (cDef 2 f__law_take (cCons (cVar 0) (cCons (cD (.int 5)) cNil))) (cCons (cLstM cNil) cNil)))
  (cSeq (cSet 3 (cD2s fAdd (cD2s fMul (cVar 1) (cD2s fAdd (cD (.int 2)) (cDef 2 f__law_take (cCons (cVar 0) (cCons (cD (.int 12)) cNil))))) (cDef 2 f__law_take (cCons (cVar 0) (cCons (cD2s fAdd (cVar 1) (cD (.int 1))) cNil)))))
  (cSeq (cFor (iRange1 (cCons (cDef 2 f__law_take (cCons (cVar 0) (cCons (cD2s fAdd (cVar 2) (cD (.int 1))) cNil))) cNil)) (gN 4) (cIfS (cB (cD2 fEq (cVar 5) (cD (.int 0)))) (cExpr (cM mAppend (cVar 6) (cCons (cD2s fAdd (cD (.int 1)) (cDef 2 f__law_take (cCons (cVar 0) (cCons (cD2s fAdd (cD2s fMul (cD (.int 12)) (cVar 1)) (cD (.int 5))) cNil)))) cNil))) (cIfS (cB (cD2 fEq (cVar 5) (cD (.int 1)))) (cSeq (cExpr (cM mAppend (cVar 6) (cCons (cCall fMax (cCons (cD (.int 1)) (cCons (cVar 3) cNil))) cNil)))
  (cSet 3 (cD2 fSub (cD2 fSub (cVar 3) (cD (.int 1))) (cDef 2 f__law_take (cCons (cVar 0) (cCons (cD2s fAdd (cVar 1) (cD (.int 2))) cNil)))))) (cIfS (cB (cD2 fEq (cVar 5) (cD (.int 2)))) (cSeq (cExpr (cM mAppend (cVar 6) (cCons (cCall fMax (cCons (cD (.int 1)) (cCons (cVar 3) cNil))) cNil)))
  (cSet 3 (cD2 fSub (cD2 fSub (cVar 3) (cD (.int 1))) (cDef 2 f__law_take (cCons (cVar 0) (cCons (cD2s fAdd (cD2s fMul (cD (.int 2)) (cVar 1)) (cD (.int 3))) cNil)))))) (cIfS (cB (cD2 fEq (cVar 5) (cD (.int 3)))) (cExpr (cM mAppend (cVar 6) (cCons (cCall fMax (cCons (cD (.int 1)) (cCons (cD2 fSub (cVar 3) (cDef 2 f__law_take (cCons (cVar 0) (cCons (cD2s fAdd (cD2s fMul (cD (.int 3)) (cVar 1)) (cD (.int 1))) cNil)))) cNil))) cNil))) (cExpr (cM mAppend (cVar 6) (cCons (cDef 2 f__law_of (cCons (cVar 0) (cCons (cLst (cCons (cVar 3) (cCons (cCall fMax (cCons (cD (.int 1)) (cCons (cD2 fSub (cVar 3) (cVar 1)) cNil))) (cCons (cCall fMax (cCons (cD (.int 1)) (cCons (cD2 fSub (cD2 fSub (cVar 3) (cVar 1)) (cD (.int 1))) cNil))) (cCons (cD2s fMul (cD (.int 2)) (cVar 1)) cNil))))) cNil))) cNil))))))))
  (cRet (cCall fTuple (cCons (cVar 6) cNil))))))
def f__law_row : FS := defS 7 b__law_row
/- slots of _law_some: 0 _law_box_here, 1 _law_own, 2 _law_least_so, 3 _law_found, 4 _law_low, 5 _law_high -/
def b__law_some : SS :=
  (cSeq (cSet 3 (cLstM (cCons (cD2s fAdd (cD (.int 1)) (cDef 2 f__law_take (cCons (cVar 0) (cCons (cD2s fMul (cD (.int 20)) (cVar 2)) cNil)))) cNil)))
  (cSeq (cFor (iSeq (cIf (cB (cD2 fIsNot (cVar 1) (cD .none))) (cVar 1) (cTup cNil))) (gT (gsCons (gN 4) (gsCons (gN 5) gsNil))) (cSeq (cSet 3 (cAddM (cVar 3) (cLst (cCons (cVar 4) (cCons (cVar 5) (cCons (cD2s fAdd (cVar 5) (cD (.int 1))) (cCons (cCall fMax (cCons (cD (.int 1)) (cCons (cD2 fSub (cVar 4) (cD (.int 1))) cNil))) (cCons (cD2s fAdd (cVar 4) (cDef 2 f__law_take (cCons (cVar 0) (cCons (cD2s fAdd (cD2 fSub (cVar 5) (cVar 4)) (cD (.int 1))) cNil)))) cNil))))))))
  (cExpr (cM mAppend (cVar 3) (cCons (cD2s fAdd (cD2s fAdd (cVar 5) (cD (.int 1))) (cDef 2 f__law_take (cCons (cVar 0) (cCons (cD2s fAdd (cVar 2) (cD (.int 2))) cNil)))) cNil)))))
  (cRet (cVar 3))))
def f__law_some : FS := defS 6 b__law_some
/- slots of next_below: 0 blocks, 1 number, 2 found, 3 low, 4 high -/
def b_next_below : SS :=
  (cSeq (cSet 2 (cLc (iSeq (cDef 1 f_blocks_of (cCons (cVar 0) cNil))) (gT (gsCons (gN 3) (gsCons (gN 4) gsNil))) (cB (cD2 fLt (cVar 3) (cVar 1))) (cCall fMin (cCons (cVar 4) (cCons (cD2 fSub (cVar 1) (cD (.int 1))) cNil))) [3, 4]))
  (cRet (cIf (cB (cD2 fGt (cCall fLen (cCons (cVar 2) cNil)) (cD (.int 0)))) (cD2 fIx (cVar 2) (cD1 fNeg (cD (.int 1)))) (cD .none))))
def f_next_below : FS := defS 5 b_next_below
/- slots of _law_whole_right: 0 _law_box_here, 1 _law_row_so, 2 _law_least_so, 3 _law_own, 4 _law_batch_so, 5 _law_every, 6 _law_number_so, 7 _law_down, 8 _law_bit -/
def b__law_whole_right : SS :=
  (cSeq (cSet 3 (cDef 2 f_filling (cCons (cVar 1) (cCons (cVar 2) cNil))))
  (cSeq (cIfS (bOr (cB (cD2 fIs (cVar 3) (cD .none))) (bOr (cB (cD2 fEq (cVar 3) (cTup cNil))) (cB (cD2 fGt (cDef 1 f_many_numbers (cCons (cVar 3) cNil)) (cD (.int 12)))))) (cRet (cD (.bool true))) cSkip)
  (cSeq (cParN [5, 6] (cCons (cLstM cNil) (cCons (cDef 2 f_next_above (cCons (cVar 3) (cCons (cD (.int 0)) cNil))) cNil)))
  (cSeq (cWhile (bAnd (cB (cD2 fIsNot (cVar 6) (cD .none))) (cB (cD2 fLt (cCall fLen (cCons (cVar 5) cNil)) (cD (.int 13))))) (cSeq (cExpr (cM mAppend (cVar 5) (cCons (cVar 6) cNil)))
  (cSet 6 (cDef 2 f_next_above (cCons (cVar 3) (cCons (cVar 6) cNil))))))
  (cSeq (cParN [7, 6] (cCons (cLstM cNil) (cCons (cDef 2 f_next_below (cCons (cVar 3) (cCons (cD2s fAdd (cD2 fIx (cVar 5) (cD1 fNeg (cD (.int 1)))) (cD (.int 1))) cNil))) cNil)))
  (cSeq (cWhile (bAnd (cB (cD2 fIsNot (cVar 6) (cD .none))) (cB (cD2 fLt (cCall fLen (cCons (cVar 7) cNil)) (cD (.int 13))))) (cSeq (cExpr (cM mAppend (cVar 7) (cCons (cVar 6) cNil)))
  (cSet 6 (cDef 2 f_next_below (cCons (cVar 3) (cCons (cVar 6) cNil))))))
  (cFreeze 7 (cSeq (cIfS (bOr (cB (cD2 fNe (cVar 7) (cD1 fRevA (cVar 5)))) (bOr (cB (cD2 fNe (cCall fLen (cCons (cVar 5) cNil)) (cDef 1 f_many_numbers (cCons (cVar 3) cNil)))) (bNot (cTr (cCall fAll (cCons (cLc (iSeq (cVar 5)) (gN 8) bYes (cDef 2 f_holds (cCons (cVar 3) (cCons (cVar 8) cNil))) [8]) cNil)))))) (cRet (cD (.bool false))) cSkip)
  (cSeq (cSet 4 (cDef 3 f__law_batch (cCons (cVar 0) (cCons (cVar 2) (cCons (cD (.int 12)) cNil)))))
  (cSeq (cIfS (bOr (bNot (cTr (cDef 2 (f__law_same 16) (cCons (cDef 2 f_filling (cCons (cCall fTuple (cCons (cVar 7) cNil)) (cCons (cVar 2) cNil))) (cCons (cVar 3) cNil))))) (bNot (cTr (cDef 3 f_alike (cCons (cCall fTuple (cCons (cVar 7) cNil)) (cCons (cVar 1) (cCons (cVar 2) cNil))))))) (cRet (cD (.bool false))) cSkip)
  (cRet (cD2 fEq (cLc (iSeq (cDef 2 f_cuts (cCons (cVar 7) (cCons (cVar 4) cNil)))) (gN 8) bYes (cD2 fIx (cVar 8) (cD (.int 0))) [8]) (cLc (iSeq (cDef 2 f_cuts (cCons (cVar 1) (cCons (cVar 4) cNil)))) (gN 8) bYes (cD2 fIx (cVar 8) (cD (.int 0))) [8])))))))))))))
def f__law_whole_right : FS := defS 9 b__law_whole_right
/- slots of _law_right: 0 _law_box_here, 1 _law_least_so, 2 _law_row_so, 3 _law_own, 4 _law_low, 5 _law_small, 6 _law_turn, 7 _law_number_so -/
def b__law_right : SS :=
  (cSeq (cSet 1 (cDef 1 f__law_least (cCons (cVar 0) cNil)))
  (cSeq (cSet 2 (cDef 3 f__law_row (cCons (cVar 0) (cCons (cVar 1) (cCons (cD (.int 5)) cNil)))))
  (cSeq (cSet 3 (cDef 2 f_filling (cCons (cVar 2) (cCons (cVar 1) cNil))))
  (cSeq (cIfS (bNot (cTr (cCall fAll (cCons (cLc (iSeq (cDef 3 f__law_some (cCons (cVar 0) (cCons (cVar 3) (cCons (cVar 1) cNil))))) (gN 7) bYes (cDef 4 f__law_put_right (cCons (cVar 0) (cCons (cVar 2) (cCons (cVar 1) (cCons (cVar 7) cNil))))) [7]) cNil)))) (cRet (cD (.bool false))) cSkip)
  (cSeq (cSet 4 (cD2s fAdd (cD (.int 1)) (cDef 2 f__law_take (cCons (cVar 0) (cCons (cD (.int 2)) cNil)))))
  (cSeq (cSet 5 (cCall fTuple (cCons (cLc (iRange1 (cCons (cD2s fAdd (cD (.int 1)) (cDef 2 f__law_take (cCons (cVar 0) (cCons (cD (.int 4)) cNil)))) cNil)) (gN 6) bYes (cD2s fAdd (cD2s fMul (cD (.int 2)) (cVar 4)) (cDef 2 f__law_take (cCons (cVar 0) (cCons (cD (.int 14)) cNil)))) [6]) cNil)))
  (cRet (cAnd (cDef 3 f__law_whole_right (cCons (cVar 0) (cCons (cVar 2) (cCons (cVar 1) cNil)))) (cDef 3 f__law_whole_right (cCons (cVar 0) (cCons (cVar 5) (cCons (cVar 4) cNil))))))))))))
def f__law_right : FS := defS 8 b__law_right
/- slots of law: 0 _law_script, 1 _law_cells_here, 2 _law_k, 3 _law_box_here, 4 _law_turn -/
def b_law : SS :=
  (cSeq (cIfS (bNot (cTr (cDef 0 f__law_by_hand_right cNil))) (cRet (cD (.bool false))) cSkip)
  (cSeq (cSet 1 (cDef 2 f__law_cells (cCons (cVar 0) (cCons (cD (.int 2)) cNil))))
  (cSeq (cFor (iRange1 (cCons (cCall fLen (cCons (cVar 1) cNil)) cNil)) (gN 2) (cSeq (cSet 3 (cDef 2 f__law_box (cCons (cVar 1) (cCons (cVar 2) cNil))))
  (cIfS (bNot (cTr (cCall fAll (cCons (cLc (iRange1 (cCons (cD (.int 4)) cNil)) (gN 4) bYes (cDef 1 f__law_right (cCons (cVar 3) cNil)) [4]) cNil)))) (cRet (cD (.bool false))) cSkip)))
  (cRet (cD (.bool true))))))
def f_law : FS := defS 5 b_law
end My

set_option Elab.async false
set_option linter.all false
set_option maxRecDepth 100000
set_option maxHeartbeats 4000000
namespace My
open PySem PySem.Spec PyProof.Rows L2 Cm
def top (i : Nat) : Stmt := PySem.Challenge.pw_cutsmaller_k67_whole_limits_put_in.main.body.getD i (.Pass ⟨0, 0, 0, 0⟩)
abbrev s__law_box : Stmt := top 21
abbrev N__law_box : List Str := ["_law_script", "_law_k", "_law_cell"]
theorem sc__law_box : FnScope N__law_box ["_law_script", "_law_k"] (defScope s__law_box) := ⟨rfl, rfl, rfl, by decide +kernel, rfl, by decide +kernel, by decide +kernel⟩
abbrev s__law_with : Stmt := top 29
abbrev N__law_with : List Str := ["_law_found", "_law_number_so", "_law_own"]
theorem sc__law_with : FnScope N__law_with ["_law_found", "_law_number_so"] (defScope s__law_with) := ⟨rfl, rfl, rfl, by decide +kernel, rfl, by decide +kernel, by decide +kernel⟩
abbrev s_is_lone : Stmt := top 8
abbrev N_is_lone : List Str := ["row", "least", "limit"]
theorem sc_is_lone : FnScope N_is_lone ["row", "least"] (defScope s_is_lone) := ⟨rfl, rfl, rfl, by decide +kernel, rfl, by decide +kernel, by decide +kernel⟩
abbrev s_joined_blocks : Stmt := top 9
abbrev N_joined_blocks : List Str := ["blocks", "least", "found", "low", "high"]
theorem sc_joined_blocks : FnScope N_joined_blocks ["blocks", "least"] (defScope s_joined_blocks) := ⟨rfl, rfl, rfl, by decide +kernel, rfl, by decide +kernel, by decide +kernel⟩
abbrev s_records : Stmt := top 6
abbrev N_records : List Str := ["row", "found", "limit"]
theorem sc_records : FnScope N_records ["row"] (defScope s_records) := ⟨rfl, rfl, rfl, by decide +kernel, rfl, by decide +kernel, by decide +kernel⟩
abbrev s_filling : Stmt := top 10
abbrev N_filling : List Str := ["row", "least", "limit"]
theorem sc_filling : FnScope N_filling ["row", "least"] (defScope s_filling) := ⟨rfl, rfl, rfl, by decide +kernel, rfl, by decide +kernel, by decide +kernel⟩
abbrev s_alike : Stmt := top 11
abbrev N_alike : List Str := ["row", "other", "least"]
theorem sc_alike : FnScope N_alike ["row", "other", "least"] (defScope s_alike) := ⟨rfl, rfl, rfl, by decide +kernel, rfl, by decide +kernel, by decide +kernel⟩
abbrev s_tupled : Stmt := top 1
abbrev N_tupled : List Str := ["thing", "part"]
theorem sc_tupled : FnScope N_tupled ["thing"] (defScope s_tupled) := ⟨rfl, rfl, rfl, by decide +kernel, rfl, by decide +kernel, by decide +kernel⟩
abbrev s_blocks_of : Stmt := top 12
abbrev N_blocks_of : List Str := ["blocks"]
theorem sc_blocks_of : FnScope N_blocks_of ["blocks"] (defScope s_blocks_of) := ⟨rfl, rfl, rfl, by decide +kernel, rfl, by decide +kernel, by decide +kernel⟩
abbrev s_many_numbers : Stmt := top 14
abbrev N_many_numbers : List Str := ["blocks", "low", "high"]
theorem sc_many_numbers : FnScope N_many_numbers ["blocks"] (defScope s_many_numbers) := ⟨rfl, rfl, rfl, by decide +kernel, rfl, by decide +kernel, by decide +kernel⟩
abbrev s__law_by_hand_right : Stmt := top 33
abbrev N__law_by_hand_right : List Str := ["_law_number_so", "_law_whole_so", "_law_row_so", "_law_said"]
theorem sc__law_by_hand_right : FnScope N__law_by_hand_right [] (defScope s__law_by_hand_right) := ⟨rfl, rfl, rfl, by decide +kernel, rfl, by decide +kernel, by decide +kernel⟩
abbrev s__law_cells : Stmt := top 23
abbrev N__law_cells : List Str := ["_law_script", "_law_most_so", "_law_cells_here", "_law_k", "_law_cell", "_law_at_so"]
theorem sc__law_cells : FnScope N__law_cells ["_law_script", "_law_most_so"] (defScope s__law_cells) := ⟨rfl, rfl, rfl, by decide +kernel, rfl, by decide +kernel, by decide +kernel⟩
abbrev s__law_take : Stmt := top 22
abbrev N__law_take : List Str := ["_law_box_here", "_law_below", "_law_once", "_law_far", "_law_twice", "_law_drawn"]
theorem sc__law_take : FnScope N__law_take ["_law_box_here", "_law_below"] (defScope s__law_take) := ⟨rfl, rfl, rfl, by decide +kernel, rfl, by decide +kernel, by decide +kernel⟩
abbrev s__law_of : Stmt := top 24
abbrev N__law_of : List Str := ["_law_box_here", "_law_some_here"]
theorem sc__law_of : FnScope N__law_of ["_law_box_here", "_law_some_here"] (defScope s__law_of) := ⟨rfl, rfl, rfl, by decide +kernel, rfl, by decide +kernel, by decide +kernel⟩
abbrev s__law_least : Stmt := top 26
abbrev N__law_least : List Str := ["_law_box_here"]
theorem sc__law_least : FnScope N__law_least ["_law_box_here"] (defScope s__law_least) := ⟨rfl, rfl, rfl, by decide +kernel, rfl, by decide +kernel, by decide +kernel⟩
abbrev s__law_batch : Stmt := top 28
abbrev N__law_batch : List Str := ["_law_box_here", "_law_least_so", "_law_at_most", "_law_found", "_law_turn", "_law_more"]
theorem sc__law_batch : FnScope N__law_batch ["_law_box_here", "_law_least_so", "_law_at_most"] (defScope s__law_batch) := ⟨rfl, rfl, rfl, by decide +kernel, rfl, by decide +kernel, by decide +kernel⟩
abbrev s__law_same : Stmt := top 25
abbrev N__law_same : List Str := ["_law_got", "_law_due", "_law_mine", "_law_its"]
theorem sc__law_same : FnScope N__law_same ["_law_got", "_law_due"] (defScope s__law_same) := ⟨rfl, rfl, rfl, by decide +kernel, rfl, by decide +kernel, by decide +kernel⟩
abbrev s_behind : Stmt := top 17
abbrev N_behind : List Str := ["first", "second", "least", "bottom", "lower", "ahead", "later", "low", "high"]
theorem sc_behind : FnScope N_behind ["first", "second", "least"] (defScope s_behind) := ⟨rfl, rfl, rfl, by decide +kernel, rfl, by decide +kernel, by decide +kernel⟩
abbrev s_holds : Stmt := top 13
abbrev N_holds : List Str := ["blocks", "number", "low", "high"]
theorem sc_holds : FnScope N_holds ["blocks", "number"] (defScope s_holds) := ⟨rfl, rfl, rfl, by decide +kernel, rfl, by decide +kernel, by decide +kernel⟩
abbrev s_greatest_apart : Stmt := top 18
abbrev N_greatest_apart : List Str := ["mine", "its", "one", "other", "low", "high", "bottom", "top"]
theorem sc_greatest_apart : FnScope N_greatest_apart ["mine", "its"] (defScope s_greatest_apart) := ⟨rfl, rfl, rfl, by decide +kernel, rfl, by decide +kernel, by decide +kernel⟩
abbrev s_next_above : Stmt := top 16
abbrev N_next_above : List Str := ["blocks", "number", "found", "low", "high"]
theorem sc_next_above : FnScope N_next_above ["blocks", "number"] (defScope s_next_above) := ⟨rfl, rfl, rfl, by decide +kernel, rfl, by decide +kernel, by decide +kernel⟩
abbrev s_parting : Stmt := top 19
abbrev N_parting : List Str := ["row", "other", "least", "number", "above", "total", "mine", "its"]
theorem sc_parting : FnScope N_parting ["row", "other", "least"] (defScope s_parting) := ⟨rfl, rfl, rfl, by decide +kernel, rfl, by decide +kernel, by decide +kernel⟩
abbrev s_hop_places : Stmt := top 3
abbrev N_hop_places : List Str := ["limit", "batch", "start", "end", "place", "found", "total"]
theorem sc_hop_places : FnScope N_hop_places ["limit", "batch", "start", "end"] (defScope s_hop_places) := ⟨rfl, rfl, rfl, by decide +kernel, rfl, by decide +kernel, by decide +kernel⟩
abbrev s_cuts : Stmt := top 4
abbrev N_cuts : List Str := ["row", "batch", "items", "found", "hop", "limit", "ends", "start", "end", "place", "other"]
theorem sc_cuts : FnScope N_cuts ["row", "batch"] (defScope s_cuts) := ⟨rfl, rfl, rfl, by decide +kernel, rfl, by decide +kernel, by decide +kernel⟩
abbrev s_parts : Stmt := top 5
abbrev N_parts : List Str := ["row", "batch", "items", "places", "start", "end", "place", "hop"]
theorem sc_parts : FnScope N_parts ["row", "batch"] (defScope s_parts) := ⟨rfl, rfl, rfl, by decide +kernel, rfl, by decide +kernel, by decide +kernel⟩
abbrev s__law_put_right : Stmt := top 31
abbrev N__law_put_right : List Str := ["_law_box_here", "_law_row_so", "_law_least_so", "_law_number_so", "_law_own", "_law_more", "_law_is_in", "_law_there", "_law_batch_so", "_law_got"]
theorem sc__law_put_right : FnScope N__law_put_right ["_law_box_here", "_law_row_so", "_law_least_so", "_law_number_so"] (defScope s__law_put_right) := ⟨rfl, rfl, rfl, by decide +kernel, rfl, by decide +kernel, by decide +kernel⟩
abbrev s__law_row : Stmt := top 27
abbrev N__law_row : List Str := ["_law_box_here", "_law_least_so", "_law_at_most", "_law_top", "_law_turn", "_law_way_so", "_law_found"]
theorem sc__law_row : FnScope N__law_row ["_law_box_here", "_law_least_so", "_law_at_most"] (defScope s__law_row) := ⟨rfl, rfl, rfl, by decide +kernel, rfl, by decide +kernel, by decide +kernel⟩
abbrev s__law_some : Stmt := top 30
abbrev N__law_some : List Str := ["_law_box_here", "_law_own", "_law_least_so", "_law_found", "_law_low", "_law_high"]
theorem sc__law_some : FnScope N__law_some ["_law_box_here", "_law_own", "_law_least_so"] (defScope s__law_some) := ⟨rfl, rfl, rfl, by decide +kernel, rfl, by decide +kernel, by decide +kernel⟩
abbrev s_next_below : Stmt := top 15
abbrev N_next_below : List Str := ["blocks", "number", "found", "low", "high"]
theorem sc_next_below : FnScope N_next_below ["blocks", "number"] (defScope s_next_below) := ⟨rfl, rfl, rfl, by decide +kernel, rfl, by decide +kernel, by decide +kernel⟩
abbrev s__law_whole_right : Stmt := top 32
abbrev N__law_whole_right : List Str := ["_law_box_here", "_law_row_so", "_law_least_so", "_law_own", "_law_batch_so", "_law_every", "_law_number_so", "_law_down", "_law_bit"]
theorem sc__law_whole_right : FnScope N__law_whole_right ["_law_box_here", "_law_row_so", "_law_least_so"] (defScope s__law_whole_right) := ⟨rfl, rfl, rfl, by decide +kernel, rfl, by decide +kernel, by decide +kernel⟩
abbrev s__law_right : Stmt := top 34
abbrev N__law_right : List Str := ["_law_box_here", "_law_least_so", "_law_row_so", "_law_own", "_law_low", "_law_small", "_law_turn", "_law_number_so"]
theorem sc__law_right : FnScope N__law_right ["_law_box_here"] (defScope s__law_right) := ⟨rfl, rfl, rfl, by decide +kernel, rfl, by decide +kernel, by decide +kernel⟩
abbrev s_law : Stmt := top 35
abbrev N_law : List Str := ["_law_script", "_law_cells_here", "_law_k", "_law_box_here", "_law_turn"]
theorem sc_law : FnScope N_law ["_law_script"] (defScope s_law) := ⟨rfl, rfl, rfl, by decide +kernel, rfl, by decide +kernel, by decide +kernel⟩
/-- what the top has left: names that are free, constants -/
structure Zs (mg : Str → Option Value) : Prop where
  z_abs : mg "abs" = none
  z_all : mg "all" = none
  z_any : mg "any" = none
  z_bool : mg "bool" = none
  z_enumerate : mg "enumerate" = none
  z_int : mg "int" = none
  z_isinstance : mg "isinstance" = none
  z_len : mg "len" = none
  z_list : mg "list" = none
  z_max : mg "max" = none
  z_min : mg "min" = none
  z_range : mg "range" = none
  z_sorted : mg "sorted" = none
  z_str : mg "str" = none
  z_sum : mg "sum" = none
  z_tuple : mg "tuple" = none
  z_zip : mg "zip" = none
section
variable {P : Program} {w : World} {K : PySem.W.Frag} {mg : Str → Option Value} {base : Heap}
theorem ok__law_box (Z : Zs mg) (h : At K mg "_law_box" s__law_box)  : Cal P w K mg base 1 "_law_box" s__law_box ["_law_script", "_law_k"] f__law_box :=
  .of h (fun a fd F hm => def_okO (x := "_law_box") (st := s__law_box) (N := N__law_box) (ps := ["_law_script", "_law_k"]) (b := b__law_box) (k := 0) F sc__law_box fun cdv A outer s H E hr =>
      by
        refine ss_cons ?_ ?_
        · refine s_set (i := 2) sc__law_box.nd rfl (.inl rfl) ?_
          refine se_if ?_ ?_ se_int
          · refine st_cmp (op_ltA hr) snd_lt (se_var (i := 1)) ?_ (nomark _)
            refine se_callB call_lenA snd_len (by rfl) Z.z_len PySem.boot_len ?_
            exact (sa_cons (se_var (i := 0)) sa_nil)
          · exact (se_ix ix_seq snd_ix (se_var (i := 0)) (se_var (i := 1)))
        · refine ss_one ?_
          refine s_ret ?_
          refine se_lstM ?_
          refine sa_cons ?_ ?_
          · refine se_ops op_mulA snd_mul ?_ ?_
            · refine se_callB call_abs snd_abs (by rfl) Z.z_abs PyProof.Rows.boot_abs ?_
              exact (sa_cons (se_var (i := 2)) sa_nil)
            · refine se_callTy call_int1 snd_int (by rfl) Z.z_int PyProof.Rows.boot_int ?_
              refine sa_cons ?_ sa_nil
              refine se_cmp op_ge snd_ge ?_ ?_ (nomark _)
              · refine se_callB call_abs snd_abs (by rfl) Z.z_abs PyProof.Rows.boot_abs ?_
                exact (sa_cons (se_var (i := 2)) sa_nil)
              · exact (se_op op_pow snd_pow se_int se_int)
          · refine sa_cons ?_ ?_
            · refine se_ops op_addA snd_add ?_ se_int
              refine se_ops op_addA snd_add ?_ ?_
              · refine se_op op_mod snd_mod ?_ se_int
                refine se_callTy call_int1 snd_int (by rfl) Z.z_int PyProof.Rows.boot_int ?_
                exact (sa_cons (se_var (i := 2)) sa_nil)
              · exact (se_ops op_mulA snd_mul se_int (se_var (i := 1)))
            · exact (sa_cons se_int sa_nil)) (fun _ _ _ _ _ _ us hl => match us, hl with | [_, _], _ => rfl)
theorem ok__law_with (Z : Zs mg) (h : At K mg "_law_with" s__law_with)  : Cal P w K mg base 1 "_law_with" s__law_with ["_law_found", "_law_number_so"] f__law_with :=
  .of h (fun a fd F hm => def_okD (x := "_law_with") (st := s__law_with) (N := N__law_with) (ps := ["_law_found", "_law_number_so"]) (b := b__law_with) (k := 0) F sc__law_with fun cdv A outer s H E hr =>
      by
        refine ss_one ?_
        refine s_ret ?_
        refine se_callTy call_tuple_of snd_tuple (by rfl) Z.z_tuple PyProof.Rows.boot_tuple ?_
        refine sa_cons ?_ sa_nil
        refine se_ops op_addA snd_add ?_ ?_
        · refine se_ops op_addA snd_add ?_ ?_
          · refine se_lc (own := [("_law_own", 2)]) rfl sc__law_with.nd ?_ (blkOk_by (own := [("_law_own", 2)]) (N := N__law_with) (sc := defScope s__law_with) (by decide +kernel)) (fun _ _ _ _ _ => (g_name (i := 2) (by decide) sc__law_with.nd rfl (.inl rfl))) (fun _ _ _ _ _ => ?_) (fun _ _ _ _ _ => (se_var (i := 2)))
            · exact (i_seq (se_var (i := 0)))
            · refine ts_one ?_
              exact (st_cmp op_gt snd_gt (se_var (i := 2)) (se_var (i := 1)) (nomark _))
          · refine se_lst ?_
            exact (sa_cons (se_var (i := 1)) sa_nil)
        · refine se_lc (own := [("_law_own", 2)]) rfl sc__law_with.nd ?_ (blkOk_by (own := [("_law_own", 2)]) (N := N__law_with) (sc := defScope s__law_with) (by decide +kernel)) (fun _ _ _ _ _ => (g_name (i := 2) (by decide) sc__law_with.nd rfl (.inl rfl))) (fun _ _ _ _ _ => ?_) (fun _ _ _ _ _ => (se_var (i := 2)))
          · exact (i_seq (se_var (i := 0)))
          · refine ts_one ?_
            exact (st_cmp (op_ltA hr) snd_lt (se_var (i := 2)) (se_var (i := 1)) (nomark _))) (fun _ _ _ _ _ _ us hl => match us, hl with | [_, _], _ => rfl)
theorem ok_is_lone (Z : Zs mg) (h : At K mg "is_lone" s_is_lone)  : Cal P w K mg base 1 "is_lone" s_is_lone ["row", "least"] f_is_lone :=
  .of h (fun a fd F hm => def_okD (x := "is_lone") (st := s_is_lone) (N := N_is_lone) (ps := ["row", "least"]) (b := b_is_lone) (k := 0) F sc_is_lone fun cdv A outer s H E hr =>
      by
        refine ss_one ?_
        refine s_ret ?_
        refine se_callB (cr_any rfl) snd_any (by rfl) Z.z_any PyProof.Rows.boot_any ?_
        refine sa_cons ?_ sa_nil
        refine se_lc (own := [("limit", 2)]) rfl sc_is_lone.nd ?_ (blkOk_by (own := [("limit", 2)]) (N := N_is_lone) (sc := defScope s_is_lone) (by decide +kernel)) (fun _ _ _ _ _ => (g_name (i := 2) (by decide) sc_is_lone.nd rfl (.inl rfl))) (fun _ _ _ _ _ => ts_nil) (fun _ _ _ _ _ => ?_)
        · exact (i_seq (se_var (i := 0)))
        · refine se_cmp (op_ltA hr) snd_lt (se_var (i := 2)) ?_ (nomark _)
          exact (se_ops op_mulA snd_mul se_int (se_var (i := 1)))) (fun _ _ _ _ _ _ us hl => match us, hl with | [_, _], _ => rfl)
theorem ok_joined_blocks (Z : Zs mg) (h : At K mg "joined_blocks" s_joined_blocks)  : Cal P w K mg base 1 "joined_blocks" s_joined_blocks ["blocks", "least"] f_joined_blocks :=
  .of h (fun a fd F hm => def_okD (x := "joined_blocks") (st := s_joined_blocks) (N := N_joined_blocks) (ps := ["blocks", "least"]) (b := b_joined_blocks) (k := 0) F sc_joined_blocks fun cdv A outer s H E hr =>
      by
        refine ss_cons ?_ ?_
        · exact (s_set (i := 2) sc_joined_blocks.nd rfl (.inl rfl) (se_lstM sa_nil))
        · refine ss_cons ?_ ?_
          · refine s_for (zs := [3, 4]) PassesOwn.never rfl ?_ ?_ ?_
            · exact (i_seq (se_var (i := 0)))
            · refine g_tup rfl ?_ ?_
              · refine gs_cons (g_name (i := 3) (by decide) sc_joined_blocks.nd rfl (.inl rfl)) ?_
                exact (gs_cons (g_name (i := 4) (by decide) sc_joined_blocks.nd rfl (.inl rfl)) gs_nil)
              · exact (gs_len (gs_len gs_len0 _) _)
            · refine ss_one ?_
              refine s_if ?_ ?_ ?_
              · refine PW.pt ?_
                refine st_and ?_ ?_
                · refine st_cmp op_gt snd_gt ?_ se_int (nomark _)
                  refine se_callB call_lenA snd_len (by rfl) Z.z_len PySem.boot_len ?_
                  exact (sa_cons (se_var (i := 2)) sa_nil)
                · refine st_and1 ?_
                  refine st_cmp op_le snd_le ?_ (se_var (i := 1)) (nomark _)
                  refine se_op op_sub snd_sub (se_var (i := 3)) ?_
                  refine se_ix ix_seq snd_ix ?_ se_int
                  refine se_ix ix_seq snd_ix (se_var (i := 2)) ?_
                  exact (se_un un_neg snd_neg se_int)
              · refine ss_one ?_
                refine s_setIx ?_ (se_var (i := 2)) ?_
                · refine se_tup ?_
                  refine sa_cons ?_ ?_
                  · refine se_ix ix_seq snd_ix ?_ se_int
                    refine se_ix ix_seq snd_ix (se_var (i := 2)) ?_
                    exact (se_un un_neg snd_neg se_int)
                  · exact (sa_cons (se_var (i := 4)) sa_nil)
                · exact (se_un un_neg snd_neg se_int)
              · refine ss_one ?_
                refine s_expr ?_
                refine se_meth PySem.F.plainAttrs_list PySem.F.slot_list_append PySem.F.type_list_append mt_append snd_append (se_var (i := 2)) ?_
                refine sa_cons ?_ sa_nil
                refine se_tup ?_
                refine sa_cons (se_var (i := 3)) ?_
                exact (sa_cons (se_var (i := 4)) sa_nil)
          · refine ss_one ?_
            refine s_ret ?_
            refine se_callTy call_tuple_of snd_tuple (by rfl) Z.z_tuple PyProof.Rows.boot_tuple ?_
            exact (sa_cons (se_var (i := 2)) sa_nil)) (fun _ _ _ _ _ _ us hl => match us, hl with | [_, _], _ => rfl)
theorem ok_records (Z : Zs mg) (h : At K mg "records" s_records)  : Cal P w K mg base 1 "records" s_records ["row"] f_records :=
  .of h (fun a fd F hm => def_okD (x := "records") (st := s_records) (N := N_records) (ps := ["row"]) (b := b_records) (k := 0) F sc_records fun cdv A outer s H E hr =>
      by
        refine ss_cons ?_ ?_
        · exact (s_set (i := 1) sc_records.nd rfl (.inl rfl) (se_lstM sa_nil))
        · refine ss_cons ?_ ?_
          · refine s_for (zs := [2]) PassesOwn.never rfl ?_ (g_name (i := 2) (by decide) sc_records.nd rfl (.inl rfl)) ?_
            · exact (i_seq (se_var (i := 0)))
            · refine ss_one ?_
              refine s_if ?_ ?_ ss_nil
              · refine PW.pt ?_
                refine st_or ?_ ?_
                · refine st_cmp (op_eqD hr.units) snd_eq ?_ se_int (nomark _)
                  refine se_callB call_lenA snd_len (by rfl) Z.z_len PySem.boot_len ?_
                  exact (sa_cons (se_var (i := 1)) sa_nil)
                · refine st_or1 ?_
                  refine st_cmp (op_ltA hr) snd_lt (se_var (i := 2)) ?_ (nomark _)
                  refine se_ix ix_seq snd_ix (se_var (i := 1)) ?_
                  exact (se_un un_neg snd_neg se_int)
              · refine ss_one ?_
                refine s_expr ?_
                refine se_meth PySem.F.plainAttrs_list PySem.F.slot_list_append PySem.F.type_list_append mt_append snd_append (se_var (i := 1)) ?_
                exact (sa_cons (se_var (i := 2)) sa_nil)
          · refine ss_one ?_
            refine s_ret ?_
            refine se_callTy call_tuple_of snd_tuple (by rfl) Z.z_tuple PyProof.Rows.boot_tuple ?_
            exact (sa_cons (se_var (i := 1)) sa_nil)) (fun _ _ _ _ _ _ us hl => match us, hl with | [_], _ => rfl)
theorem ok_filling (Z : Zs mg) (h : At K mg "filling" s_filling) (c_is_lone : Cal P w K mg base 1 "is_lone" s_is_lone ["row", "least"] f_is_lone) (c_joined_blocks : Cal P w K mg base 1 "joined_blocks" s_joined_blocks ["blocks", "least"] f_joined_blocks) (c_records : Cal P w K mg base 1 "records" s_records ["row"] f_records) : Cal P w K mg base 2 "filling" s_filling ["row", "least"] f_filling :=
  .of h (fun a fd F hm => def_okD (x := "filling") (st := s_filling) (N := N_filling) (ps := ["row", "least"]) (b := b_filling) (k := 1) F sc_filling fun cdv A outer s H E hr =>
      by
        refine ss_cons ?_ ?_
        · refine s_if ?_ ?_ ss_nil
          · refine st_tr ?_
            refine se_cal (ps := ["row", "least"]) (fs := f_is_lone) c_is_lone (hr.mono (by decide)) (by rfl) ?_
            refine sa_cons (se_var (i := 0)) ?_
            exact (sa_cons (se_var (i := 1)) sa_nil)
          · exact (ss_one (s_ret se_non))
        · refine ss_one ?_
          refine s_ret ?_
          refine se_cal (ps := ["blocks", "least"]) (fs := f_joined_blocks) c_joined_blocks (hr.mono (by decide)) (by rfl) ?_
          refine sa_cons ?_ ?_
          · refine se_lc (own := [("limit", 2)]) rfl sc_filling.nd ?_ (blkOk_by (own := [("limit", 2)]) (N := N_filling) (sc := defScope s_filling) (by decide +kernel)) (fun _ _ _ _ _ => (g_name (i := 2) (by decide) sc_filling.nd rfl (.inl rfl))) (fun _ _ _ _ _ => ts_nil) (fun _ _ _ _ _ => ?_)
            · refine i_seq ?_
              refine se_callB call_sortedA snd_sorted (by rfl) Z.z_sorted PyProof.Rows.boot_sorted ?_
              refine sa_cons ?_ sa_nil
              refine se_cal (ps := ["row"]) (fs := f_records) c_records (hr.mono (by decide)) (by rfl) ?_
              exact (sa_cons (se_var (i := 0)) sa_nil)
            · refine se_tup ?_
              refine sa_cons (se_var (i := 2)) ?_
              exact (sa_cons (se_var (i := 2)) sa_nil)
          · exact (sa_cons (se_var (i := 1)) sa_nil)) (fun _ _ _ _ _ _ us hl => match us, hl with | [_, _], _ => rfl)
theorem ok_alike (Z : Zs mg) (h : At K mg "alike" s_alike) (c_filling : Cal P w K mg base 2 "filling" s_filling ["row", "least"] f_filling) : Cal P w K mg base 3 "alike" s_alike ["row", "other", "least"] f_alike :=
  .of h (fun a fd F hm => def_okD (x := "alike") (st := s_alike) (N := N_alike) (ps := ["row", "other", "least"]) (b := b_alike) (k := 2) F sc_alike fun cdv A outer s H E hr =>
      by
        refine ss_one ?_
        refine s_ret ?_
        refine se_cmp (op_eqD hr.units) snd_eq ?_ ?_ (nomark _)
        · refine se_cal (ps := ["row", "least"]) (fs := f_filling) c_filling (hr.mono (by decide)) (by rfl) ?_
          refine sa_cons (se_var (i := 0)) ?_
          exact (sa_cons (se_var (i := 2)) sa_nil)
        · refine se_cal (ps := ["row", "least"]) (fs := f_filling) c_filling (hr.mono (by decide)) (by rfl) ?_
          refine sa_cons (se_var (i := 1)) ?_
          exact (sa_cons (se_var (i := 2)) sa_nil)) (fun _ _ _ _ _ _ us hl => match us, hl with | [_, _, _], _ => rfl)
theorem ok_tupled (Z : Zs mg) (h : At K mg "tupled" s_tupled)  : ∀ d : Nat, Cal P w K mg base (1 + d) "tupled" s_tupled ["thing"] (f_tupled d)
  | 0 => .of h (fun _ _ _ _ => def_none) (fun _ _ _ _ _ _ us hl => match us, hl with | [_], _ => rfl)
  | d + 1 => .of h (fun a fd F hm => by
    have ih := ok_tupled Z h  d
    exact def_okD (x := "tupled") (st := s_tupled) (N := N_tupled) (ps := ["thing"]) (b := b_tupled (f_tupled d)) F sc_tupled fun cdv A outer s H E hr =>
      by
        refine ss_one ?_
        refine s_ret ?_
        refine se_if ?_ ?_ (se_var (i := 0))
        · exact (st_tr (se_isi2 (by rfl) Z.z_isinstance (by rfl) Z.z_list PyProof.Rows.boot_list (by decide) (by rfl) Z.z_tuple PyProof.Rows.boot_tuple (by decide) (se_var (i := 0))))
        · refine se_callTy call_tuple_of snd_tuple (by rfl) Z.z_tuple PyProof.Rows.boot_tuple ?_
          refine sa_cons ?_ sa_nil
          refine se_lc (own := [("part", 1)]) rfl sc_tupled.nd ?_ (blkOk_by (own := [("part", 1)]) (N := N_tupled) (sc := defScope s_tupled) (by decide +kernel)) (fun _ _ _ _ _ => (g_name (i := 1) (by decide) sc_tupled.nd rfl (.inl rfl))) (fun _ _ _ _ _ => ts_nil) (fun _ _ _ _ _ => ?_)
          · exact (i_seq (se_var (i := 0)))
          · refine se_cal (ps := ["thing"]) (fs := (f_tupled d)) ih hr (by rfl) ?_
            exact (sa_cons (se_var (i := 1)) sa_nil)) (fun _ _ _ _ _ _ us hl => match us, hl with | [_], _ => rfl)
theorem ok_blocks_of (Z : Zs mg) (h : At K mg "blocks_of" s_blocks_of) (c_tupled : Cal P w K mg base 17 "tupled" s_tupled ["thing"] (f_tupled 16)) : Cal P w K mg base 18 "blocks_of" s_blocks_of ["blocks"] f_blocks_of :=
  .of h (fun a fd F hm => def_okD (x := "blocks_of") (st := s_blocks_of) (N := N_blocks_of) (ps := ["blocks"]) (b := b_blocks_of) (k := 17) F sc_blocks_of fun cdv A outer s H E hr =>
      by
        refine ss_one ?_
        refine s_ret ?_
        refine se_if ?_ ?_ ?_
        · exact (st_cmp op_isA snd_is (se_var (i := 0)) se_non (nomark _))
        · exact (se_tup sa_nil)
        · refine se_cal (ps := ["thing"]) (fs := (f_tupled 16)) c_tupled (hr.mono (by decide)) (by rfl) ?_
          exact (sa_cons (se_var (i := 0)) sa_nil)) (fun _ _ _ _ _ _ us hl => match us, hl with | [_], _ => rfl)
theorem ok_many_numbers (Z : Zs mg) (h : At K mg "many_numbers" s_many_numbers) (c_blocks_of : Cal P w K mg base 18 "blocks_of" s_blocks_of ["blocks"] f_blocks_of) : Cal P w K mg base 19 "many_numbers" s_many_numbers ["blocks"] f_many_numbers :=
  .of h (fun a fd F hm => def_okD (x := "many_numbers") (st := s_many_numbers) (N := N_many_numbers) (ps := ["blocks"]) (b := b_many_numbers) (k := 18) F sc_many_numbers fun cdv A outer s H E hr =>
      by
        refine ss_one ?_
        refine s_ret ?_
        refine se_callB (call_sumA rfl) snd_sum (by rfl) Z.z_sum PyProof.Rows.boot_sum ?_
        refine sa_cons ?_ sa_nil
        refine se_lc (own := [("low", 1), ("high", 2)]) rfl sc_many_numbers.nd ?_ (blkOk_by (own := [("low", 1), ("high", 2)]) (N := N_many_numbers) (sc := defScope s_many_numbers) (by decide +kernel)) (fun _ _ _ _ _ => ?_) (fun _ _ _ _ _ => ts_nil) (fun _ _ _ _ _ => ?_)
        · refine i_seq ?_
          refine se_cal (ps := ["blocks"]) (fs := f_blocks_of) c_blocks_of (hr.mono (by decide)) (by rfl) ?_
          exact (sa_cons (se_var (i := 0)) sa_nil)
        · refine g_tup rfl ?_ ?_
          · refine gs_cons (g_name (i := 1) (by decide) sc_many_numbers.nd rfl (.inl rfl)) ?_
            exact (gs_cons (g_name (i := 2) (by decide) sc_many_numbers.nd rfl (.inl rfl)) gs_nil)
          · exact (gs_len (gs_len gs_len0 _) _)
        · refine se_ops op_addA snd_add ?_ se_int
          exact (se_op op_sub snd_sub (se_var (i := 2)) (se_var (i := 1)))) (fun _ _ _ _ _ _ us hl => match us, hl with | [_], _ => rfl)
theorem ok__law_by_hand_right (Z : Zs mg) (h : At K mg "_law_by_hand_right" s__law_by_hand_right) (c__law_with : Cal P w K mg base 1 "_law_with" s__law_with ["_law_found", "_law_number_so"] f__law_with) (c_alike : Cal P w K mg base 3 "alike" s_alike ["row", "other", "least"] f_alike) (c_filling : Cal P w K mg base 2 "filling" s_filling ["row", "least"] f_filling) (c_many_numbers : Cal P w K mg base 19 "many_numbers" s_many_numbers ["blocks"] f_many_numbers) : Cal P w K mg base 20 "_law_by_hand_right" s__law_by_hand_right [] f__law_by_hand_right :=
  .of h (fun a fd F hm => def_okD (x := "_law_by_hand_right") (st := s__law_by_hand_right) (N := N__law_by_hand_right) (ps := []) (b := b__law_by_hand_right) (k := 19) F sc__law_by_hand_right fun cdv A outer s H E hr =>
      by
        refine ss_cons ?_ ?_
        · refine s_par (i := 2) (j := 3) rfl sc__law_by_hand_right.nd rfl rfl (by decide) rfl rfl ?_ (by rfl)
          refine sa_cons ?_ ?_
          · refine se_tup ?_
            refine sa_cons se_int ?_
            refine sa_cons se_int ?_
            refine sa_cons se_int ?_
            exact (sa_cons se_int sa_nil)
          · refine sa_cons ?_ sa_nil
            exact (se_lstM sa_nil)
        · refine ss_cons ?_ ?_
          · refine s_for (zs := [0]) PassesOwn.never rfl ?_ (g_name (i := 0) (by decide) sc__law_by_hand_right.nd rfl (.inl rfl)) ?_
            · refine i_seq ?_
              refine se_tup ?_
              refine sa_cons se_int ?_
              refine sa_cons se_int ?_
              refine sa_cons se_int ?_
              refine sa_cons se_int ?_
              refine sa_cons se_int ?_
              refine sa_cons se_int ?_
              refine sa_cons se_int ?_
              refine sa_cons se_int ?_
              exact (sa_cons se_int sa_nil)
            · refine ss_one ?_
              refine s_expr ?_
              refine se_meth PySem.F.plainAttrs_list PySem.F.slot_list_append PySem.F.type_list_append mt_append snd_append (se_var (i := 3)) ?_
              refine sa_cons ?_ sa_nil
              refine se_cal (ps := ["row", "other", "least"]) (fs := f_alike) c_alike (hr.mono (by decide)) (by rfl) ?_
              refine sa_cons ?_ ?_
              · refine se_cal (ps := ["_law_found", "_law_number_so"]) (fs := f__law_with) c__law_with (hr.mono (by decide)) (by rfl) ?_
                refine sa_cons (se_var (i := 2)) ?_
                exact (sa_cons (se_var (i := 0)) sa_nil)
              · refine sa_cons (se_var (i := 2)) ?_
                exact (sa_cons se_int sa_nil)
          · refine ss_cons ?_ ?_
            · refine s_if ?_ ?_ ss_nil
              · refine st_cmp (op_neD hr.units) snd_ne (se_var (i := 3)) ?_ (nomark _)
                refine se_lst ?_
                refine sa_cons se_bl ?_
                refine sa_cons se_bl ?_
                refine sa_cons se_bl ?_
                refine sa_cons se_bl ?_
                refine sa_cons se_bl ?_
                refine sa_cons se_bl ?_
                refine sa_cons se_bl ?_
                refine sa_cons se_bl ?_
                exact (sa_cons se_bl sa_nil)
              · exact (ss_one (s_ret se_bl))
            · refine ss_cons ?_ ?_
              · refine s_if ?_ ?_ ss_nil
                · refine PW.pt ?_
                  refine st_or ?_ ?_
                  · refine st_not ?_
                    refine st_tr ?_
                    refine se_cal (ps := ["row", "other", "least"]) (fs := f_alike) c_alike (hr.mono (by decide)) (by rfl) ?_
                    refine sa_cons ?_ ?_
                    · refine se_cal (ps := ["_law_found", "_law_number_so"]) (fs := f__law_with) c__law_with (hr.mono (by decide)) (by rfl) ?_
                      refine sa_cons ?_ ?_
                      · refine se_tup ?_
                        exact (sa_cons se_int sa_nil)
                      · exact (sa_cons se_int sa_nil)
                    · refine sa_cons ?_ ?_
                      · refine se_tup ?_
                        exact (sa_cons se_int sa_nil)
                      · exact (sa_cons se_int sa_nil)
                  · refine st_or ?_ ?_
                    · refine st_tr ?_
                      refine se_cal (ps := ["row", "other", "least"]) (fs := f_alike) c_alike (hr.mono (by decide)) (by rfl) ?_
                      refine sa_cons ?_ ?_
                      · refine se_cal (ps := ["_law_found", "_law_number_so"]) (fs := f__law_with) c__law_with (hr.mono (by decide)) (by rfl) ?_
                        refine sa_cons ?_ ?_
                        · refine se_tup ?_
                          exact (sa_cons se_int sa_nil)
                        · exact (sa_cons se_int sa_nil)
                      · refine sa_cons ?_ ?_
                        · refine se_tup ?_
                          exact (sa_cons se_int sa_nil)
                        · exact (sa_cons se_int sa_nil)
                    · refine st_or1 ?_
                      refine st_tr ?_
                      refine se_cal (ps := ["row", "other", "least"]) (fs := f_alike) c_alike (hr.mono (by decide)) (by rfl) ?_
                      refine sa_cons ?_ ?_
                      · refine se_tup ?_
                        exact (sa_cons se_int sa_nil)
                      · refine sa_cons ?_ ?_
                        · exact (se_tup sa_nil)
                        · exact (sa_cons se_int sa_nil)
                · exact (ss_one (s_ret se_bl))
              · refine ss_cons ?_ ?_
                · refine s_set (i := 1) sc__law_by_hand_right.nd rfl (.inl rfl) ?_
                  refine se_tup ?_
                  refine sa_cons se_int ?_
                  refine sa_cons se_int ?_
                  refine sa_cons se_int ?_
                  refine sa_cons se_int ?_
                  refine sa_cons se_int ?_
                  refine sa_cons se_int ?_
                  refine sa_cons se_int ?_
                  exact (sa_cons se_int sa_nil)
                · refine ss_one ?_
                  refine s_ret ?_
                  refine se_and ?_ ?_
                  · refine se_cal (ps := ["row", "other", "least"]) (fs := f_alike) c_alike (hr.mono (by decide)) (by rfl) ?_
                    refine sa_cons ?_ ?_
                    · refine se_tup ?_
                      refine sa_cons se_int ?_
                      refine sa_cons se_int ?_
                      refine sa_cons se_int ?_
                      refine sa_cons se_int ?_
                      exact (sa_cons se_int sa_nil)
                    · refine sa_cons (se_var (i := 1)) ?_
                      exact (sa_cons se_int sa_nil)
                  · refine pe_one ?_
                    refine se_cmp (op_eqD hr.units) snd_eq ?_ se_int (nomark _)
                    refine se_cal (ps := ["blocks"]) (fs := f_many_numbers) c_many_numbers (hr.mono (by decide)) (by rfl) ?_
                    refine sa_cons ?_ sa_nil
                    refine se_cal (ps := ["row", "least"]) (fs := f_filling) c_filling (hr.mono (by decide)) (by rfl) ?_
                    refine sa_cons ?_ ?_
                    · refine se_tup ?_
                      refine sa_cons se_int ?_
                      refine sa_cons se_int ?_
                      refine sa_cons se_int ?_
                      refine sa_cons se_int ?_
                      exact (sa_cons se_int sa_nil)
                    · exact (sa_cons se_int sa_nil)) (fun _ _ _ _ _ _ us hl => match us, hl with | [], _ => rfl)
theorem ok__law_cells (Z : Zs mg) (h : At K mg "_law_cells" s__law_cells)  : Cal P w K mg base 1 "_law_cells" s__law_cells ["_law_script", "_law_most_so"] f__law_cells :=
  .of h (fun a fd F hm => def_okD (x := "_law_cells") (st := s__law_cells) (N := N__law_cells) (ps := ["_law_script", "_law_most_so"]) (b := b__law_cells) (k := 0) F sc__law_cells fun cdv A outer s H E hr =>
      by
        refine ss_cons ?_ ?_
        · refine s_set (i := 2) sc__law_cells.nd rfl (.inl rfl) ?_
          refine se_or ?_ ?_
          · refine se_listM (by rfl) Z.z_list ?_
            refine sa_cons ?_ sa_nil
            refine se_sl (se_var (i := 0)) so_none ?_
            exact (so_some (se_var (i := 1)))
          · refine pe_one ?_
            refine se_lstM ?_
            exact (sa_cons se_int sa_nil)
        · refine ss_cons ?_ ?_
          · refine s_for (zs := [3, 4]) PassesOwn.never rfl ?_ ?_ ?_
            · refine i_enum (by rfl) Z.z_enumerate ?_
              refine sa_cons ?_ sa_nil
              refine se_sl (se_var (i := 0)) ?_ ?_
              · exact (so_some (se_var (i := 1)))
              · exact (so_some se_int)
            · refine g_tup rfl ?_ ?_
              · refine gs_cons (g_name (i := 3) (by decide) sc__law_cells.nd rfl (.inl rfl)) ?_
                exact (gs_cons (g_name (i := 4) (by decide) sc__law_cells.nd rfl (.inl rfl)) gs_nil)
              · exact (gs_len (gs_len gs_len0 _) _)
            · refine ss_cons ?_ ?_
              · refine s_set (i := 5) sc__law_cells.nd rfl (.inl rfl) ?_
                refine se_op op_mod snd_mod ?_ (se_var (i := 1))
                refine se_callTy call_int1 snd_int (by rfl) Z.z_int PyProof.Rows.boot_int ?_
                exact (sa_cons (se_var (i := 3)) sa_nil)
              · refine ss_one ?_
                refine s_setIx ?_ (se_var (i := 2)) (se_var (i := 5))
                refine se_ops op_addA snd_add ?_ ?_
                · exact (se_ix ix_seq snd_ix (se_var (i := 2)) (se_var (i := 5)))
                · refine se_ops op_mulA snd_mul (se_var (i := 4)) ?_
                  exact (se_ops op_addA snd_add (se_var (i := 3)) se_int)
          · exact (ss_one (s_ret (se_var (i := 2))))) (fun _ _ _ _ _ _ us hl => match us, hl with | [_, _], _ => rfl)
theorem ok__law_take (Z : Zs mg) (h : At K mg "_law_take" s__law_take)  : Cal P w K mg base 1 "_law_take" s__law_take ["_law_box_here", "_law_below"] f__law_take :=
  .of h (fun a fd F hm => def_okD (x := "_law_take") (st := s__law_take) (N := N__law_take) (ps := ["_law_box_here", "_law_below"]) (b := b__law_take) (k := 0) F sc__law_take fun cdv A outer s H E hr =>
      by
        refine ss_cons ?_ ?_
        · refine s_if ?_ ?_ ss_nil
          · refine st_cmp op_gt snd_gt ?_ se_int (nomark _)
            exact (se_ix ix_seq snd_ix (se_var (i := 0)) se_int)
          · refine ss_cons ?_ ?_
            · refine s_set (i := 5) sc__law_take.nd rfl (.inl rfl) ?_
              refine se_op op_mod snd_mod ?_ (se_var (i := 1))
              refine se_callTy call_int1 snd_int (by rfl) Z.z_int PyProof.Rows.boot_int ?_
              refine sa_cons ?_ sa_nil
              exact (se_ix ix_seq snd_ix (se_var (i := 0)) se_int)
            · refine ss_cons ?_ ?_
              · refine s_setIx ?_ (se_var (i := 0)) se_int
                refine se_op op_fdivW snd_div ?_ (se_var (i := 1))
                exact (se_ix ix_seq snd_ix (se_var (i := 0)) se_int)
              · exact (ss_one (s_ret (se_var (i := 5))))
        · refine ss_cons ?_ ?_
          · refine s_setIx ?_ (se_var (i := 0)) se_int
            refine se_ops op_addA snd_add ?_ se_int
            exact (se_ix ix_seq snd_ix (se_var (i := 0)) se_int)
          · refine ss_cons ?_ ?_
            · refine s_set (i := 2) sc__law_take.nd rfl (.inl rfl) ?_
              refine se_op op_mod snd_mod ?_ se_int
              refine se_callTy call_int1 snd_int (by rfl) Z.z_int PyProof.Rows.boot_int ?_
              refine sa_cons ?_ sa_nil
              refine se_ops op_mulA snd_mul ?_ ?_
              · refine se_ops op_addA snd_add ?_ ?_
                · exact (se_ix ix_seq snd_ix (se_var (i := 0)) se_int)
                · refine se_ops op_mulA snd_mul se_int ?_
                  exact (se_ix ix_seq snd_ix (se_var (i := 0)) se_int)
              · refine se_ops op_addA snd_add se_int ?_
                exact (se_ix ix_seq snd_ix (se_var (i := 0)) se_int)
            · refine ss_cons ?_ ?_
              · refine s_set (i := 3) sc__law_take.nd rfl (.inl rfl) ?_
                refine se_ops op_addA snd_add ?_ se_int
                refine se_op op_mod snd_mod ?_ se_int
                refine se_callTy call_int1 snd_int (by rfl) Z.z_int PyProof.Rows.boot_int ?_
                exact (sa_cons (se_var (i := 2)) sa_nil)
              · refine ss_cons ?_ ?_
                · refine s_set (i := 4) sc__law_take.nd rfl (.inl rfl) ?_
                  refine se_op op_mod snd_mod ?_ se_int
                  refine se_callTy call_int1 snd_int (by rfl) Z.z_int PyProof.Rows.boot_int ?_
                  refine sa_cons ?_ sa_nil
                  refine se_ops op_mulA snd_mul ?_ (se_var (i := 3))
                  refine se_ops op_addA snd_add ?_ ?_
                  · refine se_ops op_addA snd_add (se_var (i := 2)) ?_
                    exact (se_ix ix_seq snd_ix (se_var (i := 0)) se_int)
                  · refine se_op op_fdivW snd_div ?_ se_int
                    exact (se_ix ix_seq snd_ix (se_var (i := 0)) se_int)
                · refine ss_one ?_
                  refine s_ret ?_
                  refine se_op op_mod snd_mod ?_ (se_var (i := 1))
                  refine se_callTy call_int1 snd_int (by rfl) Z.z_int PyProof.Rows.boot_int ?_
                  refine sa_cons ?_ sa_nil
                  refine se_op op_fdivW snd_div ?_ se_int
                  refine se_op op_mod snd_mod ?_ se_int
                  refine se_callTy call_int1 snd_int (by rfl) Z.z_int PyProof.Rows.boot_int ?_
                  refine sa_cons ?_ sa_nil
                  refine se_ops op_addA snd_add ?_ (se_var (i := 2))
                  exact (se_ops op_mulA snd_mul (se_var (i := 4)) se_int)) (fun _ _ _ _ _ _ us hl => match us, hl with | [_, _], _ => rfl)
theorem ok__law_of (Z : Zs mg) (h : At K mg "_law_of" s__law_of) (c__law_take : Cal P w K mg base 1 "_law_take" s__law_take ["_law_box_here", "_law_below"] f__law_take) : Cal P w K mg base 2 "_law_of" s__law_of ["_law_box_here", "_law_some_here"] f__law_of :=
  .of h (fun a fd F hm => def_okD (x := "_law_of") (st := s__law_of) (N := N__law_of) (ps := ["_law_box_here", "_law_some_here"]) (b := b__law_of) (k := 1) F sc__law_of fun cdv A outer s H E hr =>
      by
        refine ss_one ?_
        refine s_ret ?_
        refine se_ix ix_seq snd_ix (se_var (i := 1)) ?_
        refine se_cal (ps := ["_law_box_here", "_law_below"]) (fs := f__law_take) c__law_take (hr.mono (by decide)) (by rfl) ?_
        refine sa_cons (se_var (i := 0)) ?_
        refine sa_cons ?_ sa_nil
        refine se_callB call_lenA snd_len (by rfl) Z.z_len PySem.boot_len ?_
        exact (sa_cons (se_var (i := 1)) sa_nil)) (fun _ _ _ _ _ _ us hl => match us, hl with | [_, _], _ => rfl)
theorem ok__law_least (Z : Zs mg) (h : At K mg "_law_least" s__law_least) (c__law_of : Cal P w K mg base 2 "_law_of" s__law_of ["_law_box_here", "_law_some_here"] f__law_of) (c__law_take : Cal P w K mg base 1 "_law_take" s__law_take ["_law_box_here", "_law_below"] f__law_take) : Cal P w K mg base 3 "_law_least" s__law_least ["_law_box_here"] f__law_least :=
  .of h (fun a fd F hm => def_okD (x := "_law_least") (st := s__law_least) (N := N__law_least) (ps := ["_law_box_here"]) (b := b__law_least) (k := 2) F sc__law_least fun cdv A outer s H E hr =>
      by
        refine ss_one ?_
        refine s_ret ?_
        refine se_cal (ps := ["_law_box_here", "_law_some_here"]) (fs := f__law_of) c__law_of (hr.mono (by decide)) (by rfl) ?_
        refine sa_cons (se_var (i := 0)) ?_
        refine sa_cons ?_ sa_nil
        refine se_lst ?_
        refine sa_cons se_int ?_
        refine sa_cons se_int ?_
        refine sa_cons se_int ?_
        refine sa_cons se_int ?_
        refine sa_cons ?_ ?_
        · refine se_ops op_addA snd_add se_int ?_
          refine se_cal (ps := ["_law_box_here", "_law_below"]) (fs := f__law_take) c__law_take (hr.mono (by decide)) (by rfl) ?_
          refine sa_cons (se_var (i := 0)) ?_
          exact (sa_cons se_int sa_nil)
        · refine sa_cons ?_ sa_nil
          refine se_ops op_addA snd_add se_int ?_
          refine se_cal (ps := ["_law_box_here", "_law_below"]) (fs := f__law_take) c__law_take (hr.mono (by decide)) (by rfl) ?_
          refine sa_cons (se_var (i := 0)) ?_
          refine sa_cons ?_ sa_nil
          exact (se_op op_pow snd_pow se_int se_int)) (fun _ _ _ _ _ _ us hl => match us, hl with | [_], _ => rfl)
theorem ok__law_batch (Z : Zs mg) (h : At K mg "_law_batch" s__law_batch) (c__law_of : Cal P w K mg base 2 "_law_of" s__law_of ["_law_box_here", "_law_some_here"] f__law_of) (c__law_take : Cal P w K mg base 1 "_law_take" s__law_take ["_law_box_here", "_law_below"] f__law_take) : Cal P w K mg base 3 "_law_batch" s__law_batch ["_law_box_here", "_law_least_so", "_law_at_most"] f__law_batch :=
  .of h (fun a fd F hm => def_okD (x := "_law_batch") (st := s__law_batch) (N := N__law_batch) (ps := ["_law_box_here", "_law_least_so", "_law_at_most"]) (b := b__law_batch) (k := 2) F sc__law_batch fun cdv A outer s H E hr =>
      by
        refine ss_cons ?_ ?_
        · exact (s_set (i := 3) sc__law_batch.nd rfl (.inl rfl) (se_lstM sa_nil))
        · refine ss_cons ?_ ?_
          · refine s_for (zs := [4]) PassesOwn.never rfl ?_ (g_name (i := 4) (by decide) sc__law_batch.nd rfl (.inl rfl)) ?_
            · refine i_range1 (by rfl) Z.z_range ?_
              refine sa_cons ?_ sa_nil
              refine se_ops op_addA snd_add se_int ?_
              refine se_cal (ps := ["_law_box_here", "_law_below"]) (fs := f__law_take) c__law_take (hr.mono (by decide)) (by rfl) ?_
              refine sa_cons (se_var (i := 0)) ?_
              exact (sa_cons (se_var (i := 2)) sa_nil)
            · refine ss_cons ?_ ?_
              · refine s_set (i := 5) sc__law_batch.nd rfl (.inl rfl) ?_
                refine se_cal (ps := ["_law_box_here", "_law_some_here"]) (fs := f__law_of) c__law_of (hr.mono (by decide)) (by rfl) ?_
                refine sa_cons (se_var (i := 0)) ?_
                refine sa_cons ?_ sa_nil
                refine se_lst ?_
                refine sa_cons se_int ?_
                refine sa_cons se_int ?_
                refine sa_cons se_int ?_
                refine sa_cons ?_ ?_
                · refine se_cal (ps := ["_law_box_here", "_law_below"]) (fs := f__law_take) c__law_take (hr.mono (by decide)) (by rfl) ?_
                  refine sa_cons (se_var (i := 0)) ?_
                  refine sa_cons ?_ sa_nil
                  exact (se_ops op_addA snd_add (se_var (i := 1)) se_int)
                · refine sa_cons ?_ sa_nil
                  refine se_cal (ps := ["_law_box_here", "_law_below"]) (fs := f__law_take) c__law_take (hr.mono (by decide)) (by rfl) ?_
                  refine sa_cons (se_var (i := 0)) ?_
                  refine sa_cons ?_ sa_nil
                  refine se_ops op_addA snd_add ?_ se_int
                  exact (se_ops op_mulA snd_mul se_int (se_var (i := 1)))
              · refine ss_one ?_
                refine s_expr ?_
                refine se_meth PySem.F.plainAttrs_list PySem.F.slot_list_append PySem.F.type_list_append mt_append snd_append (se_var (i := 3)) ?_
                refine sa_cons ?_ sa_nil
                exact (se_ops op_addA snd_add (se_var (i := 1)) (se_var (i := 5)))
          · refine ss_one ?_
            refine s_ret ?_
            refine se_callTy call_tuple_of snd_tuple (by rfl) Z.z_tuple PyProof.Rows.boot_tuple ?_
            exact (sa_cons (se_var (i := 3)) sa_nil)) (fun _ _ _ _ _ _ us hl => match us, hl with | [_, _, _], _ => rfl)
theorem ok__law_same (Z : Zs mg) (h : At K mg "_law_same" s__law_same)  : ∀ d : Nat, Cal P w K mg base (1 + d) "_law_same" s__law_same ["_law_got", "_law_due"] (f__law_same d)
  | 0 => .of h (fun _ _ _ _ => def_none) (fun _ _ _ _ _ _ us hl => match us, hl with | [_, _], _ => rfl)
  | d + 1 => .of h (fun a fd F hm => by
    have ih := ok__law_same Z h  d
    exact def_okD (x := "_law_same") (st := s__law_same) (N := N__law_same) (ps := ["_law_got", "_law_due"]) (b := b__law_same (f__law_same d)) F sc__law_same fun cdv A outer s H E hr =>
      by
        refine ss_cons ?_ ?_
        · refine s_if ?_ ?_ ss_nil
          · exact (st_tr (se_isi2 (by rfl) Z.z_isinstance (by rfl) Z.z_list PyProof.Rows.boot_list (by decide) (by rfl) Z.z_tuple PyProof.Rows.boot_tuple (by decide) (se_var (i := 1))))
          · refine ss_cons ?_ ?_
            · refine s_if ?_ ?_ ss_nil
              · refine PW.pt ?_
                refine st_or ?_ ?_
                · refine st_cmp (op_neD hr.units) snd_ne ?_ ?_ (nomark _)
                  · exact (se_isi (by rfl) Z.z_isinstance (by rfl) Z.z_list PyProof.Rows.boot_list (by decide) (se_var (i := 0)))
                  · exact (se_isi (by rfl) Z.z_isinstance (by rfl) Z.z_list PyProof.Rows.boot_list (by decide) (se_var (i := 1)))
                · refine st_or1 ?_
                  refine st_cmp (op_neD hr.units) snd_ne ?_ ?_ (nomark _)
                  · exact (se_isi (by rfl) Z.z_isinstance (by rfl) Z.z_tuple PyProof.Rows.boot_tuple (by decide) (se_var (i := 0)))
                  · exact (se_isi (by rfl) Z.z_isinstance (by rfl) Z.z_tuple PyProof.Rows.boot_tuple (by decide) (se_var (i := 1)))
              · exact (ss_one (s_ret se_bl))
            · refine ss_one ?_
              refine s_ret ?_
              refine se_and ?_ ?_
              · refine se_cmp (op_eqD hr.units) snd_eq ?_ ?_ (nomark _)
                · refine se_callB call_lenA snd_len (by rfl) Z.z_len PySem.boot_len ?_
                  exact (sa_cons (se_var (i := 0)) sa_nil)
                · refine se_callB call_lenA snd_len (by rfl) Z.z_len PySem.boot_len ?_
                  exact (sa_cons (se_var (i := 1)) sa_nil)
              · refine pe_one ?_
                refine se_callB (cr_all rfl) snd_all (by rfl) Z.z_all PyProof.Rows.boot_all ?_
                refine sa_cons ?_ sa_nil
                refine se_lc (own := [("_law_mine", 2), ("_law_its", 3)]) rfl sc__law_same.nd ?_ (blkOk_by (own := [("_law_mine", 2), ("_law_its", 3)]) (N := N__law_same) (sc := defScope s__law_same) (by decide +kernel)) (fun _ _ _ _ _ => ?_) (fun _ _ _ _ _ => ts_nil) (fun _ _ _ _ _ => ?_)
                · refine i_zip (by rfl) Z.z_zip ?_
                  refine sa_cons (se_var (i := 0)) ?_
                  exact (sa_cons (se_var (i := 1)) sa_nil)
                · refine g_tup rfl ?_ ?_
                  · refine gs_cons (g_name (i := 2) (by decide) sc__law_same.nd rfl (.inl rfl)) ?_
                    exact (gs_cons (g_name (i := 3) (by decide) sc__law_same.nd rfl (.inl rfl)) gs_nil)
                  · exact (gs_len (gs_len gs_len0 _) _)
                · refine se_cal (ps := ["_law_got", "_law_due"]) (fs := (f__law_same d)) ih hr (by rfl) ?_
                  refine sa_cons (se_var (i := 2)) ?_
                  exact (sa_cons (se_var (i := 3)) sa_nil)
        · refine ss_cons ?_ ?_
          · refine s_if ?_ ?_ ss_nil
            · refine PW.pt ?_
              refine st_or ?_ ?_
              · exact (st_cmp op_isA snd_is (se_var (i := 1)) se_non (nomark _))
              · refine st_or1 ?_
                exact (st_tr (se_isi2 (by rfl) Z.z_isinstance (by rfl) Z.z_bool (by decide +kernel) (by decide) (by rfl) Z.z_str PyProof.Rows.boot_str (by decide) (se_var (i := 1))))
            · refine ss_one ?_
              refine s_ret ?_
              refine se_and ?_ ?_
              · exact (se_cmp (op_eqD hr.units) snd_eq (se_var (i := 0)) (se_var (i := 1)) (nomark _))
              · refine se_and ?_ ?_
                · refine se_cmp (op_eqD hr.units) snd_eq ?_ ?_ (nomark _)
                  · exact (se_isi (by rfl) Z.z_isinstance (by rfl) Z.z_bool (by decide +kernel) (by decide) (se_var (i := 0)))
                  · exact (se_isi (by rfl) Z.z_isinstance (by rfl) Z.z_bool (by decide +kernel) (by decide) (se_var (i := 1)))
                · refine pe_one ?_
                  refine se_cmp (op_eqD hr.units) snd_eq ?_ ?_ (nomark _)
                  · exact (se_cmp op_isA snd_is (se_var (i := 0)) se_non (nomark _))
                  · exact (se_cmp op_isA snd_is (se_var (i := 1)) se_non (nomark _))
          · refine ss_one ?_
            refine s_ret ?_
            refine se_and ?_ ?_
            · exact (se_isi (by rfl) Z.z_isinstance (by rfl) Z.z_int PyProof.Rows.boot_int (by decide) (se_var (i := 0)))
            · refine se_and ?_ ?_
              · exact (se_not (se_isi (by rfl) Z.z_isinstance (by rfl) Z.z_bool (by decide +kernel) (by decide) (se_var (i := 0))))
              · refine pe_one ?_
                exact (se_cmp (op_eqD hr.units) snd_eq (se_var (i := 0)) (se_var (i := 1)) (nomark _))) (fun _ _ _ _ _ _ us hl => match us, hl with | [_, _], _ => rfl)
theorem ok_behind (Z : Zs mg) (h : At K mg "behind" s_behind) (c_joined_blocks : Cal P w K mg base 1 "joined_blocks" s_joined_blocks ["blocks", "least"] f_joined_blocks) (c_tupled : Cal P w K mg base 17 "tupled" s_tupled ["thing"] (f_tupled 16)) : Cal P w K mg base 18 "behind" s_behind ["first", "second", "least"] f_behind :=
  .of h (fun a fd F hm => def_okD (x := "behind") (st := s_behind) (N := N_behind) (ps := ["first", "second", "least"]) (b := b_behind) (k := 17) F sc_behind fun cdv A outer s H E hr =>
      by
        refine ss_cons ?_ ?_
        · refine s_if ?_ ?_ ss_nil
          · refine PW.pt ?_
            refine st_or ?_ ?_
            · exact (st_cmp op_isA snd_is (se_var (i := 0)) se_non (nomark _))
            · refine st_or1 ?_
              exact (st_cmp op_isA snd_is (se_var (i := 1)) se_non (nomark _))
          · exact (ss_one (s_ret se_non))
        · refine ss_cons ?_ ?_
          · refine s_par (i := 5) (j := 6) rfl sc_behind.nd rfl rfl (by decide) rfl rfl ?_ (by rfl)
            refine sa_cons ?_ ?_
            · refine se_cal (ps := ["thing"]) (fs := (f_tupled 16)) c_tupled (hr.mono (by decide)) (by rfl) ?_
              exact (sa_cons (se_var (i := 0)) sa_nil)
            · refine sa_cons ?_ sa_nil
              refine se_cal (ps := ["thing"]) (fs := (f_tupled 16)) c_tupled (hr.mono (by decide)) (by rfl) ?_
              exact (sa_cons (se_var (i := 1)) sa_nil)
          · refine ss_cons ?_ ?_
            · refine s_if ?_ ?_ ss_nil
              · refine st_cmp (op_eqD hr.units) snd_eq ?_ se_int (nomark _)
                refine se_callB call_lenA snd_len (by rfl) Z.z_len PySem.boot_len ?_
                exact (sa_cons (se_var (i := 5)) sa_nil)
              · exact (ss_one (s_ret (se_var (i := 6))))
            · refine ss_cons ?_ ?_
              · refine s_set (i := 3) sc_behind.nd rfl (.inr rfl) ?_
                refine se_ix ix_seq snd_ix ?_ se_int
                exact (se_ix ix_seq snd_ix (se_var (i := 5)) se_int)
              · refine ss_cons ?_ ?_
                · refine s_setLc (i := 4) (own := [("low", 7), ("high", 8)]) rfl sc_behind.nd rfl rfl (sw_true rfl rfl rfl (by decide +kernel)) ?_ (blkOk_by (own := [("low", 7), ("high", 8)]) (N := N_behind) (sc := defScope s_behind) (by decide +kernel)) (fun _ _ _ _ _ => ?_) (fun _ _ _ _ _ => ?_) (fun _ _ _ _ _ => ?_)
                  · exact (i_seq (se_var (i := 6)))
                  · refine g_tup rfl ?_ ?_
                    · refine gs_cons (g_name (i := 7) (by decide) sc_behind.nd rfl (.inl rfl)) ?_
                      exact (gs_cons (g_name (i := 8) (by decide) sc_behind.nd rfl (.inl rfl)) gs_nil)
                    · exact (gs_len (gs_len gs_len0 _) _)
                  · refine ts_one ?_
                    exact (st_cmp (op_ltA hr) snd_lt (se_var (i := 7)) (se_var (i := 3)) (nomark _))
                  · refine se_tup ?_
                    refine sa_cons (se_var (i := 7)) ?_
                    refine sa_cons ?_ sa_nil
                    refine se_callB (call_minA rfl hr) snd_min (by rfl) Z.z_min PyProof.Rows.boot_min ?_
                    refine sa_cons (se_var (i := 8)) ?_
                    refine sa_cons ?_ sa_nil
                    exact (se_op op_sub snd_sub (se_var (i := 3)) se_int)
                · refine ss_one ?_
                  refine s_ret ?_
                  refine se_cal (ps := ["blocks", "least"]) (fs := f_joined_blocks) c_joined_blocks (hr.mono (by decide)) (by rfl) ?_
                  refine sa_cons ?_ ?_
                  · refine se_ops op_addA snd_add (se_var (i := 4)) ?_
                    refine se_callTy call_list_of snd_list (by rfl) Z.z_list PyProof.Rows.boot_list ?_
                    exact (sa_cons (se_var (i := 5)) sa_nil)
                  · exact (sa_cons (se_var (i := 2)) sa_nil)) (fun _ _ _ _ _ _ us hl => match us, hl with | [_, _, _], _ => rfl)
theorem ok_holds (Z : Zs mg) (h : At K mg "holds" s_holds) (c_blocks_of : Cal P w K mg base 18 "blocks_of" s_blocks_of ["blocks"] f_blocks_of) : Cal P w K mg base 19 "holds" s_holds ["blocks", "number"] f_holds :=
  .of h (fun a fd F hm => def_okD (x := "holds") (st := s_holds) (N := N_holds) (ps := ["blocks", "number"]) (b := b_holds) (k := 18) F sc_holds fun cdv A outer s H E hr =>
      by
        refine ss_one ?_
        refine s_ret ?_
        refine se_callB (cr_any rfl) snd_any (by rfl) Z.z_any PyProof.Rows.boot_any ?_
        refine sa_cons ?_ sa_nil
        refine se_lc (own := [("low", 2), ("high", 3)]) rfl sc_holds.nd ?_ (blkOk_by (own := [("low", 2), ("high", 3)]) (N := N_holds) (sc := defScope s_holds) (by decide +kernel)) (fun _ _ _ _ _ => ?_) (fun _ _ _ _ _ => ts_nil) (fun _ _ _ _ _ => ?_)
        · refine i_seq ?_
          refine se_cal (ps := ["blocks"]) (fs := f_blocks_of) c_blocks_of (hr.mono (by decide)) (by rfl) ?_
          exact (sa_cons (se_var (i := 0)) sa_nil)
        · refine g_tup rfl ?_ ?_
          · refine gs_cons (g_name (i := 2) (by decide) sc_holds.nd rfl (.inl rfl)) ?_
            exact (gs_cons (g_name (i := 3) (by decide) sc_holds.nd rfl (.inl rfl)) gs_nil)
          · exact (gs_len (gs_len gs_len0 _) _)
        · exact (se_chain op_le op_le snd_le snd_le (se_var (i := 2)) (se_var (i := 1)) (se_var (i := 3)))) (fun _ _ _ _ _ _ us hl => match us, hl with | [_, _], _ => rfl)
theorem ok_greatest_apart (Z : Zs mg) (h : At K mg "greatest_apart" s_greatest_apart)  : Cal P w K mg base 1 "greatest_apart" s_greatest_apart ["mine", "its"] f_greatest_apart :=
  .of h (fun a fd F hm => def_okD (x := "greatest_apart") (st := s_greatest_apart) (N := N_greatest_apart) (ps := ["mine", "its"]) (b := b_greatest_apart) (k := 0) F sc_greatest_apart fun cdv A outer s H E hr =>
      by
        refine ss_cons ?_ ?_
        · refine s_par (i := 2) (j := 3) rfl sc_greatest_apart.nd rfl rfl (by decide) rfl rfl ?_ (by rfl)
          refine sa_cons ?_ ?_
          · refine se_listM (by rfl) Z.z_list ?_
            exact (sa_cons (se_var (i := 0)) sa_nil)
          · refine sa_cons ?_ sa_nil
            refine se_listM (by rfl) Z.z_list ?_
            exact (sa_cons (se_var (i := 1)) sa_nil)
        · refine ss_cons ?_ ?_
          · refine s_while PassesOwn.never ?_ ?_
            · refine st_cmp (op_eqD hr.units) snd_eq ?_ ?_ (nomark _)
              · refine se_ix ix_seq snd_ix (se_var (i := 2)) ?_
                exact (se_un un_neg snd_neg se_int)
              · refine se_ix ix_seq snd_ix (se_var (i := 3)) ?_
                exact (se_un un_neg snd_neg se_int)
            · refine ss_cons ?_ ?_
              · exact (s_expr (se_meth0 PySem.F.plainAttrs_list PySem.F.slot_list_pop PySem.F.type_list_pop mt_pop snd_pop (se_var (i := 2))))
              · refine ss_one ?_
                exact (s_expr (se_meth0 PySem.F.plainAttrs_list PySem.F.slot_list_pop PySem.F.type_list_pop mt_pop snd_pop (se_var (i := 3))))
          · refine ss_cons ?_ ?_
            · refine s_setT (zs := [4, 5, 6, 7]) ?_ ?_
              · refine se_tup ?_
                refine sa_cons ?_ ?_
                · refine se_ix ix_seq snd_ix (se_var (i := 2)) ?_
                  exact (se_un un_neg snd_neg se_int)
                · refine sa_cons ?_ sa_nil
                  refine se_ix ix_seq snd_ix (se_var (i := 3)) ?_
                  exact (se_un un_neg snd_neg se_int)
              · refine g_tup rfl ?_ ?_
                · refine gs_cons ?_ ?_
                  · refine g_tup rfl ?_ ?_
                    · refine gs_cons (g_name (i := 4) (by decide) sc_greatest_apart.nd rfl (.inl rfl)) ?_
                      exact (gs_cons (g_name (i := 5) (by decide) sc_greatest_apart.nd rfl (.inl rfl)) gs_nil)
                    · exact (gs_len (gs_len gs_len0 _) _)
                  · refine gs_cons ?_ gs_nil
                    refine g_tup rfl ?_ ?_
                    · refine gs_cons (g_name (i := 6) (by decide) sc_greatest_apart.nd rfl (.inl rfl)) ?_
                      exact (gs_cons (g_name (i := 7) (by decide) sc_greatest_apart.nd rfl (.inl rfl)) gs_nil)
                    · exact (gs_len (gs_len gs_len0 _) _)
                · exact (gs_len (gs_len gs_len0 _) _)
            · refine ss_one ?_
              refine s_ret ?_
              refine se_if ?_ ?_ ?_
              · exact (st_cmp (op_neD hr.units) snd_ne (se_var (i := 5)) (se_var (i := 7)) (nomark _))
              · refine se_callB (call_maxA rfl hr) snd_max (by rfl) Z.z_max PyProof.Rows.boot_max ?_
                refine sa_cons (se_var (i := 5)) ?_
                exact (sa_cons (se_var (i := 7)) sa_nil)
              · refine se_op op_sub snd_sub ?_ se_int
                refine se_callB (call_maxA rfl hr) snd_max (by rfl) Z.z_max PyProof.Rows.boot_max ?_
                refine sa_cons (se_var (i := 4)) ?_
                exact (sa_cons (se_var (i := 6)) sa_nil)) (fun _ _ _ _ _ _ us hl => match us, hl with | [_, _], _ => rfl)
theorem ok_next_above (Z : Zs mg) (h : At K mg "next_above" s_next_above) (c_blocks_of : Cal P w K mg base 18 "blocks_of" s_blocks_of ["blocks"] f_blocks_of) : Cal P w K mg base 19 "next_above" s_next_above ["blocks", "number"] f_next_above :=
  .of h (fun a fd F hm => def_okD (x := "next_above") (st := s_next_above) (N := N_next_above) (ps := ["blocks", "number"]) (b := b_next_above) (k := 18) F sc_next_above fun cdv A outer s H E hr =>
      by
        refine ss_cons ?_ ?_
        · refine s_setLc (i := 2) (own := [("low", 3), ("high", 4)]) rfl sc_next_above.nd rfl rfl (sw_true rfl rfl rfl (by decide +kernel)) ?_ (blkOk_by (own := [("low", 3), ("high", 4)]) (N := N_next_above) (sc := defScope s_next_above) (by decide +kernel)) (fun _ _ _ _ _ => ?_) (fun _ _ _ _ _ => ?_) (fun _ _ _ _ _ => ?_)
          · refine i_seq ?_
            refine se_cal (ps := ["blocks"]) (fs := f_blocks_of) c_blocks_of (hr.mono (by decide)) (by rfl) ?_
            exact (sa_cons (se_var (i := 0)) sa_nil)
          · refine g_tup rfl ?_ ?_
            · refine gs_cons (g_name (i := 3) (by decide) sc_next_above.nd rfl (.inl rfl)) ?_
              exact (gs_cons (g_name (i := 4) (by decide) sc_next_above.nd rfl (.inl rfl)) gs_nil)
            · exact (gs_len (gs_len gs_len0 _) _)
          · refine ts_one ?_
            exact (st_cmp op_gt snd_gt (se_var (i := 4)) (se_var (i := 1)) (nomark _))
          · refine se_callB (call_maxA rfl hr) snd_max (by rfl) Z.z_max PyProof.Rows.boot_max ?_
            refine sa_cons (se_var (i := 3)) ?_
            refine sa_cons ?_ sa_nil
            exact (se_ops op_addA snd_add (se_var (i := 1)) se_int)
        · refine ss_one ?_
          refine s_ret ?_
          refine se_if ?_ ?_ se_non
          · refine st_cmp op_gt snd_gt ?_ se_int (nomark _)
            refine se_callB call_lenA snd_len (by rfl) Z.z_len PySem.boot_len ?_
            exact (sa_cons (se_var (i := 2)) sa_nil)
          · exact (se_ix ix_seq snd_ix (se_var (i := 2)) se_int)) (fun _ _ _ _ _ _ us hl => match us, hl with | [_, _], _ => rfl)
theorem ok_parting (Z : Zs mg) (h : At K mg "parting" s_parting) (c_filling : Cal P w K mg base 2 "filling" s_filling ["row", "least"] f_filling) (c_greatest_apart : Cal P w K mg base 1 "greatest_apart" s_greatest_apart ["mine", "its"] f_greatest_apart) (c_holds : Cal P w K mg base 19 "holds" s_holds ["blocks", "number"] f_holds) (c_next_above : Cal P w K mg base 19 "next_above" s_next_above ["blocks", "number"] f_next_above) : Cal P w K mg base 20 "parting" s_parting ["row", "other", "least"] f_parting :=
  .of h (fun a fd F hm => def_okD (x := "parting") (st := s_parting) (N := N_parting) (ps := ["row", "other", "least"]) (b := b_parting) (k := 19) F sc_parting fun cdv A outer s H E hr =>
      by
        refine ss_cons ?_ ?_
        · refine s_par (i := 6) (j := 7) rfl sc_parting.nd rfl rfl (by decide) rfl rfl ?_ (by rfl)
          refine sa_cons ?_ ?_
          · refine se_cal (ps := ["row", "least"]) (fs := f_filling) c_filling (hr.mono (by decide)) (by rfl) ?_
            refine sa_cons (se_var (i := 0)) ?_
            exact (sa_cons (se_var (i := 2)) sa_nil)
          · refine sa_cons ?_ sa_nil
            refine se_cal (ps := ["row", "least"]) (fs := f_filling) c_filling (hr.mono (by decide)) (by rfl) ?_
            refine sa_cons (se_var (i := 1)) ?_
            exact (sa_cons (se_var (i := 2)) sa_nil)
        · refine ss_cons ?_ ?_
          · refine s_if ?_ ?_ ss_nil
            · exact (st_cmp (op_eqD hr.units) snd_eq (se_var (i := 6)) (se_var (i := 7)) (nomark _))
            · exact (ss_one (s_ret se_non))
          · refine ss_cons ?_ ?_
            · refine s_if ?_ ?_ ss_nil
              · refine PW.pt ?_
                refine st_or ?_ ?_
                · exact (st_cmp op_isA snd_is (se_var (i := 6)) se_non (nomark _))
                · refine st_or1 ?_
                  exact (st_cmp op_isA snd_is (se_var (i := 7)) se_non (nomark _))
              · refine ss_one ?_
                refine s_ret ?_
                refine se_tup ?_
                refine sa_cons (se_var (i := 2)) ?_
                exact (sa_cons (se_var (i := 2)) sa_nil)
            · refine ss_cons ?_ ?_
              · refine s_if ?_ ?_ ss_nil
                · refine PW.pt ?_
                  refine st_or ?_ ?_
                  · refine st_cmp (op_eqD hr.units) snd_eq (se_var (i := 6)) ?_ (nomark _)
                    exact (se_tup sa_nil)
                  · refine st_or1 ?_
                    refine st_cmp (op_eqD hr.units) snd_eq (se_var (i := 7)) ?_ (nomark _)
                    exact (se_tup sa_nil)
                · refine ss_one ?_
                  refine s_ret ?_
                  refine se_tup ?_
                  refine sa_cons ?_ ?_
                  · refine se_op op_sub snd_sub ?_ (se_var (i := 2))
                    refine se_ops op_addA snd_add ?_ se_int
                    refine se_ix ix_seq snd_ix ?_ se_int
                    refine se_ix ix_seq snd_ix ?_ se_int
                    exact (se_ops op_addA snd_add (se_var (i := 6)) (se_var (i := 7)))
                  · exact (sa_cons (se_var (i := 2)) sa_nil)
              · refine ss_cons ?_ ?_
                · refine s_if ?_ ?_ ss_nil
                  · refine st_cmp (op_neD hr.units) snd_ne ?_ ?_ (nomark _)
                    · refine se_ix ix_seq snd_ix ?_ se_int
                      exact (se_ix ix_seq snd_ix (se_var (i := 6)) se_int)
                    · refine se_ix ix_seq snd_ix ?_ se_int
                      exact (se_ix ix_seq snd_ix (se_var (i := 7)) se_int)
                  · refine ss_one ?_
                    refine s_ret ?_
                    refine se_tup ?_
                    refine sa_cons ?_ ?_
                    · refine se_op op_sub snd_sub ?_ (se_var (i := 2))
                      refine se_callB (call_maxA rfl hr) snd_max (by rfl) Z.z_max PyProof.Rows.boot_max ?_
                      refine sa_cons ?_ ?_
                      · refine se_ix ix_seq snd_ix ?_ se_int
                        exact (se_ix ix_seq snd_ix (se_var (i := 6)) se_int)
                      · refine sa_cons ?_ sa_nil
                        refine se_ix ix_seq snd_ix ?_ se_int
                        exact (se_ix ix_seq snd_ix (se_var (i := 7)) se_int)
                    · exact (sa_cons (se_var (i := 2)) sa_nil)
                · refine ss_cons ?_ ?_
                  · refine s_set (i := 3) sc_parting.nd rfl (.inl rfl) ?_
                    refine se_cal (ps := ["mine", "its"]) (fs := f_greatest_apart) c_greatest_apart (hr.mono (by decide)) (by rfl) ?_
                    refine sa_cons (se_var (i := 6)) ?_
                    exact (sa_cons (se_var (i := 7)) sa_nil)
                  · refine ss_cons ?_ ?_
                    · refine s_set (i := 4) sc_parting.nd rfl (.inl rfl) ?_
                      refine se_cal (ps := ["blocks", "number"]) (fs := f_next_above) c_next_above (hr.mono (by decide)) (by rfl) ?_
                      refine sa_cons ?_ ?_
                      · refine se_if ?_ (se_var (i := 6)) (se_var (i := 7))
                        refine st_tr ?_
                        refine se_cal (ps := ["blocks", "number"]) (fs := f_holds) c_holds (hr.mono (by decide)) (by rfl) ?_
                        refine sa_cons (se_var (i := 6)) ?_
                        exact (sa_cons (se_var (i := 3)) sa_nil)
                      · exact (sa_cons (se_var (i := 3)) sa_nil)
                    · refine ss_cons ?_ ?_
                      · refine s_set (i := 5) sc_parting.nd rfl (.inl rfl) ?_
                        refine se_if ?_ (se_var (i := 3)) ?_
                        · exact (st_cmp op_isA snd_is (se_var (i := 4)) se_non (nomark _))
                        · refine se_callB (call_minA rfl hr) snd_min (by rfl) Z.z_min PyProof.Rows.boot_min ?_
                          refine sa_cons (se_var (i := 3)) ?_
                          refine sa_cons ?_ sa_nil
                          exact (se_op op_sub snd_sub (se_var (i := 4)) (se_var (i := 2)))
                      · refine ss_one ?_
                        refine s_ret ?_
                        refine se_tup ?_
                        refine sa_cons ?_ ?_
                        · exact (se_op op_sub snd_sub (se_var (i := 5)) (se_var (i := 2)))
                        · refine sa_cons (se_var (i := 2)) ?_
                          exact (sa_cons (se_var (i := 2)) sa_nil)) (fun _ _ _ _ _ _ us hl => match us, hl with | [_, _, _], _ => rfl)
theorem ok_hop_places (Z : Zs mg) (h : At K mg "hop_places" s_hop_places)  : Cal P w K mg base 1 "hop_places" s_hop_places ["limit", "batch", "start", "end"] f_hop_places :=
  .of h (fun a fd F hm => def_okD (x := "hop_places") (st := s_hop_places) (N := N_hop_places) (ps := ["limit", "batch", "start", "end"]) (b := b_hop_places) (k := 0) F sc_hop_places fun cdv A outer s H E hr =>
      by
        refine ss_cons ?_ ?_
        · refine s_par (i := 5) (j := 6) rfl sc_hop_places.nd rfl rfl (by decide) rfl rfl ?_ (by rfl)
          refine sa_cons ?_ ?_
          · exact (se_lstM sa_nil)
          · refine sa_cons ?_ sa_nil
            exact (se_ix ix_seq snd_ix (se_var (i := 1)) (se_var (i := 2)))
        · refine ss_cons ?_ ?_
          · refine s_for (zs := [4]) PassesOwn.never rfl ?_ (g_name (i := 4) (by decide) sc_hop_places.nd rfl (.inl rfl)) ?_
            · refine i_range2 (by rfl) Z.z_range ?_
              refine sa_cons ?_ ?_
              · exact (se_ops op_addA snd_add (se_var (i := 2)) se_int)
              · exact (sa_cons (se_var (i := 3)) sa_nil)
            · refine ss_cons ?_ ?_
              · refine s_if ?_ ?_ ss_nil
                · refine st_cmp op_gt snd_gt ?_ (se_var (i := 0)) (nomark _)
                  refine se_ops op_addA snd_add (se_var (i := 6)) ?_
                  exact (se_ix ix_seq snd_ix (se_var (i := 1)) (se_var (i := 4)))
                · refine ss_cons ?_ ?_
                  · refine s_expr ?_
                    refine se_meth PySem.F.plainAttrs_list PySem.F.slot_list_append PySem.F.type_list_append mt_append snd_append (se_var (i := 5)) ?_
                    exact (sa_cons (se_var (i := 4)) sa_nil)
                  · exact (ss_one (s_set (i := 6) sc_hop_places.nd rfl (.inl rfl) se_int))
              · refine ss_one ?_
                refine s_aug (i := 6) sc_hop_places.nd rfl (.inl rfl) ?_ ip_add snd_ipadd
                exact (se_ix ix_seq snd_ix (se_var (i := 1)) (se_var (i := 4)))
          · exact (ss_one (s_ret (se_var (i := 5))))) (fun _ _ _ _ _ _ us hl => match us, hl with | [_, _, _, _], _ => rfl)
theorem ok_cuts (Z : Zs mg) (h : At K mg "cuts" s_cuts) (c_hop_places : Cal P w K mg base 1 "hop_places" s_hop_places ["limit", "batch", "start", "end"] f_hop_places) : Cal P w K mg base 2 "cuts" s_cuts ["row", "batch"] f_cuts :=
  .of h (fun a fd F hm => def_okD (x := "cuts") (st := s_cuts) (N := N_cuts) (ps := ["row", "batch"]) (b := b_cuts) (k := 1) F sc_cuts fun cdv A outer s H E hr =>
      by
        refine ss_cons ?_ ?_
        · refine s_par (i := 2) (j := 3) rfl sc_cuts.nd rfl rfl (by decide) rfl rfl ?_ (by rfl)
          refine sa_cons ?_ ?_
          · refine se_callTy call_tuple_of snd_tuple (by rfl) Z.z_tuple PyProof.Rows.boot_tuple ?_
            exact (sa_cons (se_var (i := 1)) sa_nil)
          · refine sa_cons ?_ sa_nil
            exact (se_lstM sa_nil)
        · refine ss_cons ?_ ?_
          · refine s_for (zs := [4, 5]) PassesOwn.never rfl ?_ ?_ ?_
            · refine i_enum (by rfl) Z.z_enumerate ?_
              exact (sa_cons (se_var (i := 0)) sa_nil)
            · refine g_tup rfl ?_ ?_
              · refine gs_cons (g_name (i := 4) (by decide) sc_cuts.nd rfl (.inr rfl)) ?_
                exact (gs_cons (g_name (i := 5) (by decide) sc_cuts.nd rfl (.inl rfl)) gs_nil)
              · exact (gs_len (gs_len gs_len0 _) _)
            · refine ss_cons ?_ ?_
              · refine s_set (i := 6) sc_cuts.nd rfl (.inl rfl) ?_
                refine se_callB call_sortedA snd_sorted (by rfl) Z.z_sorted PyProof.Rows.boot_sorted ?_
                refine sa_cons ?_ sa_nil
                refine se_lc (own := [("place", 9), ("other", 10)]) rfl sc_cuts.nd ?_ (blkOk_by (own := [("place", 9), ("other", 10)]) (N := N_cuts) (sc := defScope s_cuts) (by decide +kernel)) (fun _ _ _ _ _ => ?_) (fun _ _ _ _ _ => ts_nil) (fun _ _ _ _ _ => (se_var (i := 9)))
                · exact (i_seq (se_var (i := 3)))
                · refine g_tup rfl ?_ ?_
                  · refine gs_cons (g_name (i := 9) (by decide) sc_cuts.nd rfl (.inl rfl)) ?_
                    exact (gs_cons (g_name (i := 10) (by decide) sc_cuts.nd rfl (.inl rfl)) gs_nil)
                  · exact (gs_len (gs_len gs_len0 _) _)
              · refine ss_one ?_
                refine s_for (zs := [7, 8]) PassesOwn.never rfl ?_ ?_ ?_
                · refine i_zip (by rfl) Z.z_zip ?_
                  refine sa_cons ?_ ?_
                  · refine se_lst ?_
                    refine sa_cons se_int ?_
                    exact (sa_star (se_var (i := 6)) sa_nil)
                  · refine sa_cons ?_ sa_nil
                    refine se_lst ?_
                    refine sa_star (se_var (i := 6)) ?_
                    refine sa_cons ?_ sa_nil
                    refine se_callB call_lenA snd_len (by rfl) Z.z_len PySem.boot_len ?_
                    exact (sa_cons (se_var (i := 2)) sa_nil)
                · refine g_tup rfl ?_ ?_
                  · refine gs_cons (g_name (i := 7) (by decide) sc_cuts.nd rfl (.inl rfl)) ?_
                    exact (gs_cons (g_name (i := 8) (by decide) sc_cuts.nd rfl (.inl rfl)) gs_nil)
                  · exact (gs_len (gs_len gs_len0 _) _)
                · refine ss_one ?_
                  refine s_expr ?_
                  refine se_meth PySem.F.plainAttrs_list PySem.F.slot_list_extend PySem.F.type_list_extend mt_extend snd_extend (se_var (i := 3)) ?_
                  refine sa_cons ?_ sa_nil
                  refine se_lc (own := [("place", 9)]) rfl sc_cuts.nd ?_ (blkOk_by (own := [("place", 9)]) (N := N_cuts) (sc := defScope s_cuts) (by decide +kernel)) (fun _ _ _ _ _ => (g_name (i := 9) (by decide) sc_cuts.nd rfl (.inl rfl))) (fun _ _ _ _ _ => ts_nil) (fun _ _ _ _ _ => ?_)
                  · refine i_seq ?_
                    refine se_cal (ps := ["limit", "batch", "start", "end"]) (fs := f_hop_places) c_hop_places (hr.mono (by decide)) (by rfl) ?_
                    refine sa_cons (se_var (i := 5)) ?_
                    refine sa_cons (se_var (i := 2)) ?_
                    refine sa_cons (se_var (i := 7)) ?_
                    exact (sa_cons (se_var (i := 8)) sa_nil)
                  · refine se_tup ?_
                    refine sa_cons (se_var (i := 9)) ?_
                    exact (sa_cons (se_var (i := 4)) sa_nil)
          · refine ss_one ?_
            refine s_ret ?_
            refine se_callB call_sortedA snd_sorted (by rfl) Z.z_sorted PyProof.Rows.boot_sorted ?_
            exact (sa_cons (se_var (i := 3)) sa_nil)) (fun _ _ _ _ _ _ us hl => match us, hl with | [_, _], _ => rfl)
theorem ok_parts (Z : Zs mg) (h : At K mg "parts" s_parts) (c_cuts : Cal P w K mg base 2 "cuts" s_cuts ["row", "batch"] f_cuts) : Cal P w K mg base 3 "parts" s_parts ["row", "batch"] f_parts :=
  .of h (fun a fd F hm => def_okD (x := "parts") (st := s_parts) (N := N_parts) (ps := ["row", "batch"]) (b := b_parts) (k := 2) F sc_parts fun cdv A outer s H E hr =>
      by
        refine ss_cons ?_ ?_
        · refine s_parT (is := [2, 3]) rfl (pgs_cons (pg_name (i := 2) sc_parts.nd rfl (.inr rfl)) (pgs_cons (pg_name (i := 3) sc_parts.nd rfl (.inl rfl)) pgs_nil)) ?_
          refine sa_cons ?_ ?_
          · refine se_callTy call_tuple_of snd_tuple (by rfl) Z.z_tuple PyProof.Rows.boot_tuple ?_
            exact (sa_cons (se_var (i := 1)) sa_nil)
          · refine sa_cons ?_ sa_nil
            refine se_lc (own := [("place", 6), ("hop", 7)]) rfl sc_parts.nd ?_ (blkOk_by (own := [("place", 6), ("hop", 7)]) (N := N_parts) (sc := defScope s_parts) (by decide +kernel)) (fun _ _ _ _ _ => ?_) (fun _ _ _ _ _ => ts_nil) (fun _ _ _ _ _ => (se_var (i := 6)))
            · refine i_seq ?_
              refine se_cal (ps := ["row", "batch"]) (fs := f_cuts) c_cuts (hr.mono (by decide)) (by rfl) ?_
              refine sa_cons (se_var (i := 0)) ?_
              exact (sa_cons (se_var (i := 1)) sa_nil)
            · refine g_tup rfl ?_ ?_
              · refine gs_cons (g_name (i := 6) (by decide) sc_parts.nd rfl (.inl rfl)) ?_
                exact (gs_cons (g_name (i := 7) (by decide) sc_parts.nd rfl (.inl rfl)) gs_nil)
              · exact (gs_len (gs_len gs_len0 _) _)
        · refine ss_one ?_
          refine s_ret ?_
          refine se_lc (own := [("start", 4), ("end", 5)]) rfl sc_parts.nd ?_ (blkOk_by (own := [("start", 4), ("end", 5)]) (N := N_parts) (sc := defScope s_parts) (by decide +kernel)) (fun _ _ _ _ _ => ?_) (fun _ _ _ _ _ => ts_nil) (fun _ _ _ _ _ => ?_)
          · refine i_zip (by rfl) Z.z_zip ?_
            refine sa_cons ?_ ?_
            · refine se_lst ?_
              refine sa_cons se_int ?_
              exact (sa_star (se_var (i := 3)) sa_nil)
            · refine sa_cons ?_ sa_nil
              refine se_lst ?_
              refine sa_star (se_var (i := 3)) ?_
              refine sa_cons ?_ sa_nil
              refine se_callB call_lenA snd_len (by rfl) Z.z_len PySem.boot_len ?_
              exact (sa_cons (se_var (i := 2)) sa_nil)
          · refine g_tup rfl ?_ ?_
            · refine gs_cons (g_name (i := 4) (by decide) sc_parts.nd rfl (.inl rfl)) ?_
              exact (gs_cons (g_name (i := 5) (by decide) sc_parts.nd rfl (.inl rfl)) gs_nil)
            · exact (gs_len (gs_len gs_len0 _) _)
          · refine se_sl (se_var (i := 2)) ?_ ?_
            · exact (so_some (se_var (i := 4)))
            · exact (so_some (se_var (i := 5)))) (fun _ _ _ _ _ _ us hl => match us, hl with | [_, _], _ => rfl)
theorem ok__law_put_right (Z : Zs mg) (h : At K mg "_law_put_right" s__law_put_right) (c__law_batch : Cal P w K mg base 3 "_law_batch" s__law_batch ["_law_box_here", "_law_least_so", "_law_at_most"] f__law_batch) (c__law_same : Cal P w K mg base 17 "_law_same" s__law_same ["_law_got", "_law_due"] (f__law_same 16)) (c__law_with : Cal P w K mg base 1 "_law_with" s__law_with ["_law_found", "_law_number_so"] f__law_with) (c_alike : Cal P w K mg base 3 "alike" s_alike ["row", "other", "least"] f_alike) (c_behind : Cal P w K mg base 18 "behind" s_behind ["first", "second", "least"] f_behind) (c_filling : Cal P w K mg base 2 "filling" s_filling ["row", "least"] f_filling) (c_holds : Cal P w K mg base 19 "holds" s_holds ["blocks", "number"] f_holds) (c_parting : Cal P w K mg base 20 "parting" s_parting ["row", "other", "least"] f_parting) (c_parts : Cal P w K mg base 3 "parts" s_parts ["row", "batch"] f_parts) (c_records : Cal P w K mg base 1 "records" s_records ["row"] f_records) : Cal P w K mg base 21 "_law_put_right" s__law_put_right ["_law_box_here", "_law_row_so", "_law_least_so", "_law_number_so"] f__law_put_right :=
  .of h (fun a fd F hm => def_okD (x := "_law_put_right") (st := s__law_put_right) (N := N__law_put_right) (ps := ["_law_box_here", "_law_row_so", "_law_least_so", "_law_number_so"]) (b := b__law_put_right) (k := 20) F sc__law_put_right fun cdv A outer s H E hr =>
      by
        refine ss_cons ?_ ?_
        · refine s_set (i := 4) sc__law_put_right.nd rfl (.inl rfl) ?_
          refine se_cal (ps := ["row", "least"]) (fs := f_filling) c_filling (hr.mono (by decide)) (by rfl) ?_
          refine sa_cons (se_var (i := 1)) ?_
          exact (sa_cons (se_var (i := 2)) sa_nil)
        · refine ss_cons ?_ ?_
          · refine s_set (i := 5) sc__law_put_right.nd rfl (.inl rfl) ?_
            refine se_cal (ps := ["_law_found", "_law_number_so"]) (fs := f__law_with) c__law_with (hr.mono (by decide)) (by rfl) ?_
            refine sa_cons ?_ ?_
            · refine se_cal (ps := ["row"]) (fs := f_records) c_records (hr.mono (by decide)) (by rfl) ?_
              exact (sa_cons (se_var (i := 1)) sa_nil)
            · exact (sa_cons (se_var (i := 3)) sa_nil)
          · refine ss_cons ?_ ?_
            · refine s_set (i := 6) sc__law_put_right.nd rfl (.inl rfl) ?_
              refine se_or ?_ ?_
              · exact (se_cmp op_isA snd_is (se_var (i := 4)) se_non (nomark _))
              · refine pe_one ?_
                refine se_cal (ps := ["blocks", "number"]) (fs := f_holds) c_holds (hr.mono (by decide)) (by rfl) ?_
                refine sa_cons (se_var (i := 4)) ?_
                exact (sa_cons (se_var (i := 3)) sa_nil)
            · refine ss_cons ?_ ?_
              · refine s_if ?_ ?_ ss_nil
                · refine st_not ?_
                  refine st_tr ?_
                  refine se_cal (ps := ["_law_got", "_law_due"]) (fs := (f__law_same 16)) c__law_same (hr.mono (by decide)) (by rfl) ?_
                  refine sa_cons ?_ ?_
                  · refine se_cal (ps := ["row", "other", "least"]) (fs := f_alike) c_alike (hr.mono (by decide)) (by rfl) ?_
                    refine sa_cons (se_var (i := 5)) ?_
                    refine sa_cons (se_var (i := 1)) ?_
                    exact (sa_cons (se_var (i := 2)) sa_nil)
                  · exact (sa_cons (se_var (i := 6)) sa_nil)
                · exact (ss_one (s_ret se_bl))
              · refine ss_cons ?_ ?_
                · refine s_set (i := 7) sc__law_put_right.nd rfl (.inl rfl) ?_
                  refine se_cal (ps := ["first", "second", "least"]) (fs := f_behind) c_behind (hr.mono (by decide)) (by rfl) ?_
                  refine sa_cons ?_ ?_
                  · refine se_cal (ps := ["row", "least"]) (fs := f_filling) c_filling (hr.mono (by decide)) (by rfl) ?_
                    refine sa_cons ?_ ?_
                    · refine se_tup ?_
                      exact (sa_cons (se_var (i := 3)) sa_nil)
                    · exact (sa_cons (se_var (i := 2)) sa_nil)
                  · refine sa_cons (se_var (i := 4)) ?_
                    exact (sa_cons (se_var (i := 2)) sa_nil)
                · refine ss_cons ?_ ?_
                  · refine s_if ?_ ?_ ss_nil
                    · refine st_not ?_
                      refine st_tr ?_
                      refine se_cal (ps := ["_law_got", "_law_due"]) (fs := (f__law_same 16)) c__law_same (hr.mono (by decide)) (by rfl) ?_
                      refine sa_cons ?_ ?_
                      · refine se_cal (ps := ["row", "least"]) (fs := f_filling) c_filling (hr.mono (by decide)) (by rfl) ?_
                        refine sa_cons ?_ ?_
                        · refine se_ops op_addA snd_add ?_ (se_var (i := 1))
                          refine se_tup ?_
                          exact (sa_cons (se_var (i := 3)) sa_nil)
                        · exact (sa_cons (se_var (i := 2)) sa_nil)
                      · exact (sa_cons (se_var (i := 7)) sa_nil)
                    · exact (ss_one (s_ret se_bl))
                  · refine ss_cons ?_ ?_
                    · refine s_set (i := 8) sc__law_put_right.nd rfl (.inl rfl) ?_
                      refine se_cal (ps := ["_law_box_here", "_law_least_so", "_law_at_most"]) (fs := f__law_batch) c__law_batch (hr.mono (by decide)) (by rfl) ?_
                      refine sa_cons (se_var (i := 0)) ?_
                      refine sa_cons (se_var (i := 2)) ?_
                      exact (sa_cons se_int sa_nil)
                    · refine ss_cons ?_ ?_
                      · refine s_if ?_ ?_ ss_nil
                        · exact (st_tr (se_var (i := 6)))
                        · refine ss_one ?_
                          refine s_ret ?_
                          refine se_cmp (op_eqD hr.units) snd_eq ?_ ?_ (nomark _)
                          · refine se_cal (ps := ["row", "batch"]) (fs := f_parts) c_parts (hr.mono (by decide)) (by rfl) ?_
                            refine sa_cons (se_var (i := 5)) ?_
                            exact (sa_cons (se_var (i := 8)) sa_nil)
                          · refine se_cal (ps := ["row", "batch"]) (fs := f_parts) c_parts (hr.mono (by decide)) (by rfl) ?_
                            refine sa_cons (se_var (i := 1)) ?_
                            exact (sa_cons (se_var (i := 8)) sa_nil)
                      · refine ss_cons ?_ ?_
                        · refine s_set (i := 9) sc__law_put_right.nd rfl (.inl rfl) ?_
                          refine se_cal (ps := ["row", "other", "least"]) (fs := f_parting) c_parting (hr.mono (by decide)) (by rfl) ?_
                          refine sa_cons (se_var (i := 5)) ?_
                          refine sa_cons (se_var (i := 1)) ?_
                          exact (sa_cons (se_var (i := 2)) sa_nil)
                        · refine ss_one ?_
                          refine s_ret ?_
                          refine se_and ?_ ?_
                          · refine se_cmp (op_neD hr.units) snd_ne ?_ ?_ (nomark _)
                            · refine se_callB call_lenA snd_len (by rfl) Z.z_len PySem.boot_len ?_
                              refine sa_cons ?_ sa_nil
                              refine se_cal (ps := ["row", "batch"]) (fs := f_parts) c_parts (hr.mono (by decide)) (by rfl) ?_
                              refine sa_cons (se_var (i := 5)) ?_
                              exact (sa_cons (se_var (i := 9)) sa_nil)
                            · refine se_callB call_lenA snd_len (by rfl) Z.z_len PySem.boot_len ?_
                              refine sa_cons ?_ sa_nil
                              refine se_cal (ps := ["row", "batch"]) (fs := f_parts) c_parts (hr.mono (by decide)) (by rfl) ?_
                              refine sa_cons (se_var (i := 1)) ?_
                              exact (sa_cons (se_var (i := 9)) sa_nil)
                          · refine pe_one ?_
                            refine se_cmp op_ge snd_ge ?_ (se_var (i := 2)) (nomark _)
                            refine se_callB (call_minA rfl hr) snd_min (by rfl) Z.z_min PyProof.Rows.boot_min ?_
                            exact (sa_cons (se_var (i := 9)) sa_nil)) (fun _ _ _ _ _ _ us hl => match us, hl with | [_, _, _, _], _ => rfl)
theorem ok__law_row (Z : Zs mg) (h : At K mg "_law_row" s__law_row) (c__law_of : Cal P w K mg base 2 "_law_of" s__law_of ["_law_box_here", "_law_some_here"] f__law_of) (c__law_take : Cal P w K mg base 1 "_law_take" s__law_take ["_law_box_here", "_law_below"] f__law_take) : Cal P w K mg base 3 "_law_row" s__law_row ["_law_box_here", "_law_least_so", "_law_at_most"] f__law_row :=
  .of h (fun a fd F hm => def_okD (x := "_law_row") (st := s__law_row) (N := N__law_row) (ps := ["_law_box_here", "_law_least_so", "_law_at_most"]) (b := b__law_row) (k := 2) F sc__law_row fun cdv A outer s H E hr =>
      by
        refine ss_cons ?_ ?_
        · refine s_par (i := 5) (j := 6) rfl sc__law_row.nd rfl rfl (by decide) rfl rfl ?_ (by rfl)
          refine sa_cons ?_ ?_
          · refine se_cal (ps := ["_law_box_here", "_law_below"]) (fs := f__law_take) c__law_take (hr.mono (by decide)) (by rfl) ?_
            refine sa_cons (se_var (i := 0)) ?_
            exact (sa_cons se_int sa_nil)
          · refine sa_cons ?_ sa_nil
            exact (se_lstM sa_nil)
        · refine ss_cons ?_ ?_
          · refine s_set (i := 3) sc__law_row.nd rfl (.inl rfl) ?_
            refine se_ops op_addA snd_add ?_ ?_
            · refine se_ops op_mulA snd_mul (se_var (i := 1)) ?_
              refine se_ops op_addA snd_add se_int ?_
              refine se_cal (ps := ["_law_box_here", "_law_below"]) (fs := f__law_take) c__law_take (hr.mono (by decide)) (by rfl) ?_
              refine sa_cons (se_var (i := 0)) ?_
              exact (sa_cons se_int sa_nil)
            · refine se_cal (ps := ["_law_box_here", "_law_below"]) (fs := f__law_take) c__law_take (hr.mono (by decide)) (by rfl) ?_
              refine sa_cons (se_var (i := 0)) ?_
              refine sa_cons ?_ sa_nil
              exact (se_ops op_addA snd_add (se_var (i := 1)) se_int)
          · refine ss_cons ?_ ?_
            · refine s_for (zs := [4]) PassesOwn.never rfl ?_ (g_name (i := 4) (by decide) sc__law_row.nd rfl (.inl rfl)) ?_
              · refine i_range1 (by rfl) Z.z_range ?_
                refine sa_cons ?_ sa_nil
                refine se_cal (ps := ["_law_box_here", "_law_below"]) (fs := f__law_take) c__law_take (hr.mono (by decide)) (by rfl) ?_
                refine sa_cons (se_var (i := 0)) ?_
                refine sa_cons ?_ sa_nil
                exact (se_ops op_addA snd_add (se_var (i := 2)) se_int)
              · refine ss_one ?_
                refine s_if ?_ ?_ ?_
                · exact (st_cmp (op_eqD hr.units) snd_eq (se_var (i := 5)) se_int (nomark _))
                · refine ss_one ?_
                  refine s_expr ?_
                  refine se_meth PySem.F.plainAttrs_list PySem.F.slot_list_append PySem.F.type_list_append mt_append snd_append (se_var (i := 6)) ?_
                  refine sa_cons ?_ sa_nil
                  refine se_ops op_addA snd_add se_int ?_
                  refine se_cal (ps := ["_law_box_here", "_law_below"]) (fs := f__law_take) c__law_take (hr.mono (by decide)) (by rfl) ?_
                  refine sa_cons (se_var (i := 0)) ?_
                  refine sa_cons ?_ sa_nil
                  refine se_ops op_addA snd_add ?_ se_int
                  exact (se_ops op_mulA snd_mul se_int (se_var (i := 1)))
                · refine ss_one ?_
                  refine s_if ?_ ?_ ?_
                  · exact (st_cmp (op_eqD hr.units) snd_eq (se_var (i := 5)) se_int (nomark _))
                  · refine ss_cons ?_ ?_
                    · refine s_expr ?_
                      refine se_meth PySem.F.plainAttrs_list PySem.F.slot_list_append PySem.F.type_list_append mt_append snd_append (se_var (i := 6)) ?_
                      refine sa_cons ?_ sa_nil
                      refine se_callB (call_maxA rfl hr) snd_max (by rfl) Z.z_max PyProof.Rows.boot_max ?_
                      refine sa_cons se_int ?_
                      exact (sa_cons (se_var (i := 3)) sa_nil)
                    · refine ss_one ?_
                      refine s_set (i := 3) sc__law_row.nd rfl (.inl rfl) ?_
                      refine se_op op_sub snd_sub ?_ ?_
                      · exact (se_op op_sub snd_sub (se_var (i := 3)) se_int)
                      · refine se_cal (ps := ["_law_box_here", "_law_below"]) (fs := f__law_take) c__law_take (hr.mono (by decide)) (by rfl) ?_
                        refine sa_cons (se_var (i := 0)) ?_
                        refine sa_cons ?_ sa_nil
                        exact (se_ops op_addA snd_add (se_var (i := 1)) se_int)
                  · refine ss_one ?_
                    refine s_if ?_ ?_ ?_
                    · exact (st_cmp (op_eqD hr.units) snd_eq (se_var (i := 5)) se_int (nomark _))
                    · refine ss_cons ?_ ?_
                      · refine s_expr ?_
                        refine se_meth PySem.F.plainAttrs_list PySem.F.slot_list_append PySem.F.type_list_append mt_append snd_append (se_var (i := 6)) ?_
                        refine sa_cons ?_ sa_nil
                        refine se_callB (call_maxA rfl hr) snd_max (by rfl) Z.z_max PyProof.Rows.boot_max ?_
                        refine sa_cons se_int ?_
                        exact (sa_cons (se_var (i := 3)) sa_nil)
                      · refine ss_one ?_
                        refine s_set (i := 3) sc__law_row.nd rfl (.inl rfl) ?_
                        refine se_op op_sub snd_sub ?_ ?_
                        · exact (se_op op_sub snd_sub (se_var (i := 3)) se_int)
                        · refine se_cal (ps := ["_law_box_here", "_law_below"]) (fs := f__law_take) c__law_take (hr.mono (by decide)) (by rfl) ?_
                          refine sa_cons (se_var (i := 0)) ?_
                          refine sa_cons ?_ sa_nil
                          refine se_ops op_addA snd_add ?_ se_int
                          exact (se_ops op_mulA snd_mul se_int (se_var (i := 1)))
                    · refine ss_one ?_
                      refine s_if ?_ ?_ ?_
                      · exact (st_cmp (op_eqD hr.units) snd_eq (se_var (i := 5)) se_int (nomark _))
                      · refine ss_one ?_
                        refine s_expr ?_
                        refine se_meth PySem.F.plainAttrs_list PySem.F.slot_list_append PySem.F.type_list_append mt_append snd_append (se_var (i := 6)) ?_
                        refine sa_cons ?_ sa_nil
                        refine se_callB (call_maxA rfl hr) snd_max (by rfl) Z.z_max PyProof.Rows.boot_max ?_
                        refine sa_cons se_int ?_
                        refine sa_cons ?_ sa_nil
                        refine se_op op_sub snd_sub (se_var (i := 3)) ?_
                        refine se_cal (ps := ["_law_box_here", "_law_below"]) (fs := f__law_take) c__law_take (hr.mono (by decide)) (by rfl) ?_
                        refine sa_cons (se_var (i := 0)) ?_
                        refine sa_cons ?_ sa_nil
                        refine se_ops op_addA snd_add ?_ se_int
                        exact (se_ops op_mulA snd_mul se_int (se_var (i := 1)))
                      · refine ss_one ?_
                        refine s_expr ?_
                        refine se_meth PySem.F.plainAttrs_list PySem.F.slot_list_append PySem.F.type_list_append mt_append snd_append (se_var (i := 6)) ?_
                        refine sa_cons ?_ sa_nil
                        refine se_cal (ps := ["_law_box_here", "_law_some_here"]) (fs := f__law_of) c__law_of (hr.mono (by decide)) (by rfl) ?_
                        refine sa_cons (se_var (i := 0)) ?_
                        refine sa_cons ?_ sa_nil
                        refine se_lst ?_
                        refine sa_cons (se_var (i := 3)) ?_
                        refine sa_cons ?_ ?_
                        · refine se_callB (call_maxA rfl hr) snd_max (by rfl) Z.z_max PyProof.Rows.boot_max ?_
                          refine sa_cons se_int ?_
                          refine sa_cons ?_ sa_nil
                          exact (se_op op_sub snd_sub (se_var (i := 3)) (se_var (i := 1)))
                        · refine sa_cons ?_ ?_
                          · refine se_callB (call_maxA rfl hr) snd_max (by rfl) Z.z_max PyProof.Rows.boot_max ?_
                            refine sa_cons se_int ?_
                            refine sa_cons ?_ sa_nil
                            refine se_op op_sub snd_sub ?_ se_int
                            exact (se_op op_sub snd_sub (se_var (i := 3)) (se_var (i := 1)))
                          · refine sa_cons ?_ sa_nil
                            exact (se_ops op_mulA snd_mul se_int (se_var (i := 1)))
            · refine ss_one ?_
              refine s_ret ?_
              refine se_callTy call_tuple_of snd_tuple (by rfl) Z.z_tuple PyProof.Rows.boot_tuple ?_
              exact (sa_cons (se_var (i := 6)) sa_nil)) (fun _ _ _ _ _ _ us hl => match us, hl with | [_, _, _], _ => rfl)
theorem ok__law_some (Z : Zs mg) (h : At K mg "_law_some" s__law_some) (c__law_take : Cal P w K mg base 1 "_law_take" s__law_take ["_law_box_here", "_law_below"] f__law_take) : Cal P w K mg base 2 "_law_some" s__law_some ["_law_box_here", "_law_own", "_law_least_so"] f__law_some :=
  .of h (fun a fd F hm => def_okD (x := "_law_some") (st := s__law_some) (N := N__law_some) (ps := ["_law_box_here", "_law_own", "_law_least_so"]) (b := b__law_some) (k := 1) F sc__law_some fun cdv A outer s H E hr =>
      by
        refine ss_cons ?_ ?_
        · refine s_set (i := 3) sc__law_some.nd rfl (.inl rfl) ?_
          refine se_lstM ?_
          refine sa_cons ?_ sa_nil
          refine se_ops op_addA snd_add se_int ?_
          refine se_cal (ps := ["_law_box_here", "_law_below"]) (fs := f__law_take) c__law_take (hr.mono (by decide)) (by rfl) ?_
          refine sa_cons (se_var (i := 0)) ?_
          refine sa_cons ?_ sa_nil
          exact (se_ops op_mulA snd_mul se_int (se_var (i := 2)))
        · refine ss_cons ?_ ?_
          · refine s_for (zs := [4, 5]) PassesOwn.never rfl ?_ ?_ ?_
            · refine i_seq ?_
              refine se_if ?_ (se_var (i := 1)) ?_
              · exact (st_cmp op_notA snd_isnot (se_var (i := 1)) se_non (nomark _))
              · exact (se_tup sa_nil)
            · refine g_tup rfl ?_ ?_
              · refine gs_cons (g_name (i := 4) (by decide) sc__law_some.nd rfl (.inl rfl)) ?_
                exact (gs_cons (g_name (i := 5) (by decide) sc__law_some.nd rfl (.inl rfl)) gs_nil)
              · exact (gs_len (gs_len gs_len0 _) _)
            · refine ss_cons ?_ ?_
              · refine s_set (i := 3) sc__law_some.nd rfl (.inl rfl) ?_
                refine se_addM (se_var (i := 3)) ?_
                refine se_lst ?_
                refine sa_cons (se_var (i := 4)) ?_
                refine sa_cons (se_var (i := 5)) ?_
                refine sa_cons ?_ ?_
                · exact (se_ops op_addA snd_add (se_var (i := 5)) se_int)
                · refine sa_cons ?_ ?_
                  · refine se_callB (call_maxA rfl hr) snd_max (by rfl) Z.z_max PyProof.Rows.boot_max ?_
                    refine sa_cons se_int ?_
                    refine sa_cons ?_ sa_nil
                    exact (se_op op_sub snd_sub (se_var (i := 4)) se_int)
                  · refine sa_cons ?_ sa_nil
                    refine se_ops op_addA snd_add (se_var (i := 4)) ?_
                    refine se_cal (ps := ["_law_box_here", "_law_below"]) (fs := f__law_take) c__law_take (hr.mono (by decide)) (by rfl) ?_
                    refine sa_cons (se_var (i := 0)) ?_
                    refine sa_cons ?_ sa_nil
                    refine se_ops op_addA snd_add ?_ se_int
                    exact (se_op op_sub snd_sub (se_var (i := 5)) (se_var (i := 4)))
              · refine ss_one ?_
                refine s_expr ?_
                refine se_meth PySem.F.plainAttrs_list PySem.F.slot_list_append PySem.F.type_list_append mt_append snd_append (se_var (i := 3)) ?_
                refine sa_cons ?_ sa_nil
                refine se_ops op_addA snd_add ?_ ?_
                · exact (se_ops op_addA snd_add (se_var (i := 5)) se_int)
                · refine se_cal (ps := ["_law_box_here", "_law_below"]) (fs := f__law_take) c__law_take (hr.mono (by decide)) (by rfl) ?_
                  refine sa_cons (se_var (i := 0)) ?_
                  refine sa_cons ?_ sa_nil
                  exact (se_ops op_addA snd_add (se_var (i := 2)) se_int)
          · exact (ss_one (s_ret (se_var (i := 3))))) (fun _ _ _ _ _ _ us hl => match us, hl with | [_, _, _], _ => rfl)
theorem ok_next_below (Z : Zs mg) (h : At K mg "next_below" s_next_below) (c_blocks_of : Cal P w K mg base 18 "blocks_of" s_blocks_of ["blocks"] f_blocks_of) : Cal P w K mg base 19 "next_below" s_next_below ["blocks", "number"] f_next_below :=
  .of h (fun a fd F hm => def_okD (x := "next_below") (st := s_next_below) (N := N_next_below) (ps := ["blocks", "number"]) (b := b_next_below) (k := 18) F sc_next_below fun cdv A outer s H E hr =>
      by
        refine ss_cons ?_ ?_
        · refine s_setLc (i := 2) (own := [("low", 3), ("high", 4)]) rfl sc_next_below.nd rfl rfl (sw_true rfl rfl rfl (by decide +kernel)) ?_ (blkOk_by (own := [("low", 3), ("high", 4)]) (N := N_next_below) (sc := defScope s_next_below) (by decide +kernel)) (fun _ _ _ _ _ => ?_) (fun _ _ _ _ _ => ?_) (fun _ _ _ _ _ => ?_)
          · refine i_seq ?_
            refine se_cal (ps := ["blocks"]) (fs := f_blocks_of) c_blocks_of (hr.mono (by decide)) (by rfl) ?_
            exact (sa_cons (se_var (i := 0)) sa_nil)
          · refine g_tup rfl ?_ ?_
            · refine gs_cons (g_name (i := 3) (by decide) sc_next_below.nd rfl (.inl rfl)) ?_
              exact (gs_cons (g_name (i := 4) (by decide) sc_next_below.nd rfl (.inl rfl)) gs_nil)
            · exact (gs_len (gs_len gs_len0 _) _)
          · refine ts_one ?_
            exact (st_cmp (op_ltA hr) snd_lt (se_var (i := 3)) (se_var (i := 1)) (nomark _))
          · refine se_callB (call_minA rfl hr) snd_min (by rfl) Z.z_min PyProof.Rows.boot_min ?_
            refine sa_cons (se_var (i := 4)) ?_
            refine sa_cons ?_ sa_nil
            exact (se_op op_sub snd_sub (se_var (i := 1)) se_int)
        · refine ss_one ?_
          refine s_ret ?_
          refine se_if ?_ ?_ se_non
          · refine st_cmp op_gt snd_gt ?_ se_int (nomark _)
            refine se_callB call_lenA snd_len (by rfl) Z.z_len PySem.boot_len ?_
            exact (sa_cons (se_var (i := 2)) sa_nil)
          · refine se_ix ix_seq snd_ix (se_var (i := 2)) ?_
            exact (se_un un_neg snd_neg se_int)) (fun _ _ _ _ _ _ us hl => match us, hl with | [_, _], _ => rfl)
theorem ok__law_whole_right (Z : Zs mg) (h : At K mg "_law_whole_right" s__law_whole_right) (c__law_batch : Cal P w K mg base 3 "_law_batch" s__law_batch ["_law_box_here", "_law_least_so", "_law_at_most"] f__law_batch) (c__law_same : Cal P w K mg base 17 "_law_same" s__law_same ["_law_got", "_law_due"] (f__law_same 16)) (c_alike : Cal P w K mg base 3 "alike" s_alike ["row", "other", "least"] f_alike) (c_cuts : Cal P w K mg base 2 "cuts" s_cuts ["row", "batch"] f_cuts) (c_filling : Cal P w K mg base 2 "filling" s_filling ["row", "least"] f_filling) (c_holds : Cal P w K mg base 19 "holds" s_holds ["blocks", "number"] f_holds) (c_many_numbers : Cal P w K mg base 19 "many_numbers" s_many_numbers ["blocks"] f_many_numbers) (c_next_above : Cal P w K mg base 19 "next_above" s_next_above ["blocks", "number"] f_next_above) (c_next_below : Cal P w K mg base 19 "next_below" s_next_below ["blocks", "number"] f_next_below) : Cal P w K mg base 20 "_law_whole_right" s__law_whole_right ["_law_box_here", "_law_row_so", "_law_least_so"] f__law_whole_right :=
  .of h (fun a fd F hm => def_okD (x := "_law_whole_right") (st := s__law_whole_right) (N := N__law_whole_right) (ps := ["_law_box_here", "_law_row_so", "_law_least_so"]) (b := b__law_whole_right) (k := 19) F sc__law_whole_right fun cdv A outer s H E hr =>
      by
        refine ss_cons ?_ ?_
        · refine s_set (i := 3) sc__law_whole_right.nd rfl (.inr rfl) ?_
          refine se_cal (ps := ["row", "least"]) (fs := f_filling) c_filling (hr.mono (by decide)) (by rfl) ?_
          refine sa_cons (se_var (i := 1)) ?_
          exact (sa_cons (se_var (i := 2)) sa_nil)
        · refine ss_cons ?_ ?_
          · refine s_if ?_ ?_ ss_nil
            · refine PW.pt ?_
              refine st_or ?_ ?_
              · exact (st_cmp op_isA snd_is (se_var (i := 3)) se_non (nomark _))
              · refine st_or ?_ ?_
                · refine st_cmp (op_eqD hr.units) snd_eq (se_var (i := 3)) ?_ (nomark _)
                  exact (se_tup sa_nil)
                · refine st_or1 ?_
                  refine st_cmp op_gt snd_gt ?_ se_int (nomark _)
                  refine se_cal (ps := ["blocks"]) (fs := f_many_numbers) c_many_numbers (hr.mono (by decide)) (by rfl) ?_
                  exact (sa_cons (se_var (i := 3)) sa_nil)
            · exact (ss_one (s_ret se_bl))
          · refine ss_cons ?_ ?_
            · refine s_par (i := 5) (j := 6) rfl sc__law_whole_right.nd rfl rfl (by decide) rfl rfl ?_ (by rfl)
              refine sa_cons ?_ ?_
              · exact (se_lstM sa_nil)
              · refine sa_cons ?_ sa_nil
                refine se_cal (ps := ["blocks", "number"]) (fs := f_next_above) c_next_above (hr.mono (by decide)) (by rfl) ?_
                refine sa_cons (se_var (i := 3)) ?_
                exact (sa_cons se_int sa_nil)
            · refine ss_cons ?_ ?_
              · refine s_while PassesOwn.never ?_ ?_
                · refine PW.pt ?_
                  refine st_and ?_ ?_
                  · exact (st_cmp op_notA snd_isnot (se_var (i := 6)) se_non (nomark _))
                  · refine st_and1 ?_
                    refine st_cmp (op_ltA hr) snd_lt ?_ se_int (nomark _)
                    refine se_callB call_lenA snd_len (by rfl) Z.z_len PySem.boot_len ?_
                    exact (sa_cons (se_var (i := 5)) sa_nil)
                · refine ss_cons ?_ ?_
                  · refine s_expr ?_
                    refine se_meth PySem.F.plainAttrs_list PySem.F.slot_list_append PySem.F.type_list_append mt_append snd_append (se_var (i := 5)) ?_
                    exact (sa_cons (se_var (i := 6)) sa_nil)
                  · refine ss_one ?_
                    refine s_set (i := 6) sc__law_whole_right.nd rfl (.inl rfl) ?_
                    refine se_cal (ps := ["blocks", "number"]) (fs := f_next_above) c_next_above (hr.mono (by decide)) (by rfl) ?_
                    refine sa_cons (se_var (i := 3)) ?_
                    exact (sa_cons (se_var (i := 6)) sa_nil)
              · refine ss_cons ?_ ?_
                · refine s_par (i := 7) (j := 6) rfl sc__law_whole_right.nd rfl rfl (by decide) rfl rfl ?_ (by rfl)
                  refine sa_cons ?_ ?_
                  · exact (se_lstM sa_nil)
                  · refine sa_cons ?_ sa_nil
                    refine se_cal (ps := ["blocks", "number"]) (fs := f_next_below) c_next_below (hr.mono (by decide)) (by rfl) ?_
                    refine sa_cons (se_var (i := 3)) ?_
                    refine sa_cons ?_ sa_nil
                    refine se_ops op_addA snd_add ?_ se_int
                    refine se_ix ix_seq snd_ix (se_var (i := 5)) ?_
                    exact (se_un un_neg snd_neg se_int)
                · refine ss_cons ?_ ?_
                  · refine s_while PassesOwn.never ?_ ?_
                    · refine PW.pt ?_
                      refine st_and ?_ ?_
                      · exact (st_cmp op_notA snd_isnot (se_var (i := 6)) se_non (nomark _))
                      · refine st_and1 ?_
                        refine st_cmp (op_ltA hr) snd_lt ?_ se_int (nomark _)
                        refine se_callB call_lenA snd_len (by rfl) Z.z_len PySem.boot_len ?_
                        exact (sa_cons (se_var (i := 7)) sa_nil)
                    · refine ss_cons ?_ ?_
                      · refine s_expr ?_
                        refine se_meth PySem.F.plainAttrs_list PySem.F.slot_list_append PySem.F.type_list_append mt_append snd_append (se_var (i := 7)) ?_
                        exact (sa_cons (se_var (i := 6)) sa_nil)
                      · refine ss_one ?_
                        refine s_set (i := 6) sc__law_whole_right.nd rfl (.inl rfl) ?_
                        refine se_cal (ps := ["blocks", "number"]) (fs := f_next_below) c_next_below (hr.mono (by decide)) (by rfl) ?_
                        refine sa_cons (se_var (i := 3)) ?_
                        exact (sa_cons (se_var (i := 6)) sa_nil)
                  · refine ss_freeze (i := 7) ?_
                    refine ss_cons ?_ ?_
                    · refine s_if ?_ ?_ ss_nil
                      · refine PW.pt ?_
                        refine st_or ?_ ?_
                        · refine st_cmp (op_neD hr.units) snd_ne (se_var (i := 7)) ?_ (nomark _)
                          exact (se_revA (se_var (i := 5)))
                        · refine st_or ?_ ?_
                          · refine st_cmp (op_neD hr.units) snd_ne ?_ ?_ (nomark _)
                            · refine se_callB call_lenA snd_len (by rfl) Z.z_len PySem.boot_len ?_
                              exact (sa_cons (se_var (i := 5)) sa_nil)
                            · refine se_cal (ps := ["blocks"]) (fs := f_many_numbers) c_many_numbers (hr.mono (by decide)) (by rfl) ?_
                              exact (sa_cons (se_var (i := 3)) sa_nil)
                          · refine st_or1 ?_
                            refine st_not ?_
                            refine st_tr ?_
                            refine se_callB (cr_all rfl) snd_all (by rfl) Z.z_all PyProof.Rows.boot_all ?_
                            refine sa_cons ?_ sa_nil
                            refine se_lc (own := [("_law_bit", 8)]) rfl sc__law_whole_right.nd ?_ (blkOk_by (own := [("_law_bit", 8)]) (N := N__law_whole_right) (sc := defScope s__law_whole_right) (by decide +kernel)) (fun _ _ _ _ _ => (g_name (i := 8) (by decide) sc__law_whole_right.nd rfl (.inl rfl))) (fun _ _ _ _ _ => ts_nil) (fun _ _ _ _ _ => ?_)
                            · exact (i_seq (se_var (i := 5)))
                            · refine se_cal (ps := ["blocks", "number"]) (fs := f_holds) c_holds (hr.mono (by decide)) (by rfl) ?_
                              refine sa_cons (se_var (i := 3)) ?_
                              exact (sa_cons (se_var (i := 8)) sa_nil)
                      · exact (ss_one (s_ret se_bl))
                    · refine ss_cons ?_ ?_
                      · refine s_set (i := 4) sc__law_whole_right.nd rfl (.inl rfl) ?_
                        refine se_cal (ps := ["_law_box_here", "_law_least_so", "_law_at_most"]) (fs := f__law_batch) c__law_batch (hr.mono (by decide)) (by rfl) ?_
                        refine sa_cons (se_var (i := 0)) ?_
                        refine sa_cons (se_var (i := 2)) ?_
                        exact (sa_cons se_int sa_nil)
                      · refine ss_cons ?_ ?_
                        · refine s_if ?_ ?_ ss_nil
                          · refine PW.pt ?_
                            refine st_or ?_ ?_
                            · refine st_not ?_
                              refine st_tr ?_
                              refine se_cal (ps := ["_law_got", "_law_due"]) (fs := (f__law_same 16)) c__law_same (hr.mono (by decide)) (by rfl) ?_
                              refine sa_cons ?_ ?_
                              · refine se_cal (ps := ["row", "least"]) (fs := f_filling) c_filling (hr.mono (by decide)) (by rfl) ?_
                                refine sa_cons ?_ ?_
                                · refine se_callTy call_tuple_of snd_tuple (by rfl) Z.z_tuple PyProof.Rows.boot_tuple ?_
                                  exact (sa_cons (se_var (i := 7)) sa_nil)
                                · exact (sa_cons (se_var (i := 2)) sa_nil)
                              · exact (sa_cons (se_var (i := 3)) sa_nil)
                            · refine st_or1 ?_
                              refine st_not ?_
                              refine st_tr ?_
                              refine se_cal (ps := ["row", "other", "least"]) (fs := f_alike) c_alike (hr.mono (by decide)) (by rfl) ?_
                              refine sa_cons ?_ ?_
                              · refine se_callTy call_tuple_of snd_tuple (by rfl) Z.z_tuple PyProof.Rows.boot_tuple ?_
                                exact (sa_cons (se_var (i := 7)) sa_nil)
                              · refine sa_cons (se_var (i := 1)) ?_
                                exact (sa_cons (se_var (i := 2)) sa_nil)
                          · exact (ss_one (s_ret se_bl))
                        · refine ss_one ?_
                          refine s_ret ?_
                          refine se_cmp (op_eqD hr.units) snd_eq ?_ ?_ (nomark _)
                          · refine se_lc (own := [("_law_bit", 8)]) rfl sc__law_whole_right.nd ?_ (blkOk_by (own := [("_law_bit", 8)]) (N := N__law_whole_right) (sc := defScope s__law_whole_right) (by decide +kernel)) (fun _ _ _ _ _ => (g_name (i := 8) (by decide) sc__law_whole_right.nd rfl (.inl rfl))) (fun _ _ _ _ _ => ts_nil) (fun _ _ _ _ _ => ?_)
                            · refine i_seq ?_
                              refine se_cal (ps := ["row", "batch"]) (fs := f_cuts) c_cuts (hr.mono (by decide)) (by rfl) ?_
                              refine sa_cons (se_var (i := 7)) ?_
                              exact (sa_cons (se_var (i := 4)) sa_nil)
                            · exact (se_ix ix_seq snd_ix (se_var (i := 8)) se_int)
                          · refine se_lc (own := [("_law_bit", 8)]) rfl sc__law_whole_right.nd ?_ (blkOk_by (own := [("_law_bit", 8)]) (N := N__law_whole_right) (sc := defScope s__law_whole_right) (by decide +kernel)) (fun _ _ _ _ _ => (g_name (i := 8) (by decide) sc__law_whole_right.nd rfl (.inl rfl))) (fun _ _ _ _ _ => ts_nil) (fun _ _ _ _ _ => ?_)
                            · refine i_seq ?_
                              refine se_cal (ps := ["row", "batch"]) (fs := f_cuts) c_cuts (hr.mono (by decide)) (by rfl) ?_
                              refine sa_cons (se_var (i := 1)) ?_
                              exact (sa_cons (se_var (i := 4)) sa_nil)
                            · exact (se_ix ix_seq snd_ix (se_var (i := 8)) se_int)) (fun _ _ _ _ _ _ us hl => match us, hl with | [_, _, _], _ => rfl)
theorem ok__law_right (Z : Zs mg) (h : At K mg "_law_right" s__law_right) (c__law_least : Cal P w K mg base 3 "_law_least" s__law_least ["_law_box_here"] f__law_least) (c__law_put_right : Cal P w K mg base 21 "_law_put_right" s__law_put_right ["_law_box_here", "_law_row_so", "_law_least_so", "_law_number_so"] f__law_put_right) (c__law_row : Cal P w K mg base 3 "_law_row" s__law_row ["_law_box_here", "_law_least_so", "_law_at_most"] f__law_row) (c__law_some : Cal P w K mg base 2 "_law_some" s__law_some ["_law_box_here", "_law_own", "_law_least_so"] f__law_some) (c__law_take : Cal P w K mg base 1 "_law_take" s__law_take ["_law_box_here", "_law_below"] f__law_take) (c__law_whole_right : Cal P w K mg base 20 "_law_whole_right" s__law_whole_right ["_law_box_here", "_law_row_so", "_law_least_so"] f__law_whole_right) (c_filling : Cal P w K mg base 2 "filling" s_filling ["row", "least"] f_filling) : Cal P w K mg base 22 "_law_right" s__law_right ["_law_box_here"] f__law_right :=
  .of h (fun a fd F hm => def_okD (x := "_law_right") (st := s__law_right) (N := N__law_right) (ps := ["_law_box_here"]) (b := b__law_right) (k := 21) F sc__law_right fun cdv A outer s H E hr =>
      by
        refine ss_cons ?_ ?_
        · refine s_set (i := 1) sc__law_right.nd rfl (.inr rfl) ?_
          refine se_cal (ps := ["_law_box_here"]) (fs := f__law_least) c__law_least (hr.mono (by decide)) (by rfl) ?_
          exact (sa_cons (se_var (i := 0)) sa_nil)
        · refine ss_cons ?_ ?_
          · refine s_set (i := 2) sc__law_right.nd rfl (.inr rfl) ?_
            refine se_cal (ps := ["_law_box_here", "_law_least_so", "_law_at_most"]) (fs := f__law_row) c__law_row (hr.mono (by decide)) (by rfl) ?_
            refine sa_cons (se_var (i := 0)) ?_
            refine sa_cons (se_var (i := 1)) ?_
            exact (sa_cons se_int sa_nil)
          · refine ss_cons ?_ ?_
            · refine s_set (i := 3) sc__law_right.nd rfl (.inl rfl) ?_
              refine se_cal (ps := ["row", "least"]) (fs := f_filling) c_filling (hr.mono (by decide)) (by rfl) ?_
              refine sa_cons (se_var (i := 2)) ?_
              exact (sa_cons (se_var (i := 1)) sa_nil)
            · refine ss_cons ?_ ?_
              · refine s_if ?_ ?_ ss_nil
                · refine st_not ?_
                  refine st_tr ?_
                  refine se_callB (cr_all rfl) snd_all (by rfl) Z.z_all PyProof.Rows.boot_all ?_
                  refine sa_cons ?_ sa_nil
                  refine se_lc (own := [("_law_number_so", 7)]) rfl sc__law_right.nd ?_ (blkOk_by (own := [("_law_number_so", 7)]) (N := N__law_right) (sc := defScope s__law_right) (by decide +kernel)) (fun _ _ _ _ _ => (g_name (i := 7) (by decide) sc__law_right.nd rfl (.inl rfl))) (fun _ _ _ _ _ => ts_nil) (fun _ _ _ _ _ => ?_)
                  · refine i_seq ?_
                    refine se_cal (ps := ["_law_box_here", "_law_own", "_law_least_so"]) (fs := f__law_some) c__law_some (hr.mono (by decide)) (by rfl) ?_
                    refine sa_cons (se_var (i := 0)) ?_
                    refine sa_cons (se_var (i := 3)) ?_
                    exact (sa_cons (se_var (i := 1)) sa_nil)
                  · refine se_cal (ps := ["_law_box_here", "_law_row_so", "_law_least_so", "_law_number_so"]) (fs := f__law_put_right) c__law_put_right (hr.mono (by decide)) (by rfl) ?_
                    refine sa_cons (se_var (i := 0)) ?_
                    refine sa_cons (se_var (i := 2)) ?_
                    refine sa_cons (se_var (i := 1)) ?_
                    exact (sa_cons (se_var (i := 7)) sa_nil)
                · exact (ss_one (s_ret se_bl))
              · refine ss_cons ?_ ?_
                · refine s_set (i := 4) sc__law_right.nd rfl (.inr rfl) ?_
                  refine se_ops op_addA snd_add se_int ?_
                  refine se_cal (ps := ["_law_box_here", "_law_below"]) (fs := f__law_take) c__law_take (hr.mono (by decide)) (by rfl) ?_
                  refine sa_cons (se_var (i := 0)) ?_
                  exact (sa_cons se_int sa_nil)
                · refine ss_cons ?_ ?_
                  · refine s_set (i := 5) sc__law_right.nd rfl (.inl rfl) ?_
                    refine se_callTy call_tuple_of snd_tuple (by rfl) Z.z_tuple PyProof.Rows.boot_tuple ?_
                    refine sa_cons ?_ sa_nil
                    refine se_lc (own := [("_law_turn", 6)]) rfl sc__law_right.nd ?_ (blkOk_by (own := [("_law_turn", 6)]) (N := N__law_right) (sc := defScope s__law_right) (by decide +kernel)) (fun _ _ _ _ _ => (g_name (i := 6) (by decide) sc__law_right.nd rfl (.inl rfl))) (fun _ _ _ _ _ => ts_nil) (fun _ _ _ _ _ => ?_)
                    · refine i_range1 (by rfl) Z.z_range ?_
                      refine sa_cons ?_ sa_nil
                      refine se_ops op_addA snd_add se_int ?_
                      refine se_cal (ps := ["_law_box_here", "_law_below"]) (fs := f__law_take) c__law_take (hr.mono (by decide)) (by rfl) ?_
                      refine sa_cons (se_var (i := 0)) ?_
                      exact (sa_cons se_int sa_nil)
                    · refine se_ops op_addA snd_add ?_ ?_
                      · exact (se_ops op_mulA snd_mul se_int (se_var (i := 4)))
                      · refine se_cal (ps := ["_law_box_here", "_law_below"]) (fs := f__law_take) c__law_take (hr.mono (by decide)) (by rfl) ?_
                        refine sa_cons (se_var (i := 0)) ?_
                        exact (sa_cons se_int sa_nil)
                  · refine ss_one ?_
                    refine s_ret ?_
                    refine se_and ?_ ?_
                    · refine se_cal (ps := ["_law_box_here", "_law_row_so", "_law_least_so"]) (fs := f__law_whole_right) c__law_whole_right (hr.mono (by decide)) (by rfl) ?_
                      refine sa_cons (se_var (i := 0)) ?_
                      refine sa_cons (se_var (i := 2)) ?_
                      exact (sa_cons (se_var (i := 1)) sa_nil)
                    · refine pe_one ?_
                      refine se_cal (ps := ["_law_box_here", "_law_row_so", "_law_least_so"]) (fs := f__law_whole_right) c__law_whole_right (hr.mono (by decide)) (by rfl) ?_
                      refine sa_cons (se_var (i := 0)) ?_
                      refine sa_cons (se_var (i := 5)) ?_
                      exact (sa_cons (se_var (i := 4)) sa_nil)) (fun _ _ _ _ _ _ us hl => match us, hl with | [_], _ => rfl)
theorem ok_law (Z : Zs mg) (h : At K mg "law" s_law) (c__law_box : Cal P w K mg base 1 "_law_box" s__law_box ["_law_script", "_law_k"] f__law_box) (c__law_by_hand_right : Cal P w K mg base 20 "_law_by_hand_right" s__law_by_hand_right [] f__law_by_hand_right) (c__law_cells : Cal P w K mg base 1 "_law_cells" s__law_cells ["_law_script", "_law_most_so"] f__law_cells) (c__law_right : Cal P w K mg base 22 "_law_right" s__law_right ["_law_box_here"] f__law_right) : Cal P w K mg base 23 "law" s_law ["_law_script"] f_law :=
  .of h (fun a fd F hm => def_okD (x := "law") (st := s_law) (N := N_law) (ps := ["_law_script"]) (b := b_law) (k := 22) F sc_law fun cdv A outer s H E hr =>
      by
        refine ss_cons ?_ ?_
        · refine s_if ?_ ?_ ss_nil
          · exact (st_not (st_tr (se_cal0 (ps := []) (fs := f__law_by_hand_right) c__law_by_hand_right (hr.mono (by decide)) (by rfl))))
          · exact (ss_one (s_ret se_bl))
        · refine ss_cons ?_ ?_
          · refine s_set (i := 1) sc_law.nd rfl (.inl rfl) ?_
            refine se_cal (ps := ["_law_script", "_law_most_so"]) (fs := f__law_cells) c__law_cells (hr.mono (by decide)) (by rfl) ?_
            refine sa_cons (se_var (i := 0)) ?_
            exact (sa_cons se_int sa_nil)
          · refine ss_cons ?_ ?_
            · refine s_for (zs := [2]) PassesOwn.never rfl ?_ (g_name (i := 2) (by decide) sc_law.nd rfl (.inl rfl)) ?_
              · refine i_range1 (by rfl) Z.z_range ?_
                refine sa_cons ?_ sa_nil
                refine se_callB call_lenA snd_len (by rfl) Z.z_len PySem.boot_len ?_
                exact (sa_cons (se_var (i := 1)) sa_nil)
              · refine ss_cons ?_ ?_
                · refine s_set (i := 3) sc_law.nd rfl (.inr rfl) ?_
                  refine se_cal (ps := ["_law_script", "_law_k"]) (fs := f__law_box) c__law_box (hr.mono (by decide)) (by rfl) ?_
                  refine sa_cons (se_var (i := 1)) ?_
                  exact (sa_cons (se_var (i := 2)) sa_nil)
                · refine ss_one ?_
                  refine s_if ?_ ?_ ss_nil
                  · refine st_not ?_
                    refine st_tr ?_
                    refine se_callB (cr_all rfl) snd_all (by rfl) Z.z_all PyProof.Rows.boot_all ?_
                    refine sa_cons ?_ sa_nil
                    refine se_lc (own := [("_law_turn", 4)]) rfl sc_law.nd ?_ (blkOk_by (own := [("_law_turn", 4)]) (N := N_law) (sc := defScope s_law) (by decide +kernel)) (fun _ _ _ _ _ => (g_name (i := 4) (by decide) sc_law.nd rfl (.inl rfl))) (fun _ _ _ _ _ => ts_nil) (fun _ _ _ _ _ => ?_)
                    · refine i_range1 (by rfl) Z.z_range ?_
                      exact (sa_cons se_int sa_nil)
                    · refine se_cal (ps := ["_law_box_here"]) (fs := f__law_right) c__law_right (hr.mono (by decide)) (by rfl) ?_
                      exact (sa_cons (se_var (i := 3)) sa_nil)
                  · exact (ss_one (s_ret se_bl))
            · exact (ss_one (s_ret se_bl))) (fun _ _ _ _ _ _ us hl => match us, hl with | [_], _ => rfl)
end
/-! ### the head: facts by names, the run -/
def dd__law_box : He.DefD := ⟨("_law_box", none), "_law_box", "_law_box", defArgs s__law_box, defBody s__law_box, defScope s__law_box, [], []⟩
def dd__law_with : He.DefD := ⟨("_law_with", none), "_law_with", "_law_with", defArgs s__law_with, defBody s__law_with, defScope s__law_with, [], []⟩
def dd_is_lone : He.DefD := ⟨("is_lone", none), "is_lone", "is_lone", defArgs s_is_lone, defBody s_is_lone, defScope s_is_lone, [], []⟩
def dd_joined_blocks : He.DefD := ⟨("joined_blocks", none), "joined_blocks", "joined_blocks", defArgs s_joined_blocks, defBody s_joined_blocks, defScope s_joined_blocks, [], []⟩
def dd_records : He.DefD := ⟨("records", none), "records", "records", defArgs s_records, defBody s_records, defScope s_records, [], []⟩
def dd_filling : He.DefD := ⟨("filling", none), "filling", "filling", defArgs s_filling, defBody s_filling, defScope s_filling, [], []⟩
def dd_alike : He.DefD := ⟨("alike", none), "alike", "alike", defArgs s_alike, defBody s_alike, defScope s_alike, [], []⟩
def dd_tupled : He.DefD := ⟨("tupled", none), "tupled", "tupled", defArgs s_tupled, defBody s_tupled, defScope s_tupled, [], []⟩
def dd_blocks_of : He.DefD := ⟨("blocks_of", none), "blocks_of", "blocks_of", defArgs s_blocks_of, defBody s_blocks_of, defScope s_blocks_of, [], []⟩
def dd_many_numbers : He.DefD := ⟨("many_numbers", none), "many_numbers", "many_numbers", defArgs s_many_numbers, defBody s_many_numbers, defScope s_many_numbers, [], []⟩
def dd__law_by_hand_right : He.DefD := ⟨("_law_by_hand_right", none), "_law_by_hand_right", "_law_by_hand_right", defArgs s__law_by_hand_right, defBody s__law_by_hand_right, defScope s__law_by_hand_right, [], []⟩
def dd__law_cells : He.DefD := ⟨("_law_cells", none), "_law_cells", "_law_cells", defArgs s__law_cells, defBody s__law_cells, defScope s__law_cells, [], []⟩
def dd__law_take : He.DefD := ⟨("_law_take", none), "_law_take", "_law_take", defArgs s__law_take, defBody s__law_take, defScope s__law_take, [], []⟩
def dd__law_of : He.DefD := ⟨("_law_of", none), "_law_of", "_law_of", defArgs s__law_of, defBody s__law_of, defScope s__law_of, [], []⟩
def dd__law_least : He.DefD := ⟨("_law_least", none), "_law_least", "_law_least", defArgs s__law_least, defBody s__law_least, defScope s__law_least, [], []⟩
def dd__law_batch : He.DefD := ⟨("_law_batch", none), "_law_batch", "_law_batch", defArgs s__law_batch, defBody s__law_batch, defScope s__law_batch, [], []⟩
def dd__law_same : He.DefD := ⟨("_law_same", none), "_law_same", "_law_same", defArgs s__law_same, defBody s__law_same, defScope s__law_same, [], []⟩
def dd_behind : He.DefD := ⟨("behind", none), "behind", "behind", defArgs s_behind, defBody s_behind, defScope s_behind, [], []⟩
def dd_holds : He.DefD := ⟨("holds", none), "holds", "holds", defArgs s_holds, defBody s_holds, defScope s_holds, [], []⟩
def dd_greatest_apart : He.DefD := ⟨("greatest_apart", none), "greatest_apart", "greatest_apart", defArgs s_greatest_apart, defBody s_greatest_apart, defScope s_greatest_apart, [], []⟩
def dd_next_above : He.DefD := ⟨("next_above", none), "next_above", "next_above", defArgs s_next_above, defBody s_next_above, defScope s_next_above, [], []⟩
def dd_parting : He.DefD := ⟨("parting", none), "parting", "parting", defArgs s_parting, defBody s_parting, defScope s_parting, [], []⟩
def dd_hop_places : He.DefD := ⟨("hop_places", none), "hop_places", "hop_places", defArgs s_hop_places, defBody s_hop_places, defScope s_hop_places, [], []⟩
def dd_cuts : He.DefD := ⟨("cuts", none), "cuts", "cuts", defArgs s_cuts, defBody s_cuts, defScope s_cuts, [], []⟩
def dd_parts : He.DefD := ⟨("parts", none), "parts", "parts", defArgs s_parts, defBody s_parts, defScope s_parts, [], []⟩
def dd__law_put_right : He.DefD := ⟨("_law_put_right", none), "_law_put_right", "_law_put_right", defArgs s__law_put_right, defBody s__law_put_right, defScope s__law_put_right, [], []⟩
def dd__law_row : He.DefD := ⟨("_law_row", none), "_law_row", "_law_row", defArgs s__law_row, defBody s__law_row, defScope s__law_row, [], []⟩
def dd__law_some : He.DefD := ⟨("_law_some", none), "_law_some", "_law_some", defArgs s__law_some, defBody s__law_some, defScope s__law_some, [], []⟩
def dd_next_below : He.DefD := ⟨("next_below", none), "next_below", "next_below", defArgs s_next_below, defBody s_next_below, defScope s_next_below, [], []⟩
def dd__law_whole_right : He.DefD := ⟨("_law_whole_right", none), "_law_whole_right", "_law_whole_right", defArgs s__law_whole_right, defBody s__law_whole_right, defScope s__law_whole_right, [], []⟩
def dd__law_right : He.DefD := ⟨("_law_right", none), "_law_right", "_law_right", defArgs s__law_right, defBody s__law_right, defScope s__law_right, [], []⟩
def dd_law : He.DefD := ⟨("law", none), "law", "law", defArgs s_law, defBody s_law, defScope s_law, [], []⟩
def fn : List He.DefD := [dd__law_box, dd__law_with, dd_is_lone, dd_joined_blocks, dd_records, dd_filling, dd_alike, dd_tupled, dd_blocks_of, dd_many_numbers, dd__law_by_hand_right, dd__law_cells, dd__law_take, dd__law_of, dd__law_least, dd__law_batch, dd__law_same, dd_behind, dd_holds, dd_greatest_apart, dd_next_above, dd_parting, dd_hop_places, dd_cuts, dd_parts, dd__law_put_right, dd__law_row, dd__law_some, dd_next_below, dd__law_whole_right, dd__law_right, dd_law]
def fa : List He.Fa := [.glo "_law_box", .glo "_law_with", .glo "is_lone", .glo "joined_blocks", .glo "records", .glo "filling", .glo "alike", .glo "tupled", .glo "blocks_of", .glo "many_numbers", .glo "_law_by_hand_right", .glo "_law_cells", .glo "_law_take", .glo "_law_of", .glo "_law_least", .glo "_law_batch", .glo "_law_same", .glo "behind", .glo "holds", .glo "greatest_apart", .glo "next_above", .glo "parting", .glo "hop_places", .glo "cuts", .glo "parts", .glo "_law_put_right", .glo "_law_row", .glo "_law_some", .glo "next_below", .glo "_law_whole_right", .glo "_law_right", .glo "law", .free "abs", .free "all", .free "any", .free "bool", .free "enumerate", .free "int", .free "isinstance", .free "len", .free "list", .free "max", .free "min", .free "range", .free "sorted", .free "str", .free "sum", .free "tuple", .free "zip"]
def loose : List Str := (["tupled", "hop_places", "cuts", "parts", "records", "is_lone", "joined_blocks", "filling", "alike", "blocks_of", "holds", "many_numbers", "next_below", "next_above", "behind", "greatest_apart", "parting", "_law_box", "_law_take", "_law_cells", "_law_of", "_law_same", "_law_least", "_law_row", "_law_batch", "_law_with", "_law_some", "_law_put_right", "_law_whole_right", "_law_by_hand_right"] : List Str) ++ (["_law_right"] : List Str)
abbrev R : PySem.W.OpenRow := PySem.W.OpenLaw.row PySem.Challenge.rw_cutsmaller_k67_whole_limits_put_in
abbrev hk : PySem.W.Hook := He.hookD 4 fa fn
def ob (s : PySem.W.SharedT) : He.AlD := He.obsDG 4 fa fn (HandSHeadRun.getT s)
theorem ob_eq (s : PySem.W.SharedT) : ob s = hk.obs s.abs := He.obsDG_eq (HandSHeadRun.getT_eq s)
theorem run (w : World) : HandSHeadRun.RunEq R (PySem.W.view R.prog [35]) hk ob 4000 loose w := by
  intro os
  kernel_rfl
theorem facts {P : Program} {w : World} {K : PySem.W.Frag} {h : Heap} {mg : Str → Option Value} {f : Addr} (X : K.In h) (G : h.Ns mainGlobals mg) (hfa : mg ("law" : Str) = some (.ref f)) (c : He.SaysD fa fn K) :
    ∃ fd : FuncData, (∀ (s : Shared) (v : Value), BindsTo s fd ⟨[v], []⟩ [("_law_script", v)]) ∧ ∀ base : Heap, K.In base → base.Ns mainGlobals mg → FnOk P w K mg base CX0 23 f fd ["_law_script"] (spF K f_law 1) := by
  have Z : Zs mg := ⟨He.free_ok X G (c.fact 32 (f := .free "abs") rfl), He.free_ok X G (c.fact 33 (f := .free "all") rfl), He.free_ok X G (c.fact 34 (f := .free "any") rfl), He.free_ok X G (c.fact 35 (f := .free "bool") rfl), He.free_ok X G (c.fact 36 (f := .free "enumerate") rfl), He.free_ok X G (c.fact 37 (f := .free "int") rfl), He.free_ok X G (c.fact 38 (f := .free "isinstance") rfl), He.free_ok X G (c.fact 39 (f := .free "len") rfl), He.free_ok X G (c.fact 40 (f := .free "list") rfl), He.free_ok X G (c.fact 41 (f := .free "max") rfl), He.free_ok X G (c.fact 42 (f := .free "min") rfl), He.free_ok X G (c.fact 43 (f := .free "range") rfl), He.free_ok X G (c.fact 44 (f := .free "sorted") rfl), He.free_ok X G (c.fact 45 (f := .free "str") rfl), He.free_ok X G (c.fact 46 (f := .free "sum") rfl), He.free_ok X G (c.fact 47 (f := .free "tuple") rfl), He.free_ok X G (c.fact 48 (f := .free "zip") rfl)⟩
  have h__law_box : At K mg "_law_box" s__law_box := by
    obtain ⟨fd, F⟩ := c.def_ 0 (d := dd__law_box) rfl
    exact ⟨_, fd, F, He.glo_ok X G (c.fact 0 (f := .glo "_law_box") rfl)⟩
  have h__law_with : At K mg "_law_with" s__law_with := by
    obtain ⟨fd, F⟩ := c.def_ 1 (d := dd__law_with) rfl
    exact ⟨_, fd, F, He.glo_ok X G (c.fact 1 (f := .glo "_law_with") rfl)⟩
  have h_is_lone : At K mg "is_lone" s_is_lone := by
    obtain ⟨fd, F⟩ := c.def_ 2 (d := dd_is_lone) rfl
    exact ⟨_, fd, F, He.glo_ok X G (c.fact 2 (f := .glo "is_lone") rfl)⟩
  have h_joined_blocks : At K mg "joined_blocks" s_joined_blocks := by
    obtain ⟨fd, F⟩ := c.def_ 3 (d := dd_joined_blocks) rfl
    exact ⟨_, fd, F, He.glo_ok X G (c.fact 3 (f := .glo "joined_blocks") rfl)⟩
  have h_records : At K mg "records" s_records := by
    obtain ⟨fd, F⟩ := c.def_ 4 (d := dd_records) rfl
    exact ⟨_, fd, F, He.glo_ok X G (c.fact 4 (f := .glo "records") rfl)⟩
  have h_filling : At K mg "filling" s_filling := by
    obtain ⟨fd, F⟩ := c.def_ 5 (d := dd_filling) rfl
    exact ⟨_, fd, F, He.glo_ok X G (c.fact 5 (f := .glo "filling") rfl)⟩
  have h_alike : At K mg "alike" s_alike := by
    obtain ⟨fd, F⟩ := c.def_ 6 (d := dd_alike) rfl
    exact ⟨_, fd, F, He.glo_ok X G (c.fact 6 (f := .glo "alike") rfl)⟩
  have h_tupled : At K mg "tupled" s_tupled := by
    obtain ⟨fd, F⟩ := c.def_ 7 (d := dd_tupled) rfl
    exact ⟨_, fd, F, He.glo_ok X G (c.fact 7 (f := .glo "tupled") rfl)⟩
  have h_blocks_of : At K mg "blocks_of" s_blocks_of := by
    obtain ⟨fd, F⟩ := c.def_ 8 (d := dd_blocks_of) rfl
    exact ⟨_, fd, F, He.glo_ok X G (c.fact 8 (f := .glo "blocks_of") rfl)⟩
  have h_many_numbers : At K mg "many_numbers" s_many_numbers := by
    obtain ⟨fd, F⟩ := c.def_ 9 (d := dd_many_numbers) rfl
    exact ⟨_, fd, F, He.glo_ok X G (c.fact 9 (f := .glo "many_numbers") rfl)⟩
  have h__law_by_hand_right : At K mg "_law_by_hand_right" s__law_by_hand_right := by
    obtain ⟨fd, F⟩ := c.def_ 10 (d := dd__law_by_hand_right) rfl
    exact ⟨_, fd, F, He.glo_ok X G (c.fact 10 (f := .glo "_law_by_hand_right") rfl)⟩
  have h__law_cells : At K mg "_law_cells" s__law_cells := by
    obtain ⟨fd, F⟩ := c.def_ 11 (d := dd__law_cells) rfl
    exact ⟨_, fd, F, He.glo_ok X G (c.fact 11 (f := .glo "_law_cells") rfl)⟩
  have h__law_take : At K mg "_law_take" s__law_take := by
    obtain ⟨fd, F⟩ := c.def_ 12 (d := dd__law_take) rfl
    exact ⟨_, fd, F, He.glo_ok X G (c.fact 12 (f := .glo "_law_take") rfl)⟩
  have h__law_of : At K mg "_law_of" s__law_of := by
    obtain ⟨fd, F⟩ := c.def_ 13 (d := dd__law_of) rfl
    exact ⟨_, fd, F, He.glo_ok X G (c.fact 13 (f := .glo "_law_of") rfl)⟩
  have h__law_least : At K mg "_law_least" s__law_least := by
    obtain ⟨fd, F⟩ := c.def_ 14 (d := dd__law_least) rfl
    exact ⟨_, fd, F, He.glo_ok X G (c.fact 14 (f := .glo "_law_least") rfl)⟩
  have h__law_batch : At K mg "_law_batch" s__law_batch := by
    obtain ⟨fd, F⟩ := c.def_ 15 (d := dd__law_batch) rfl
    exact ⟨_, fd, F, He.glo_ok X G (c.fact 15 (f := .glo "_law_batch") rfl)⟩
  have h__law_same : At K mg "_law_same" s__law_same := by
    obtain ⟨fd, F⟩ := c.def_ 16 (d := dd__law_same) rfl
    exact ⟨_, fd, F, He.glo_ok X G (c.fact 16 (f := .glo "_law_same") rfl)⟩
  have h_behind : At K mg "behind" s_behind := by
    obtain ⟨fd, F⟩ := c.def_ 17 (d := dd_behind) rfl
    exact ⟨_, fd, F, He.glo_ok X G (c.fact 17 (f := .glo "behind") rfl)⟩
  have h_holds : At K mg "holds" s_holds := by
    obtain ⟨fd, F⟩ := c.def_ 18 (d := dd_holds) rfl
    exact ⟨_, fd, F, He.glo_ok X G (c.fact 18 (f := .glo "holds") rfl)⟩
  have h_greatest_apart : At K mg "greatest_apart" s_greatest_apart := by
    obtain ⟨fd, F⟩ := c.def_ 19 (d := dd_greatest_apart) rfl
    exact ⟨_, fd, F, He.glo_ok X G (c.fact 19 (f := .glo "greatest_apart") rfl)⟩
  have h_next_above : At K mg "next_above" s_next_above := by
    obtain ⟨fd, F⟩ := c.def_ 20 (d := dd_next_above) rfl
    exact ⟨_, fd, F, He.glo_ok X G (c.fact 20 (f := .glo "next_above") rfl)⟩
  have h_parting : At K mg "parting" s_parting := by
    obtain ⟨fd, F⟩ := c.def_ 21 (d := dd_parting) rfl
    exact ⟨_, fd, F, He.glo_ok X G (c.fact 21 (f := .glo "parting") rfl)⟩
  have h_hop_places : At K mg "hop_places" s_hop_places := by
    obtain ⟨fd, F⟩ := c.def_ 22 (d := dd_hop_places) rfl
    exact ⟨_, fd, F, He.glo_ok X G (c.fact 22 (f := .glo "hop_places") rfl)⟩
  have h_cuts : At K mg "cuts" s_cuts := by
    obtain ⟨fd, F⟩ := c.def_ 23 (d := dd_cuts) rfl
    exact ⟨_, fd, F, He.glo_ok X G (c.fact 23 (f := .glo "cuts") rfl)⟩
  have h_parts : At K mg "parts" s_parts := by
    obtain ⟨fd, F⟩ := c.def_ 24 (d := dd_parts) rfl
    exact ⟨_, fd, F, He.glo_ok X G (c.fact 24 (f := .glo "parts") rfl)⟩
  have h__law_put_right : At K mg "_law_put_right" s__law_put_right := by
    obtain ⟨fd, F⟩ := c.def_ 25 (d := dd__law_put_right) rfl
    exact ⟨_, fd, F, He.glo_ok X G (c.fact 25 (f := .glo "_law_put_right") rfl)⟩
  have h__law_row : At K mg "_law_row" s__law_row := by
    obtain ⟨fd, F⟩ := c.def_ 26 (d := dd__law_row) rfl
    exact ⟨_, fd, F, He.glo_ok X G (c.fact 26 (f := .glo "_law_row") rfl)⟩
  have h__law_some : At K mg "_law_some" s__law_some := by
    obtain ⟨fd, F⟩ := c.def_ 27 (d := dd__law_some) rfl
    exact ⟨_, fd, F, He.glo_ok X G (c.fact 27 (f := .glo "_law_some") rfl)⟩
  have h_next_below : At K mg "next_below" s_next_below := by
    obtain ⟨fd, F⟩ := c.def_ 28 (d := dd_next_below) rfl
    exact ⟨_, fd, F, He.glo_ok X G (c.fact 28 (f := .glo "next_below") rfl)⟩
  have h__law_whole_right : At K mg "_law_whole_right" s__law_whole_right := by
    obtain ⟨fd, F⟩ := c.def_ 29 (d := dd__law_whole_right) rfl
    exact ⟨_, fd, F, He.glo_ok X G (c.fact 29 (f := .glo "_law_whole_right") rfl)⟩
  have h__law_right : At K mg "_law_right" s__law_right := by
    obtain ⟨fd, F⟩ := c.def_ 30 (d := dd__law_right) rfl
    exact ⟨_, fd, F, He.glo_ok X G (c.fact 30 (f := .glo "_law_right") rfl)⟩
  have h_law : At K mg "law" s_law := by
    obtain ⟨fd, F⟩ := c.def_ 31 (d := dd_law) rfl
    exact ⟨_, fd, F, He.glo_ok X G (c.fact 31 (f := .glo "law") rfl)⟩
  obtain ⟨a, fd, F, hm⟩ := id h_law
  have ea : a = f := by
    rw [hm] at hfa
    injection hfa with hfa
    injection hfa
  subst ea
  have b := FunD.bindsA (ps := ["_law_script"]) F fun _ _ _ _ _ _ us hl => match us, hl with | [_], _ => rfl
  refine ⟨fd, fun s v => b s [v] rfl, fun base _ _ => ?_⟩
  have c__law_box := ok__law_box (P := P) (w := w) (base := base) Z h__law_box 
  have c__law_with := ok__law_with (P := P) (w := w) (base := base) Z h__law_with 
  have c_is_lone := ok_is_lone (P := P) (w := w) (base := base) Z h_is_lone 
  have c_joined_blocks := ok_joined_blocks (P := P) (w := w) (base := base) Z h_joined_blocks 
  have c_records := ok_records (P := P) (w := w) (base := base) Z h_records 
  have c_filling := ok_filling (P := P) (w := w) (base := base) Z h_filling c_is_lone c_joined_blocks c_records
  have c_alike := ok_alike (P := P) (w := w) (base := base) Z h_alike c_filling
  have c_tupled := ok_tupled (P := P) (w := w) (base := base) Z h_tupled  16
  have c_blocks_of := ok_blocks_of (P := P) (w := w) (base := base) Z h_blocks_of c_tupled
  have c_many_numbers := ok_many_numbers (P := P) (w := w) (base := base) Z h_many_numbers c_blocks_of
  have c__law_by_hand_right := ok__law_by_hand_right (P := P) (w := w) (base := base) Z h__law_by_hand_right c__law_with c_alike c_filling c_many_numbers
  have c__law_cells := ok__law_cells (P := P) (w := w) (base := base) Z h__law_cells 
  have c__law_take := ok__law_take (P := P) (w := w) (base := base) Z h__law_take 
  have c__law_of := ok__law_of (P := P) (w := w) (base := base) Z h__law_of c__law_take
  have c__law_least := ok__law_least (P := P) (w := w) (base := base) Z h__law_least c__law_of c__law_take
  have c__law_batch := ok__law_batch (P := P) (w := w) (base := base) Z h__law_batch c__law_of c__law_take
  have c__law_same := ok__law_same (P := P) (w := w) (base := base) Z h__law_same  16
  have c_behind := ok_behind (P := P) (w := w) (base := base) Z h_behind c_joined_blocks c_tupled
  have c_holds := ok_holds (P := P) (w := w) (base := base) Z h_holds c_blocks_of
  have c_greatest_apart := ok_greatest_apart (P := P) (w := w) (base := base) Z h_greatest_apart 
  have c_next_above := ok_next_above (P := P) (w := w) (base := base) Z h_next_above c_blocks_of
  have c_parting := ok_parting (P := P) (w := w) (base := base) Z h_parting c_filling c_greatest_apart c_holds c_next_above
  have c_hop_places := ok_hop_places (P := P) (w := w) (base := base) Z h_hop_places 
  have c_cuts := ok_cuts (P := P) (w := w) (base := base) Z h_cuts c_hop_places
  have c_parts := ok_parts (P := P) (w := w) (base := base) Z h_parts c_cuts
  have c__law_put_right := ok__law_put_right (P := P) (w := w) (base := base) Z h__law_put_right c__law_batch c__law_same c__law_with c_alike c_behind c_filling c_holds c_parting c_parts c_records
  have c__law_row := ok__law_row (P := P) (w := w) (base := base) Z h__law_row c__law_of c__law_take
  have c__law_some := ok__law_some (P := P) (w := w) (base := base) Z h__law_some c__law_take
  have c_next_below := ok_next_below (P := P) (w := w) (base := base) Z h_next_below c_blocks_of
  have c__law_whole_right := ok__law_whole_right (P := P) (w := w) (base := base) Z h__law_whole_right c__law_batch c__law_same c_alike c_cuts c_filling c_holds c_many_numbers c_next_above c_next_below
  have c__law_right := ok__law_right (P := P) (w := w) (base := base) Z h__law_right c__law_least c__law_put_right c__law_row c__law_some c__law_take c__law_whole_right c_filling
  have c_law := ok_law (P := P) (w := w) (base := base) Z h_law c__law_box c__law_by_hand_right c__law_cells c__law_right
  exact c_law.pick F hm
end My

set_option Elab.async false
set_option linter.all false
set_option maxRecDepth 100000
set_option maxHeartbeats 4000000
namespace My
open PySem PySem.Spec PyProof.Rows L2 Cm
/-- the box's three cells -/
structure Bx where
  x : Int
  y : Int
  n : Int
def lay (B : Bx) : List PyData := [.int B.x, .int B.y, .int B.n]
structure BxOk (m : Nat) (B : Bx) : Prop where
  x0 : 0 ≤ B.x
  y0 : 0 ≤ B.y
  n0 : 0 ≤ B.n
  n1 : B.n ≤ m
  m1 : (m : Int) ≤ 1000000000000
def lo (k : Int) : Prop := 1 ≤ k ∧ k.natAbs.log2 < 9000
def once (y n : Int) : Int := ((y + 48271 * n) * (39373 + n)) % 2147483647
def twice (y n : Int) : Int := ((once y n + n + y / 1000003) * (once y n % 40009 + 7)) % 2147483629
def drawn (y n k : Int) : Int := ((twice y n * 48271 + once y n) % 2147483587 / 64) % k
theorem take_spec {m : Nat} {B : Bx} {k : Int} (h : BxOk m B) (hm : m < 1000000000000) (hk : lo k) : ∃ (r : Int) (B' : Bx), 0 ≤ r ∧ r < k ∧ BxOk (m + 1) B' ∧
    ∀ (st L : Sto) (b : Nat), b < st.length → f__law_take [.l b, .d (.int k)] (ex (st.set b (some (lay B))) L) = some (.d (.int r), ex (st.set b (some (lay B'))) L) := by
  obtain ⟨x0, y0, n0, n1, m1⟩ := h
  obtain ⟨k1, k2⟩ := hk
  have kp : 0 < k := by omega
  by_cases hx : 0 < B.x
  · refine ⟨B.x % k, ⟨B.x / k, B.y, B.n⟩, Int.emod_nonneg _ (by omega), Int.emod_lt_of_pos _ kp, ⟨Int.ediv_nonneg x0 (by omega), y0, n0, by show B.n ≤ _; omega, by omega⟩, ?_⟩
    intro st L b hb
    simp [f__law_take, defS_ap, b__law_take, ex_box hb, lay, fIx, atI, ixN, hx, kp, k2, ex_setb hb]
  · refine ⟨drawn B.y (B.n + 1) k, ⟨B.x, B.y, B.n + 1⟩, ?_, ?_, ⟨x0, y0, by show 0 ≤ B.n + 1; omega, by show B.n + 1 ≤ _; omega, by omega⟩, ?_⟩
    rotate_left 2
    · intro st L b hb
      have o1 : mulOk 48271 (B.n + 1) = true := mul_smallL (by omega) (by omega)
      have o2 : ∀ z, mulOk z (39373 + (B.n + 1)) = true := fun z => mul_small (by omega) (by omega)
      have o3 : ∀ z w : Int, mulOk z (w % 40009 + 7) = true := fun z w => mul_small (by omega) (by omega)
      have o4 : ∀ z : Int, mulOk z 48271 = true := fun z => mul_small (by omega) (by omega)
      have l1 : Nat.log2 1000003 < 9000 := by decide
      have l2 : Nat.log2 64 < 9000 := by decide
      simp [f__law_take, defS_ap, b__law_take, ex_box hb, lay, fIx, atI, ixN, hx, kp, k2, ex_setb hb, o1, o2, o3, o4, l1, l2, drawn, twice, once]
    · exact Int.emod_nonneg _ (by omega)
    · exact Int.emod_lt_of_pos _ kp
theorem lo_of {k : Int} (h1 : 1 ≤ k) (h2 : k ≤ 100000000000000000000000000000000000000000000000000) : lo k := by
  refine ⟨h1, ?_⟩
  have h3 : k.natAbs ≤ 100000000000000000000000000000000000000000000000000 := by omega
  rw [Nat.log2_lt (by omega)]
  exact Nat.lt_of_le_of_lt h3 (by decide +kernel)
/-- what a function of the box gives: a value for which R holds, and a box that has drawn c times more at most -/
def Dr (f : FS) (ws : List U) (m c : Nat) (B : Bx) (R : PyData → Prop) : Prop := ∃ (x : PyData) (B' : Bx), R x ∧ BxOk (m + c) B' ∧
    ∀ (st L : Sto) (b : Nat), b < st.length → f (.l b :: ws) (ex (st.set b (some (lay B))) L) = some (.d x, ex (st.set b (some (lay B'))) L)
theorem dr_lift {f : FS} {ws : List U} {B B' : Bx} {x : PyData} (h : ∀ (st : Sto) (b : Nat), b < st.length → f (.l b :: ws) (ex (st.set b (some (lay B))) []) = some (.d x, st.set b (some (lay B')))) :
    ∀ (st L : Sto) (b : Nat), b < st.length → f (.l b :: ws) (ex (st.set b (some (lay B))) L) = some (.d x, ex (st.set b (some (lay B'))) L) := by
  intro st L b hb
  have := h (st ++ L) b (by simp; omega)
  rw [List.set_append_left _ _ hb, List.set_append_left _ _ hb] at this
  simpa [ex] using this
theorem bx_up {m c : Nat} {B : Bx} (h : BxOk m B) (h1 : m ≤ c) (h2 : c ≤ 1000000000000) : BxOk c B := ⟨h.x0, h.y0, h.n0, by have := h.n1; omega, by omega⟩
theorem pure_lift {f : FS} {ws : List U} {x : PyData} (h : ∀ st : Sto, f ws (ex st []) = some (.d x, st)) (st : Sto) : f ws st = some (.d x, st) := by
  have := h st
  rwa [← ex_nil st] at this
theorem of_spec {m : Nat} {B : Bx} {xs : List PyData} (h : BxOk m B) (hm : m < 1000000000000) (h1 : 1 ≤ xs.length) (h2 : xs.length ≤ 1000000) : Dr f__law_of [.d (.list xs)] m 1 B (· ∈ xs) := by
  obtain ⟨r, B', r0, r1, hB, e⟩ := take_spec (k := xs.length) h hm (lo_of (by omega) (by omega))
  obtain ⟨k, rfl⟩ : ∃ k : Nat, r = k := ⟨r.toNat, by omega⟩
  have hk : k < xs.length := by omega
  refine ⟨xs[k], B', List.getElem_mem hk, hB, ?_⟩
  apply dr_lift
  intro st b hb
  simp [f__law_of, defS_ap, b__law_of, e _ _ _ hb, hk]
structure Pos where
  st : Sto
  b : Nat
def Pos.ok (θ : Pos) : Prop := θ.b < θ.st.length
@[simp] theorem ex_ex (st L M : Sto) : ex (ex st L) M = ex st (L ++ M) := by simp [ex]
end My

set_option Elab.async false
set_option linter.all false
set_option maxRecDepth 100000
set_option maxHeartbeats 4000000
namespace My
open PySem PySem.Spec PyProof.Rows L2 Cm
theorem least_spec {m : Nat} {B : Bx} (h : BxOk m B) (hm : m < 100000000000) : Dr f__law_least [] m 3 B (fun x => ∃ i : Int, x = .int i ∧ 1 ≤ i ∧ i ≤ 1000000000000000000000000000000) := by
  obtain ⟨r1, B1, a1, b1, h1, e1⟩ := take_spec (k := 9) h (by omega) (lo_of (by omega) (by omega))
  obtain ⟨r2, B2, a2, b2, h2, e2⟩ := take_spec (k := 1000000000000000000000000000000) h1 (by omega) (lo_of (by omega) (by omega))
  obtain ⟨x, B3, hx, h3, e3⟩ := of_spec (xs := [.int 1, .int 1, .int 2, .int 3, .int (4 + r1), .int (1 + r2)]) h2 (by omega) (by simp) (by simp)
  refine ⟨x, B3, ?_, h3, ?_⟩
  · simp at hx
    rcases hx with rfl | rfl | rfl | rfl | rfl <;> exact ⟨_, rfl, by omega, by omega⟩
  · apply dr_lift
    intro st b hb
    simp [f__law_least, defS_ap, b__law_least, e1 _ _ _ hb, e2 _ _ _ hb, e3 _ _ _ hb]
end My

set_option Elab.async false
set_option linter.all false
set_option maxRecDepth 100000
set_option maxHeartbeats 4000000
namespace My
open PySem PySem.Spec PyProof.Rows L2 Cm
theorem batch_spec {m : Nat} {B : Bx} {ls a : Int} (h : BxOk m B) (hm : m < 100000000000) (l1 : 1 ≤ ls) (l2 : ls ≤ 1000000000000000000000000000000) (a1 : 1 ≤ a) (a2 : a ≤ 1000) :
    Dr f__law_batch [.d (.int ls), .d (.int a)] m 3001 B (fun x => ∃ ns : List Int, x = .tuple (ns.map .int) ∧ 1 ≤ ns.length ∧ ns.length ≤ a ∧ ∀ n ∈ ns, ls ≤ n ∧ n ≤ 8 * ls + 2) := by
  obtain ⟨r, B1, r0, r1, h1, e1⟩ := take_spec (k := a) h (by omega) (lo_of (by omega) (by omega))
  obtain ⟨s', ⟨h2, c2, d2⟩, e2⟩ := forL_abs (T := Pos) (S := List Int × Bx × Option U × Option U)
    (g := gN 4) (b := (cSeq (cSet 5 (cDef 2 f__law_of (cCons (cVar 0) (cCons (cLst (cCons (cD (.int 0)) (cCons (cD (.int 0)) (cCons (cD (.int 1)) (cCons (cDef 2 f__law_take (cCons (cVar 0) (cCons (cD2s fAdd (cVar 1) (cD (.int 1))) cNil))) (cCons (cDef 2 f__law_take (cCons (cVar 0) (cCons (cD2s fAdd (cD2s fMul (cD (.int 6)) (cVar 1)) (cD (.int 2))) cNil))) cNil)))))) cNil))))
      (cExpr (cM mAppend (cVar 3) (cCons (cD2s fAdd (cVar 1) (cVar 5)) cNil)))))
    Pos.ok (fun θ s => [some (.l θ.b), some (.d (.int ls)), some (.d (.int a)), some (.l θ.st.length), s.2.2.1, s.2.2.2])
    (fun θ s => ex (θ.st.set θ.b (some (lay s.2.1))) [some (s.1.map .int)])
    (fun rest s => BxOk (m + 1 + 3 * (1000 - rest.length)) s.2.1 ∧ s.1.length + rest.length = (1 + r).toNat ∧ ∀ n ∈ s.1, ls ≤ n ∧ n ≤ 8 * ls + 2) (by
      rintro x xs ⟨ns, C, t4, t5⟩ ⟨hC, hn, hp⟩
      simp only [List.length_cons] at hC hn
      obtain ⟨q1, C1, u1, v1, g1, f1⟩ := take_spec (k := ls + 1) hC (by omega) (lo_of (by omega) (by omega))
      obtain ⟨q2, C2, u2, v2, g2, f2⟩ := take_spec (k := 6 * ls + 2) g1 (by omega) (lo_of (by omega) (by omega))
      obtain ⟨y, C3, hy, g3, f3⟩ := of_spec (xs := [.int 0, .int 0, .int 1, .int q1, .int q2]) g2 (by omega) (by simp) (by simp)
      obtain ⟨z, rfl, z0, z1⟩ : ∃ z : Int, y = .int z ∧ 0 ≤ z ∧ z ≤ 7 * ls + 2 := by
        simp at hy
        rcases hy with rfl | rfl | rfl | rfl <;> exact ⟨_, rfl, by omega, by omega⟩
      refine ⟨(ns ++ [ls + z], C3, some (.d x), some (.d (.int z))), ⟨bx_up g3 (by omega) (by omega), by simp; omega, ?_⟩, ?_⟩
      · intro n hn'
        simp at hn'
        rcases hn' with hn' | rfl
        · exact hp n hn'
        · omega
      · intro θ hb
        have o1 : ∀ z, mulOk 6 z = true := fun z => mul_smallL (by omega) (by omega)
        have hlen : ns.length < 1000000 := by omega
        have hlen' : ns.length + 1 ≤ 1000000 := by omega
        refine ⟨_, rfl, ?_⟩
        simp [f1 _ _ _ hb, f2 _ _ _ hb, f3 _ _ _ hb, o1, hlen, hlen'])
    (rangeD 0 (1 + r).toNat) ([], B1, none, none) ⟨bx_up h1 (by omega) (by omega), by simp, by simp⟩
  obtain ⟨ns, C, t4, t5⟩ := s'
  simp at c2
  refine ⟨.tuple (ns.map .int), C, ⟨ns, rfl, by omega, by omega, d2⟩, bx_up h2 (by simp) (by omega), ?_⟩
  apply dr_lift
  intro st b hb
  have e3 := e2 ⟨st, b⟩ hb
  have bg : big (1 + r) = true := big_of (by omega) (by omega)
  simp at e3
  simp [f__law_batch, defS_ap, b__law_batch, e1 _ _ _ hb, bg, e3]
end My

set_option Elab.async false
set_option linter.all false
set_option maxRecDepth 100000
set_option maxHeartbeats 4000000
namespace My
open PySem PySem.Spec PyProof.Rows L2 Cm
theorem row_spec {m : Nat} {B : Bx} {ls a : Int} (h : BxOk m B) (hm : m < 100000000000) (l1 : 1 ≤ ls) (l2 : ls ≤ 1000000000000000000000000000000) (a1 : 0 ≤ a) (a2 : a ≤ 1000) :
    Dr f__law_row [.d (.int ls), .d (.int a)] m 1004 B (fun x => ∃ ns : List Int, x = .tuple (ns.map .int) ∧ ns.length ≤ a ∧ ∀ n ∈ ns, 1 ≤ n ∧ n ≤ 14 * ls + 5) := by
  obtain ⟨way, B1, w0, w1, h1, e1⟩ := take_spec (k := 5) h (by omega) (lo_of (by omega) (by omega))
  obtain ⟨p, B2, p0, p1, h2, e2⟩ := take_spec (k := 12) h1 (by omega) (lo_of (by omega) (by omega))
  obtain ⟨q, B3, q0, q1, h3, e3⟩ := take_spec (k := ls + 1) h2 (by omega) (lo_of (by omega) (by omega))
  obtain ⟨r, B4, r0, r1, h4, e4⟩ := take_spec (k := a + 1) h3 (by omega) (lo_of (by omega) (by omega))
  have hp : ls * (2 + p) = 2 * ls + ls * p := by rw [Int.mul_add]; omega
  have hp0 : 0 ≤ ls * p := Int.mul_nonneg (by omega) p0
  have hp1 : ls * p ≤ ls * 11 := Int.mul_le_mul_of_nonneg_left (by omega) (by omega)
  obtain ⟨s', ⟨g5, c5, d5⟩, e5⟩ := forL_abs (T := Pos) (S := List Int × Bx × Int × Option U)
    (g := (gN 4)) (b := (cIfS (cB (cD2 fEq (cVar 5) (cD (.int 0)))) (cExpr (cM mAppend (cVar 6) (cCons (cD2s fAdd (cD (.int 1)) (cDef 2 f__law_take (cCons (cVar 0) (cCons (cD2s fAdd (cD2s fMul (cD (.int 12)) (cVar 1)) (cD (.int 5))) cNil)))) cNil))) (cIfS (cB (cD2 fEq (cVar 5) (cD (.int 1)))) (cSeq (cExpr (cM mAppend (cVar 6) (cCons (cCall fMax (cCons (cD (.int 1)) (cCons (cVar 3) cNil))) cNil))) (cSet 3 (cD2 fSub (cD2 fSub (cVar 3) (cD (.int 1))) (cDef 2 f__law_take (cCons (cVar 0) (cCons (cD2s fAdd (cVar 1) (cD (.int 2))) cNil)))))) (cIfS (cB (cD2 fEq (cVar 5) (cD (.int 2)))) (cSeq (cExpr (cM mAppend (cVar 6) (cCons (cCall fMax (cCons (cD (.int 1)) (cCons (cVar 3) cNil))) cNil))) (cSet 3 (cD2 fSub (cD2 fSub (cVar 3) (cD (.int 1))) (cDef 2 f__law_take (cCons (cVar 0) (cCons (cD2s fAdd (cD2s fMul (cD (.int 2)) (cVar 1)) (cD (.int 3))) cNil)))))) (cIfS (cB (cD2 fEq (cVar 5) (cD (.int 3)))) (cExpr (cM mAppend (cVar 6) (cCons (cCall fMax (cCons (cD (.int 1)) (cCons (cD2 fSub (cVar 3) (cDef 2 f__law_take (cCons (cVar 0) (cCons (cD2s fAdd (cD2s fMul (cD (.int 3)) (cVar 1)) (cD (.int 1))) cNil)))) cNil))) cNil))) (cExpr (cM mAppend (cVar 6) (cCons (cDef 2 f__law_of (cCons (cVar 0) (cCons (cLst (cCons (cVar 3) (cCons (cCall fMax (cCons (cD (.int 1)) (cCons (cD2 fSub (cVar 3) (cVar 1)) cNil))) (cCons (cCall fMax (cCons (cD (.int 1)) (cCons (cD2 fSub (cD2 fSub (cVar 3) (cVar 1)) (cD (.int 1))) cNil))) (cCons (cD2s fMul (cD (.int 2)) (cVar 1)) cNil))))) cNil))) cNil))))))))
    Pos.ok (fun θ s => [some (.l θ.b), some (.d (.int ls)), some (.d (.int a)), some (.d (.int s.2.2.1)), s.2.2.2, some (.d (.int way)), some (.l θ.st.length)])
    (fun θ s => ex (θ.st.set θ.b (some (lay s.2.1))) [some (s.1.map .int)])
    (fun rest s => BxOk (m + 4 + 1 * (1000 - rest.length)) s.2.1 ∧ s.1.length + rest.length = r.toNat ∧ (∀ n ∈ s.1, 1 ≤ n ∧ n ≤ 14 * ls + 5) ∧ s.2.2.1 ≤ 14 * ls ∧ (way = 4 → 1 ≤ s.2.2.1)) (by
      rintro x xs ⟨ns, C, top, t4⟩ ⟨hC, hn, hp, ht, ht4⟩
      simp only [List.length_cons] at hC hn ht ht4
      have hlen : ns.length < 1000000 := by omega
      have hlen' : ns.length + 1 ≤ 1000000 := by omega
      have o1 : ∀ z, mulOk 12 z = true := fun z => mul_smallL (by omega) (by omega)
      have o2 : ∀ z, mulOk 2 z = true := fun z => mul_smallL (by omega) (by omega)
      have o3 : ∀ z, mulOk 3 z = true := fun z => mul_smallL (by omega) (by omega)
      have fit : ∀ (z : Int), 1 ≤ z → z ≤ 14 * ls + 5 → ∀ n ∈ ns ++ [z], 1 ≤ n ∧ n ≤ 14 * ls + 5 := by
        intro z z1 z2 n hn'
        simp at hn'
        rcases hn' with hn' | rfl
        · exact hp n hn'
        · omega
      have w : way = 0 ∨ way = 1 ∨ way = 2 ∨ way = 3 ∨ way = 4 := by omega
      rcases w with rfl | rfl | rfl | rfl | rfl
      · obtain ⟨q1, C1, u1, v1, g1, f1⟩ := take_spec (k := 12 * ls + 5) hC (by omega) (lo_of (by omega) (by omega))
        refine ⟨(ns ++ [1 + q1], C1, top, some (.d x)), ⟨bx_up g1 (by omega) (by omega), by simp; omega, fit _ (by omega) (by omega), ht, by omega⟩, ?_⟩
        intro θ hb
        refine ⟨_, rfl, ?_⟩
        simp [f1 _ _ _ hb, o1, hlen, hlen']
      · obtain ⟨q1, C1, u1, v1, g1, f1⟩ := take_spec (k := ls + 2) hC (by omega) (lo_of (by omega) (by omega))
        refine ⟨(ns ++ [if top > 1 then top else 1], C1, top - 1 - q1, some (.d x)), ⟨bx_up g1 (by omega) (by omega), by simp; omega, fit _ (by split <;> omega) (by split <;> omega), by show top - 1 - q1 ≤ _; omega, by omega⟩, ?_⟩
        intro θ hb
        refine ⟨_, rfl, ?_⟩
        simp [f1 _ _ _ hb, o1, hlen, hlen']
      · obtain ⟨q1, C1, u1, v1, g1, f1⟩ := take_spec (k := 2 * ls + 3) hC (by omega) (lo_of (by omega) (by omega))
        refine ⟨(ns ++ [if top > 1 then top else 1], C1, top - 1 - q1, some (.d x)), ⟨bx_up g1 (by omega) (by omega), by simp; omega, fit _ (by split <;> omega) (by split <;> omega), by show top - 1 - q1 ≤ _; omega, by omega⟩, ?_⟩
        intro θ hb
        refine ⟨_, rfl, ?_⟩
        simp [f1 _ _ _ hb, o2, hlen, hlen']
      · obtain ⟨q1, C1, u1, v1, g1, f1⟩ := take_spec (k := 3 * ls + 1) hC (by omega) (lo_of (by omega) (by omega))
        refine ⟨(ns ++ [if top - q1 > 1 then top - q1 else 1], C1, top, some (.d x)), ⟨bx_up g1 (by omega) (by omega), by simp; omega, fit _ (by split <;> omega) (by split <;> omega), ht, by omega⟩, ?_⟩
        intro θ hb
        refine ⟨_, rfl, ?_⟩
        simp [f1 _ _ _ hb, o3, hlen, hlen']
      · obtain ⟨y, C1, hy, g1, f1⟩ := of_spec (xs := [.int top, .int (if top - ls > 1 then top - ls else 1), .int (if top - ls - 1 > 1 then top - ls - 1 else 1), .int (2 * ls)]) hC (by omega) (by simp) (by simp)
        have t1 := ht4 rfl
        obtain ⟨z, rfl, z0, z1⟩ : ∃ z : Int, y = .int z ∧ 1 ≤ z ∧ z ≤ 14 * ls := by
          simp only [List.mem_cons, List.not_mem_nil, or_false] at hy
          rcases hy with rfl | rfl | rfl | rfl <;> exact ⟨_, rfl, by first | omega | (split <;> omega), by first | omega | (split <;> omega)⟩
        refine ⟨(ns ++ [z], C1, top, some (.d x)), ⟨bx_up g1 (by omega) (by omega), by simp; omega, fit _ (by omega) (by omega), ht, ht4⟩, ?_⟩
        intro θ hb
        refine ⟨_, rfl, ?_⟩
        simp [f1 _ _ _ hb, o2, hlen, hlen'])
    (rangeD 0 r.toNat) ([], B4, ls * (2 + p) + q, none) ⟨bx_up h4 (by omega) (by omega), by simp, by simp, by show ls * (2 + p) + q ≤ _; omega, by intro _; show 1 ≤ ls * (2 + p) + q; omega⟩
  obtain ⟨ns, C, top, t4⟩ := s'
  simp at c5
  refine ⟨.tuple (ns.map .int), C, ⟨ns, rfl, by omega, d5.1⟩, bx_up g5 (by simp) (by omega), ?_⟩
  apply dr_lift
  intro st b hb
  have e6 := e5 ⟨st, b⟩ hb
  have bg : big r = true := big_of (by omega) (by omega)
  have o4 : ∀ z, mulOk z (2 + p) = true := fun z => mul_small (by omega) (by omega)
  simp at e6
  simp [f__law_row, defS_ap, b__law_row, e1 _ _ _ hb, e2 _ _ _ hb, e3 _ _ _ hb, e4 _ _ _ hb, bg, o4, e6]
end My

set_option Elab.async false
set_option linter.all false
set_option maxRecDepth 100000
set_option maxHeartbeats 4000000
namespace My
open PySem PySem.Spec PyProof.Rows L2 Cm
theorem cut_to (xs : List PyData) {i : Int} (h : 0 ≤ i) : Cm.cutD xs none (some i) = xs.take i.toNat := by
  obtain ⟨k, rfl⟩ : ∃ k : Nat, i = k := ⟨i.toNat, by omega⟩
  unfold Cm.cutD
  rw [HT.sIx_none, HT.sIx_nat]
  simp only [List.drop_zero, Nat.sub_zero, Int.toNat_natCast]
  rw [List.take_eq_take_iff]
  omega
theorem cut_from (xs : List PyData) {i : Int} (h : 0 ≤ i) : Cm.cutD xs (some i) none = xs.drop i.toNat := by
  obtain ⟨k, rfl⟩ : ∃ k : Nat, i = k := ⟨i.toNat, by omega⟩
  unfold Cm.cutD
  rw [HT.sIx_none, HT.sIx_nat, Int.toNat_natCast, List.take_of_length_le (by rw [List.length_drop]; omega)]
  by_cases hk : k ≤ xs.length
  · rw [Nat.min_eq_left hk]
  · rw [Nat.min_eq_right (by omega), List.drop_of_length_le (by omega), List.drop_of_length_le (by omega)]
theorem cut_both (xs : List PyData) {i j : Int} (h : 0 ≤ i) (h2 : 0 ≤ j) : Cm.cutD xs (some i) (some j) = (xs.drop i.toNat).take (j.toNat - i.toNat) := by
  obtain ⟨k, rfl⟩ : ∃ k : Nat, i = k := ⟨i.toNat, by omega⟩
  obtain ⟨l, rfl⟩ : ∃ l : Nat, j = l := ⟨j.toNat, by omega⟩
  unfold Cm.cutD
  rw [HT.sIx_nat, HT.sIx_nat, Int.toNat_natCast, Int.toNat_natCast]
  by_cases hk : k ≤ xs.length
  · rw [Nat.min_eq_left hk, List.take_eq_take_iff, List.length_drop]
    omega
  · rw [List.drop_of_length_le (i := k) (by omega), List.drop_of_length_le (i := min k xs.length) (by omega)]
    simp
theorem enumD_mem : ∀ {xs : List PyData} {i : Nat} {y : PyData}, y ∈ enumD i xs → ∃ (k : Nat) (x : PyData), i ≤ k ∧ k < i + xs.length ∧ x ∈ xs ∧ y = .tuple [.int (k : Nat), x]
  | [], _, _, h => by cases h
  | x :: xs, i, y, h => by
    rcases List.mem_cons.mp h with rfl | h
    · exact ⟨i, x, Nat.le_refl _, by simp, by simp, rfl⟩
    · obtain ⟨k, z, a, b, c, d⟩ := enumD_mem h
      exact ⟨k, z, by omega, by simp; omega, by simp [c], d⟩
@[simp] theorem enumD_len : ∀ (xs : List PyData) (i : Nat), (enumD i xs).length = xs.length
  | [], _ => rfl
  | x :: xs, i => by simp [enumD, enumD_len xs]
theorem cells_spec (ns : List Int) (w : Nat) (w1 : 1 ≤ w) (w2 : w ≤ 1000) (st : Sto) : ∃ cs : List Int, 1 ≤ cs.length ∧ cs.length ≤ w ∧
    f__law_cells [.s ns, .d (.int (w : Nat))] (ex st []) = some (.d (.list (cs.map .int)), st) := by
  by_cases hn : ns = []
  · subst hn
    refine ⟨[0], by simp, by simp; omega, ?_⟩
    simp [f__law_cells, defS_ap, b__law_cells, cut_to, cut_both, enumD, forL]
  · obtain ⟨s', ⟨h1, h2, _⟩, e⟩ := forL_abs (T := Unit) (S := List Int × Option U × Option U × Option U)
      (g := (gT (gsCons (gN 3) (gsCons (gN 4) gsNil)))) (b := (cSeq (cSet 5 (cD2 fMod (cCall fInt (cCons (cVar 3) cNil)) (cVar 1))) (cSetIx (cVar 2) (cVar 5) (cD2s fAdd (cD2 fIx (cVar 2) (cVar 5)) (cD2s fMul (cVar 4) (cD2s fAdd (cVar 3) (cD (.int 2))))))))
      (fun _ => True) (fun _ s => [some (.s ns), some (.d (.int (w : Nat))), some (.l st.length), s.2.1, s.2.2.1, s.2.2.2])
      (fun _ s => ex st [some (s.1.map .int)])
      (fun rest s => 1 ≤ s.1.length ∧ s.1.length ≤ w ∧ (rest ≠ [] → s.1.length = w) ∧ ∀ y ∈ rest, ∃ (k : Nat) (c : Int), k < 1000 ∧ y = .tuple [.int (k : Nat), .int c]) (by
        rintro x xs ⟨cs, t3, t4, t5⟩ ⟨l1, l2, l3, hr⟩
        obtain ⟨k, c, hk, rfl⟩ := hr x List.mem_cons_self
        simp only [] at l1 l2 l3
        have hw : cs.length = w := l3 (by simp)
        have hw' : (0 : Int) < w := by omega
        have hw0 : 0 < w := by omega
        have m0 : 0 ≤ (k : Int) % w := Int.emod_nonneg _ (by omega)
        have m1 : (k : Int) % w < w := Int.emod_lt_of_pos _ hw'
        obtain ⟨j, hj⟩ : ∃ j : Nat, (k : Int) % w = j := ⟨((k : Int) % w).toNat, by omega⟩
        have hj' : j < cs.length := by omega
        refine ⟨(cs.set j (cs[j] + c * ((k : Int) + 2)), some (.d (.int (k : Nat))), some (.d (.int c)), some (.d (.int (j : Nat)))), ⟨by simpa using l1, by simpa using l2, by intro _; simpa using hw, fun y hy => hr y (List.mem_cons_of_mem _ hy)⟩, ?_⟩
        intro _ _
        have o1 : ∀ z : Int, mulOk z ((k : Int) + 2) = true := fun z => mul_small (by omega) (by omega)
        have o2 : ixN cs.length (j : Int) = some j := by simp [ixN, hj']
        refine ⟨_, rfl, ?_⟩
        simp [hw', hw0, hj, o1, o2, hj'])
      (enumD 0 (Cm.cutD (ns.map .int) (some (w : Nat)) (some 63))) (ns.take w, none, none, none) (by
        refine ⟨?_, ?_, ?_, ?_⟩
        · have := List.length_pos_iff.mpr hn
          simp; omega
        · simp; omega
        · intro hne
          have hne' : (enumD 0 (Cm.cutD (ns.map PyData.int) (some (w : Nat)) (some 63))).length ≠ 0 := by
            intro h0
            exact hne (List.length_eq_zero_iff.mp h0)
          rw [enumD_len, cut_both _ (by omega) (by omega)] at hne'
          simp at hne' ⊢
          omega
        · intro y hy
          obtain ⟨k, x, a, b, c, d⟩ := enumD_mem hy
          rw [cut_both _ (by omega) (by omega)] at b c
          have c' := List.mem_of_mem_drop (List.mem_of_mem_take c)
          simp only [List.mem_map] at c'
          obtain ⟨z, _, rfl⟩ := c'
          simp at b
          exact ⟨k, z, by omega, d⟩)
    obtain ⟨cs, t3, t4, t5⟩ := s'
    refine ⟨cs, h1, h2, ?_⟩
    have e' := e () trivial
    have w0 : w ≠ 0 := by omega
    simp at e'
    simp [f__law_cells, defS_ap, b__law_cells, cut_to, hn, w0, e']
theorem box_spec (cs : List Int) (k : Nat) (hk : k < cs.length) (h2 : k < 1000) (st : Sto) : ∃ B : Bx, BxOk 0 B ∧ f__law_box [.d (.list (cs.map .int)), .d (.int (k : Nat))] (ex st []) = some (.l st.length, ex st [some (lay B)]) := by
  refine ⟨⟨(if cs[k] < 0 then -cs[k] else cs[k]) * (if 1000000000000000000 ≤ (if cs[k] < 0 then -cs[k] else cs[k]) then 1 else 0), cs[k] % 2305843009213693951 + 39373 * (k : Int) + 967, 0⟩, ⟨?_, ?_, ?_, ?_, ?_⟩, ?_⟩
  · refine Int.mul_nonneg ?_ ?_
    · split <;> omega
    · split <;> omega
  · show 0 ≤ cs[k] % 2305843009213693951 + 39373 * (k : Int) + 967
    omega
  · exact Int.le_refl _
  · exact Int.le_refl _
  · omega
  · have o1 : ∀ (z w : Int), mulOk z (if w ≤ z then 1 else 0) = true := fun z w => mul_small (by split <;> omega) (by split <;> omega)
    have o2 : ∀ z : Int, mulOk 39373 z = true := fun z => mul_smallL (by omega) (by omega)
    simp [f__law_box, defSO_ap, b__law_box, hk, o1, o2, lay]
    rfl
end My

set_option Elab.async false
set_option linter.all false
set_option maxRecDepth 100000
set_option maxHeartbeats 4000000
namespace My
open PySem PySem.Spec PyProof.Rows L2 Cm
theorem hand_spec : f__law_by_hand_right [] (ex [] []) = some (.d (.bool true), []) := by kernel_rfl
theorem hand_spec' : f__law_by_hand_right [] [] = some (.d (.bool true), []) := hand_spec
end My

set_option Elab.async false
set_option linter.all false
set_option maxRecDepth 100000
set_option maxHeartbeats 4000000
namespace My
open PySem PySem.Spec PyProof.Rows L2 Cm
/-- the law of the running least -/
def recStep (acc : List Int) (l : Int) : List Int := match acc.getLast? with
  | none => acc ++ [l]
  | some m => if l < m then acc ++ [l] else acc
def recs (row : List Int) : List Int := row.foldl recStep []
theorem recs_snoc (row : List Int) (l : Int) : recs (row ++ [l]) = recStep (recs row) l := by simp [recs]
theorem minI_snoc (row : List Int) (l : Int) : minI (row ++ [l]) = match minI row with
  | none => some l
  | some m => some (if l < m then l else m) := by
  cases row with
  | nil => rfl
  | cons x xs => simp [minI]
theorem snoc_ind {P : List Int → Prop} (h0 : P []) (h1 : ∀ xs x, P xs → P (xs ++ [x])) : ∀ xs, P xs := by
  intro xs
  rw [← List.reverse_reverse xs]
  induction xs.reverse with
  | nil => exact h0
  | cons y ys ih => rw [List.reverse_cons]; exact h1 _ _ ih
theorem recs_last : ∀ row : List Int, (recs row).getLast? = minI row := by
  refine snoc_ind rfl ?_
  intro xs x ih
  rw [recs_snoc, minI_snoc, ← ih, recStep]
  cases h : (recs xs).getLast? with
  | none => simp
  | some m =>
    by_cases c : x < m
    · simp [c]
    · simp [c, h]
theorem recs_len : ∀ row : List Int, (recs row).length ≤ row.length := by
  refine snoc_ind (by simp [recs]) ?_
  intro xs x ih
  rw [recs_snoc, recStep]
  split
  · simp; exact ih
  · split
    · simp; exact ih
    · simp; omega
theorem recs_idem : ∀ row : List Int, recs (recs row) = recs row := by
  refine snoc_ind rfl ?_
  intro xs x ih
  rw [recs_snoc]
  have key : recs (recStep (recs xs) x) = recStep (recs xs) x := by
    have h := recs_last xs
    rw [recStep]
    cases hl : (recs xs).getLast? with
    | none => simp only []; rw [recs_snoc, ih, recStep, hl]
    | some m =>
      by_cases c : x < m
      · simp only [c, if_true]; rw [recs_snoc, ih, recStep, hl]; simp [c]
      · simp only [c, if_false]; exact ih
  exact key
theorem recs_wide (row : List Int) (k sp : Nat) (more : Int) (h1 : k < sp) (h2 : sp ≤ row.length) (hk : k < row.length) (h : row[k] ≤ more) : recs (row.take sp ++ [more] ++ row.drop sp) = recs row := by
  have e : recs (row.take sp ++ [more]) = recs (row.take sp) := by
    rw [recs_snoc, recStep, recs_last]
    cases hm : minI (row.take sp) with
    | none =>
      exfalso
      have : row.take sp = [] := by
        cases ht : row.take sp with
        | nil => rfl
        | cons x xs => rw [ht] at hm; cases hm
      have := congrArg List.length this
      rw [List.length_take, List.length_nil] at this
      omega
    | some m =>
      have := (minI_spec hm).2 row[k] (by
        rw [List.mem_iff_getElem]
        exact ⟨k, by simp; omega, by simp⟩)
      have hn : ¬ more < m := by omega
      simp only [hn, if_false]
  unfold recs at e ⊢
  rw [List.foldl_append, e, ← List.foldl_append, List.take_append_drop]
theorem minI_some {xs : List Int} (h : xs ≠ []) : ∃ m, minI xs = some m := by
  cases xs with
  | nil => exact absurd rfl h
  | cons x xs => exact ⟨_, rfl⟩
end My

set_option Elab.async false
set_option linter.all false
set_option maxRecDepth 100000
set_option maxHeartbeats 4000000
namespace My
open PySem PySem.Spec PyProof.Rows L2 Cm
/-- a list or a tuple of these -/
def Sq (x : PyData) (xs : List PyData) : Prop := x = .tuple xs ∨ x = .list xs
abbrev iL (ns : List Int) : List PyData := ns.map .int
abbrev nL (ns : List Nat) : List PyData := ns.map fun n => .int (n : Nat)
theorem fIx_last (ys : List Int) (z : Int) : fIx (.list (iL (ys ++ [z]))) (.int (-1)) = some (.int z) := by
  have : (-(((iL (ys ++ [z])).length : Nat) : Int) ≤ -1) := by simp; omega
  have e : ((-1 : Int) + (((iL (ys ++ [z])).length : Nat) : Int)).toNat = ys.length := by simp; omega
  simp only [fIx, atI, ixN, if_neg (by decide : ¬ (0 : Int) ≤ -1), if_pos this, e, Option.bind_some]
  simp
theorem filter_yes {α : Type} (xs : List α) : xs.filter (fun _ => true) = xs := List.filter_eq_self.mpr (by intros; rfl)
@[simp] theorem allD_map (xs : List PyData) : allD (xs.map U.d) = some xs := by
  have := allD_app xs []
  simpa using this
theorem lcC_pure {g : GT} {tt : SB} {te : SE} {ev : Ev} (c : PyData → Bool) (f : PyData → PyData) (st : Sto) (n : Nat) (xs : List PyData) (hn : st[n]? = some (some xs))
    (h : ∀ x ∈ xs, ∀ acc, ∃ ev1, g x ev = some ev1 ∧ tt ev1 (ex st [some acc]) = some (c x, ex st [some acc]) ∧ (c x = true → te ev1 (ex st [some acc]) = some (.d (f x), ex st [some acc]))) :
    ∀ (k i : Nat) (acc : List PyData), xs.length - i < k → acc.length + (xs.length - i) ≤ lim → lcC g tt te ev n k i st acc = some (acc ++ ((xs.drop i).filter c).map f, st)
  | 0, i, acc, hk, _ => by omega
  | k + 1, i, acc, hk, hl => by
    obtain ⟨hb, e0⟩ := List.getElem?_eq_some_iff.mp hn
    have g0 : (st ++ [some acc])[n]? = some (some xs) := by rw [List.getElem?_append_left hb, hn]
    by_cases hi : i < xs.length
    · obtain ⟨ev1, e1, e2, e3⟩ := h xs[i] (List.getElem_mem hi) acc
      have e2' : tt ev1 (st ++ [some acc]) = some (c xs[i], ex st [some acc]) := e2
      have g1 : (ex st [some acc])[st.length]? = some (some acc) := by rw [ex_get0]; rfl
      have g2 : (ex st [some acc]).take st.length = st := by simp
      have g3 : xs[i]? = some xs[i] := List.getElem?_eq_getElem hi
      rw [List.drop_eq_getElem_cons hi]
      by_cases t : c xs[i] = true
      · have := lcC_pure c f st n xs hn h k (i + 1) (acc ++ [f xs[i]]) (by omega) (by simp; simp at hl; omega)
        have ha : acc.length < lim := by omega
        simp only [lcC, g0, g3, e1, e2', t, e3 t, g1, g2, Option.bind_some, if_pos ha, if_true, this]
        rw [List.filter_cons_of_pos t, List.map_cons, List.append_assoc]
        rfl
      · have := lcC_pure c f st n xs hn h k (i + 1) acc (by omega) (by omega)
        have t' : c xs[i] = false := by simpa using t
        simp only [lcC, g0, g3, e1, e2', t', g1, g2, Option.bind_some, this]
        rw [List.filter_cons_of_neg t]
        rfl
    · have g3 : xs[i]? = none := List.getElem?_eq_none (by omega)
      simp only [lcC, g0, g3]
      rw [List.drop_of_length_le (by omega)]
      simp
end My

set_option Elab.async false
set_option linter.all false
set_option maxRecDepth 100000
set_option maxHeartbeats 4000000
namespace My
open PySem PySem.Spec PyProof.Rows L2 Cm
theorem records_spec {x : PyData} {row : List Int} (hx : Sq x (iL row)) (hl : row.length ≤ 1000) (st : Sto) : f_records [.d x] st = some (.d (.tuple (iL (recs row))), st) := by
  revert st
  apply pure_lift
  intro st
  obtain ⟨s', ⟨d, r2, p1, p2, p3⟩, e⟩ := forL_abs (T := Unit) (S := List Int × Option U)
    (g := (gN 2)) (b := (cIfS (bOr (cB (cD2 fEq (cCall fLen (cCons (cVar 1) cNil)) (cD (.int 0)))) (cB (cD2 fLt (cVar 2) (cD2 fIx (cVar 1) (cD1 fNeg (cD (.int 1))))))) (cExpr (cM mAppend (cVar 1) (cCons (cVar 2) cNil))) cSkip))
    (fun _ => True) (fun _ s => [some (.d x), some (.l st.length), s.2]) (fun _ s => ex st [some (iL s.1)])
    (fun rest s => ∃ d r2, row = d ++ r2 ∧ rest = iL r2 ∧ s.1 = recs d) (by
      rintro y ys ⟨acc, t⟩ ⟨d, r2, h1, h2, h3⟩
      cases r2 with
      | nil => cases h2
      | cons l r2 =>
        obtain ⟨rfl, rfl⟩ : y = .int l ∧ ys = iL r2 := by simpa [iL] using h2
        simp only [] at h3
        subst h3
        refine ⟨(recs (d ++ [l]), some (.d (.int l))), ⟨d ++ [l], r2, by simp [h1], rfl, rfl⟩, ?_⟩
        intro _ _
        refine ⟨_, rfl, ?_⟩
        have hlen : (recs d).length ≤ 1000 := by
          have := recs_len d
          have : d.length ≤ row.length := by rw [h1]; simp
          omega
        have hlen1 : (recs d).length < 1000000 := by omega
        have hlen2 : (recs d).length + 1 ≤ 1000000 := by omega
        rw [recs_snoc, recStep]
        rcases List.eq_nil_or_concat (recs d) with h0 | ⟨zs, z, h0⟩
        · simp [h0]
        · rw [List.concat_eq_append] at h0
          have hne : (recs d).length ≠ 0 := by rw [h0]; simp
          have hz : (recs d).getLast? = some z := by rw [h0]; simp
          have hi : fIx (.list (iL (recs d))) (.int (-1)) = some (.int z) := by rw [h0]; exact fIx_last zs z
          simp only [hz]
          by_cases c : l < z
          · simp [hne, hi, c, hlen1, hlen2]
          · simp [hne, hi, c, hlen1, hlen2])
    (iL row) ([], none) ⟨[], row, rfl, rfl, rfl⟩
  have hr : r2 = [] := by cases r2 with
    | nil => rfl
    | cons => cases p2
  subst hr
  simp at p1
  obtain ⟨acc, t⟩ := s'
  simp only [] at p3
  subst p1 p3
  have e' := e () trivial
  simp at e'
  rcases hx with rfl | rfl
  · simp [f_records, defS_ap, b_records, e']
  · simp [f_records, defS_ap, b_records, e']
end My

set_option Elab.async false
set_option linter.all false
set_option maxRecDepth 100000
set_option maxHeartbeats 4000000
namespace My
open PySem PySem.Spec PyProof.Rows L2 Cm
theorem same_int (d : Nat) (i : Int) (st : Sto) : f__law_same (d + 1) [.d (.int i), .d (.int i)] st = some (.d (.bool true), st) := by
  revert st
  apply pure_lift
  intro st
  simp [f__law_same, defS_ap, b__law_same, known, isaT, isNone]
theorem all_true (xs : List PyData) : asBools (xs.map fun _ => PyData.bool true) = some (xs.map fun _ => true) := by
  have := asBools_map (xs.map fun _ => true)
  simpa [Function.comp_def] using this
def SameOk (d : Nat) (x : PyData) : Prop := ∀ st : Sto, f__law_same d [.d x, .d x] st = some (.d (.bool true), st)
theorem same_seq (d : Nat) {x : PyData} {xs : List PyData} (hx : Sq x xs) (h : ∀ y ∈ xs, SameOk d y) (hl : xs.length ≤ 1000) : SameOk (d + 1) x := by
  unfold SameOk
  apply pure_lift
  intro st
  have lc := lcL_pure (g := gT (gsCons (gN 2) (gsCons (gN 3) gsNil))) (tt := bYes) (te := cDef 2 (f__law_same d) (cCons (cVar 2) (cCons (cVar 3) cNil))) (ev := [some (.d x), some (.d x), none, none])
    (fun _ => true) (fun _ => .bool true) (ex st []) (zipD xs xs) [] (by
      intro z hz acc
      unfold zipD at hz
      rw [List.zipWith_self] at hz
      obtain ⟨q, hq, rfl⟩ := List.mem_map.mp hz
      refine ⟨_, rfl, rfl, fun _ => ?_⟩
      simp [h q hq _]) (by simp [zipD]; omega)
  rw [List.nil_append, filter_yes] at lc
  have ha := all_true (zipD xs xs)
  rcases hx with rfl | rfl <;> simp -implicitDefEqProofs [f__law_same, defS_ap, b__law_same, known, isaT, isNone, lc, ha]
theorem same_ints {d : Nat} {x : PyData} {ns : List Int} (hx : Sq x (iL ns)) (hl : ns.length ≤ 1000) : SameOk (d + 2) x :=
  same_seq (d + 1) hx (fun y hy => by
    obtain ⟨i, _, rfl⟩ := List.mem_map.mp hy
    exact same_int d i) (by simpa using hl)
end My

set_option Elab.async false
set_option linter.all false
set_option maxRecDepth 100000
set_option maxHeartbeats 4000000
namespace My
open PySem PySem.Spec PyProof.Rows L2 Cm
theorem canAll : ∀ {xs : List PyData}, (∀ x ∈ xs, x.canLay0 = true) → PyData.canLayAll0 xs = true
  | [], _ => rfl
  | x :: xs, h => by
    rw [PyData.canLayAll0, h x List.mem_cons_self, canAll (fun y hy => h y (List.mem_cons_of_mem _ hy))]
    rfl
theorem depAll {k : Nat} : ∀ {xs : List PyData}, (∀ x ∈ xs, x.depth ≤ k) → PyData.depthAll xs ≤ k
  | [], _ => Nat.zero_le _
  | x :: xs, h => by
    rw [PyData.depthAll]
    exact Nat.max_le.mpr ⟨h x List.mem_cons_self, depAll (fun y hy => h y (List.mem_cons_of_mem _ hy))⟩
def Shp (k : Nat) (x : PyData) : Prop := x.canLay0 = true ∧ x.depth ≤ k
theorem shp_int (i : Int) : Shp 0 (.int i) := ⟨rfl, Nat.le_refl _⟩
theorem shp_seq {k : Nat} {x : PyData} {xs : List PyData} (hx : Sq x xs) (h : ∀ y ∈ xs, Shp k y) : Shp (k + 1) x := by
  rcases hx with rfl | rfl
  · refine ⟨?_, ?_⟩
    · rw [PyData.canLay0]; exact canAll (fun y hy => (h y hy).1)
    · rw [PyData.depth]; exact Nat.succ_le_succ (depAll (fun y hy => (h y hy).2))
  · refine ⟨?_, ?_⟩
    · rw [PyData.canLay0]; exact canAll (fun y hy => (h y hy).1)
    · rw [PyData.depth]; exact Nat.succ_le_succ (depAll (fun y hy => (h y hy).2))
theorem shp_shaped {k : Nat} {x : PyData} (h : Shp k x) (hk : k ≤ 64) : SeqAt.shaped x = true := by
  unfold SeqAt.shaped
  rw [h.1, decide_eq_true (Nat.le_trans h.2 hk)]
  rfl
theorem shp_ints {x : PyData} {ns : List Int} (hx : Sq x (iL ns)) : Shp 1 x := shp_seq hx (fun y hy => by
  obtain ⟨i, _, rfl⟩ := List.mem_map.mp hy
  exact shp_int i)
theorem eq_self {k : Nat} {x : PyData} (h : Shp k x) (hk : k ≤ 64) : fEq x x = some (.bool true) := by
  unfold fEq
  rw [shp_shaped h hk, SeqAt.eqv_refl x h.1]
  rfl
theorem ne_self {k : Nat} {x : PyData} (h : Shp k x) (hk : k ≤ 64) : fNe x x = some (.bool false) := by
  unfold fNe
  rw [shp_shaped h hk, SeqAt.eqv_refl x h.1]
  rfl
end My

set_option Elab.async false
set_option linter.all false
set_option maxRecDepth 100000
set_option maxHeartbeats 4000000
namespace My
open PySem PySem.Spec PyProof.Rows L2 Cm
def trues (k : Nat) : List PyData := List.replicate k (.bool true)
theorem trues_snoc (k : Nat) : trues k ++ [.bool true] = trues (k + 1) := by simp [trues, List.replicate_succ']
theorem trues_all (k : Nat) : fAll [.list (trues k)] = some (.bool true) := by
  have : trues k = (List.replicate k true).map .bool := by simp [trues]
  rw [this, fAll_l, asBools_map]
  simp
theorem box_form (Z : Sto) (v : Option (List PyData)) : ex Z [v] = ex ((Z ++ [none]).set Z.length v) [] := by
  simp [ex, List.set_append]
end My

set_option Elab.async false
set_option linter.all false
set_option maxRecDepth 100000
set_option maxHeartbeats 4000000
namespace My
open PySem PySem.Spec PyProof.Rows L2 Cm
/-- the first cuts of a stretch -/
def hopGo (l : Int) : Int → Nat → List Int → List Nat
  | _, _, [] => []
  | t, p, x :: xs => if t + x > l then p :: hopGo l x (p + 1) xs else hopGo l (t + x) (p + 1) xs
def seg (b : List Int) (s e : Nat) : List Int := (b.drop s).take (e - s)
def hop (b : List Int) (l : Int) (s e : Nat) : List Nat := match seg b s e with
  | [] => []
  | x :: xs => hopGo l x (s + 1) xs
def okGo (l : Int) : Int → List Int → Prop
  | _, [] => True
  | t, x :: xs => t + x ≤ l ∧ okGo l (t + x) xs
def okS (l : Int) : List Int → Prop
  | [] => True
  | x :: xs => okGo l x xs
theorem okGo_hop {l : Int} : ∀ {xs : List Int} {t : Int} {p : Nat}, okGo l t xs → hopGo l t p xs = []
  | [], _, _, _ => rfl
  | x :: xs, t, p, h => by
    have := h.1
    rw [hopGo, if_neg (by omega)]
    exact okGo_hop h.2
theorem ok_hop {b : List Int} {l : Int} {s e : Nat} (h : okS l (seg b s e)) : hop b l s e = [] := by
  unfold hop
  cases hs : seg b s e with
  | nil => rfl
  | cons x xs => rw [hs] at h; exact okGo_hop h
theorem okGo_up {l l' : Int} (hl : l ≤ l') : ∀ {xs : List Int} {t : Int}, okGo l t xs → okGo l' t xs
  | [], _, _ => trivial
  | x :: xs, t, h => ⟨Int.le_trans h.1 hl, okGo_up hl h.2⟩
theorem okS_up {l l' : Int} (hl : l ≤ l') : ∀ {xs : List Int}, okS l xs → okS l' xs
  | [], _ => trivial
  | x :: xs, h => okGo_up hl h
theorem okGo_down {l : Int} : ∀ {xs : List Int} {t t' : Int}, t' ≤ t → okGo l t xs → okGo l t' xs
  | [], _, _, _, _ => trivial
  | x :: xs, t, t', ht, h => ⟨by have := h.1; omega, okGo_down (by omega) h.2⟩
theorem okGo_take {l : Int} : ∀ {xs : List Int} {t : Int} (k : Nat), okGo l t xs → okGo l t (xs.take k)
  | [], _, k, _ => by simp [okGo]
  | x :: xs, t, 0, _ => trivial
  | x :: xs, t, k + 1, h => ⟨h.1, okGo_take k h.2⟩
theorem okS_take {l : Int} : ∀ {xs : List Int} (k : Nat), okS l xs → okS l (xs.take k)
  | [], k, _ => by simp [okS]
  | x :: xs, 0, _ => trivial
  | x :: xs, k + 1, h => okGo_take k h
theorem okS_tail {l : Int} {x : Int} {xs : List Int} (hx : 0 ≤ x) (h : okS l (x :: xs)) : okS l xs := by
  cases xs with
  | nil => trivial
  | cons y ys => exact okGo_down (by omega) h.2
theorem okS_drop {l : Int} : ∀ {xs : List Int} (k : Nat), (∀ x ∈ xs, 0 ≤ x) → okS l xs → okS l (xs.drop k)
  | [], k, _, _ => by simp [okS]
  | x :: xs, 0, _, h => h
  | x :: xs, k + 1, hp, h => okS_drop k (fun y hy => hp y (List.mem_cons_of_mem _ hy)) (okS_tail (hp x List.mem_cons_self) h)
theorem seg_nonneg {b : List Int} (hb : ∀ x ∈ b, 0 ≤ x) (s e : Nat) : ∀ x ∈ seg b s e, 0 ≤ x := fun x hx => hb x (List.mem_of_mem_drop (List.mem_of_mem_take hx))
theorem seg_sub (b : List Int) {s e a c : Nat} (h1 : s ≤ a) (h2 : c ≤ e) : seg b a c = ((seg b s e).drop (a - s)).take (c - a) := by
  unfold seg
  rw [List.drop_take, List.drop_drop, List.take_take]
  have : s + (a - s) = a := by omega
  rw [this]
  congr 1
  omega
theorem ok_sub {b : List Int} (hb : ∀ x ∈ b, 0 ≤ x) {l : Int} {s e a c : Nat} (h : okS l (seg b s e)) (h1 : s ≤ a) (h2 : c ≤ e) : okS l (seg b a c) := by
  rw [seg_sub b h1 h2]
  exact okS_take _ (okS_drop _ (seg_nonneg hb s e) h)
/-- the stretches between places all fit a limit -/
def FitE (b : List Int) (l : Int) : Nat → List Nat → Nat → Prop
  | s, [], e => okS l (seg b s e)
  | s, q :: Q, e => okS l (seg b s q) ∧ FitE b l q Q e
theorem fit_app {b : List Int} {l : Int} : ∀ {Q : List Nat} {s p : Nat} {R : List Nat} {e : Nat}, FitE b l s (Q ++ p :: R) e ↔ FitE b l s Q p ∧ FitE b l p R e
  | [], s, p, R, e => Iff.rfl
  | q :: Q, s, p, R, e => by
    show okS l (seg b s q) ∧ FitE b l q (Q ++ p :: R) e ↔ (okS l (seg b s q) ∧ FitE b l q Q p) ∧ FitE b l p R e
    rw [fit_app, and_assoc]
theorem fit_sub {b : List Int} (hb : ∀ x ∈ b, 0 ≤ x) {l : Int} {s e : Nat} (h : okS l (seg b s e)) : ∀ {Q : List Nat} {a : Nat}, s ≤ a → (∀ q ∈ Q, s ≤ q ∧ q ≤ e) → FitE b l a Q e
  | [], a, ha, _ => ok_sub hb h ha (Nat.le_refl _)
  | q :: Q, a, ha, hq => ⟨ok_sub hb h ha (hq q List.mem_cons_self).2, fit_sub hb h (hq q List.mem_cons_self).1 (fun r hr => hq r (List.mem_cons_of_mem _ hr))⟩
theorem fit_up {b : List Int} {l l' : Int} (hl : l ≤ l') : ∀ {Q : List Nat} {s e : Nat}, FitE b l s Q e → FitE b l' s Q e
  | [], _, _, h => okS_up hl h
  | _ :: _, _, _, h => ⟨okS_up hl h.1, fit_up hl h.2⟩
def ref (b : List Int) (l : Int) (n : Nat) : Nat → List Nat → List Nat
  | s, [] => hop b l s n
  | s, p :: P => hop b l s p ++ p :: ref b l n p P
theorem ref_fit {b : List Int} {l : Int} {n : Nat} : ∀ {P : List Nat} {s : Nat}, FitE b l s P n → ref b l n s P = P
  | [], s, h => ok_hop h
  | p :: P, s, h => by
    rw [ref, ok_hop h.1, ref_fit h.2]
    rfl
theorem hopGo_mem {l : Int} : ∀ {xs : List Int} {t : Int} {p q : Nat}, q ∈ hopGo l t p xs → p ≤ q ∧ q < p + xs.length
  | [], _, _, _, h => by cases h
  | x :: xs, t, p, q, h => by
    rw [hopGo] at h
    split at h
    · rcases List.mem_cons.mp h with rfl | h
      · simp
      · have := hopGo_mem h
        simp; omega
    · have := hopGo_mem h
      simp; omega
theorem seg_len (b : List Int) (s e : Nat) : (seg b s e).length = min (e - s) (b.length - s) := by simp [seg]
theorem hop_mem {b : List Int} {l : Int} {s e q : Nat} (h : q ∈ hop b l s e) : s < q ∧ q < e := by
  unfold hop at h
  have hl := seg_len b s e
  cases hs : seg b s e with
  | nil => rw [hs] at h; cases h
  | cons x xs =>
    rw [hs] at h hl
    have := hopGo_mem h
    simp at hl
    omega
theorem hopGo_sorted {l : Int} : ∀ {xs : List Int} {t : Int} {p : Nat}, (hopGo l t p xs).Pairwise (· < ·)
  | [], _, _ => List.Pairwise.nil
  | x :: xs, t, p => by
    rw [hopGo]
    split
    · refine List.Pairwise.cons ?_ hopGo_sorted
      intro q hq
      have := hopGo_mem hq
      omega
    · exact hopGo_sorted
theorem hop_sorted {b : List Int} {l : Int} {s e : Nat} : (hop b l s e).Pairwise (· < ·) := by
  unfold hop
  split
  · exact List.Pairwise.nil
  · exact hopGo_sorted
/-- what a place list must be: rising, and inside -/
def Pl (n s : Nat) (P : List Nat) : Prop := P.Pairwise (· < ·) ∧ ∀ p ∈ P, s < p ∧ p < n
theorem ref_pl {b : List Int} {l : Int} {n : Nat} : ∀ {P : List Nat} {s : Nat}, Pl n s P → Pl n s (ref b l n s P)
  | [], s, h => ⟨hop_sorted, fun p hp => hop_mem hp⟩
  | p :: P, s, ⟨h1, h2⟩ => by
    have hp := h2 p List.mem_cons_self
    have h1' := List.pairwise_cons.mp h1
    have ih := ref_pl (b := b) (l := l) (n := n) (P := P) (s := p) ⟨h1'.2, fun q hq => ⟨h1'.1 q hq, (h2 q (List.mem_cons_of_mem _ hq)).2⟩⟩
    refine ⟨?_, ?_⟩
    · rw [ref, List.pairwise_append]
      refine ⟨hop_sorted, List.Pairwise.cons (fun q hq => (ih.2 q hq).1) ih.1, ?_⟩
      intro x hx y hy
      have hx' := hop_mem hx
      rcases List.mem_cons.mp hy with rfl | hy
      · exact hx'.2
      · have := ih.2 y hy; omega
    · intro q hq
      rw [ref] at hq
      rcases List.mem_append.mp hq with hq | hq
      · have := hop_mem hq; omega
      · rcases List.mem_cons.mp hq with rfl | hq
        · exact hp
        · have := ih.2 q hq; omega
theorem ref_keep {b : List Int} (hb : ∀ x ∈ b, 0 ≤ x) {l l' : Int} {n : Nat} : ∀ {P : List Nat} {s : Nat}, FitE b l s P n → FitE b l s (ref b l' n s P) n
  | [], s, h => fit_sub hb h (Nat.le_refl _) (fun q hq => by have := hop_mem hq; omega)
  | p :: P, s, h => by
    rw [ref, fit_app]
    exact ⟨fit_sub hb h.1 (Nat.le_refl _) (fun q hq => by have := hop_mem hq; omega), ref_keep hb h.2⟩
theorem okGo_snoc {l : Int} : ∀ {xs : List Int} {t x : Int}, okGo l t xs → t + xs.sum + x ≤ l → okGo l t (xs ++ [x])
  | [], t, x, _, h => ⟨by simpa using h, trivial⟩
  | y :: ys, t, x, h, h2 => ⟨h.1, okGo_snoc h.2 (by simp at h2; omega)⟩
theorem seg_snoc {b : List Int} {a p : Nat} (h1 : a ≤ p) (h2 : p < b.length) : seg b a (p + 1) = seg b a p ++ [b[p]] := by
  unfold seg
  have e : p + 1 - a = (p - a) + 1 := by omega
  rw [e, List.take_succ]
  congr 1
  rw [List.getElem?_drop]
  have : a + (p - a) = p := by omega
  rw [this, List.getElem?_eq_getElem h2]
  rfl
theorem seg_cons {b : List Int} {p e : Nat} (h1 : p < e) (h2 : p < b.length) : seg b p e = b[p] :: seg b (p + 1) e := by
  unfold seg
  rw [List.drop_eq_getElem_cons h2]
  have : e - p = (e - (p + 1)) + 1 := by omega
  rw [this, List.take_succ_cons]
theorem hopGo_fit {b : List Int} {l : Int} {e : Nat} (he : e ≤ b.length) : ∀ (k : Nat) {a p : Nat} {y : Int} {ys : List Int}, e - p = k → a < p → p ≤ e → seg b a p = y :: ys → okGo l y ys →
    FitE b l a (hopGo l (y + ys.sum) p (seg b p e)) e
  | 0, a, p, y, ys, hk, ha, hp, hs, ho => by
    have : p = e := by omega
    subst this
    have e0 : seg b p p = [] := by simp [seg]
    rw [e0, hopGo]
    show okS l (seg b a p)
    rw [hs]
    exact ho
  | k + 1, a, p, y, ys, hk, ha, hp, hs, ho => by
    have hpe : p < e := by omega
    have hpb : p < b.length := by omega
    rw [seg_cons hpe hpb, hopGo]
    split
    · refine ⟨by rw [hs]; exact ho, ?_⟩
      have h1 : seg b p (p + 1) = b[p] :: [] := by
        rw [seg_snoc (Nat.le_refl _) hpb]
        simp [seg]
      have := hopGo_fit (l := l) he k (a := p) (p := p + 1) (y := b[p]) (ys := []) (by omega) (by omega) (by omega) h1 trivial
      simpa using this
    · have h1 : seg b a (p + 1) = y :: (ys ++ [b[p]]) := by
        rw [seg_snoc (by omega) hpb, hs]
        rfl
      have := hopGo_fit he k (a := a) (p := p + 1) (by omega) (by omega) (by omega) h1 (okGo_snoc ho (by omega))
      have e2 : y + (ys ++ [b[p]]).sum = y + ys.sum + b[p] := by simp; omega
      rw [e2] at this
      exact this
theorem hop_fit {b : List Int} {l : Int} {s e : Nat} (he : e ≤ b.length) (h : s < e) : FitE b l s (hop b l s e) e := by
  have hs : s < b.length := by omega
  unfold hop
  rw [seg_cons h hs]
  have h1 : seg b s (s + 1) = b[s] :: [] := by
    rw [seg_snoc (Nat.le_refl _) hs]
    simp [seg]
  have := hopGo_fit (l := l) he _ rfl (Nat.lt_succ_self s) h h1 trivial
  simpa using this
theorem ref_new {b : List Int} {l : Int} {n : Nat} (hn : n ≤ b.length) : ∀ {P : List Nat} {s : Nat}, s < n → Pl n s P → FitE b l s (ref b l n s P) n
  | [], s, h, _ => hop_fit hn h
  | p :: P, s, h, ⟨h1, h2⟩ => by
    have hp := h2 p List.mem_cons_self
    have h1' := List.pairwise_cons.mp h1
    rw [ref, fit_app]
    exact ⟨hop_fit (by omega) hp.1, ref_new hn hp.2 ⟨h1'.2, fun q hq => ⟨h1'.1 q hq, (h2 q (List.mem_cons_of_mem _ hq)).2⟩⟩⟩
def places (b : List Int) (row : List Int) : List Nat := row.foldl (fun P l => ref b l b.length 0 P) []
theorem places_pl (b : List Int) : ∀ row : List Int, Pl b.length 0 (places b row) := by
  refine snoc_ind ⟨List.Pairwise.nil, by intro p h; cases h⟩ ?_
  intro xs x ih
  simp only [places, List.foldl_append, List.foldl_cons, List.foldl_nil]
  exact ref_pl ih
theorem places_recs {b : List Int} (hb : ∀ x ∈ b, 0 ≤ x) (hn : 0 < b.length) (row : List Int) : places b (recs row) = places b row := by
  have key : ∀ row : List Int, places b (recs row) = places b row ∧ ∀ m, minI row = some m → FitE b m 0 (places b row) b.length := by
    refine snoc_ind ⟨rfl, by intro m h; cases h⟩ ?_
    intro xs x ⟨ih1, ih2⟩
    have hl := recs_last xs
    have step : ∀ (r : List Int) (l : Int), places b (r ++ [l]) = ref b l b.length 0 (places b r) := by intro r l; simp [places]
    rw [recs_snoc, recStep, minI_snoc, step]
    cases h : minI xs with
    | none =>
      rw [h] at hl
      simp only [hl, step, ih1]
      exact ⟨trivial, by intro m e; cases e; exact ref_new (Nat.le_refl _) hn (places_pl b xs)⟩
    | some m =>
      rw [h] at hl
      simp only [hl]
      by_cases c : x < m
      · simp only [c, if_true, step, ih1]
        exact ⟨trivial, by intro m e; cases e; exact ref_new (Nat.le_refl _) hn (places_pl b xs)⟩
      · simp only [c, if_false, ih1]
        have := ref_fit (n := b.length) (fit_up (by omega : m ≤ x) (ih2 m h))
        rw [this]
        exact ⟨rfl, by intro k e; cases e; exact ih2 _ h⟩
  exact (key row).1
end My

set_option Elab.async false
set_option linter.all false
set_option maxRecDepth 100000
set_option maxHeartbeats 4000000
namespace My
open PySem PySem.Spec PyProof.Rows L2 Cm
theorem seg_zero {b : List Int} {s e : Nat} (h : e ≤ s) : seg b s e = [] := by
  unfold seg
  rw [Nat.sub_eq_zero_of_le h, List.take_zero]
theorem range_cons {p e : Nat} (h : p < e) : rangeD (p : Nat) (e - p) = .int (p : Nat) :: rangeD ((p + 1 : Nat) : Int) (e - (p + 1)) := by
  unfold rangeD
  have : e - p = (e - (p + 1)) + 1 := by omega
  rw [this, List.range_succ_eq_map]
  simp [Function.comp_def]
  intro a _
  omega
theorem hop_spec {b : List Int} {l : Int} {s e : Nat} (hs : s < b.length) (he : e ≤ b.length) (hb : b.length ≤ 1000) (st : Sto) :
    f_hop_places [.d (.int l), .d (.tuple (iL b)), .d (.int (s : Nat)), .d (.int (e : Nat))] st = some (.d (.list (nL (hop b l s e))), st) := by
  revert st
  apply pure_lift
  intro st
  obtain ⟨s', ⟨p, p1, p2, p3, p4⟩, q⟩ := forL_abs (T := Unit) (S := List Nat × Int × Option U)
    (g := (gN 4)) (b := (cSeq (cIfS (cB (cD2 fGt (cD2s fAdd (cVar 6) (cD2 fIx (cVar 1) (cVar 4))) (cVar 0))) (cSeq (cExpr (cM mAppend (cVar 5) (cCons (cVar 4) cNil))) (cSet 6 (cD (.int 0)))) cSkip) (cAug 6 fAddI (cD2 fIx (cVar 1) (cVar 4)))))
    (fun _ => True) (fun _ z => [some (.d (.int l)), some (.d (.tuple (iL b))), some (.d (.int (s : Nat))), some (.d (.int (e : Nat))), z.2.2, some (.l st.length), some (.d (.int z.2.1))])
    (fun _ z => ex st [some (nL z.1)])
    (fun rest z => ∃ p : Nat, s < p ∧ rest = rangeD (p : Nat) (e - p) ∧ z.1.length < p ∧ z.1 ++ hopGo l z.2.1 p (seg b p e) = (if s < e then hop b l s e else [])) (by
      rintro y ys ⟨acc, t, o⟩ ⟨p, h1, h2, h4, h3⟩
      simp only [] at h3 h4
      have hpe : p < e := by
        rcases Nat.lt_or_ge p e with h | h
        · exact h
        · rw [Nat.sub_eq_zero_of_le h] at h2; cases h2
      rw [range_cons hpe] at h2
      obtain ⟨rfl, rfl⟩ := List.cons.inj h2
      have hpb : p < b.length := by omega
      rw [seg_cons hpe hpb, hopGo] at h3
      have hlen1 : acc.length < 1000000 := by omega
      have hlen2 : acc.length + 1 ≤ 1000000 := by omega
      by_cases c : t + b[p] > l
      · rw [if_pos c] at h3
        refine ⟨(acc ++ [p], b[p], some (.d (.int (p : Nat)))), ⟨p + 1, by omega, rfl, by simp; omega, by simpa using h3⟩, ?_⟩
        intro _ _
        refine ⟨_, rfl, ?_⟩
        have c' : l < t + b[p] := c
        simp [hpb, c', hlen1, hlen2]
      · rw [if_neg c] at h3
        refine ⟨(acc, t + b[p], some (.d (.int (p : Nat)))), ⟨p + 1, by omega, rfl, by show acc.length < p + 1; omega, by simpa using h3⟩, ?_⟩
        intro _ _
        refine ⟨_, rfl, ?_⟩
        have c' : ¬ l < t + b[p] := c
        simp [hpb, c'])
    (rangeD ((s + 1 : Nat) : Int) (e - (s + 1))) ([], b[s], none) ⟨s + 1, by omega, rfl, by simp, by
      by_cases c : s < e
      · simp [c, hop, seg_cons c hs]
      · simp [c, seg_zero (b := b) (show e ≤ s + 1 by omega), hopGo]⟩
  obtain ⟨acc, t, o⟩ := s'
  have hz : e - p = 0 := by
    have := congrArg List.length p2
    simp at this
    omega
  simp only [seg_zero (b := b) (show e ≤ p by omega), hopGo, List.append_nil] at p4
  have hh : acc = hop b l s e := by
    rw [p4]
    by_cases c : s < e
    · rw [if_pos c]
    · rw [if_neg c]
      simp [hop, seg_zero (b := b) (show e ≤ s by omega)]
  subst hh
  have e' := q () trivial
  have g1 : big ((s : Int) + 1) = true := big_of (by omega) (by omega)
  have g2 : big (e : Int) = true := big_of (by omega) (by omega)
  have g3 : ((e : Int) - ((s : Int) + 1)).toNat = e - (s + 1) := by omega
  simp at e'
  simp -implicitDefEqProofs [f_hop_places, defS_ap, b_hop_places, hs, g1, g2, g3, e']
end My

set_option Elab.async false
set_option linter.all false
set_option maxRecDepth 100000
set_option maxHeartbeats 4000000
namespace My
open PySem PySem.Spec PyProof.Rows L2 Cm
def toP (p : Nat × Nat) : Int × Int := ((p.1 : Int), (p.2 : Int))
def pD (p : Nat × Nat) : PyData := .tuple [.int (p.1 : Int), .int (p.2 : Int)]
theorem pD_eq (ps : List (Nat × Nat)) : ps.map pD = (ps.map toP).map Cm.pairD := by simp [Function.comp_def, pD, Cm.pairD, toP]
theorem sorted_pairs (qs : List (Int × Int)) : fSorted [.list (qs.map Cm.pairD)] = some (.list ((sortP qs).map Cm.pairD)) := by
  cases qs with
  | nil => rfl
  | cons q qs =>
    have : asInts ((q :: qs).map Cm.pairD) = none := rfl
    simp only [fSorted, this, asPairs_map, Option.map_some]
theorem sorted_ints (ns : List Int) : fSorted [.list (ns.map .int)] = some (.list ((sortI ns).map .int)) := by
  simp only [fSorted, asInts_map]
def cst (P : List Nat) : List Int := P.map fun (p : Nat) => (p : Int)
theorem iL_cst (P : List Nat) : iL (cst P) = nL P := by simp [cst, Function.comp_def]
theorem sort_of {P Q : List Nat} (h : Q.Perm P) (hp : P.Pairwise (· < ·)) : sortI (cst Q) = cst P := by
  refine (sortI_uniq (h.symm.map _) ?_).symm
  rw [List.pairwise_map]
  exact hp.imp (fun h => by omega)
theorem sortP_fst {ps : List (Int × Int)} : (sortP ps).map Prod.fst = sortI (ps.map Prod.fst) := by
  refine sortI_uniq ((sortP_perm ps).map _) ?_
  rw [List.pairwise_map]
  exact (sortP_sorted ps).imp (fun h => by rw [leP_iff] at h; omega)
def segs (s : Nat) (P : List Nat) (n : Nat) : List (Nat × Nat) := (s :: P).zip (P ++ [n])
theorem ref_perm {b : List Int} {l : Int} {n : Nat} : ∀ (P : List Nat) (s : Nat), (P ++ (segs s P n).flatMap (fun q => hop b l q.1 q.2)).Perm (ref b l n s P)
  | [], s => by simp [segs, ref]
  | p :: P, s => by
    have ih := ref_perm (b := b) (l := l) (n := n) P p
    have e : segs s (p :: P) n = (s, p) :: segs p P n := by simp [segs]
    rw [e, List.flatMap_cons, ref]
    show (p :: P ++ (hop b l s p ++ _)).Perm _
    refine List.Perm.trans ?_ (List.Perm.append_left _ (List.Perm.cons p ih))
    rw [← List.cons_append, ← List.append_assoc, ← List.append_assoc]
    exact List.Perm.append_right _ List.perm_append_comm
theorem pl_len {n : Nat} : ∀ {P : List Nat} {s : Nat}, s ≤ n → Pl n s P → P.length ≤ n - s
  | [], _, _, _ => by simp
  | p :: P, s, hs, ⟨h1, h2⟩ => by
    have hp := h2 p List.mem_cons_self
    have h1' := List.pairwise_cons.mp h1
    have := pl_len (P := P) (s := p) (by omega) ⟨h1'.2, fun q hq => ⟨h1'.1 q hq, (h2 q (List.mem_cons_of_mem _ hq)).2⟩⟩
    simp; omega
theorem segs_mem {n : Nat} : ∀ {P : List Nat} {s : Nat}, s < n → Pl n s P → ∀ q ∈ segs s P n, q.1 < n ∧ q.2 ≤ n
  | [], s, hs, _, q, hq => by
    simp [segs] at hq
    subst hq
    exact ⟨hs, Nat.le_refl _⟩
  | p :: P, s, hs, ⟨h1, h2⟩, q, hq => by
    have hp := h2 p List.mem_cons_self
    have h1' := List.pairwise_cons.mp h1
    have e : segs s (p :: P) n = (s, p) :: segs p P n := by simp [segs]
    rw [e] at hq
    rcases List.mem_cons.mp hq with rfl | hq
    · exact ⟨hs, by have := hp.2; show p ≤ n; omega⟩
    · exact segs_mem hp.2 ⟨h1'.2, fun q hq => ⟨h1'.1 q hq, (h2 q (List.mem_cons_of_mem _ hq)).2⟩⟩ q hq
theorem zip_segs (P : List Nat) (n : Nat) : zipD (.int 0 :: nL P) (nL P ++ [.int (n : Nat)]) = (segs 0 P n).map pD := by
  have h1 : (PyData.int 0 :: nL P) = nL (0 :: P) := by simp
  have h2 : nL P ++ [.int (n : Nat)] = nL (P ++ [n]) := by simp
  rw [h1, h2]
  unfold zipD segs
  rw [List.zipWith_map, ← List.map_uncurry_zip_eq_zipWith]
  rfl
def addHop (b : List Int) (l : Int) (i : Nat) (qs : List (Nat × Nat)) : List (Nat × Nat) := qs.flatMap fun q => (hop b l q.1 q.2).map fun p => (p, i)
theorem addHop_fst (b : List Int) (l : Int) (i : Nat) (qs : List (Nat × Nat)) : (addHop b l i qs).map Prod.fst = qs.flatMap fun q => hop b l q.1 q.2 := by
  simp [addHop, List.map_flatMap, Function.comp_def]
theorem step_perm {b : List Int} {l : Int} {i : Nat} {ps : List (Nat × Nat)} {P : List Nat} (h : (ps.map Prod.fst).Perm P) :
    ((ps ++ addHop b l i (segs 0 P b.length)).map Prod.fst).Perm (ref b l b.length 0 P) := by
  rw [List.map_append, addHop_fst]
  exact (List.Perm.append_right _ h).trans (ref_perm P 0)
theorem places_snoc (b : List Int) (r : List Int) (l : Int) : places b (r ++ [l]) = ref b l b.length 0 (places b r) := by simp [places]
def partsD (b : List Int) (P : List Nat) : List PyData := (segs 0 P b.length).map fun q => .tuple (iL (seg b q.1 q.2))
def sndD : PyData → PyData
  | .tuple [x, _] => x
  | x => x
def cutQ (b : List Int) : PyData → PyData
  | .tuple [.int s, .int e] => .tuple (Cm.cutD (iL b) (some s) (some e))
  | x => x
end My

set_option Elab.async false
set_option linter.all false
set_option maxRecDepth 100000
set_option maxHeartbeats 4000000
namespace My
open PySem PySem.Spec PyProof.Rows L2 Cm
theorem inner_loop {b : List Int} (hb : b.length ≤ 1000) (x y : PyData) (l : Int) (i : Nat) (E : Option U) (ps : List (Nat × Nat)) (qs : List (Nat × Nat)) (hq : ∀ q ∈ qs, q.1 < b.length ∧ q.2 ≤ b.length) (hl : (ps ++ addHop b l i qs).length ≤ 1000) (t7 t8 : Option U) :
    ∃ s' : Option U × Option U, ∀ st : Sto, forL (gT (gsCons (gN 7) (gsCons (gN 8) gsNil))) (cExpr (cM mExtend (cVar 3) (cCons (cLc (iSeq (cDef 4 f_hop_places (cCons (cVar 5) (cCons (cVar 2) (cCons (cVar 7) (cCons (cVar 8) cNil)))))) (gN 9) bYes (cTup (cCons (cVar 9) (cCons (cVar 4) cNil))) [9]) cNil)))
      (qs.map pD) [some (.d x), some (.d y), some (.d (.tuple (iL b))), some (.l st.length), some (.d (.int (i : Nat))), some (.d (.int l)), E, t7, t8, none, none] (ex st [some (ps.map pD)]) =
      some (.nx [some (.d x), some (.d y), some (.d (.tuple (iL b))), some (.l st.length), some (.d (.int (i : Nat))), some (.d (.int l)), E, s'.1, s'.2, none, none] (ex st [some ((ps ++ addHop b l i qs).map pD)])) := by
  induction qs generalizing ps t7 t8 with
  | nil => exact ⟨(t7, t8), by intro st; simp [forL, addHop]⟩
  | cons q qs ih =>
    have e : ps ++ addHop b l i (q :: qs) = (ps ++ (hop b l q.1 q.2).map fun p => (p, i)) ++ addHop b l i qs := by simp [addHop]
    rw [e] at hl ⊢
    obtain ⟨s', e'⟩ := ih (ps ++ (hop b l q.1 q.2).map fun p => (p, i)) (fun q hq' => hq q (List.mem_cons_of_mem _ hq')) hl (some (.d (.int (q.1 : Nat)))) (some (.d (.int (q.2 : Nat))))
    refine ⟨s', fun st => ?_⟩
    replace e' := e' st
    obtain ⟨h1, h2⟩ := hq q List.mem_cons_self
    have hlen : ps.length + (hop b l q.1 q.2).length ≤ 1000 := by simp at hl; omega
    have hlen' : ps.length + (hop b l q.1 q.2).length ≤ 1000000 := by omega
    have hs := hop_spec (l := l) h1 h2 hb (ex st [some (ps.map pD)])
    have lc := lcL_pure (g := gN 9) (tt := bYes) (te := cTup (cCons (cVar 9) (cCons (cVar 4) cNil))) (ev := [some (.d x), some (.d y), some (.d (.tuple (iL b))), some (.l st.length), some (.d (.int (i : Nat))), some (.d (.int l)), E, some (.d (.int (q.1 : Nat))), some (.d (.int (q.2 : Nat))), none, none])
      (fun _ => true) (fun z => .tuple [z, .int (i : Nat)]) (ex st [some (ps.map pD)]) (nL (hop b l q.1 q.2)) [] (by
        intro z _ acc
        refine ⟨_, rfl, rfl, fun _ => ?_⟩
        simp) (by simp; omega)
    have lc' : ((nL (hop b l q.1 q.2)).filter fun _ => true).map (fun z => PyData.tuple [z, .int (i : Nat)]) = ((hop b l q.1 q.2).map fun p => (p, i)).map pD := by
      rw [List.filter_eq_self.mpr (by intros; rfl)]
      simp [pD, Function.comp_def]
    rw [List.nil_append, lc'] at lc
    rw [List.map_append] at e'
    simp -implicitDefEqProofs only [List.map_cons, forL, pD, gT_ap, gsCons_ap, gN_ap, gsNil_ap, Option.bind_some, List.set_cons_succ, List.set_cons_zero]
    simp -implicitDefEqProofs [hs, lc, hlen', -List.map_map]
    simpa using e'
def cutsR (b : List Int) : List Int → List (Nat × Nat)
  | [] => []
  | l :: r => cutsR b r ++ addHop b l r.length (segs 0 (places b r.reverse) b.length)
def cutsAcc (b row : List Int) : List (Nat × Nat) := cutsR b row.reverse
theorem cutsAcc_snoc (b d : List Int) (l : Int) : cutsAcc b (d ++ [l]) = cutsAcc b d ++ addHop b l d.length (segs 0 (places b d) b.length) := by
  unfold cutsAcc
  rw [List.reverse_append]
  show cutsR b (l :: d.reverse) = _
  rw [cutsR, List.reverse_reverse, List.length_reverse]
theorem cutsAcc_perm (b : List Int) : ∀ row : List Int, ((cutsAcc b row).map Prod.fst).Perm (places b row) := by
  refine snoc_ind List.Perm.nil ?_
  intro xs x ih
  rw [cutsAcc_snoc, places_snoc]
  exact step_perm ih
def cutsL (b row : List Int) : List (Int × Int) := sortP ((cutsAcc b row).map toP)
theorem cutsL_fst (b row : List Int) : (cutsL b row).map Prod.fst = cst (places b row) := by
  unfold cutsL
  rw [sortP_fst]
  have : ((cutsAcc b row).map toP).map Prod.fst = cst ((cutsAcc b row).map Prod.fst) := by simp [toP, cst, Function.comp_def]
  rw [this]
  exact sort_of (cutsAcc_perm b row) (places_pl b row).1
theorem cuts_full {x y : PyData} {row b : List Int} (hx : Sq x (iL row)) (hy : Sq y (iL b)) (hr : row.length ≤ 1000) (hb : b.length ≤ 1000) (hn : 0 < b.length) :
    ∀ st : Sto, f_cuts [.d x, .d y] st = some (.d (.list ((cutsL b row).map Cm.pairD)), st) := by
  obtain ⟨s', ⟨d, r2, p1, p2, p3⟩, e⟩ := forL_abs (T := Sto) (S := List (Nat × Nat) × Option U × Option U × Option U × Option U × Option U)
    (g := (gT (gsCons (gN 4) (gsCons (gN 5) gsNil)))) (b := (cSeq (cSet 6 (cCall fSorted (cCons (cLc (iSeq (cVar 3)) (gT (gsCons (gN 9) (gsCons (gN 10) gsNil))) bYes (cVar 9) [9, 10]) cNil))) (cFor (iZip2 (cCons (cLst (cCons (cD (.int 0)) (cStar (cVar 6) cNil))) (cCons (cLst (cStar (cVar 6) (cCons (cCall fLen (cCons (cVar 2) cNil)) cNil))) cNil))) (gT (gsCons (gN 7) (gsCons (gN 8) gsNil))) (cExpr (cM mExtend (cVar 3) (cCons (cLc (iSeq (cDef 4 f_hop_places (cCons (cVar 5) (cCons (cVar 2) (cCons (cVar 7) (cCons (cVar 8) cNil)))))) (gN 9) bYes (cTup (cCons (cVar 9) (cCons (cVar 4) cNil))) [9]) cNil))))))
    (fun _ => True) (fun st s => [some (.d x), some (.d y), some (.d (.tuple (iL b))), some (.l st.length), s.2.1, s.2.2.1, s.2.2.2.1, s.2.2.2.2.1, s.2.2.2.2.2, none, none])
    (fun st s => ex st [some (s.1.map pD)])
    (fun rest s => ∃ d r2, row = d ++ r2 ∧ rest = enumD d.length (iL r2) ∧ s.1 = cutsAcc b d) (by
      rintro z zs ⟨ps, t4, t5, t6, t7, t8⟩ ⟨d, r2, h1, h2, h3⟩
      simp only [] at h3
      subst h3
      have h3 := cutsAcc_perm b d
      generalize hps0 : cutsAcc b d = ps at h3 ⊢
      cases r2 with
      | nil => cases h2
      | cons l r2 =>
        obtain ⟨rfl, rfl⟩ : z = .tuple [.int (d.length : Nat), .int l] ∧ zs = enumD (d.length + 1) (iL r2) := by simpa [iL, enumD] using h2
        have pl := places_pl b d
        have hP : (places b d).length ≤ 1000 := by have := pl_len (Nat.zero_le _) pl; omega
        have hps : ps.length ≤ 1000 := by have := h3.length_eq; simp at this; omega
        have sp := step_perm (b := b) (l := l) (i := d.length) h3
        have hps2 : (ps ++ addHop b l d.length (segs 0 (places b d) b.length)).length ≤ 1000 := by
          have := sp.length_eq
          have := pl_len (Nat.zero_le _) (ref_pl (b := b) (l := l) pl)
          simp at *; omega
        obtain ⟨⟨u7, u8⟩, ei⟩ := inner_loop hb x y l d.length (some (.d (.list (nL (places b d))))) ps (segs 0 (places b d) b.length) (segs_mem hn pl) hps2 t7 t8
        refine ⟨(ps ++ addHop b l d.length (segs 0 (places b d) b.length), some (.d (.int (d.length : Nat))), some (.d (.int l)), some (.d (.list (nL (places b d)))), u7, u8), ⟨d ++ [l], r2, by simp [h1], by simp, by rw [cutsAcc_snoc, hps0]⟩, ?_⟩
        intro st _
        refine ⟨_, rfl, ?_⟩
        have lc := lcC_pure (g := gT (gsCons (gN 9) (gsCons (gN 10) gsNil))) (tt := bYes) (te := cVar 9) (ev := [some (.d x), some (.d y), some (.d (.tuple (iL b))), some (.l st.length), some (.d (.int (d.length : Nat))), some (.d (.int l)), t6, t7, t8, none, none])
          (fun _ => true) sndD (ex st [some (ps.map pD)]) st.length (ps.map pD) (by simp) (by
            intro z hz acc
            obtain ⟨q, _, rfl⟩ := List.mem_map.mp hz
            refine ⟨_, rfl, rfl, fun _ => ?_⟩
            simp [sndD, pD]) lim 0 [] (by simp; omega) (by simp; omega)
        have lc' : ((ps.map pD).filter fun _ => true).map sndD = iL (cst (ps.map Prod.fst)) := by
          rw [filter_yes]
          simp [sndD, pD, cst, Function.comp_def]
        rw [List.drop_zero, List.nil_append, lc'] at lc
        have so : fSorted [.list (iL (cst (ps.map Prod.fst)))] = some (.list (nL (places b d))) := by
          rw [sorted_ints, sort_of h3 pl.1, ← iL_cst]
        have l1 : (places b d).length + 1 ≤ 1000000 := by omega
        simp only [lim_eq] at lc
        replace ei := ei st
        rw [← zip_segs] at ei
        simp -implicitDefEqProofs [lc, so, l1, ei, -List.map_map])
    (enumD 0 (iL row)) ([], none, none, none, none, none) ⟨[], row, rfl, rfl, rfl⟩
  obtain ⟨ps, t4, t5, t6, t7, t8⟩ := s'
  have hr2 : r2 = [] := by
    cases r2 with
    | nil => rfl
    | cons => cases p2
  subst hr2
  simp only [List.append_nil] at p1 p3
  subst p1
  subst p3
  apply pure_lift
  intro st
  have e' := e st trivial
  have so := sorted_pairs ((cutsAcc b row).map toP)
  rw [← pD_eq] at so
  simp at e'
  unfold cutsL
  rcases hx with rfl | rfl <;> rcases hy with rfl | rfl <;> simp -implicitDefEqProofs [f_cuts, defS_ap, b_cuts, e', so, -List.map_map]
theorem cuts_spec {x y : PyData} {row b : List Int} (hx : Sq x (iL row)) (hy : Sq y (iL b)) (hr : row.length ≤ 1000) (hb : b.length ≤ 1000) (hn : 0 < b.length) :
    ∃ cs : List (Int × Int), cs.map Prod.fst = cst (places b row) ∧ ∀ st : Sto, f_cuts [.d x, .d y] st = some (.d (.list (cs.map Cm.pairD)), st) :=
  ⟨_, cutsL_fst b row, cuts_full hx hy hr hb hn⟩
end My

set_option Elab.async false
set_option linter.all false
set_option maxRecDepth 100000
set_option maxHeartbeats 4000000
namespace My
open PySem PySem.Spec PyProof.Rows L2 Cm
theorem parts_spec {x y : PyData} {row b : List Int} (hx : Sq x (iL row)) (hy : Sq y (iL b)) (hr : row.length ≤ 1000) (hb : b.length ≤ 1000) (hn : 0 < b.length) (st : Sto) :
    f_parts [.d x, .d y] st = some (.d (.list (partsD b (places b row))), st) := by
  obtain ⟨cs, hc, ec⟩ := cuts_spec hx hy hr hb hn
  have hP : (places b row).length ≤ 1000 := by have := pl_len (Nat.zero_le _) (places_pl b row); omega
  have hcl : cs.length = (places b row).length := by have := congrArg List.length hc; simpa [cst] using this
  revert st
  apply pure_lift
  intro st
  have lc := lcL_pure (g := gT (gsCons (gN 6) (gsCons (gN 7) gsNil))) (tt := bYes) (te := cVar 6) (ev := [some (.d x), some (.d y), none, none, none, none, none, none])
    (fun _ => true) sndD (ex st []) (cs.map Cm.pairD) [] (by
      intro z hz acc
      obtain ⟨q, _, rfl⟩ := List.mem_map.mp hz
      refine ⟨_, rfl, rfl, fun _ => ?_⟩
      simp [sndD, Cm.pairD]) (by simp; omega)
  have lc' : ((cs.map Cm.pairD).filter fun _ => true).map sndD = nL (places b row) := by
    rw [filter_yes, ← iL_cst, ← hc]
    simp [sndD, Cm.pairD, Function.comp_def]
  rw [List.nil_append, lc'] at lc
  have ld := lcL_pure (g := gT (gsCons (gN 4) (gsCons (gN 5) gsNil))) (tt := bYes) (te := cSl (cVar 2) (oSome (cVar 4)) (oSome (cVar 5))) (ev := [some (.d x), some (.d y), some (.d (.tuple (iL b))), some (.d (.list (nL (places b row)))), none, none, none, none])
    (fun _ => true) (cutQ b) (ex st []) ((segs 0 (places b row) b.length).map pD) [] (by
      intro z hz acc
      obtain ⟨q, _, rfl⟩ := List.mem_map.mp hz
      refine ⟨_, rfl, rfl, fun _ => ?_⟩
      simp [cutQ, pD]) (by simp [segs]; omega)
  have ld' : (((segs 0 (places b row) b.length).map pD).filter fun _ => true).map (cutQ b) = partsD b (places b row) := by
    rw [filter_yes, List.map_map]
    unfold partsD
    apply List.map_congr_left
    intro q _
    show PyData.tuple (Cm.cutD (iL b) (some (q.1 : Int)) (some (q.2 : Int))) = _
    rw [cut_both _ (by omega) (by omega)]
    simp [seg]
  rw [List.nil_append, ld'] at ld
  have l1 : (places b row).length + 1 ≤ 1000000 := by omega
  rw [← zip_segs] at ld
  rcases hy with rfl | rfl <;> simp -implicitDefEqProofs [f_parts, defS_ap, b_parts, ec, lc, l1, ld, -List.map_map]
end My

set_option Elab.async false
set_option linter.all false
set_option maxRecDepth 100000
set_option maxHeartbeats 4000000
namespace My
open PySem PySem.Spec PyProof.Rows L2 Cm
theorem shp_parts (b : List Int) (P : List Nat) : Shp 2 (.list (partsD b P)) := shp_seq (.inr rfl) (fun y hy => by
  unfold partsD at hy
  obtain ⟨q, _, rfl⟩ := List.mem_map.mp hy
  exact shp_ints (.inl rfl))
end My

set_option Elab.async false
set_option linter.all false
set_option maxRecDepth 100000
set_option maxHeartbeats 4000000
namespace My
open PySem PySem.Spec PyProof.Rows L2 Cm
/-- blocks joined -/
def jstep (l : Int) (acc : List (Int × Int)) (p : Int × Int) : List (Int × Int) := match acc.getLast? with
  | none => acc ++ [p]
  | some q => if p.1 - q.2 ≤ l then acc.dropLast ++ [(q.1, p.2)] else acc ++ [p]
def joinB (l : Int) (ps : List (Int × Int)) : List (Int × Int) := ps.foldl (jstep l) []
def lone (row : List Int) (l : Int) : Bool := row.any fun x => decide (x < 2 * l)
def dbl (ns : List Int) : List (Int × Int) := ns.map fun x => (x, x)
def fil (row : List Int) (l : Int) : Option (List (Int × Int)) := if lone row l then none else some (joinB l (dbl (sortI (recs row))))
def bD : Option (List (Int × Int)) → PyData
  | none => .none
  | some ps => .tuple (ps.map Cm.pairD)
theorem jstep_len (l : Int) (acc : List (Int × Int)) (p : Int × Int) : (jstep l acc p).length ≤ acc.length + 1 := by
  unfold jstep
  split
  · simp
  · split
    · simp
    · simp
theorem joinB_len (l : Int) (ps : List (Int × Int)) : (joinB l ps).length ≤ ps.length := by
  have key : ∀ (ps acc : List (Int × Int)), (ps.foldl (jstep l) acc).length ≤ acc.length + ps.length := by
    intro ps
    induction ps with
    | nil => intro acc; simp
    | cons p ps ih =>
      intro acc
      have := ih (jstep l acc p)
      have := jstep_len l acc p
      simp only [List.foldl_cons, List.length_cons]
      omega
  have := key ps []
  simpa [joinB] using this
theorem sortI_len (ns : List Int) : (sortI ns).length = ns.length := (sortI_perm ns).length_eq
theorem fIx_lastD (ys : List PyData) (z : PyData) : fIx (.list (ys ++ [z])) (.int (-1)) = some z := by
  have : (-((((ys ++ [z]).length : Nat)) : Int) ≤ -1) := by simp; omega
  have e : ((-1 : Int) + ((((ys ++ [z]).length : Nat)) : Int)).toNat = ys.length := by simp; omega
  simp only [fIx, atI, ixN, if_neg (by decide : ¬ (0 : Int) ≤ -1), if_pos this, e, Option.bind_some]
  simp
theorem ixN_last (n : Nat) : ixN (n + 1) (-1) = some n := by
  have : (-(((n + 1 : Nat)) : Int) ≤ -1) := by omega
  have e : ((-1 : Int) + (((n + 1 : Nat)) : Int)).toNat = n := by omega
  simp only [ixN, if_neg (by decide : ¬ (0 : Int) ≤ -1), if_pos this, e]
theorem set_last {α : Type} (ys : List α) (z w : α) : (ys ++ [z]).set ys.length w = ys ++ [w] := by simp
theorem lone_rec (row : List Int) (l : Int) : lone (recs row) l = lone row l := by
  have h : ∀ row : List Int, lone row l = match minI row with
    | none => false
    | some m => decide (m < 2 * l) := by
    refine snoc_ind rfl ?_
    intro xs x ih
    have e : lone (xs ++ [x]) l = (lone xs l || decide (x < 2 * l)) := by simp [lone]
    rw [e, ih, minI_snoc]
    cases minI xs with
    | none => simp
    | some m =>
      by_cases c : x < m
      · by_cases d : m < 2 * l
        · have : x < 2 * l := by omega
          simp [c, d, this]
        · simp [c, d]
      · by_cases d : x < 2 * l
        · have : m < 2 * l := by omega
          simp [c, d, this]
        · simp [c, d]
  rw [h, h]
  have : minI (recs row) = minI row := by rw [← recs_last (recs row), recs_idem, recs_last]
  rw [this]
theorem fil_recs (row : List Int) (l : Int) : fil (recs row) l = fil row l := by
  unfold fil
  rw [lone_rec, recs_idem]
theorem dbl_len (ns : List Int) : (dbl ns).length = ns.length := by simp [dbl]
theorem fil_len {row : List Int} {l : Int} {ps : List (Int × Int)} (h : fil row l = some ps) : ps.length ≤ row.length := by
  unfold fil at h
  split at h
  · cases h
  · cases h
    have := joinB_len l (dbl (sortI (recs row)))
    rw [dbl_len, sortI_len] at this
    have := recs_len row
    omega
theorem dbl_D (ns : List Int) : (dbl ns).map Cm.pairD = ns.map fun x => PyData.tuple [.int x, .int x] := by simp [dbl, Cm.pairD, Function.comp_def]
theorem sorted_intsL (ns : List Int) : fSorted [.list (ns.map .int)] = some (.list ((sortI ns).map .int)) := by
  simp only [fSorted, asInts_map]
theorem sorted_intsT (ns : List Int) : fSorted [.tuple (ns.map .int)] = some (.list ((sortI ns).map .int)) := by
  simp only [fSorted, asInts_map, Option.map_some]
end My

set_option Elab.async false
set_option linter.all false
set_option maxRecDepth 100000
set_option maxHeartbeats 4000000
namespace My
open PySem PySem.Spec PyProof.Rows L2 Cm
theorem lone_spec {x : PyData} {row : List Int} {l : Int} (hx : Sq x (iL row)) (hl : row.length ≤ 1000) (st : Sto) : f_is_lone [.d x, .d (.int l)] st = some (.d (.bool (lone row l)), st) := by
  revert st
  apply pure_lift
  intro st
  have o1 : ∀ z, mulOk 2 z = true := fun z => mul_smallL (by omega) (by omega)
  have lc := lcL_pure (g := (gN 2)) (te := (cD2 fLt (cVar 2) (cD2s fMul (cD (.int 2)) (cVar 1)))) (tt := bYes) (ev := [some (.d x), some (.d (.int l)), none]) (fun _ => true) (fun z => match z with
      | .int i => .bool (decide (i < 2 * l))
      | z => z) (ex st []) (iL row) [] (by
    intro z hz acc
    obtain ⟨i, _, rfl⟩ := List.mem_map.mp hz
    refine ⟨_, rfl, rfl, fun _ => ?_⟩
    simp [o1]) (by simp; omega)
  rw [List.nil_append, filter_yes, List.map_map] at lc
  have ha : asBools ((iL row).map (fun z => match z with
      | .int i => PyData.bool (decide (i < 2 * l))
      | z => z)) = some (row.map fun i => decide (i < 2 * l)) := by
    have := asBools_map (row.map fun i => decide (i < 2 * l))
    simpa [Function.comp_def] using this
  rw [← List.map_map] at lc
  rcases hx with rfl | rfl <;> simp -implicitDefEqProofs [f_is_lone, defS_ap, b_is_lone, lc, ha, lone, List.any_map, Function.comp_def, -List.map_map]
theorem joined_spec {x : PyData} {ps : List (Int × Int)} {l : Int} (hx : Sq x (ps.map Cm.pairD)) (hl : ps.length ≤ 1000) (st : Sto) : f_joined_blocks [.d x, .d (.int l)] st = some (.d (.tuple ((joinB l ps).map Cm.pairD)), st) := by
  revert st
  apply pure_lift
  intro st
  obtain ⟨s', ⟨d, r2, p1, p2, p3⟩, e⟩ := forL_abs (T := Unit) (S := List (Int × Int) × Option U × Option U)
    (g := (gT (gsCons (gN 3) (gsCons (gN 4) gsNil)))) (b := (cIfS (bAnd (cB (cD2 fGt (cCall fLen (cCons (cVar 2) cNil)) (cD (.int 0)))) (cB (cD2 fLe (cD2 fSub (cVar 3) (cD2 fIx (cD2 fIx (cVar 2) (cD1 fNeg (cD (.int 1)))) (cD (.int 1)))) (cVar 1)))) (cSetIx (cVar 2) (cD1 fNeg (cD (.int 1))) (cTup (cCons (cD2 fIx (cD2 fIx (cVar 2) (cD1 fNeg (cD (.int 1)))) (cD (.int 0))) (cCons (cVar 4) cNil)))) (cExpr (cM mAppend (cVar 2) (cCons (cTup (cCons (cVar 3) (cCons (cVar 4) cNil))) cNil)))))
    (fun _ => True) (fun _ s => [some (.d x), some (.d (.int l)), some (.l st.length), s.2.1, s.2.2]) (fun _ s => ex st [some (s.1.map Cm.pairD)])
    (fun rest s => ∃ d r2, ps = d ++ r2 ∧ rest = r2.map Cm.pairD ∧ s.1 = joinB l d) (by
      rintro y ys ⟨acc, t, t'⟩ ⟨d, r2, h1, h2, h3⟩
      cases r2 with
      | nil => cases h2
      | cons p r2 =>
        obtain ⟨rfl, rfl⟩ : y = Cm.pairD p ∧ ys = r2.map Cm.pairD := by simpa using h2
        simp only [] at h3
        subst h3
        refine ⟨(joinB l (d ++ [p]), some (.d (.int p.1)), some (.d (.int p.2))), ⟨d ++ [p], r2, by simp [h1], rfl, rfl⟩, ?_⟩
        intro _ _
        refine ⟨_, rfl, ?_⟩
        have hlen : (joinB l d).length ≤ 1000 := by
          have := joinB_len l d
          have : d.length ≤ ps.length := by rw [h1]; simp
          omega
        have hlen1 : (joinB l d).length < 1000000 := by omega
        have hlen2 : (joinB l d).length + 1 ≤ 1000000 := by omega
        have e0 : joinB l (d ++ [p]) = jstep l (joinB l d) p := by simp [joinB]
        rw [e0, jstep]
        rcases List.eq_nil_or_concat (joinB l d) with h0 | ⟨zs, z, h0⟩
        · simp [h0, Cm.pairD]
        · rw [List.concat_eq_append] at h0
          have hz : (joinB l d).getLast? = some z := by rw [h0]; simp
          have hd : (joinB l d).dropLast = zs := by rw [h0]; simp
          have hi : fIx (.list ((joinB l d).map Cm.pairD)) (.int (-1)) = some (Cm.pairD z) := by rw [h0, List.map_append]; exact fIx_lastD _ _
          have hl2 : (joinB l d).length = zs.length + 1 := by rw [h0]; simp
          have hn : ixN ((joinB l d).length) (-1) = some zs.length := by rw [hl2]; exact ixN_last _
          have hs : ((joinB l d).map Cm.pairD).set zs.length (.tuple [.int z.1, .int p.2]) = (zs ++ [(z.1, p.2)]).map Cm.pairD := by
            rw [h0, List.map_append, List.map_append]
            have := set_last (zs.map Cm.pairD) (Cm.pairD z) (.tuple [.int z.1, .int p.2])
            rw [List.length_map] at this
            exact this
          have f0 : fIx (Cm.pairD z) (.int 0) = some (.int z.1) := rfl
          have f1 : fIx (Cm.pairD z) (.int 1) = some (.int z.2) := rfl
          have hpos : 0 < (joinB l d).length := by omega
          have hne : joinB l d ≠ [] := by intro h; rw [h] at hpos; simp at hpos
          simp only [hz, hd]
          have hR : (joinB l d ++ [p]).map Cm.pairD = (joinB l d).map Cm.pairD ++ [.tuple [.int p.1, .int p.2]] := by rw [List.map_append]; rfl
          generalize hA : (joinB l d).map Cm.pairD = A at hi hs hR ⊢
          have hAl : A.length = (joinB l d).length := by rw [← hA, List.length_map]
          have hAn : ¬ A = [] := by intro h; rw [h] at hAl; simp at hAl; omega
          rw [← hAl] at hn hlen1 hlen2 hpos
          by_cases c : p.1 - z.2 ≤ l
          · simp only [if_pos c, ← hs]
            simp [hpos, hAn, hi, f0, f1, c, hn]
          · simp only [if_neg c, hR]
            simp [hpos, hAn, hi, f0, f1, c, hlen1, hlen2])
    (ps.map Cm.pairD) ([], none, none) ⟨[], ps, rfl, rfl, rfl⟩
  have hr : r2 = [] := by cases r2 with
    | nil => rfl
    | cons => cases p2
  subst hr
  simp only [List.append_nil] at p1
  obtain ⟨acc, t, t'⟩ := s'
  simp only [] at p3
  subst p1 p3
  have e' := e () trivial
  simp at e'
  rcases hx with rfl | rfl
  · simp [f_joined_blocks, defS_ap, b_joined_blocks, e']
  · simp [f_joined_blocks, defS_ap, b_joined_blocks, e']
theorem filling_spec {x : PyData} {row : List Int} {l : Int} (hx : Sq x (iL row)) (hl : row.length ≤ 1000) (st : Sto) : f_filling [.d x, .d (.int l)] st = some (.d (bD (fil row l)), st) := by
  have h1 := lone_spec (l := l) hx hl
  have h2 := records_spec hx hl
  have hrl : (recs row).length ≤ 1000 := by have := recs_len row; omega
  have h3 := joined_spec (x := .list ((dbl (sortI (recs row))).map Cm.pairD)) (l := l) (.inr rfl) (by rw [dbl_len, sortI_len]; exact hrl)
  revert st
  apply pure_lift
  intro st
  have so := sorted_intsT (recs row)
  have lc := lcL_pure (g := (gN 2)) (te := (cTup (cCons (cVar 2) (cCons (cVar 2) cNil)))) (tt := bYes) (ev := [some (.d x), some (.d (.int l)), none]) (fun _ => true) (fun z => .tuple [z, z]) (ex st []) (iL (sortI (recs row))) [] (by
    intro z hz acc
    refine ⟨_, rfl, rfl, fun _ => ?_⟩
    simp) (by simp [sortI_len]; omega)
  have lc' : ((iL (sortI (recs row))).filter fun _ => true).map (fun z => PyData.tuple [z, z]) = (dbl (sortI (recs row))).map Cm.pairD := by
    rw [filter_yes, dbl_D]
    simp [Function.comp_def]
  rw [List.nil_append, lc'] at lc
  by_cases c : lone row l = true
  · simp -implicitDefEqProofs [f_filling, defS_ap, b_filling, h1, c, fil, bD]
  · have c' : lone row l = false := by simpa using c
    simp -implicitDefEqProofs [f_filling, defS_ap, b_filling, h1, c', h2, so, lc, h3, fil, bD, -List.map_map]
end My

set_option Elab.async false
set_option linter.all false
set_option maxRecDepth 100000
set_option maxHeartbeats 4000000
namespace My
open PySem PySem.Spec PyProof.Rows L2 Cm
theorem lone_min (l : Int) : ∀ row : List Int, lone row l = match minI row with
    | none => false
    | some m => decide (m < 2 * l) := by
  refine snoc_ind rfl ?_
  intro xs x ih
  have e : lone (xs ++ [x]) l = (lone xs l || decide (x < 2 * l)) := by simp [lone]
  rw [e, ih, minI_snoc]
  cases minI xs with
  | none => simp
  | some m =>
    by_cases c : x < m
    · by_cases d : m < 2 * l
      · have : x < 2 * l := by omega
        simp [c, d, this]
      · simp [c, d]
    · by_cases d : x < 2 * l
      · have : m < 2 * l := by omega
        simp [c, d, this]
      · simp [c, d]
theorem shp_pair (p : Int × Int) : Shp 1 (Cm.pairD p) := shp_seq (.inl rfl) (fun y hy => by
  simp at hy
  rcases hy with rfl | rfl <;> exact shp_int _)
theorem shp_pairs {x : PyData} {ps : List (Int × Int)} (hx : Sq x (ps.map Cm.pairD)) : Shp 2 x := shp_seq hx (fun y hy => by
  obtain ⟨p, _, rfl⟩ := List.mem_map.mp hy
  exact shp_pair p)
theorem shp_up {k k' : Nat} {x : PyData} (h : Shp k x) (hk : k ≤ k') : Shp k' x := ⟨h.1, Nat.le_trans h.2 hk⟩
theorem shp_none : Shp 0 .none := ⟨rfl, Nat.le_refl _⟩
theorem shp_bool (b : Bool) : Shp 0 (.bool b) := ⟨rfl, Nat.le_refl _⟩
theorem shp_bD (o : Option (List (Int × Int))) : Shp 2 (bD o) := by
  cases o with
  | none => exact shp_up shp_none (by omega)
  | some ps => exact shp_pairs (.inl rfl)
theorem shp_nilL : Shp 1 (.list []) := shp_seq (.inr rfl) (fun y hy => by cases hy)
theorem shp_nilT : Shp 1 (.tuple []) := shp_seq (.inl rfl) (fun y hy => by cases hy)
theorem fNe_nilL {k : Nat} {A : List PyData} (h : Shp k (.list A)) (hk : k ≤ 64) : fNe (.list A) (.list []) = some (.bool !A.isEmpty) := by
  unfold fNe
  rw [shp_shaped h hk, shp_shaped shp_nilL (by omega)]
  cases A <;> rfl
theorem fNe_nilT {k : Nat} {A : List PyData} (h : Shp k (.tuple A)) (hk : k ≤ 64) : fNe (.tuple A) (.tuple []) = some (.bool !A.isEmpty) := by
  unfold fNe
  rw [shp_shaped h hk, shp_shaped shp_nilT (by omega)]
  cases A <;> rfl
theorem fEq_nilT {k : Nat} {A : List PyData} (h : Shp k (.tuple A)) (hk : k ≤ 64) : fEq (.tuple A) (.tuple []) = some (.bool A.isEmpty) := by
  unfold fEq
  rw [shp_shaped h hk, shp_shaped shp_nilT (by omega)]
  cases A <;> rfl
end My

set_option Elab.async false
set_option linter.all false
set_option maxRecDepth 100000
set_option maxHeartbeats 4000000
namespace My
open PySem PySem.Spec PyProof.Rows L2 Cm
theorem recs_desc : ∀ row : List Int, (recs row).Pairwise (· > ·) := by
  refine snoc_ind List.Pairwise.nil ?_
  intro xs x ih
  rw [recs_snoc, recStep]
  cases h : (recs xs).getLast? with
  | none =>
    have h0 : recs xs = [] := List.getLast?_eq_none_iff.mp h
    simp [h0]
  | some m =>
    by_cases c : x < m
    · simp only [c, if_true]
      rw [List.pairwise_append]
      refine ⟨ih, by simp, ?_⟩
      intro a ha b hb
      have hb' : b = x := by simpa using hb
      subst hb'
      have hm : ∀ a ∈ recs xs, m ≤ a := by
        intro a ha
        obtain ⟨ys, hy⟩ : ∃ ys, recs xs = ys ++ [m] := by
          rw [List.getLast?_eq_some_iff] at h
          exact h
        rw [hy] at ih ha
        rcases List.mem_append.mp ha with ha | ha
        · have := (List.pairwise_append.mp ih).2.2 a ha m (by simp)
          omega
        · have : a = m := by simpa using ha
          omega
      have := hm a ha
      omega
    · simp only [c, if_false]
      exact ih
theorem sort_recs (row : List Int) : sortI (recs row) = (recs row).reverse := by
  refine (sortI_uniq (List.reverse_perm _) ?_).symm
  rw [List.pairwise_reverse]
  exact (recs_desc row).imp (fun h => by omega)
theorem recs_sub {row : List Int} : ∀ x ∈ recs row, x ∈ row := by
  have : ∀ row : List Int, ∀ x ∈ recs row, x ∈ row := by
    refine snoc_ind (by intro x h; cases h) ?_
    intro xs y ih x hx
    rw [recs_snoc, recStep] at hx
    split at hx
    · rcases List.mem_append.mp hx with hx | hx
      · exact List.mem_append_left _ (ih x hx)
      · exact List.mem_append_right _ hx
    · split at hx
      · rcases List.mem_append.mp hx with hx | hx
        · exact List.mem_append_left _ (ih x hx)
        · exact List.mem_append_right _ hx
      · exact List.mem_append_left _ (ih x hx)
  exact this row
/-- numbers one by one -/
def rstep (acc : List (Int × Int)) (n : Int) : List (Int × Int) := match acc.getLast? with
  | none => acc ++ [(n, n)]
  | some q => if q.2 = n - 1 then acc.dropLast ++ [(q.1, n)] else acc ++ [(n, n)]
def runsL (ns : List Int) : List (Int × Int) := ns.foldl rstep []
def rangeI (a : Int) (k : Nat) : List Int := (List.range k).map fun (j : Nat) => a + (j : Int)
theorem rangeI_succ (a : Int) (k : Nat) : rangeI a (k + 1) = rangeI a k ++ [a + (k : Int)] := by simp [rangeI, List.range_succ]
theorem rangeI_mem {a : Int} {k : Nat} {n : Int} : n ∈ rangeI a k ↔ a ≤ n ∧ n < a + k := by
  unfold rangeI
  rw [List.mem_map]
  constructor
  · rintro ⟨j, hj, rfl⟩
    have := List.mem_range.mp hj
    omega
  · rintro ⟨h1, h2⟩
    exact ⟨(n - a).toNat, List.mem_range.mpr (by omega), by omega⟩
theorem rangeI_asc (a : Int) (k : Nat) : (rangeI a k).Pairwise (· < ·) := by
  unfold rangeI
  rw [List.pairwise_map]
  exact (List.pairwise_lt_range (n := k)).imp (fun h => by omega)
def numsD (l : Int) : List Int → List Int
  | [] => []
  | [a] => [a]
  | b :: a :: rest => numsD l (a :: rest) ++ (if b - a ≤ l then rangeI (a + 1) (b - a).toNat else [b])
def hasGo (l n : Int) : List Int → Option Bool
  | b :: a :: rest => if a < n ∧ n < b then some (decide (b - a ≤ l)) else hasGo l n (a :: rest)
  | _ => none
def hasB (fs : List Int) (l n : Int) : Bool := fs.contains n || (hasGo l n fs).getD false
theorem runs_run (q a : Int) (acc : List (Int × Int)) : ∀ k : Nat, 0 < k → (rangeI (a + 1) k).foldl rstep (acc ++ [(q, a)]) = acc ++ [(q, a + k)]
  | 0, h => by omega
  | 1, _ => by simp [rangeI, rstep]
  | k + 2, _ => by
    rw [rangeI_succ, List.foldl_append, runs_run q a acc (k + 1) (by omega)]
    have : a + ((k + 1 : Nat) : Int) = a + 1 + ((k + 1 : Nat) : Int) - 1 := by omega
    simp only [List.foldl_cons, List.foldl_nil, rstep, List.getLast?_concat, List.dropLast_concat, if_pos this]
    congr 2
    congr 1
    omega
theorem runs_nums {l : Int} (hl : 1 ≤ l) : ∀ fs : List Int, fs.Pairwise (· > ·) → runsL (numsD l fs) = joinB l (dbl fs.reverse) ∧ ∀ b rest, fs = b :: rest → ∃ acc q, joinB l (dbl fs.reverse) = acc ++ [(q, b)]
  | [], _ => ⟨rfl, by intro b rest h; cases h⟩
  | [a], _ => ⟨by simp [runsL, numsD, rstep, joinB, dbl, jstep], by intro b rest h; cases h; exact ⟨[], a, by simp [joinB, dbl, jstep]⟩⟩
  | b :: a :: rest, h => by
    have h' := List.pairwise_cons.mp h
    have hab : a < b := h'.1 a (by simp)
    obtain ⟨ih1, ih2⟩ := runs_nums hl (a :: rest) h'.2
    obtain ⟨acc, q, e⟩ := ih2 a rest rfl
    have ej : joinB l (dbl (b :: a :: rest).reverse) = jstep l (joinB l (dbl (a :: rest).reverse)) (b, b) := by simp [joinB, dbl]
    have er : runsL (numsD l (b :: a :: rest)) = (if b - a ≤ l then rangeI (a + 1) (b - a).toNat else [b]).foldl rstep (runsL (numsD l (a :: rest))) := by simp [runsL, numsD]
    rw [er, ej, ih1, e]
    by_cases c : b - a ≤ l
    · have := runs_run q a acc (b - a).toNat (by omega)
      have e2 : a + ((b - a).toNat : Int) = b := by omega
      rw [if_pos c, this, e2]
      have ej2 : jstep l (acc ++ [(q, a)]) (b, b) = acc ++ [(q, b)] := by simp [jstep, c]
      rw [ej2]
      exact ⟨rfl, by intro b' r' h; cases h; exact ⟨acc, q, rfl⟩⟩
    · rw [if_neg c]
      have ej2 : jstep l (acc ++ [(q, a)]) (b, b) = acc ++ [(q, a)] ++ [(b, b)] := by simp [jstep, c]
      rw [ej2]
      refine ⟨?_, by intro b' r' h; cases h; exact ⟨acc ++ [(q, a)], b, rfl⟩⟩
      have : ¬ a = b - 1 := by omega
      simp [rstep, this]
theorem nums_le {l : Int} : ∀ {fs : List Int}, fs.Pairwise (· > ·) → ∀ b rest, fs = b :: rest → ∀ n ∈ numsD l fs, n ≤ b
  | [], _, b, rest, e, _, _ => by cases e
  | [a], _, b, rest, e, n, hn => by
    cases e
    have : n = a := by simpa [numsD] using hn
    omega
  | c :: a :: r, h, b, rest, e, n, hn => by
    cases e
    have h' := List.pairwise_cons.mp h
    have hab : a < c := h'.1 a (by simp)
    rw [numsD] at hn
    rcases List.mem_append.mp hn with hn | hn
    · have := nums_le h'.2 a r rfl n hn
      omega
    · split at hn
      · have := rangeI_mem.mp hn
        omega
      · have : n = c := by simpa using hn
        omega
theorem nums_asc {l : Int} : ∀ {fs : List Int}, fs.Pairwise (· > ·) → (numsD l fs).Pairwise (· < ·)
  | [], _ => List.Pairwise.nil
  | [a], _ => by simp [numsD]
  | b :: a :: r, h => by
    have h' := List.pairwise_cons.mp h
    have hab : a < b := h'.1 a (by simp)
    rw [numsD, List.pairwise_append]
    refine ⟨nums_asc h'.2, ?_, ?_⟩
    · split
      · exact rangeI_asc _ _
      · simp
    · intro x hx y hy
      have := nums_le h'.2 a r rfl x hx
      split at hy
      · have := rangeI_mem.mp hy
        omega
      · have : y = b := by simpa using hy
        omega
theorem nums_ge {l : Int} : ∀ {fs : List Int}, fs.Pairwise (· > ·) → (∀ x ∈ fs, 1 ≤ x) → ∀ n ∈ numsD l fs, 1 ≤ n
  | [], _, _, n, hn => by cases hn
  | [a], _, hp, n, hn => by
    have : n = a := by simpa [numsD] using hn
    have := hp a (by simp)
    omega
  | b :: a :: r, h, hp, n, hn => by
    have h' := List.pairwise_cons.mp h
    rw [numsD] at hn
    rcases List.mem_append.mp hn with hn | hn
    · exact nums_ge h'.2 (fun x hx => hp x (List.mem_cons_of_mem _ hx)) n hn
    · have h1 := hp a (by simp)
      have h2 := hp b (by simp)
      split at hn
      · have := rangeI_mem.mp hn
        omega
      · have : n = b := by simpa using hn
        omega
theorem hasGo_below {l n : Int} : ∀ {fs : List Int}, fs.Pairwise (· > ·) → ∀ b rest, fs = b :: rest → b ≤ n → hasGo l n fs = none
  | [], _, b, rest, e, _ => by cases e
  | [a], _, b, rest, e, _ => rfl
  | c :: a :: r, h, b, rest, e, hb => by
    cases e
    have h' := List.pairwise_cons.mp h
    have hab : a < c := h'.1 a (by simp)
    rw [hasGo, if_neg (by omega)]
    exact hasGo_below h'.2 a r rfl (by omega)
theorem nums_has {l n : Int} (hl : 1 ≤ l) : ∀ {fs : List Int}, fs.Pairwise (· > ·) → (n ∈ numsD l fs ↔ hasB fs l n = true)
  | [], _ => by simp [numsD, hasB, hasGo]
  | [a], _ => by simp [numsD, hasB, hasGo]
  | b :: a :: r, h => by
    have h' := List.pairwise_cons.mp h
    have hab : a < b := h'.1 a (by simp)
    have ih := nums_has (n := n) hl h'.2
    have hle := nums_le (l := l) h'.2 a r rfl
    have hmem : n ∈ (a :: r) → n ≤ a := by
      intro hn
      rcases List.mem_cons.mp hn with rfl | hn
      · omega
      · have := (List.pairwise_cons.mp h'.2).1 n hn
        omega
    rw [numsD, List.mem_append, ih]
    have e1 : hasB (b :: a :: r) l n = (decide (n = b) || (a :: r).contains n || (hasGo l n (b :: a :: r)).getD false) := by
      simp [hasB, List.contains_cons, Bool.or_assoc, BEq.comm]
    have e2 : hasB (a :: r) l n = ((a :: r).contains n || (hasGo l n (a :: r)).getD false) := rfl
    by_cases c1 : n ≤ a
    · have g : hasGo l n (b :: a :: r) = hasGo l n (a :: r) := by rw [hasGo, if_neg (by omega)]
      have nb : ¬ n = b := by omega
      rw [e1, e2, g]
      constructor
      · rintro (h1 | h1)
        · simp only [nb, decide_false, Bool.false_or]; exact h1
        · exfalso
          split at h1
          · have := rangeI_mem.mp h1
            omega
          · have : n = b := by simpa using h1
            omega
      · intro h1
        left
        simpa only [nb, decide_false, Bool.false_or] using h1
    · have g0 : hasGo l n (a :: r) = none := hasGo_below h'.2 a r rfl (by omega)
      have c0 : (a :: r).contains n = false := by
        rw [Bool.eq_false_iff]
        intro hc
        have := hmem (List.contains_iff_mem.mp hc)
        omega
      have e3 : hasB (a :: r) l n = false := by rw [e2, c0, g0]; rfl
      rw [e1, e3, c0]
      by_cases c2 : n = b
      · subst c2
        simp only [decide_true, Bool.true_or, iff_true]
        right
        split
        · exact rangeI_mem.mpr (by omega)
        · simp
      · by_cases c3 : n < b
        · have g : hasGo l n (b :: a :: r) = some (decide (b - a ≤ l)) := by rw [hasGo, if_pos (by omega)]
          rw [g]
          by_cases c4 : b - a ≤ l
          · simp only [c4, if_true, decide_true, Option.getD_some, Bool.or_true, iff_true]
            right
            exact rangeI_mem.mpr (by omega)
          · simp [c4, c2]
        · have g : hasGo l n (b :: a :: r) = none := hasGo_below h b (a :: r) rfl (by omega)
          rw [g]
          by_cases c4 : b - a ≤ l
          · have : ¬ n ∈ rangeI (a + 1) (b - a).toNat := by intro hh; have := rangeI_mem.mp hh; omega
            simp [c4, this, c2]
          · simp [c4, c2]
theorem asc_ext {xs ys : List Int} (hx : xs.Pairwise (· < ·)) (hy : ys.Pairwise (· < ·)) (h : ∀ n, n ∈ xs ↔ n ∈ ys) : xs = ys := by
  have nx : xs.Nodup := hx.imp (fun h => by omega)
  have ny : ys.Nodup := hy.imp (fun h => by omega)
  have p : xs.Perm ys := (List.perm_ext_iff_of_nodup nx ny).mpr h
  exact p.eq_of_pairwise (fun a b _ _ h1 h2 => by omega) hx hy
theorem filter_nums {l : Int} (hl : 1 ≤ l) {fs : List Int} (h : fs.Pairwise (· > ·)) (hp : ∀ x ∈ fs, 1 ≤ x) (M : Nat) (hM : ∀ x ∈ fs, x ≤ M) : (rangeI 1 M).filter (hasB fs l) = numsD l fs := by
  refine asc_ext ((rangeI_asc 1 M).filter _) (nums_asc h) ?_
  intro n
  rw [List.mem_filter, rangeI_mem, nums_has hl h]
  constructor
  · exact fun h => h.2
  · intro hn
    refine ⟨?_, hn⟩
    have hm := (nums_has hl h).mpr hn
    have h1 := nums_ge h hp n hm
    cases fs with
    | nil => cases hm
    | cons b rest =>
      have := nums_le h b rest rfl n hm
      have := hM b (by simp)
      omega
end My

set_option Elab.async false
set_option linter.all false
set_option maxRecDepth 100000
set_option maxHeartbeats 4000000
namespace My
open PySem PySem.Spec PyProof.Rows L2 Cm
theorem okGo_of_sum {m : Int} : ∀ {ys : List Int} {x : Int}, (∀ y ∈ ys, 0 ≤ y) → x + ys.sum ≤ m → okGo m x ys
  | [], _, _, _ => trivial
  | y :: ys, x, h, hs => by
    have hn : ∀ z ∈ ys, 0 ≤ z := fun z hz => h z (List.mem_cons_of_mem _ hz)
    have h0 : 0 ≤ ys.sum := by
      clear hs
      induction ys with
      | nil => simp
      | cons z zs ih =>
        have := hn z List.mem_cons_self
        have := ih (fun w hw => h w (by
          rcases List.mem_cons.mp hw with rfl | hw
          · exact List.mem_cons_self
          · exact List.mem_cons_of_mem _ (List.mem_cons_of_mem _ hw))) (fun w hw => hn w (List.mem_cons_of_mem _ hw))
        simp; omega
    simp only [List.sum_cons] at hs
    exact ⟨by omega, okGo_of_sum hn (by omega)⟩
theorem okGo_sum {a : Int} : ∀ {ys : List Int} {x : Int}, ys ≠ [] → okGo a x ys → x + ys.sum ≤ a
  | [], _, h, _ => absurd rfl h
  | [y], x, _, h => by have := h.1; simp; omega
  | y :: z :: ys, x, _, h => by
    have := okGo_sum (ys := z :: ys) (by simp) h.2
    simp only [List.sum_cons] at this ⊢
    omega
theorem hopGo_app {m : Int} : ∀ {ys zs : List Int} {x : Int} {p : Nat}, okGo m x ys → hopGo m x p (ys ++ zs) = hopGo m (x + ys.sum) (p + ys.length) zs
  | [], zs, x, p, _ => by simp
  | y :: ys, zs, x, p, h => by
    have h1 := h.1
    rw [List.cons_append, hopGo, if_neg (by omega), hopGo_app h.2]
    simp only [List.sum_cons, List.length_cons]
    congr 1
    · omega
    · omega
/-- a stretch that fits a is cut by a limit that is at most l below a ahead of its last item, or not at all -/
theorem hop_last {b : List Int} {l a m : Int} {s e : Nat} (hk : ∀ x ∈ b, l ≤ x) (hl : 0 ≤ l) (he : e ≤ b.length) (hs : s + 1 < e) (h : okS a (seg b s e)) (hm : a - m ≤ l) :
    okS m (seg b s (e - 1)) ∧ hop b m s e = if (seg b s e).sum > m then [e - 1] else [] := by
  obtain ⟨e, rfl⟩ : ∃ k, e = k + 1 := ⟨e - 1, by omega⟩
  have hsb : s < b.length := by omega
  have heb : e < b.length := by omega
  have e1 : seg b s (e + 1) = b[s] :: (seg b (s + 1) e ++ [b[e]]) := by
    rw [seg_cons (by omega) hsb, seg_snoc (by omega) heb]
  have e2 : seg b s e = b[s] :: seg b (s + 1) e := seg_cons (by omega) hsb
  have hz : l ≤ b[e] := hk _ (List.getElem_mem heb)
  rw [e1] at h
  have hsum := okGo_sum (by simp) h
  have hn : ∀ y ∈ seg b (s + 1) e, 0 ≤ y := seg_nonneg (fun x hx => by have := hk x hx; omega) _ _
  have hsum' : b[s] + ((seg b (s + 1) e).sum + b[e]) ≤ a := by simpa using hsum
  have ok1 : okGo m b[s] (seg b (s + 1) e) := okGo_of_sum hn (by omega)
  refine ⟨by rw [Nat.add_sub_cancel, e2]; exact ok1, ?_⟩
  unfold hop
  rw [e1]
  simp only []
  rw [hopGo_app ok1]
  have hlen : (seg b (s + 1) e).length = e - (s + 1) := by rw [seg_len]; omega
  have e3 : (b[s] :: (seg b (s + 1) e ++ [b[e]])).sum = b[s] + (seg b (s + 1) e).sum + b[e] := by simp; omega
  rw [e3, hopGo, hopGo, hlen]
  have e4 : s + 1 + (e - (s + 1)) = e := by omega
  rw [e4, Nat.add_sub_cancel]
  rfl
theorem hop_one (b : List Int) (m : Int) (s : Nat) : hop b m s (s + 1) = [] := by
  unfold hop
  have : (seg b s (s + 1)).length ≤ 1 := by rw [seg_len]; omega
  cases hs : seg b s (s + 1) with
  | nil => rfl
  | cons x xs =>
    rw [hs] at this
    cases xs with
    | nil => rfl
    | cons => simp at this
theorem insert_seg {b : List Int} {l a m lo : Int} {s e : Nat} (hk : ∀ x ∈ b, l ≤ x) (hl : 0 ≤ l) (he : e ≤ b.length) (hs : s < e) (h : okS a (seg b s e)) (hlo : a - lo ≤ l) (hm : lo ≤ m) :
    ref b lo e s (hop b m s e) = hop b lo s e := by
  by_cases h1 : s + 1 < e
  · obtain ⟨_, g1⟩ := hop_last (m := m) hk hl he h1 h (by omega)
    obtain ⟨k2, g2⟩ := hop_last (m := lo) hk hl he h1 h hlo
    rw [g1]
    by_cases c : (seg b s e).sum > m
    · rw [if_pos c, g2, if_pos (by omega)]
      show hop b lo s (e - 1) ++ (e - 1) :: hop b lo (e - 1) e = [e - 1]
      have g3 := hop_one b lo (e - 1)
      rw [Nat.sub_add_cancel (by omega)] at g3
      rw [ok_hop k2, g3]
      rfl
    · rw [if_neg c]
      rfl
  · have : e = s + 1 := by omega
    subst this
    rw [hop_one]
    rfl
theorem ref_app (b : List Int) (l : Int) (n : Nat) : ∀ (Q : List Nat) (s p : Nat) (R : List Nat), ref b l n s (Q ++ p :: R) = ref b l p s Q ++ p :: ref b l n p R
  | [], s, p, R => rfl
  | q :: Q, s, p, R => by
    rw [List.cons_append, ref, ref, ref_app b l n Q q p R]
    simp
theorem insert_ref {b : List Int} {l a m lo : Int} {n : Nat} (hk : ∀ x ∈ b, l ≤ x) (hl : 0 ≤ l) (hn : n ≤ b.length) (hlo : a - lo ≤ l) (hm : lo ≤ m) : ∀ {P : List Nat} {s : Nat}, s < n → Pl n s P → FitE b a s P n → ref b lo n s (ref b m n s P) = ref b lo n s P
  | [], s, hs, _, h => insert_seg hk hl hn hs h hlo hm
  | p :: P, s, hs, ⟨h1, h2⟩, h => by
    have hp := h2 p List.mem_cons_self
    have h1' := List.pairwise_cons.mp h1
    have ih := insert_ref hk hl hn hlo hm (P := P) (s := p) hp.2 ⟨h1'.2, fun q hq => ⟨h1'.1 q hq, (h2 q (List.mem_cons_of_mem _ hq)).2⟩⟩ h.2
    rw [ref, ref_app, ih, ref, insert_seg hk hl (by omega) hp.1 h.1 hlo hm]
theorem fit_all {b : List Int} (hb : ∀ x ∈ b, 0 ≤ x) (hn : 0 < b.length) : ∀ row : List Int, ∀ l ∈ row, FitE b l 0 (places b row) b.length := by
  refine snoc_ind (by intro l h; cases h) ?_
  intro xs x ih l hl
  have step : places b (xs ++ [x]) = ref b x b.length 0 (places b xs) := by simp [places]
  rw [step]
  rcases List.mem_append.mp hl with hl | hl
  · exact ref_keep hb (ih l hl)
  · have : l = x := by simpa using hl
    subst this
    exact ref_new (Nat.le_refl _) hn (places_pl b xs)
theorem places_snoc1 (b : List Int) (r : List Int) (l : Int) : places b (r ++ [l]) = ref b l b.length 0 (places b r) := by simp [places]
theorem insert_one {b : List Int} {l a m lo : Int} (hk : ∀ x ∈ b, l ≤ x) (hl : 0 ≤ l) (hn : 0 < b.length) {R : List Int} (ha : a ∈ R) (hlo : a - lo ≤ l) (hm : lo ≤ m) : places b (R ++ [m] ++ [lo]) = places b (R ++ [lo]) := by
  rw [places_snoc1, places_snoc1, places_snoc1]
  exact insert_ref hk hl (Nat.le_refl _) hlo hm hn (places_pl b R) (fit_all (fun x hx => by have := hk x hx; omega) hn R a ha)
theorem insert_many {b : List Int} {l a lo : Int} (hk : ∀ x ∈ b, l ≤ x) (hl : 0 ≤ l) (hn : 0 < b.length) {R : List Int} (ha : a ∈ R) (hlo : a - lo ≤ l) : ∀ ms : List Int, (∀ m ∈ ms, lo ≤ m) → places b (R ++ ms ++ [lo]) = places b (R ++ [lo]) := by
  refine snoc_ind (by intro _; simp) ?_
  intro xs x ih h
  have e : R ++ (xs ++ [x]) ++ [lo] = (R ++ xs) ++ [x] ++ [lo] := by simp
  rw [e, insert_one hk hl hn (List.mem_append_left _ ha) hlo (h x (by simp)), ih (fun m hm => h m (List.mem_append_left _ hm))]
theorem places_app {b X Y : List Int} (h : places b X = places b Y) (r : List Int) : places b (X ++ r) = places b (Y ++ r) := by
  unfold places at h ⊢
  rw [List.foldl_append, List.foldl_append, h]
theorem places_nums {b : List Int} {l : Int} (hk : ∀ x ∈ b, l ≤ x) (hl : 0 ≤ l) (hn : 0 < b.length) : ∀ (fs : List Int), fs.Pairwise (· > ·) → ∀ pre : List Int, places b (pre ++ (numsD l fs).reverse) = places b (pre ++ fs)
  | [], _, pre => rfl
  | [a], _, pre => rfl
  | c :: a :: r, h, pre => by
    have h' := List.pairwise_cons.mp h
    have hab : a < c := h'.1 a (by simp)
    rw [numsD, List.reverse_append, ← List.append_assoc, places_nums hk hl hn (a :: r) h'.2]
    by_cases d : c - a ≤ l
    · rw [if_pos d]
      obtain ⟨k, hkk⟩ : ∃ k : Nat, (c - a).toNat = k + 1 := ⟨(c - a).toNat - 1, by omega⟩
      have e1 : a + 1 + (k : Int) = c := by omega
      rw [hkk, rangeI_succ, List.reverse_append, e1]
      have e2 : pre ++ ([c].reverse ++ (rangeI (a + 1) k).reverse) ++ a :: r = ((pre ++ [c]) ++ (rangeI (a + 1) k).reverse ++ [a]) ++ r := by simp
      have e3 : pre ++ c :: a :: r = ((pre ++ [c]) ++ [a]) ++ r := by simp
      rw [e2, e3]
      refine places_app (insert_many hk hl hn (a := c) (by simp) d _ ?_) r
      intro m hm
      have := rangeI_mem.mp (List.mem_reverse.mp hm)
      omega
    · rw [if_neg d]
      simp
def expand (ps : List (Int × Int)) : List Int := ps.flatMap fun p => rangeI p.1 (p.2 - p.1 + 1).toNat
theorem expand_snoc (ps : List (Int × Int)) (p : Int × Int) : expand (ps ++ [p]) = expand ps ++ rangeI p.1 (p.2 - p.1 + 1).toNat := by simp [expand]
theorem rangeI_one (n : Int) : rangeI n 1 = [n] := by simp [rangeI]
theorem expand_runs : ∀ ns : List Int, expand (runsL ns) = ns ∧ ∀ p ∈ runsL ns, p.1 ≤ p.2 := by
  refine snoc_ind ⟨rfl, by intro p h; cases h⟩ ?_
  intro xs x ⟨ih1, ih2⟩
  have e : runsL (xs ++ [x]) = rstep (runsL xs) x := by simp [runsL]
  have hone : (x - x + 1).toNat = 1 := by omega
  rw [e, rstep]
  rcases List.eq_nil_or_concat (runsL xs) with h0 | ⟨zs, z, h0⟩
  · rw [h0] at ih1 ⊢
    simp only [List.getLast?_nil, List.nil_append]
    refine ⟨?_, ?_⟩
    · have : xs = [] := by simpa [expand] using ih1.symm
      have h2 := expand_snoc [] (x, x)
      rw [List.nil_append] at h2
      rw [h2, hone, rangeI_one, this]
      rfl
    · intro p hp
      have : p = (x, x) := by simpa using hp
      subst this
      exact Int.le_refl _
  · rw [List.concat_eq_append] at h0
    rw [h0] at ih1 ih2 ⊢
    simp only [List.getLast?_concat, List.dropLast_concat]
    have hz := ih2 z (by simp)
    rw [expand_snoc] at ih1
    by_cases c : z.2 = x - 1
    · rw [if_pos c, expand_snoc]
      have e1 : (x - z.1 + 1).toNat = (z.2 - z.1 + 1).toNat + 1 := by omega
      simp only []
      rw [e1, rangeI_succ, ← List.append_assoc, ih1]
      refine ⟨?_, ?_⟩
      · congr 2
        omega
      · intro p hp
        rcases List.mem_append.mp hp with hp | hp
        · exact ih2 p (List.mem_append_left _ hp)
        · have : p = (z.1, x) := by simpa using hp
          subst this
          show z.1 ≤ x
          omega
    · rw [if_neg c, expand_snoc]
      refine ⟨?_, ?_⟩
      · rw [expand_snoc, hone, rangeI_one, ih1]
      · intro p hp
        rcases List.mem_append.mp hp with hp | hp
        · exact ih2 p hp
        · have : p = (x, x) := by simpa using hp
          subst this
          exact Int.le_refl _
theorem fil_nums {row : List Int} {l : Int} {ps : List (Int × Int)} (hl : 1 ≤ l) (h : fil row l = some ps) : expand ps = numsD l (recs row) := by
  unfold fil at h
  split at h
  · cases h
  · cases h
    rw [sort_recs, ← (runs_nums hl _ (recs_desc row)).1]
    exact (expand_runs _).1
theorem places_expand {b row : List Int} {l : Int} {ps : List (Int × Int)} (hk : ∀ x ∈ b, l ≤ x) (hl : 1 ≤ l) (hn : 0 < b.length) (h : fil row l = some ps) : places b row = places b (expand ps).reverse := by
  have := places_nums hk (by omega) hn (recs row) (recs_desc row) []
  rw [List.nil_append, List.nil_append, ← fil_nums hl h, places_recs (fun x hx => by have := hk x hx; omega) hn] at this
  exact this.symm
/-- a lone row cuts everywhere -/
theorem fit_lone {b : List Int} {l m : Int} (hk : ∀ x ∈ b, l ≤ x) (hl : 0 ≤ l) (hm : m < 2 * l) : ∀ {P : List Nat} {s n : Nat}, s < n → n ≤ b.length → Pl n s P → FitE b m s P n → P = (List.range (n - s - 1)).map (fun i => s + 1 + i)
  | [], s, n, hs, hn, _, h => by
    by_cases c : n = s + 1
    · subst c
      have : s + 1 - s - 1 = 0 := by omega
      rw [this]
      rfl
    · exfalso
      have e : seg b s n = b[s]'(by omega) :: b[s + 1]'(by omega) :: seg b (s + 2) n := by rw [seg_cons (by omega) (by omega), seg_cons (by omega) (by omega)]
      have h' : okS m (seg b s n) := h
      rw [e] at h'
      have := h'.1
      have h1 := hk _ (List.getElem_mem (show s < b.length by omega))
      have h2 := hk _ (List.getElem_mem (show s + 1 < b.length by omega))
      omega
  | p :: P, s, n, hs, hn, ⟨h1, h2⟩, h => by
    have hp := h2 p List.mem_cons_self
    have h1' := List.pairwise_cons.mp h1
    have hps : p = s + 1 := by
      have hh : okS m (seg b s p) := h.1
      by_cases c : p = s + 1
      · exact c
      · exfalso
        have e : seg b s p = b[s]'(by omega) :: b[s + 1]'(by omega) :: seg b (s + 2) p := by rw [seg_cons (by omega) (by omega), seg_cons (by omega) (by omega)]
        rw [e] at hh
        have := hh.1
        have h1 := hk _ (List.getElem_mem (show s < b.length by omega))
        have h2 := hk _ (List.getElem_mem (show s + 1 < b.length by omega))
        omega
    have ih := fit_lone hk hl hm (P := P) (s := p) (n := n) hp.2 hn ⟨h1'.2, fun q hq => ⟨h1'.1 q hq, (h2 q (List.mem_cons_of_mem _ hq)).2⟩⟩ h.2
    subst hps
    obtain ⟨k, hkk⟩ : ∃ k, n - s - 1 = k + 1 := ⟨n - s - 2, by omega⟩
    have e2 : n - (s + 1) - 1 = k := by omega
    rw [e2] at ih
    rw [hkk, List.range_succ_eq_map, List.map_cons, List.map_map, ih]
    congr 1
    apply List.map_congr_left
    intro i _
    show s + 1 + 1 + i = s + 1 + (i + 1)
    omega
theorem places_lone {b row : List Int} {l : Int} (hk : ∀ x ∈ b, l ≤ x) (hl : 0 ≤ l) (hn : 0 < b.length) (h : fil row l = none) : places b row = (List.range (b.length - 0 - 1)).map (fun i => 0 + 1 + i) := by
  unfold fil at h
  split at h
  · rename_i c
    unfold lone at c
    obtain ⟨m, hm, hlt⟩ := List.any_eq_true.mp c
    exact fit_lone hk hl (of_decide_eq_true hlt) hn (Nat.le_refl _) (places_pl b row) (fit_all (fun x hx => by have := hk x hx; omega) hn row m hm)
  · cases h
/-- guarantee (a), first half: equal fillings, equal places -/
theorem alike_places {b row oth : List Int} {l : Int} (hk : ∀ x ∈ b, l ≤ x) (hl : 1 ≤ l) (hn : 0 < b.length) (h : fil row l = fil oth l) : places b row = places b oth := by
  cases hf : fil row l with
  | none => rw [places_lone hk (by omega) hn hf, places_lone hk (by omega) hn (by rw [← h, hf])]
  | some ps => exact (places_expand hk hl hn hf).trans (places_expand hk hl hn (h.symm.trans hf)).symm
end My

set_option Elab.async false
set_option linter.all false
set_option maxRecDepth 100000
set_option maxHeartbeats 4000000
namespace My
open PySem PySem.Spec PyProof.Rows L2 Cm
/-- what a limit does to the cuts of (x, l, l) -/
theorem hop3 {x l m : Int} (h : 2 * l ≤ m) : hop [x, l, l] m 0 3 = if x + l + l ≤ m ∧ x + l ≤ m then [] else if x + l ≤ m then [2] else [1] := by
  have e : hop [x, l, l] m 0 3 = hopGo m x 1 [l, l] := rfl
  rw [e]
  by_cases c1 : x + l ≤ m
  · have : ¬ x + l > m := by omega
    by_cases c2 : x + l + l ≤ m
    · have h2 : ¬ x + l + l > m := by omega
      simp [hopGo, c1, c2, this, h2]
    · have h2 : x + l + l > m := by omega
      simp [hopGo, c1, c2, this, h2]
  · have h1 : x + l > m := by omega
    have h3 : ¬ l + l > m := by omega
    simp [hopGo, c1, h1, h3]
theorem hop3b (x l m : Int) : hop [x, l, l] m 0 2 = if x + l ≤ m then [] else [1] := by
  have e : hop [x, l, l] m 0 2 = hopGo m x 1 [l] := rfl
  rw [e]
  by_cases c1 : x + l ≤ m
  · have : ¬ x + l > m := by omega
    simp [hopGo, c1, this]
  · have h1 : x + l > m := by omega
    simp [hopGo, c1, h1]
theorem hop3c {x l m : Int} (h : 2 * l ≤ m) : hop [x, l, l] m 1 3 = [] := by
  have e : hop [x, l, l] m 1 3 = hopGo m l 2 [l] := rfl
  rw [e]
  have h3 : ¬ l + l > m := by omega
  simp [hopGo, h3]
theorem hop3d (x l m : Int) : hop [x, l, l] m 0 1 = [] := hop_one _ _ _
theorem hop3e (x l m : Int) : hop [x, l, l] m 1 2 = [] := hop_one _ _ _
theorem hop3f (x l m : Int) : hop [x, l, l] m 2 3 = [] := hop_one _ _ _
theorem ref3_2 (x l m : Int) : ref [x, l, l] m 3 0 [2] = if x + l ≤ m then [2] else [1, 2] := by
  show hop [x, l, l] m 0 2 ++ 2 :: hop [x, l, l] m 2 3 = _
  rw [hop3b, hop3f]
  split <;> rfl
theorem ref3_1 {x l m : Int} (h : 2 * l ≤ m) : ref [x, l, l] m 3 0 [1] = [1] := by
  show hop [x, l, l] m 0 1 ++ 1 :: hop [x, l, l] m 1 3 = _
  rw [hop3d, hop3c h]
  rfl
theorem ref3_12 (x l m : Int) : ref [x, l, l] m 3 0 [1, 2] = [1, 2] := by
  show hop [x, l, l] m 0 1 ++ 1 :: (hop [x, l, l] m 1 2 ++ 2 :: hop [x, l, l] m 2 3) = _
  rw [hop3d, hop3e, hop3f]
  rfl
theorem places3_none {x l : Int} (hx : 0 ≤ l) : ∀ R : List Int, (∀ m ∈ R, x + l + l ≤ m ∧ 2 * l ≤ m) → places [x, l, l] R = [] := by
  refine snoc_ind (fun _ => rfl) ?_
  intro xs m ih h
  obtain ⟨h1, h2⟩ := h m (by simp)
  rw [places_snoc1, ih (fun k hk => h k (List.mem_append_left _ hk))]
  show hop [x, l, l] m 0 3 = []
  rw [hop3 h2, if_pos ⟨h1, by omega⟩]
theorem places3_one {x l : Int} {R : List Int} (h : places [x, l, l] R = [1]) : ∀ S : List Int, (∀ m ∈ S, 2 * l ≤ m) → places [x, l, l] (R ++ S) = [1] := by
  refine snoc_ind (fun _ => by simpa using h) ?_
  intro xs m ih hs
  rw [← List.append_assoc, places_snoc1, ih (fun k hk => hs k (List.mem_append_left _ hk))]
  exact ref3_1 (hs m (by simp))
theorem places3_two {x l : Int} {R : List Int} (h : places [x, l, l] R = [2] ∨ places [x, l, l] R = [1, 2]) : ∀ S : List Int, places [x, l, l] (R ++ S) = [2] ∨ places [x, l, l] (R ++ S) = [1, 2] := by
  refine snoc_ind (by simpa using h) ?_
  intro xs m ih
  rw [← List.append_assoc, places_snoc1]
  rcases ih with ih | ih
  · rw [ih]
    show ref [x, l, l] m 3 0 [2] = [2] ∨ ref [x, l, l] m 3 0 [2] = [1, 2]
    rw [ref3_2]
    split
    · exact .inl rfl
    · exact .inr rfl
  · rw [ih]
    exact .inr (ref3_12 x l m)
/-- the row that has the number: three parts -/
theorem places_X {x l n L0 : Int} {HI LO : List Int} (hl : 0 ≤ l) (h1 : ∀ m ∈ HI, x + l + l ≤ m ∧ 2 * l ≤ m) (hn2 : 2 * l ≤ n) (h2 : n < x + l + l) (h3 : x + l ≤ n) (h4 : L0 < x + l) : (places [x, l, l] (HI ++ [n] ++ (LO ++ [L0]))).length = 2 := by
  have e1 : places [x, l, l] (HI ++ [n]) = [2] := by
    rw [places_snoc1, places3_none hl HI h1]
    show hop [x, l, l] n 0 3 = [2]
    rw [hop3 hn2, if_neg (by omega), if_pos h3]
  rw [← List.append_assoc, places_snoc1]
  rcases places3_two (.inl e1) LO with h | h
  · rw [h]
    show (ref [x, l, l] L0 3 0 [2]).length = 2
    rw [ref3_2, if_neg (by omega)]
    rfl
  · rw [h]
    show (ref [x, l, l] L0 3 0 [1, 2]).length = 2
    rw [ref3_12]
    rfl
/-- the row that has it not: two parts -/
theorem places_Y {x l y : Int} {HI LO : List Int} (hl : 0 ≤ l) (h1 : ∀ m ∈ HI, x + l + l ≤ m ∧ 2 * l ≤ m) (h2 : ∀ m ∈ y :: LO, 2 * l ≤ m) (h3 : y < x + l) : (places [x, l, l] (HI ++ (y :: LO))).length = 1 := by
  have e1 : places [x, l, l] (HI ++ [y]) = [1] := by
    rw [places_snoc1, places3_none hl HI h1]
    show hop [x, l, l] y 0 3 = [1]
    rw [hop3 (h2 y (by simp)), if_neg (by omega), if_neg (by omega)]
  have := places3_one e1 LO (fun m hm => h2 m (List.mem_cons_of_mem _ hm))
  have e2 : HI ++ (y :: LO) = HI ++ [y] ++ LO := by simp
  rw [e2, this]
  rfl
theorem places2 {x y : Int} : ∀ R : List Int, places [x, y] R = if R.any (fun m => decide (m < x + y)) then [1] else [] := by
  refine snoc_ind rfl ?_
  intro xs m ih
  rw [places_snoc1, ih, List.any_append]
  by_cases c : xs.any (fun m => decide (m < x + y)) = true
  · simp only [c, if_true, Bool.true_or]
    show hop [x, y] m 0 1 ++ 1 :: hop [x, y] m 1 2 = [1]
    rw [hop_one, hop_one]
    rfl
  · have c' : xs.any (fun m => decide (m < x + y)) = false := by simpa using c
    rw [c']
    simp only [Bool.false_eq_true, if_false, Bool.false_or]
    show hop [x, y] m 0 2 = _
    have e : hop [x, y] m 0 2 = hopGo m x 1 [y] := rfl
    rw [e]
    by_cases d : m < x + y
    · have : x + y > m := d
      simp [hopGo, d]
    · have : ¬ x + y > m := d
      simp [hopGo, d]
/-- neighbours in the numbers of a filling: next to one another, or more than l apart -/
def Gp (l : Int) : List Int → Prop
  | u :: v :: r => (v - u = 1 ∨ l < v - u) ∧ Gp l (v :: r)
  | _ => True
theorem gp_app {l : Int} : ∀ {xs : List Int} {u v : Int} {ys : List Int}, Gp l (xs ++ [u]) → Gp l (v :: ys) → (v - u = 1 ∨ l < v - u) → Gp l (xs ++ [u] ++ v :: ys)
  | [], u, v, ys, _, h2, h3 => ⟨h3, h2⟩
  | [x], u, v, ys, h1, h2, h3 => ⟨h1.1, gp_app (xs := []) h1.2 h2 h3⟩
  | x :: x' :: xs, u, v, ys, h1, h2, h3 => ⟨h1.1, gp_app (xs := x' :: xs) h1.2 h2 h3⟩
theorem gp_range (l a : Int) : ∀ k : Nat, Gp l (rangeI a k)
  | 0 => trivial
  | 1 => by rw [rangeI_one]; trivial
  | k + 2 => by
    have e : rangeI a (k + 2) = rangeI a k ++ [a + (k : Int)] ++ [a + ((k + 1 : Nat) : Int)] := by rw [rangeI_succ, rangeI_succ]
    have ih := gp_range l a (k + 1)
    rw [rangeI_succ] at ih
    rw [e]
    exact gp_app ih trivial (.inl (by omega))
theorem nums_last {l : Int} : ∀ {fs : List Int} (b : Int) (rest : List Int), fs = b :: rest → fs.Pairwise (· > ·) → ∃ ys, numsD l fs = ys ++ [b]
  | [], b, rest, e, _ => by cases e
  | [a], b, rest, e, _ => by cases e; exact ⟨[], rfl⟩
  | c :: a :: r, b, rest, e, h => by
    cases e
    have hab : a < c := (List.pairwise_cons.mp h).1 a (by simp)
    rw [numsD]
    by_cases d : c - a ≤ l
    · obtain ⟨k, hk⟩ : ∃ k : Nat, (c - a).toNat = k + 1 := ⟨(c - a).toNat - 1, by omega⟩
      rw [if_pos d, hk, rangeI_succ]
      have : a + 1 + (k : Int) = c := by omega
      rw [this, ← List.append_assoc]
      exact ⟨_, rfl⟩
    · rw [if_neg d]
      exact ⟨_, rfl⟩
theorem gp_nums {l : Int} (hl : 1 ≤ l) : ∀ {fs : List Int}, fs.Pairwise (· > ·) → Gp l (numsD l fs)
  | [], _ => trivial
  | [a], _ => trivial
  | c :: a :: r, h => by
    have h' := List.pairwise_cons.mp h
    have hab : a < c := h'.1 a (by simp)
    obtain ⟨ys, hy⟩ := nums_last (l := l) a r rfl h'.2
    have ih := gp_nums hl h'.2
    rw [numsD, hy] at *
    by_cases d : c - a ≤ l
    · obtain ⟨k, hk⟩ : ∃ k : Nat, (c - a).toNat = k + 1 := ⟨(c - a).toNat - 1, by omega⟩
      have e : rangeI (a + 1) (k + 1) = (a + 1) :: rangeI (a + 2) k := by
        unfold rangeI
        rw [List.range_succ_eq_map]
        simp [Function.comp_def]
        intro i _
        omega
      rw [if_pos d, hk, e]
      refine gp_app ih ?_ (.inl (by omega))
      rw [← e]
      exact gp_range l _ _
    · rw [if_neg d]
      exact gp_app ih trivial (.inr (by omega))
theorem gp_mid {l : Int} : ∀ {xs : List Int} {u v : Int} {ys : List Int}, Gp l (xs ++ u :: v :: ys) → v - u = 1 ∨ l < v - u
  | [], u, v, ys, h => h.1
  | [x], u, v, ys, h => h.2.1
  | x :: x' :: xs, u, v, ys, h => gp_mid (xs := x' :: xs) h.2
end My

set_option Elab.async false
set_option linter.all false
set_option maxRecDepth 100000
set_option maxHeartbeats 4000000
namespace My
open PySem PySem.Spec PyProof.Rows L2 Cm
/-- blocks as a filling has them -/
structure Wb (l : Int) (ps : List (Int × Int)) : Prop where
  le : ∀ p ∈ ps, p.1 ≤ p.2
  apart : ps.Pairwise fun p q => l < q.1 - p.2
theorem join_wb {l : Int} (hl : 1 ≤ l) : ∀ fs : List Int, fs.Pairwise (· > ·) → Wb l (joinB l (dbl fs.reverse)) ∧ (∀ p ∈ joinB l (dbl fs.reverse), p.1 ∈ fs)
  | [], _ => ⟨⟨(fun p h => nomatch h), List.Pairwise.nil⟩, (fun p h => nomatch h)⟩
  | [a], _ => by
    have e : joinB l (dbl [a].reverse) = [(a, a)] := by simp [joinB, dbl, jstep]
    rw [e]
    refine ⟨⟨?_, by simp⟩, ?_⟩
    · intro p h
      have : p = (a, a) := by simpa using h
      subst this
      exact Int.le_refl _
    · intro p h
      have : p = (a, a) := by simpa using h
      subst this
      simp
  | b :: a :: rest, h => by
    have h' := List.pairwise_cons.mp h
    have hab : a < b := h'.1 a (by simp)
    obtain ⟨ih, ih3⟩ := join_wb hl (a :: rest) h'.2
    obtain ⟨acc, q, e⟩ := (runs_nums hl (a :: rest) h'.2).2 a rest rfl
    have ej : joinB l (dbl (b :: a :: rest).reverse) = jstep l (joinB l (dbl (a :: rest).reverse)) (b, b) := by simp [joinB, dbl]
    rw [e] at ih ih3
    rw [ej, e]
    have hq := ih.le (q, a) (by simp)
    have hq' : q ≤ a := hq
    have ap := List.pairwise_append.mp ih.apart
    by_cases c : b - a ≤ l
    · have ej2 : jstep l (acc ++ [(q, a)]) (b, b) = acc ++ [(q, b)] := by simp [jstep, c]
      rw [ej2]
      refine ⟨⟨?_, ?_⟩, ?_⟩
      · intro p hp
        rcases List.mem_append.mp hp with hp | hp
        · exact ih.le p (List.mem_append_left _ hp)
        · have : p = (q, b) := by simpa using hp
          subst this
          show q ≤ b
          omega
      · rw [List.pairwise_append]
        refine ⟨ap.1, by simp, ?_⟩
        intro x hx y hy
        have : y = (q, b) := by simpa using hy
        subst this
        exact ap.2.2 x hx (q, a) (by simp)
      · intro p hp
        rcases List.mem_append.mp hp with hp | hp
        · exact List.mem_cons_of_mem _ (ih3 p (List.mem_append_left _ hp))
        · have : p = (q, b) := by simpa using hp
          subst this
          exact List.mem_cons_of_mem _ (ih3 (q, a) (by simp))
    · have ej2 : jstep l (acc ++ [(q, a)]) (b, b) = acc ++ [(q, a)] ++ [(b, b)] := by simp [jstep, c]
      rw [ej2]
      refine ⟨⟨?_, ?_⟩, ?_⟩
      · intro p hp
        rcases List.mem_append.mp hp with hp | hp
        · exact ih.le p hp
        · have : p = (b, b) := by simpa using hp
          subst this
          exact Int.le_refl _
      · rw [List.pairwise_append]
        refine ⟨ih.apart, by simp, ?_⟩
        intro x hx y hy
        have : y = (b, b) := by simpa using hy
        subst this
        show l < b - x.2
        rcases List.mem_append.mp hx with hx | hx
        · have := ap.2.2 x hx (q, a) (by simp)
          have : l < q - x.2 := this
          omega
        · have : x = (q, a) := by simpa using hx
          subst this
          show l < b - a
          omega
      · intro p hp
        rcases List.mem_append.mp hp with hp | hp
        · exact List.mem_cons_of_mem _ (ih3 p hp)
        · have : p = (b, b) := by simpa using hp
          subst this
          simp
theorem fil_wb {row : List Int} {l : Int} {ps : List (Int × Int)} (hl : 1 ≤ l) (h : fil row l = some ps) : Wb l ps ∧ ∀ p ∈ ps, 2 * l ≤ p.1 := by
  unfold fil at h
  split at h
  · cases h
  · rename_i c
    cases h
    obtain ⟨h1, h2⟩ := join_wb hl (recs row) (recs_desc row)
    rw [← sort_recs] at h1 h2
    refine ⟨h1, fun p hp => ?_⟩
    have := recs_sub _ (h2 p hp)
    unfold lone at c
    rcases Int.lt_or_le p.1 (2 * l) with d | d
    · exact absurd (List.any_eq_true.mpr ⟨p.1, this, decide_eq_true d⟩) c
    · exact d
theorem expand_ge {l c : Int} {ps : List (Int × Int)} (h : ∀ p ∈ ps, c ≤ p.1) : ∀ n ∈ expand ps, c ≤ n := by
  intro n hn
  unfold expand at hn
  obtain ⟨p, hp, hn⟩ := List.mem_flatMap.mp hn
  have := rangeI_mem.mp hn
  have := h p hp
  omega
theorem expand_app (ps qs : List (Int × Int)) : expand (ps ++ qs) = expand ps ++ expand qs := by simp [expand]
theorem expand_cons (p : Int × Int) (ps : List (Int × Int)) : expand (p :: ps) = rangeI p.1 (p.2 - p.1 + 1).toNat ++ expand ps := by simp [expand]
theorem rangeI_consI (a : Int) (k : Nat) : rangeI a (k + 1) = a :: rangeI (a + 1) k := by
  unfold rangeI
  rw [List.range_succ_eq_map]
  simp [Function.comp_def]
  intro i _
  omega
theorem rangeI_split (a : Int) (i j : Nat) : rangeI a (i + j) = rangeI a i ++ rangeI (a + i) j := by
  unfold rangeI
  rw [List.range_add, List.map_append, List.map_map]
  congr 1
  apply List.map_congr_left
  intro k _
  show a + ((i + k : Nat) : Int) = a + i + k
  omega
/-- the two sides of a number that one filling has and the other has not -/
theorem unlike_core {EX EY W V HI : List Int} {n y L0 l total : Int} (hl : 1 ≤ l) (hX : EX = L0 :: W ++ [n] ++ HI) (hY : EY = V ++ [y] ++ HI) (h1 : y < total) (h2 : L0 < total) (h3 : total ≤ n) (h4 : n < total + l) (h5 : ∀ m ∈ HI, total + l ≤ m) (hXg : ∀ m ∈ EX, 2 * l ≤ m) (hYg : ∀ m ∈ EY, 2 * l ≤ m) :
    (places [total - l, l, l] EX.reverse).length = 2 ∧ (places [total - l, l, l] EY.reverse).length = 1 ∧ ∀ x ∈ [total - l, l, l], l ≤ x := by
  have g0 : 2 * l ≤ y := hYg y (by rw [hY]; simp)
  refine ⟨?_, ?_, ?_⟩
  · have e : EX.reverse = HI.reverse ++ [n] ++ (W.reverse ++ [L0]) := by rw [hX]; simp
    rw [e]
    refine places_X (by omega) ?_ (hXg n (by rw [hX]; simp)) (by omega) (by omega) (by omega)
    intro m hm
    have hm' := List.mem_reverse.mp hm
    have := h5 m hm'
    exact ⟨by omega, hXg m (by rw [hX]; simp [hm'])⟩
  · have e : EY.reverse = HI.reverse ++ (y :: V.reverse) := by rw [hY]; simp
    rw [e]
    refine places_Y (by omega) ?_ ?_ (by omega)
    · intro m hm
      have hm' := List.mem_reverse.mp hm
      have := h5 m hm'
      exact ⟨by omega, hYg m (by rw [hY]; simp [hm'])⟩
    · intro m hm
      refine hYg m ?_
      rw [hY]
      rcases List.mem_cons.mp hm with rfl | hm
      · simp
      · have := List.mem_reverse.mp hm
        simp [this]
  · intro x hx
    simp at hx
    rcases hx with rfl | rfl
    · omega
    · omega
def gaR : List (Int × Int) → List (Int × Int) → Int
  | p :: ps, q :: qs => if p = q then gaR ps qs else if p.2 = q.2 then (if q.1 > p.1 then q.1 else p.1) - 1 else (if q.2 > p.2 then q.2 else p.2)
  | _, _ => 0
def holdsB (ps : List (Int × Int)) (n : Int) : Bool := ps.any fun p => decide (p.1 ≤ n) && decide (n ≤ p.2)
def abv (ps : List (Int × Int)) (n : Int) : List Int := (ps.filter fun p => decide (n < p.2)).map fun p => if n + 1 > p.1 then n + 1 else p.1
def totalOf (n l : Int) : Option Int → Int
  | none => n
  | some a => if a - l < n then a - l else n
theorem gaR_spec {l : Int} (hl : 1 ≤ l) : ∀ (A B suf : List (Int × Int)), Wb l (A.reverse ++ suf) → Wb l (B.reverse ++ suf) → A ≠ B → A ≠ [] → B ≠ [] → (∀ p q, A.getLast? = some p → B.getLast? = some q → p.1 = q.1) →
    ∃ A1 B1 suf1 p q, A.reverse ++ suf = A1 ++ p :: suf1 ∧ B.reverse ++ suf = B1 ++ q :: suf1 ∧ p ≠ q ∧ gaR A B = if p.2 = q.2 then (if q.1 > p.1 then q.1 else p.1) - 1 else (if q.2 > p.2 then q.2 else p.2)
  | [], _, _, _, _, _, h, _, _ => absurd rfl h
  | _ :: _, [], _, _, _, _, _, h, _ => absurd rfl h
  | p :: A, q :: B, suf, wa, wb, hne, _, _, hlow => by
    by_cases c : p = q
    · subst c
      have hAB : A ≠ B := fun h => hne (by rw [h])
      rw [gaR, if_pos rfl]
      have ea : (p :: A).reverse ++ suf = A.reverse ++ (p :: suf) := by simp
      have eb : (p :: B).reverse ++ suf = B.reverse ++ (p :: suf) := by simp
      rw [ea] at wa ⊢
      rw [eb] at wb ⊢
      have key : ∀ (C : List (Int × Int)), C ≠ [] → Wb l (C.reverse ++ (p :: suf)) → ∀ r, C.getLast? = some r → r.1 < p.1 := by
        intro C hC w r hr
        have hm : r ∈ C.reverse := by
          rw [List.mem_reverse]
          exact List.mem_of_getLast? hr
        have h1 := (List.pairwise_append.mp w.apart).2.2 r hm p (by simp)
        have h2 := w.le r (List.mem_append_left _ hm)
        omega
      have hA0 : A ≠ [] := by
        intro h0
        subst h0
        have hB0 : B ≠ [] := fun h => hAB h.symm
        obtain ⟨r, hr⟩ : ∃ r, B.getLast? = some r := by
          cases hb : B.getLast? with
          | none => exact absurd (List.getLast?_eq_none_iff.mp hb) hB0
          | some r => exact ⟨r, rfl⟩
        have h1 := key B hB0 wb r hr
        have h2 := hlow p r rfl (by rw [List.getLast?_cons]; simp [hr])
        omega
      have hB0 : B ≠ [] := by
        intro h0
        subst h0
        obtain ⟨r, hr⟩ : ∃ r, A.getLast? = some r := by
          cases hb : A.getLast? with
          | none => exact absurd (List.getLast?_eq_none_iff.mp hb) hA0
          | some r => exact ⟨r, rfl⟩
        have h1 := key A hA0 wa r hr
        have h2 := hlow r p (by rw [List.getLast?_cons]; simp [hr]) rfl
        omega
      exact gaR_spec hl A B (p :: suf) wa wb hAB hA0 hB0 (fun r s hr hs => hlow r s (by rw [List.getLast?_cons]; simp [hr]) (by rw [List.getLast?_cons]; simp [hs]))
    · refine ⟨A.reverse, B.reverse, suf, p, q, by simp, by simp, c, ?_⟩
      rw [gaR, if_neg c]
theorem holds_low {l n : Int} {pre : List (Int × Int)} {p : Int × Int} {suf : List (Int × Int)} (hl : 1 ≤ l) (w : Wb l (pre ++ p :: suf)) (h : p.1 ≤ n ∧ n ≤ p.2) : holdsB (pre ++ p :: suf) n = true := by
  unfold holdsB
  rw [List.any_eq_true]
  exact ⟨p, by simp, by simp [h]⟩
theorem abv_at {l n : Int} {pre suf : List (Int × Int)} (hl : 1 ≤ l) (h1 : ∀ r ∈ pre, r.2 ≤ n) (h2 : ∀ r ∈ suf, n < r.1 ∧ r.1 ≤ r.2) : abv (pre ++ suf) n = suf.map Prod.fst := by
  unfold abv
  rw [List.filter_append, List.filter_eq_nil_iff.mpr (fun r hr => by have := h1 r hr; simp; omega), List.filter_eq_self.mpr (fun r hr => by have := h2 r hr; simp; omega), List.nil_append]
  apply List.map_congr_left
  intro r hr
  have := h2 r hr
  rw [if_neg (by omega)]
/-- one filling has the number n, the other has not, above it they agree: two cases -/
theorem unlike_high {X Y pre1 pre2 suf : List (Int × Int)} {p q x0 y0 : Int × Int} {X' Y' : List (Int × Int)} {l : Int} (hl : 1 ≤ l) (wX : Wb l X) (wY : Wb l Y) (gX : ∀ r ∈ X, 2 * l ≤ r.1) (gY : ∀ r ∈ Y, 2 * l ≤ r.1)
    (eX : X = pre1 ++ p :: suf) (eY : Y = pre2 ++ q :: suf) (hX0 : X = x0 :: X') (hY0 : Y = y0 :: Y') (h0 : x0.1 = y0.1) (h : q.2 < p.2) :
    holdsB X p.2 = true ∧ holdsB Y p.2 = false ∧ (places [totalOf p.2 l (abv X p.2).head? - l, l, l] (expand X).reverse).length = 2 ∧ (places [totalOf p.2 l (abv X p.2).head? - l, l, l] (expand Y).reverse).length = 1 ∧ ∀ x ∈ [totalOf p.2 l (abv X p.2).head? - l, l, l], l ≤ x := by
  have wX' := wX; have wY' := wY
  rw [eX] at wX'
  rw [eY] at wY'
  have aX := List.pairwise_append.mp wX'.apart
  have aY := List.pairwise_append.mp wY'.apart
  have sX := List.pairwise_cons.mp aX.2.1
  have sY := List.pairwise_cons.mp aY.2.1
  have hp := wX'.le p (by simp)
  have hq := wY'.le q (by simp)
  have hsuf : ∀ r ∈ suf, l < r.1 - p.2 ∧ r.1 ≤ r.2 := fun r hr => ⟨sX.1 r hr, wX'.le r (by simp [hr])⟩
  have hab : abv X p.2 = suf.map Prod.fst := by
    rw [eX]
    have e : pre1 ++ p :: suf = (pre1 ++ [p]) ++ suf := by simp
    rw [e]
    refine abv_at hl ?_ (fun r hr => ⟨by have := hsuf r hr; omega, (hsuf r hr).2⟩)
    intro r hr
    rcases List.mem_append.mp hr with hr | hr
    · have := aX.2.2 r hr p (by simp)
      omega
    · have : r = p := by simpa using hr
      subst this
      exact Int.le_refl _
  have ht : totalOf p.2 l (abv X p.2).head? = p.2 := by
    rw [hab]
    cases hs : suf with
    | nil => rfl
    | cons s suf' =>
      have := hsuf s (by rw [hs]; simp)
      show (if s.1 - l < p.2 then s.1 - l else p.2) = p.2
      rw [if_neg (by omega)]
  have hL0 : x0.1 < p.2 := by
    have hy : y0.1 ≤ q.1 := by
      cases pre2 with
      | nil =>
        have : y0 = q := by rw [hY0] at eY; simp at eY; exact eY.1
        rw [this]; exact Int.le_refl _
      | cons r pre2' =>
        have : y0 = r := by rw [hY0] at eY; simp at eY; exact eY.1
        subst this
        have h1 := aY.2.2 y0 (by simp) q (by simp)
        have h2 := wY'.le y0 (by simp)
        omega
    omega
  refine ⟨by rw [eX]; exact holds_low hl wX' ⟨hp, Int.le_refl _⟩, ?_, ?_⟩
  · unfold holdsB
    rw [eY, List.any_eq_false]
    intro r hr
    simp only [Bool.and_eq_true, decide_eq_true_eq, not_and]
    intro hr1
    rcases List.mem_append.mp hr with hr | hr
    · have := aY.2.2 r hr q (by simp)
      omega
    · rcases List.mem_cons.mp hr with rfl | hr
      · omega
      · have := (hsuf r hr).1
        omega
  · rw [ht]
    have k1 : (p.2 - p.1 + 1).toNat = (p.2 - p.1).toNat + 1 := by omega
    have k2 : (q.2 - q.1 + 1).toNat = (q.2 - q.1).toNat + 1 := by omega
    have n1 : p.1 + ((p.2 - p.1).toNat : Int) = p.2 := by omega
    have n2 : q.1 + ((q.2 - q.1).toNat : Int) = q.2 := by omega
    have EX : expand X = (expand pre1 ++ rangeI p.1 (p.2 - p.1).toNat) ++ [p.2] ++ expand suf := by
      rw [eX, expand_app, expand_cons, k1, rangeI_succ, n1]
      simp
    have EY : expand Y = (expand pre2 ++ rangeI q.1 (q.2 - q.1).toNat) ++ [q.2] ++ expand suf := by
      rw [eY, expand_app, expand_cons, k2, rangeI_succ, n2]
      simp
    have hx0 := wX.le x0 (by rw [hX0]; simp)
    have first : ∃ rest, expand X = x0.1 :: rest := by
      have k3 : (x0.2 - x0.1 + 1).toNat = (x0.2 - x0.1).toNat + 1 := by omega
      rw [hX0, expand_cons, k3, rangeI_consI]
      exact ⟨_, rfl⟩
    obtain ⟨rest, hrest⟩ := first
    obtain ⟨W', hW⟩ : ∃ W', expand pre1 ++ rangeI p.1 (p.2 - p.1).toNat = x0.1 :: W' := by
      cases hc : expand pre1 ++ rangeI p.1 (p.2 - p.1).toNat with
      | nil =>
        rw [hc] at EX
        rw [hrest] at EX
        simp at EX
        omega
      | cons w W' =>
        rw [hc] at EX
        rw [hrest] at EX
        simp at EX
        exact ⟨W', by rw [EX.1]⟩
    rw [hW] at EX
    exact unlike_core hl EX EY h hL0 (Int.le_refl _) (by omega) (by
      intro m hm
      refine expand_ge (l := l) (fun r hr => ?_) m hm
      have := (hsuf r hr).1
      omega) (expand_ge (l := l) gX) (expand_ge (l := l) gY)
theorem unlike_low {X Y pre1 pre2 suf : List (Int × Int)} {p q x0 y0 : Int × Int} {X' Y' : List (Int × Int)} {l : Int} (hl : 1 ≤ l) (wX : Wb l X) (wY : Wb l Y) (gX : ∀ r ∈ X, 2 * l ≤ r.1) (gY : ∀ r ∈ Y, 2 * l ≤ r.1)
    (eX : X = pre1 ++ p :: suf) (eY : Y = pre2 ++ q :: suf) (hX0 : X = x0 :: X') (hY0 : Y = y0 :: Y') (h0 : x0.1 = y0.1) (h : p.2 = q.2) (h' : p.1 < q.1) :
    holdsB X (q.1 - 1) = true ∧ holdsB Y (q.1 - 1) = false ∧ (places [totalOf (q.1 - 1) l (abv X (q.1 - 1)).head? - l, l, l] (expand X).reverse).length = 2 ∧ (places [totalOf (q.1 - 1) l (abv X (q.1 - 1)).head? - l, l, l] (expand Y).reverse).length = 1 ∧ ∀ x ∈ [totalOf (q.1 - 1) l (abv X (q.1 - 1)).head? - l, l, l], l ≤ x := by
  have wX' := wX; have wY' := wY
  rw [eX] at wX'
  rw [eY] at wY'
  have aX := List.pairwise_append.mp wX'.apart
  have aY := List.pairwise_append.mp wY'.apart
  have sX := List.pairwise_cons.mp aX.2.1
  have sY := List.pairwise_cons.mp aY.2.1
  have hp := wX'.le p (by simp)
  have hq := wY'.le q (by simp)
  have hsuf : ∀ r ∈ suf, l < r.1 - p.2 ∧ r.1 ≤ r.2 := fun r hr => ⟨sX.1 r hr, wX'.le r (by simp [hr])⟩
  have hab : (abv X (q.1 - 1)).head? = some q.1 := by
    have e1 : abv X (q.1 - 1) = q.1 :: suf.map Prod.fst := by
      unfold abv
      rw [eX, List.filter_append, List.filter_eq_nil_iff.mpr (fun r hr => by have := aX.2.2 r hr p (by simp); simp; omega), List.nil_append]
      rw [List.filter_cons_of_pos (by simp; omega), List.filter_eq_self.mpr (fun r hr => by have := hsuf r hr; simp; omega), List.map_cons]
      congr 1
      · rw [if_pos (by omega)]; omega
      · apply List.map_congr_left
        intro r hr
        have := hsuf r hr
        rw [if_neg (by omega)]
    rw [e1]
    rfl
  have ht : totalOf (q.1 - 1) l (abv X (q.1 - 1)).head? = q.1 - l := by
    rw [hab]
    show (if q.1 - l < q.1 - 1 then q.1 - l else q.1 - 1) = q.1 - l
    split <;> omega
  obtain ⟨pre2', r2, hr2⟩ : ∃ pre2' r2, pre2 = pre2' ++ [r2] := by
    rcases List.eq_nil_or_concat pre2 with h2 | ⟨a, b, h2⟩
    · exfalso
      subst h2
      have hy : y0 = q := by rw [hY0] at eY; simp at eY; exact eY.1
      have hx : x0.1 ≤ p.1 := by
        cases pre1 with
        | nil =>
          have : x0 = p := by rw [hX0] at eX; simp at eX; exact eX.1
          rw [this]; exact Int.le_refl _
        | cons r pre1' =>
          have : x0 = r := by rw [hX0] at eX; simp at eX; exact eX.1
          subst this
          have h1 := aX.2.2 x0 (by simp) p (by simp)
          have h2 := wX'.le x0 (by simp)
          omega
      rw [hy] at h0
      omega
    · exact ⟨a, b, by rw [h2, List.concat_eq_append]⟩
  have hr2q := aY.2.2 r2 (by rw [hr2]; simp) q (by simp)
  have hr2le := wY'.le r2 (by rw [hr2]; simp)
  have hL0 : x0.1 < q.1 - l := by
    have hy : y0.1 ≤ r2.1 := by
      cases hc : pre2' with
      | nil =>
        have : y0 = r2 := by rw [hY0, hr2, hc] at eY; simp at eY; exact eY.1
        rw [this]; exact Int.le_refl _
      | cons r pre2'' =>
        have : y0 = r := by rw [hY0, hr2, hc] at eY; simp at eY; exact eY.1
        subst this
        have h1 := (List.pairwise_append.mp (by have := aY.1; rwa [hr2] at this)).2.2 y0 (by rw [hc]; simp) r2 (by simp)
        have h2 := wY'.le y0 (by rw [hr2, hc]; simp)
        omega
    omega
  refine ⟨by rw [eX]; exact holds_low hl wX' ⟨by omega, by omega⟩, ?_, ?_⟩
  · unfold holdsB
    rw [eY, List.any_eq_false]
    intro r hr
    simp only [Bool.and_eq_true, decide_eq_true_eq, not_and]
    intro hr1
    rcases List.mem_append.mp hr with hr | hr
    · have := aY.2.2 r hr q (by simp)
      omega
    · rcases List.mem_cons.mp hr with rfl | hr
      · omega
      · have := (hsuf r hr).1
        omega
  · rw [ht]
    have k1 : (p.2 - p.1 + 1).toNat = ((q.1 - 1 - p.1).toNat + 1) + (q.2 - q.1 + 1).toNat := by omega
    have n1 : p.1 + ((q.1 - 1 - p.1).toNat : Int) = q.1 - 1 := by omega
    have n2 : p.1 + (((q.1 - 1 - p.1).toNat + 1 : Nat) : Int) = q.1 := by omega
    have EX : expand X = (expand pre1 ++ rangeI p.1 (q.1 - 1 - p.1).toNat) ++ [q.1 - 1] ++ (rangeI q.1 (q.2 - q.1 + 1).toNat ++ expand suf) := by
      rw [eX, expand_app, expand_cons, k1, rangeI_split, rangeI_succ, n1, n2]
      simp
    have k4 : (r2.2 - r2.1 + 1).toNat = (r2.2 - r2.1).toNat + 1 := by omega
    have n4 : r2.1 + ((r2.2 - r2.1).toNat : Int) = r2.2 := by omega
    have EY : expand Y = (expand pre2' ++ rangeI r2.1 (r2.2 - r2.1).toNat) ++ [r2.2] ++ (rangeI q.1 (q.2 - q.1 + 1).toNat ++ expand suf) := by
      rw [eY, hr2, expand_app, expand_app, expand_cons, expand_cons, k4, rangeI_succ, n4]
      simp [expand]
    have hx0 := wX.le x0 (by rw [hX0]; simp)
    have first : ∃ rest, expand X = x0.1 :: rest := by
      have k3 : (x0.2 - x0.1 + 1).toNat = (x0.2 - x0.1).toNat + 1 := by omega
      rw [hX0, expand_cons, k3, rangeI_consI]
      exact ⟨_, rfl⟩
    obtain ⟨rest, hrest⟩ := first
    obtain ⟨W', hW⟩ : ∃ W', expand pre1 ++ rangeI p.1 (q.1 - 1 - p.1).toNat = x0.1 :: W' := by
      cases hc : expand pre1 ++ rangeI p.1 (q.1 - 1 - p.1).toNat with
      | nil =>
        rw [hc] at EX
        rw [hrest] at EX
        simp at EX
        omega
      | cons w W' =>
        rw [hc] at EX
        rw [hrest] at EX
        simp at EX
        exact ⟨W', by rw [EX.1]⟩
    rw [hW] at EX
    refine unlike_core hl EX EY (by omega) hL0 (by omega) (by omega) ?_ (expand_ge (l := l) gX) (expand_ge (l := l) gY)
    intro m hm
    rcases List.mem_append.mp hm with hm | hm
    · have := rangeI_mem.mp hm
      omega
    · refine expand_ge (l := l) (fun r hr => ?_) m hm
      have := (hsuf r hr).1
      omega
/-- what parting tells where both have blocks from the same lowest number on -/
def partL (mine its : List (Int × Int)) (l : Int) : List Int :=
  [totalOf (gaR mine.reverse its.reverse) l (abv (if holdsB mine (gaR mine.reverse its.reverse) then mine else its) (gaR mine.reverse its.reverse)).head? - l, l, l]
theorem part_unlike {mine its : List (Int × Int)} {x0 y0 : Int × Int} {X' Y' : List (Int × Int)} {l : Int} (hl : 1 ≤ l) (wX : Wb l mine) (wY : Wb l its) (gX : ∀ r ∈ mine, 2 * l ≤ r.1) (gY : ∀ r ∈ its, 2 * l ≤ r.1)
    (hX0 : mine = x0 :: X') (hY0 : its = y0 :: Y') (h0 : x0.1 = y0.1) (hne : mine ≠ its) :
    (places (partL mine its l) (expand mine).reverse).length ≠ (places (partL mine its l) (expand its).reverse).length ∧ ∀ x ∈ partL mine its l, l ≤ x := by
  obtain ⟨pre1, pre2, suf, p, q, e1, e2, hpq, hg⟩ := gaR_spec hl mine.reverse its.reverse [] (by simpa using wX) (by simpa using wY) (fun h => hne (by simpa using congrArg List.reverse h)) (by rw [hX0]; simp) (by rw [hY0]; simp) (by
    intro p q hp hq
    rw [hX0] at hp
    rw [hY0] at hq
    simp at hp hq
    subst hp hq
    exact h0)
  rw [List.append_nil, List.reverse_reverse] at e1 e2
  unfold partL
  rw [hg]
  by_cases c : p.2 = q.2
  · rw [if_pos c]
    by_cases d : q.1 > p.1
    · rw [if_pos d]
      obtain ⟨a1, a2, a3, a4, a5⟩ := unlike_low hl wX wY gX gY e1 e2 hX0 hY0 h0 c (by omega)
      rw [a1, if_pos rfl]
      exact ⟨by rw [a3, a4]; omega, a5⟩
    · rw [if_neg d]
      have d' : q.1 < p.1 := by
        rcases Int.lt_or_le q.1 p.1 with h | h
        · exact h
        · exact absurd (Prod.ext (by omega) c) hpq
      obtain ⟨a1, a2, a3, a4, a5⟩ := unlike_low hl wY wX gY gX e2 e1 hY0 hX0 h0.symm c.symm d'
      rw [a2, if_neg (by simp)]
      exact ⟨by rw [a3, a4]; omega, a5⟩
  · rw [if_neg c]
    by_cases d : q.2 > p.2
    · rw [if_pos d]
      obtain ⟨a1, a2, a3, a4, a5⟩ := unlike_high hl wY wX gY gX e2 e1 hY0 hX0 h0.symm (by omega)
      rw [a2, if_neg (by simp)]
      exact ⟨by rw [a3, a4]; omega, a5⟩
    · rw [if_neg d]
      obtain ⟨a1, a2, a3, a4, a5⟩ := unlike_high hl wX wY gX gY e1 e2 hX0 hY0 h0 (by omega)
      rw [a1, if_pos rfl]
      exact ⟨by rw [a3, a4]; omega, a5⟩
end My

set_option Elab.async false
set_option linter.all false
set_option maxRecDepth 100000
set_option maxHeartbeats 4000000
namespace My
open PySem PySem.Spec PyProof.Rows L2 Cm
def TupOk (d : Nat) (x y : PyData) : Prop := ∀ st : Sto, f_tupled d [.d x] st = some (.d y, st)
theorem tup_int (d : Nat) (i : Int) : TupOk (d + 1) (.int i) (.int i) := by
  unfold TupOk
  apply pure_lift
  intro st
  simp [f_tupled, defS_ap, b_tupled, known, isaT]
theorem tup_seq (d : Nat) {x : PyData} {xs : List PyData} (f : PyData → PyData) (hx : Sq x xs) (h : ∀ y ∈ xs, TupOk d y (f y)) (hl : xs.length ≤ 1000) : TupOk (d + 1) x (.tuple (xs.map f)) := by
  unfold TupOk
  apply pure_lift
  intro st
  have lc := lcL_pure (g := gN 1) (tt := bYes) (te := cDef 1 (f_tupled d) (cCons (cVar 1) cNil)) (ev := [some (.d x), none]) (fun _ => true) f (ex st []) xs [] (by
    intro z hz acc
    refine ⟨_, rfl, rfl, fun _ => ?_⟩
    simp [h z hz _]) (by simp; omega)
  rw [List.nil_append, filter_yes] at lc
  rcases hx with rfl | rfl <;> simp -implicitDefEqProofs [f_tupled, defS_ap, b_tupled, known, isaT, lc]
theorem tup_ints {d : Nat} {x : PyData} {ns : List Int} (hx : Sq x (iL ns)) (hl : ns.length ≤ 1000) : TupOk (d + 2) x (.tuple (iL ns)) := by
  have := tup_seq (d + 1) (fun y => y) hx (fun y hy => by
    obtain ⟨i, _, rfl⟩ := List.mem_map.mp hy
    exact tup_int d i) (by simpa using hl)
  rw [List.map_id'] at this
  exact this
theorem tup_pairs {d : Nat} {x : PyData} {ps : List (Int × Int)} (hx : Sq x (ps.map Cm.pairD)) (hl : ps.length ≤ 1000) : TupOk (d + 3) x (.tuple (ps.map Cm.pairD)) := by
  have := tup_seq (d + 2) (fun y => y) hx (fun y hy => by
    obtain ⟨p, _, rfl⟩ := List.mem_map.mp hy
    exact tup_ints (d := d) (x := Cm.pairD p) (ns := [p.1, p.2]) (.inl rfl) (by simp)) (by simpa using hl)
  rw [List.map_id'] at this
  exact this
theorem blocks_spec (o : Option (List (Int × Int))) (hl : (o.getD []).length ≤ 1000) (st : Sto) : f_blocks_of [.d (bD o)] st = some (.d (.tuple ((o.getD []).map Cm.pairD)), st) := by
  revert st
  apply pure_lift
  intro st
  cases o with
  | none => simp -implicitDefEqProofs [f_blocks_of, defS_ap, b_blocks_of, bD, isNone]
  | some ps =>
    have t := fun st => tup_pairs (d := 13) (x := .tuple (ps.map Cm.pairD)) (.inl rfl) hl st
    simp -implicitDefEqProofs [f_blocks_of, defS_ap, b_blocks_of, bD, isNone, t]
def p1D : PyData → Int
  | .tuple [.int a, _] => a
  | _ => 0
def p2D : PyData → Int
  | .tuple [_, .int a] => a
  | _ => 0
theorem holds_spec (o : Option (List (Int × Int))) (n : Int) (hl : (o.getD []).length ≤ 1000) (st : Sto) : f_holds [.d (bD o), .d (.int n)] st = some (.d (.bool (holdsB (o.getD []) n)), st) := by
  have hb := blocks_spec o hl
  generalize o.getD [] = ps at hb hl
  revert st
  apply pure_lift
  intro st
  have lc := lcL_pure (g := (gT (gsCons (gN 2) (gsCons (gN 3) gsNil)))) (te := (cChain fLe fLe (cVar 2) (cVar 1) (cVar 3))) (tt := bYes) (ev := [some (.d (bD o)), some (.d (.int n)), none, none]) (fun _ => true) (fun z => .bool (decide (p1D z ≤ n) && decide (n ≤ p2D z))) (ex st []) (ps.map Cm.pairD) [] (by
    intro z hz acc
    obtain ⟨p, _, rfl⟩ := List.mem_map.mp hz
    refine ⟨_, rfl, rfl, fun _ => ?_⟩
    have e1 : p1D (Cm.pairD p) = p.1 := rfl
    have e2 : p2D (Cm.pairD p) = p.2 := rfl
    rw [e1, e2]
    by_cases c : p.1 ≤ n
    · simp [c]
    · simp [c]) (by simp; omega)
  rw [List.nil_append, filter_yes, List.map_map] at lc
  have e : ps.map ((fun z => PyData.bool (decide (p1D z ≤ n) && decide (n ≤ p2D z))) ∘ Cm.pairD) = (ps.map fun p => decide (p.1 ≤ n) && decide (n ≤ p.2)).map .bool := by
    rw [List.map_map]
    rfl
  rw [e] at lc
  have ha := asBools_map (ps.map fun p => decide (p.1 ≤ n) && decide (n ≤ p.2))
  generalize hL : (ps.map fun p => decide (p.1 ≤ n) && decide (n ≤ p.2)) = L at lc ha
  have hf : L.any id = holdsB ps n := by rw [← hL, List.any_map]; rfl
  simp -implicitDefEqProofs [f_holds, defS_ap, b_holds, hb, lc, ha, hf]
def oD : Option Int → PyData
  | none => .none
  | some a => .int a
theorem above_spec (o : Option (List (Int × Int))) (n : Int) (hl : (o.getD []).length ≤ 1000) (st : Sto) : f_next_above [.d (bD o), .d (.int n)] st = some (.d (oD (abv (o.getD []) n).head?), st) := by
  have hb := blocks_spec o hl
  generalize o.getD [] = ps at hb hl
  revert st
  apply pure_lift
  intro st
  have lc := lcL_pure (g := (gT (gsCons (gN 3) (gsCons (gN 4) gsNil)))) (te := (cCall fMax (cCons (cVar 3) (cCons (cD2s fAdd (cVar 1) (cD (.int 1))) cNil)))) (tt := (cB (cD2 fGt (cVar 4) (cVar 1)))) (ev := [some (.d (bD o)), some (.d (.int n)), none, none, none]) (fun z => decide (n < p2D z)) (fun z => .int (if n + 1 > p1D z then n + 1 else p1D z)) (ex st []) (ps.map Cm.pairD) [] (by
    intro z hz acc
    obtain ⟨p, _, rfl⟩ := List.mem_map.mp hz
    refine ⟨_, rfl, ?_, fun _ => ?_⟩
    · have e2 : p2D (Cm.pairD p) = p.2 := rfl
      rw [e2]
      simp
    · have e1 : p1D (Cm.pairD p) = p.1 := rfl
      rw [e1]
      simp) (by simp; omega)
  have e : ((ps.map Cm.pairD).filter (fun z => decide (n < p2D z))).map (fun z => PyData.int (if n + 1 > p1D z then n + 1 else p1D z)) = iL (abv ps n) := by
    rw [List.filter_map, List.map_map]
    unfold abv iL
    rw [List.map_map]
    rfl
  rw [List.nil_append, e] at lc
  cases hA : abv ps n with
  | nil =>
    rw [hA] at lc
    simp at lc
    simp -implicitDefEqProofs [f_next_above, defS_ap, b_next_above, hb, lc, oD]
  | cons a as =>
    rw [hA] at lc
    have i0 : fIx (.list (iL (a :: as))) (.int 0) = some (.int a) := by
      have := fIx_list (iL (a :: as)) 0 (by simp)
      exact this
    have hpos : (0 : Int) < ((iL (a :: as)).length : Int) := by rw [List.length_map, List.length_cons]; omega
    generalize iL (a :: as) = D at lc i0 hpos
    have hpos' : 0 < D.length := by omega
    simp -implicitDefEqProofs [f_next_above, defS_ap, b_next_above, hb, lc, oD, i0, hpos, hpos']
inductive GaOk : List (Int × Int) → List (Int × Int) → Prop
  | stop {p q : Int × Int} {A B : List (Int × Int)} : p ≠ q → GaOk (p :: A) (q :: B)
  | go {p : Int × Int} {A B : List (Int × Int)} : GaOk A B → GaOk (p :: A) (p :: B)
theorem ga_ok {l : Int} (hl : 1 ≤ l) : ∀ (A B suf : List (Int × Int)), Wb l (A.reverse ++ suf) → Wb l (B.reverse ++ suf) → A ≠ B → A ≠ [] → B ≠ [] → (∀ p q, A.getLast? = some p → B.getLast? = some q → p.1 = q.1) → GaOk A B
  | [], _, _, _, _, _, h, _, _ => absurd rfl h
  | _ :: _, [], _, _, _, _, _, h, _ => absurd rfl h
  | p :: A, q :: B, suf, wa, wb, hne, _, _, hlow => by
    by_cases c : p = q
    · subst c
      have hAB : A ≠ B := fun h => hne (by rw [h])
      have ea : (p :: A).reverse ++ suf = A.reverse ++ (p :: suf) := by simp
      have eb : (p :: B).reverse ++ suf = B.reverse ++ (p :: suf) := by simp
      rw [ea] at wa
      rw [eb] at wb
      have key : ∀ (C : List (Int × Int)), C ≠ [] → Wb l (C.reverse ++ (p :: suf)) → ∀ r, C.getLast? = some r → r.1 < p.1 := by
        intro C hC w r hr
        have hm : r ∈ C.reverse := by
          rw [List.mem_reverse]
          exact List.mem_of_getLast? hr
        have h1 := (List.pairwise_append.mp w.apart).2.2 r hm p (by simp)
        have h2 := w.le r (List.mem_append_left _ hm)
        omega
      have ex : ∀ C : List (Int × Int), C ≠ [] → ∃ r, C.getLast? = some r := by
        intro C hC
        cases hb : C.getLast? with
        | none => exact absurd (List.getLast?_eq_none_iff.mp hb) hC
        | some r => exact ⟨r, rfl⟩
      have hA0 : A ≠ [] := by
        intro h0
        subst h0
        have hB0 : B ≠ [] := fun h => hAB h.symm
        obtain ⟨r, hr⟩ := ex B hB0
        have h1 := key B hB0 wb r hr
        have h2 := hlow p r rfl (by rw [List.getLast?_cons]; simp [hr])
        omega
      have hB0 : B ≠ [] := by
        intro h0
        subst h0
        obtain ⟨r, hr⟩ := ex A hA0
        have h1 := key A hA0 wa r hr
        have h2 := hlow r p (by rw [List.getLast?_cons]; simp [hr]) rfl
        omega
      exact .go (ga_ok hl A B (p :: suf) wa wb hAB hA0 hB0 (fun r s hr hs => hlow r s (by rw [List.getLast?_cons]; simp [hr]) (by rw [List.getLast?_cons]; simp [hs])))
    · exact .stop c
theorem fEq_pair (p q : Int × Int) : fEq (Cm.pairD p) (Cm.pairD q) = some (.bool (decide (p = q))) := by
  unfold fEq
  rw [shp_shaped (shp_pair p) (by omega), shp_shaped (shp_pair q) (by omega)]
  have : PyData.eqv (Cm.pairD p) (Cm.pairD q) = ((p.1 == q.1) && ((p.2 == q.2) && true)) := rfl
  rw [this]
  obtain ⟨a, b⟩ := p
  obtain ⟨c, d⟩ := q
  by_cases h1 : a = c
  · by_cases h2 : b = d
    · simp [h1, h2]
    · simp [h1, h2]
  · simp [h1]
theorem ga_loop {mine its : PyData} {A B : List (Int × Int)} (g : GaOk A B) (hA : A.length ≤ 1000) (hB : B.length ≤ 1000) : ∀ k, A.length ≤ k → ∃ (A1 B1 : List (Int × Int)) (p q : Int × Int), A1.length ≤ 1000 ∧ B1.length ≤ 1000 ∧ gaR A B = (if p.2 = q.2 then (if q.1 > p.1 then q.1 else p.1) - 1 else (if q.2 > p.2 then q.2 else p.2)) ∧ ∀ st : Sto,
    whileN (cB (cD2 fEq (cD2 fIx (cVar 2) (cD1 fNeg (cD (.int 1)))) (cD2 fIx (cVar 3) (cD1 fNeg (cD (.int 1)))))) (cSeq (cExpr (cM mPop (cVar 2) cNil)) (cExpr (cM mPop (cVar 3) cNil))) k [some (.d mine), some (.d its), some (.l st.length), some (.l (st.length + 1)), none, none, none, none] (ex st [some (A.reverse.map Cm.pairD), some (B.reverse.map Cm.pairD)]) =
      some (.nx [some (.d mine), some (.d its), some (.l st.length), some (.l (st.length + 1)), none, none, none, none] (ex st [some (A1.map Cm.pairD ++ [Cm.pairD p]), some (B1.map Cm.pairD ++ [Cm.pairD q])])) := by
  induction g with
  | @stop p q A B h =>
    intro k hk
    obtain ⟨k, rfl⟩ : ∃ j, k = j + 1 := ⟨k - 1, by simp at hk; omega⟩
    refine ⟨A.reverse, B.reverse, p, q, by simp at hA ⊢; omega, by simp at hB ⊢; omega, by rw [gaR, if_neg h], fun st => ?_⟩
    have i1 := fIx_lastD (A.reverse.map Cm.pairD) (Cm.pairD p)
    have i2 := fIx_lastD (B.reverse.map Cm.pairD) (Cm.pairD q)
    have e := fEq_pair p q
    rw [decide_eq_false h] at e
    have ea : (p :: A).reverse.map Cm.pairD = A.reverse.map Cm.pairD ++ [Cm.pairD p] := by simp
    have eb : (q :: B).reverse.map Cm.pairD = B.reverse.map Cm.pairD ++ [Cm.pairD q] := by simp
    rw [ea, eb]
    generalize A.reverse.map Cm.pairD ++ [Cm.pairD p] = LA at i1
    generalize B.reverse.map Cm.pairD ++ [Cm.pairD q] = LB at i2
    simp -implicitDefEqProofs [whileN, i1, i2, e]
  | @go p A B g ih =>
    intro k hk
    simp only [List.length_cons] at hk hA hB
    obtain ⟨k, rfl⟩ : ∃ j, k = j + 1 := ⟨k - 1, by omega⟩
    obtain ⟨A1, B1, p1, q1, l1, l2, h1, h2⟩ := ih (by omega) (by omega) k (by omega)
    refine ⟨A1, B1, p1, q1, l1, l2, by rw [gaR, if_pos rfl]; exact h1, fun st => ?_⟩
    have h3 := h2 st
    have i1 := fIx_lastD (A.reverse.map Cm.pairD) (Cm.pairD p)
    have i2 := fIx_lastD (B.reverse.map Cm.pairD) (Cm.pairD p)
    have e := fEq_pair p p
    rw [decide_eq_true rfl] at e
    have ea : (p :: A).reverse.map Cm.pairD = A.reverse.map Cm.pairD ++ [Cm.pairD p] := by simp
    have eb : (p :: B).reverse.map Cm.pairD = B.reverse.map Cm.pairD ++ [Cm.pairD p] := by simp
    have m1 : mPop (A.reverse.map Cm.pairD ++ [Cm.pairD p]) [] = some (Cm.pairD p, A.reverse.map Cm.pairD) := by simp [mPop]
    have m2 : mPop (B.reverse.map Cm.pairD ++ [Cm.pairD p]) [] = some (Cm.pairD p, B.reverse.map Cm.pairD) := by simp [mPop]
    have z1 : (A.reverse.map Cm.pairD).length ≤ 1000000 := by simp; omega
    have z2 : (B.reverse.map Cm.pairD).length ≤ 1000000 := by simp; omega
    rw [ea, eb]
    generalize A.reverse.map Cm.pairD ++ [Cm.pairD p] = LA at i1 m1
    generalize B.reverse.map Cm.pairD ++ [Cm.pairD p] = LB at i2 m2
    generalize A.reverse.map Cm.pairD = LA' at h3 m1 z1
    generalize B.reverse.map Cm.pairD = LB' at h3 m2 z2
    simp -implicitDefEqProofs [whileN, i1, i2, e, m1, m2, z1, z2]
    simpa using h3
theorem apart_spec {mine its : List (Int × Int)} (g : GaOk mine.reverse its.reverse) (hA : mine.length ≤ 1000) (hB : its.length ≤ 1000) (st : Sto) :
    f_greatest_apart [.d (.tuple (mine.map Cm.pairD)), .d (.tuple (its.map Cm.pairD))] st = some (.d (.int (gaR mine.reverse its.reverse)), st) := by
  obtain ⟨A1, B1, p, q, l1, l2, h1, h2⟩ := ga_loop (mine := .tuple (mine.map Cm.pairD)) (its := .tuple (its.map Cm.pairD)) g (by simpa using hA) (by simpa using hB) lim (by simp; omega)
  revert st
  apply pure_lift
  intro st
  have h3 := h2 st
  rw [List.reverse_reverse, List.reverse_reverse] at h3
  simp only [lim_eq] at h3
  have i1 := fIx_lastD (A1.map Cm.pairD) (Cm.pairD p)
  have i2 := fIx_lastD (B1.map Cm.pairD) (Cm.pairD q)
  generalize A1.map Cm.pairD ++ [Cm.pairD p] = LA at i1 h3
  generalize B1.map Cm.pairD ++ [Cm.pairD q] = LB at i2 h3
  generalize mine.map Cm.pairD = LM at h3 ⊢
  generalize its.map Cm.pairD = LI at h3 ⊢
  have t1 : Cm.pairD p = .tuple [.int p.1, .int p.2] := rfl
  have t2 : Cm.pairD q = .tuple [.int q.1, .int q.2] := rfl
  rw [t1] at i1
  rw [t2] at i2
  rw [h1]
  by_cases c : p.2 = q.2
  · rw [if_pos c]
    simp -implicitDefEqProofs [f_greatest_apart, defS_ap, b_greatest_apart, cWhile, h3, i1, i2, c]
  · rw [if_neg c]
    simp -implicitDefEqProofs [f_greatest_apart, defS_ap, b_greatest_apart, cWhile, h3, i1, i2, c]
end My

set_option Elab.async false
set_option linter.all false
set_option maxRecDepth 100000
set_option maxHeartbeats 4000000
namespace My
open PySem PySem.Spec PyProof.Rows L2 Cm
theorem mem_expand {ps : List (Int × Int)} {p : Int × Int} (h : p ∈ ps) {n : Int} (h1 : p.1 ≤ n) (h2 : n ≤ p.2) : n ∈ expand ps := by
  unfold expand
  exact List.mem_flatMap.mpr ⟨p, h, rangeI_mem.mpr ⟨h1, by omega⟩⟩
theorem fil_top {row : List Int} {l T : Int} {ps : List (Int × Int)} (hl : 1 ≤ l) (h : fil row l = some ps) (hT : ∀ x ∈ row, x ≤ T) : ∀ r ∈ ps, r.2 ≤ T := by
  intro r hr
  obtain ⟨w, g⟩ := fil_wb hl h
  have hm := mem_expand hr (w.le r hr) (Int.le_refl _)
  rw [fil_nums hl h] at hm
  have hd := recs_desc row
  cases hc : recs row with
  | nil => rw [hc] at hm; cases hm
  | cons b rest =>
    have h1 := nums_le hd b rest hc r.2 hm
    have h2 := hT b (recs_sub b (by rw [hc]; simp))
    omega
theorem ga_le {mine its : List (Int × Int)} {x0 y0 : Int × Int} {X' Y' : List (Int × Int)} {l T : Int} (hl : 1 ≤ l) (wX : Wb l mine) (wY : Wb l its)
    (hX0 : mine = x0 :: X') (hY0 : its = y0 :: Y') (h0 : x0.1 = y0.1) (hne : mine ≠ its) (h1 : ∀ r ∈ mine, r.2 ≤ T) (h2 : ∀ r ∈ its, r.2 ≤ T) : gaR mine.reverse its.reverse ≤ T := by
  obtain ⟨pre1, pre2, suf, p, q, e1, e2, hpq, hg⟩ := gaR_spec hl mine.reverse its.reverse [] (by simpa using wX) (by simpa using wY) (fun h => hne (by simpa using congrArg List.reverse h)) (by rw [hX0]; simp) (by rw [hY0]; simp) (by
    intro p q hp hq
    rw [hX0] at hp
    rw [hY0] at hq
    simp at hp hq
    subst hp hq
    exact h0)
  rw [List.append_nil, List.reverse_reverse] at e1 e2
  have m1 : p ∈ mine := by rw [e1]; simp
  have m2 : q ∈ its := by rw [e2]; simp
  have a1 := h1 p m1
  have a2 := h2 q m2
  have b1 := wX.le p m1
  have b2 := wY.le q m2
  rw [hg]
  split
  · split <;> omega
  · split <;> omega
theorem total_le (n l : Int) (o : Option Int) : totalOf n l o ≤ n := by
  cases o with
  | none => exact Int.le_refl _
  | some a =>
    show (if a - l < n then a - l else n) ≤ n
    split <;> omega
theorem fil_nil {row : List Int} {l : Int} (h : fil row l = some []) : row = [] := by
  cases row with
  | nil => rfl
  | cons x xs =>
    exfalso
    unfold fil at h
    split at h
    · cases h
    · have h2 : joinB l (dbl (sortI (recs (x :: xs)))) = [] := by injection h
      have hr : recs (x :: xs) ≠ [] := by
        intro h0
        have := recs_last (x :: xs)
        rw [h0] at this
        cases this
      have hs : sortI (recs (x :: xs)) ≠ [] := by
        intro h0
        have := sortI_len (recs (x :: xs))
        rw [h0] at this
        exact hr (List.length_eq_zero_iff.mp this.symm)
      rcases List.eq_nil_or_concat (sortI (recs (x :: xs))) with h3 | ⟨a, b, h3⟩
      · exact hs h3
      · rw [h3, List.concat_eq_append] at h2
        have e0 : joinB l (dbl (a ++ [b])) = jstep l (joinB l (dbl a)) (b, b) := by simp [joinB, dbl]
        rw [e0, jstep] at h2
        split at h2
        · simp at h2
        · split at h2 <;> simp at h2
theorem low_all {l : Int} {p0 : Int × Int} {ps : List (Int × Int)} (hl : 1 ≤ l) (w : Wb l (p0 :: ps)) : ∀ n ∈ expand (p0 :: ps), p0.1 ≤ n := by
  refine expand_ge (l := l) ?_
  intro r hr
  rcases List.mem_cons.mp hr with rfl | hr
  · exact Int.le_refl _
  · have h1 := (List.pairwise_cons.mp w.apart).1 r hr
    have h2 := w.le p0 (by simp)
    omega
theorem any_low {l c : Int} {p0 : Int × Int} {ps : List (Int × Int)} (hl : 1 ≤ l) (w : Wb l (p0 :: ps)) : ((expand (p0 :: ps)).reverse.any fun m => decide (m < c)) = decide (p0.1 < c) := by
  rw [Bool.eq_iff_iff, List.any_eq_true]
  constructor
  · rintro ⟨m, hm, hc⟩
    have := low_all hl w m (List.mem_reverse.mp hm)
    have := of_decide_eq_true hc
    exact decide_eq_true (by omega)
  · intro h
    exact ⟨p0.1, List.mem_reverse.mpr (mem_expand (List.mem_cons_self) (Int.le_refl _) (w.le p0 (by simp))), h⟩
theorem lone_of {row : List Int} {l : Int} : fil row l = none ↔ lone row l = true := by
  unfold fil
  constructor
  · intro h
    by_cases c : lone row l = true
    · exact c
    · rw [if_neg c] at h; cases h
  · intro h
    rw [if_pos h]
theorem fIx_c (z : PyData) (zs : List PyData) : fIx (.tuple (z :: zs)) (.int 0) = some z := fIx_tuple (z :: zs) 0 (by simp)
theorem eqv_bD {a b : Option (List (Int × Int))} : PyData.eqv (bD a) (bD b) = decide (a = b) := by
  have key : ∀ ps qs : List (Int × Int), PyData.eqv (.tuple (ps.map Cm.pairD)) (.tuple (qs.map Cm.pairD)) = decide (ps = qs) := by
    intro ps
    induction ps with
    | nil => intro qs; cases qs <;> rfl
    | cons p ps ih =>
      intro qs
      cases qs with
      | nil => rfl
      | cons q qs =>
        have e1 : PyData.eqv (.tuple ((p :: ps).map Cm.pairD)) (.tuple ((q :: qs).map Cm.pairD)) = (PyData.eqv (Cm.pairD p) (Cm.pairD q) && PyData.eqv (.tuple (ps.map Cm.pairD)) (.tuple (qs.map Cm.pairD))) := rfl
        have e2 := fEq_pair p q
        unfold fEq at e2
        rw [shp_shaped (shp_pair p) (by omega), shp_shaped (shp_pair q) (by omega)] at e2
        have e3 : PyData.eqv (Cm.pairD p) (Cm.pairD q) = decide (p = q) := by
          simp only [Bool.and_self, if_true, Option.some.injEq, PyData.bool.injEq] at e2
          exact e2
        rw [e1, e3, ih]
        by_cases c1 : p = q
        · by_cases c2 : ps = qs
          · simp [c1, c2]
          · simp [c1, c2]
        · simp [c1]
  cases a with
  | none => cases b <;> rfl
  | some ps => cases b with
    | none => rfl
    | some qs =>
      have := key ps qs
      show PyData.eqv (.tuple (ps.map Cm.pairD)) (.tuple (qs.map Cm.pairD)) = decide (some ps = some qs)
      rw [this]
      by_cases c : ps = qs
      · simp [c]
      · simp [c]
theorem fEq_bD (a b : Option (List (Int × Int))) : fEq (bD a) (bD b) = some (.bool (decide (a = b))) := by
  unfold fEq
  rw [shp_shaped (shp_bD _) (by omega), shp_shaped (shp_bD _) (by omega), eqv_bD]
  rfl
theorem parting_same {x y : PyData} {row oth : List Int} {l : Int} (hx : Sq x (iL row)) (hy : Sq y (iL oth)) (h1 : row.length ≤ 1000) (h2 : oth.length ≤ 1000) (h : fil row l = fil oth l) (st : Sto) :
    f_parting [.d x, .d y, .d (.int l)] st = some (.d .none, st) := by
  have f1 := filling_spec (l := l) hx h1
  have f2 := filling_spec (l := l) hy h2
  have e := fEq_bD (fil row l) (fil oth l)
  rw [h, decide_eq_true rfl] at e
  rw [h] at f1
  revert st
  apply pure_lift
  intro st
  simp -implicitDefEqProofs [f_parting, defS_ap, b_parting, f1, f2, e]
theorem isNone_bD (o : Option (List (Int × Int))) : isNone (bD o) = o.isNone := by cases o <;> rfl
theorem parting_spec {x y : PyData} {row oth : List Int} {l : Int} (hx : Sq x (iL row)) (hy : Sq y (iL oth)) (h1 : row.length ≤ 1000) (h2 : oth.length ≤ 1000) (hl : 1 ≤ l) (hne : fil row l ≠ fil oth l) :
    ∃ (pb : List Int) (a : Int), (pb = [a, l] ∨ pb = [a, l, l]) ∧ l ≤ a ∧ (∀ T, l ≤ T → (∀ x ∈ row, x ≤ T) → (∀ x ∈ oth, x ≤ T) → a ≤ T) ∧ (places pb row).length ≠ (places pb oth).length ∧ ∀ st : Sto, f_parting [.d x, .d y, .d (.int l)] st = some (.d (.tuple (iL pb)), st) := by
  have f1 := filling_spec (l := l) hx h1
  have f2 := filling_spec (l := l) hy h2
  have e := fEq_bD (fil row l) (fil oth l)
  rw [decide_eq_false hne] at e
  have p2 : ∀ (row : List Int) (ps : List (Int × Int)) (p0 : Int × Int) (a : Int), l ≤ a → fil row l = some (p0 :: ps) → places [a, l] row = if p0.1 < a + l then [1] else [] := by
    intro row ps p0 a ha hf
    rw [places_expand (l := l) (by intro x hx; simp at hx; rcases hx with rfl | rfl <;> omega) hl (by simp) hf, places2, any_low hl (fil_wb hl hf).1]
    simp
  have pnone : ∀ row : List Int, fil row l = none → (places [l, l] row).length = 1 := by
    intro row hf
    rw [places2]
    have := lone_of.mp hf
    unfold lone at this
    have e2 : (row.any fun m => decide (m < l + l)) = true := by
      have : (fun m => decide (m < l + l)) = (fun m => decide (m < 2 * l)) := by
        funext m
        have : l + l = 2 * l := by omega
        rw [this]
      rw [this]
      assumption
    rw [e2]
    rfl
  have psome : ∀ (row : List Int) (ps : List (Int × Int)), fil row l = some ps → (places [l, l] row).length = 0 := by
    intro row ps hf
    rw [places2]
    have hn : ¬ lone row l = true := fun h => by rw [lone_of.mpr h] at hf; cases hf
    unfold lone at hn
    have e2 : (row.any fun m => decide (m < l + l)) = false := by
      have : (fun m => decide (m < l + l)) = (fun m => decide (m < 2 * l)) := by
        funext m
        have : l + l = 2 * l := by omega
        rw [this]
      rw [this]
      simpa using hn
    rw [e2]
    rfl
  cases hA : fil row l with
  | none =>
    rw [hA] at f1 e hne
    cases hB : fil oth l with
    | none => exact absurd hB.symm hne
    | some its =>
      rw [hB] at f2 e
      refine ⟨[l, l], l, .inl rfl, Int.le_refl _, fun T h _ _ => h, ?_, ?_⟩
      · rw [pnone row hA, psome oth its hB]
        omega
      · apply pure_lift
        intro st
        have n1 := isNone_bD none
        simp -implicitDefEqProofs [f_parting, defS_ap, b_parting, f1, f2, e, n1]
  | some mine =>
    rw [hA] at f1 e hne
    obtain ⟨wA, gA⟩ := fil_wb hl hA
    have lA : mine.length ≤ 1000 := by have := fil_len hA; omega
    cases hB : fil oth l with
    | none =>
      rw [hB] at f2 e
      refine ⟨[l, l], l, .inl rfl, Int.le_refl _, fun T h _ _ => h, ?_, ?_⟩
      · rw [pnone oth hB, psome row mine hA]
        omega
      · apply pure_lift
        intro st
        have n1 := isNone_bD none
        have n2 := isNone_bD (some mine)
        simp -implicitDefEqProofs [f_parting, defS_ap, b_parting, f1, f2, e, n1, n2]
    | some its =>
      rw [hB] at f2 e hne
      obtain ⟨wB, gB⟩ := fil_wb hl hB
      have lB : its.length ≤ 1000 := by have := fil_len hB; omega
      have n1 := isNone_bD (some mine)
      have n2 := isNone_bD (some its)
      have z1 := fEq_nilT (shp_pairs (x := .tuple (mine.map Cm.pairD)) (.inl rfl)) (by omega)
      have z2 := fEq_nilT (shp_pairs (x := .tuple (its.map Cm.pairD)) (.inl rfl)) (by omega)
      have lm : (mine.map Cm.pairD).length + (its.map Cm.pairD).length ≤ 1000000 := by simp; omega
      have tops : ∀ T, (∀ x ∈ row, x ≤ T) → (∀ x ∈ oth, x ≤ T) → (∀ r ∈ mine, r.2 ≤ T) ∧ (∀ r ∈ its, r.2 ≤ T) := fun T t1 t2 => ⟨fil_top hl hA t1, fil_top hl hB t2⟩
      have bb1 : bD (some mine) = .tuple (mine.map Cm.pairD) := rfl
      have bb2 : bD (some its) = .tuple (its.map Cm.pairD) := rfl
      cases hm : mine with
      | nil =>
        rw [hm] at hA hne
        have r0 := fil_nil hA
        cases hi : its with
        | nil => rw [hi] at hne; exact absurd rfl hne
        | cons q0 its' =>
          rw [hi] at hB wB gB tops
          have hq := gB q0 (by simp)
          have hq2 := wB.le q0 (by simp)
          refine ⟨[q0.1 + 1 - l, l], q0.1 + 1 - l, .inl rfl, by omega, fun T _ t1 t2 => by have := (tops T t1 t2).2 q0 (by simp); omega, ?_, ?_⟩
          · rw [p2 oth its' q0 _ (by omega) hB, r0, if_pos (by omega)]
            show (places _ []).length ≠ 1
            simp [places]
          · apply pure_lift
            intro st
            rw [hm] at f1 e n1 z1 lm
            rw [hi] at f2 e n2 z2 lm
            have i0 := fIx_c (Cm.pairD q0) (its'.map Cm.pairD)
            have i1 : fIx (Cm.pairD q0) (.int 0) = some (.int q0.1) := rfl
            simp only [bD, List.map_nil, List.map_cons] at f1 f2 e n1 n2 z1 z2
            have z1' : fEq (.tuple []) (.tuple []) = some (.bool true) := rfl
            simp at lm
            simp -implicitDefEqProofs [f_parting, defS_ap, b_parting, f1, f2, e, n1, n2, z1', i0, i1, lm]
      | cons p0 mine' =>
        rw [hm] at hA hne wA gA tops
        have hp := gA p0 (by simp)
        have hp2 := wA.le p0 (by simp)
        have i0 := fIx_c (Cm.pairD p0) (mine'.map Cm.pairD)
        have i1 : fIx (Cm.pairD p0) (.int 0) = some (.int p0.1) := rfl
        cases hi : its with
        | nil =>
          rw [hi] at hB
          have r0 := fil_nil hB
          refine ⟨[p0.1 + 1 - l, l], p0.1 + 1 - l, .inl rfl, by omega, fun T _ t1 t2 => by have := (tops T t1 t2).1 p0 (by simp); omega, ?_, ?_⟩
          · rw [p2 row mine' p0 _ (by omega) hA, r0, if_pos (by omega)]
            show 1 ≠ (places _ []).length
            simp [places]
          · apply pure_lift
            intro st
            rw [hm] at f1 e n1 z1 lm
            rw [hi] at f2 e n2 z2 lm
            simp only [bD, List.map_nil, List.map_cons, List.isEmpty_cons] at f1 f2 e n1 n2 z1 z2
            have z2' : fEq (.tuple []) (.tuple []) = some (.bool true) := rfl
            simp at lm
            simp -implicitDefEqProofs [f_parting, defS_ap, b_parting, f1, f2, e, n1, n2, z1, z2', i0, i1, lm]
        | cons q0 its' =>
          rw [hi] at hB hne wB gB tops
          have hq := gB q0 (by simp)
          have hq2 := wB.le q0 (by simp)
          have j0 := fIx_c (Cm.pairD q0) (its'.map Cm.pairD)
          have j1 : fIx (Cm.pairD q0) (.int 0) = some (.int q0.1) := rfl
          have hneL : (p0 :: mine') ≠ (q0 :: its') := fun h => hne (by rw [h])
          by_cases c : p0.1 = q0.1
          · obtain ⟨u1, u2⟩ := part_unlike hl wA wB gA gB rfl rfl c hneL
            have gok := ga_ok hl (p0 :: mine').reverse (q0 :: its').reverse [] (by simpa using wA) (by simpa using wB) (fun h => hneL (by simpa using congrArg List.reverse h)) (by simp) (by simp) (by
              intro p q hp hq
              simp at hp hq
              subst hp hq
              exact c)
            rw [hm] at lA
            rw [hi] at lB
            have ga := apart_spec gok lA lB
            have gl := fun T (t1 : ∀ x ∈ row, x ≤ T) (t2 : ∀ x ∈ oth, x ≤ T) => ga_le (T := T) hl wA wB rfl rfl c hneL (tops T t1 t2).1 (tops T t1 t2).2
            have ho := holds_spec (some (p0 :: mine')) (gaR (p0 :: mine').reverse (q0 :: its').reverse) lA
            have ab1 := above_spec (some (p0 :: mine')) (gaR (p0 :: mine').reverse (q0 :: its').reverse) lA
            have ab2 := above_spec (some (q0 :: its')) (gaR (p0 :: mine').reverse (q0 :: its').reverse) lB
            have ex1 := places_expand (b := partL (p0 :: mine') (q0 :: its') l) u2 hl (by simp [partL]) hA
            have ex2 := places_expand (b := partL (p0 :: mine') (q0 :: its') l) u2 hl (by simp [partL]) hB
            refine ⟨partL (p0 :: mine') (q0 :: its') l, _, .inr rfl, u2 _ (by simp [partL]), fun T _ t1 t2 => ?_, by rw [ex1, ex2]; exact u1, ?_⟩
            · have := gl T t1 t2
              have := total_le (gaR (p0 :: mine').reverse (q0 :: its').reverse) l (abv (if holdsB (p0 :: mine') (gaR (p0 :: mine').reverse (q0 :: its').reverse) then p0 :: mine' else q0 :: its') (gaR (p0 :: mine').reverse (q0 :: its').reverse)).head?
              omega
            · apply pure_lift
              intro st
              rw [hm] at f1 e n1 z1
              rw [hi] at f2 e n2 z2
              unfold partL
              simp only [Option.getD_some] at ho ab1 ab2
              simp only [bD, List.map_cons, List.isEmpty_cons] at f1 f2 e n1 n2 z1 z2 ga ho ab1 ab2
              generalize gaR (p0 :: mine').reverse (q0 :: its').reverse = n at ga ho ab1 ab2 ⊢
              by_cases hh : holdsB (p0 :: mine') n = true
              · rw [hh] at ho
                rw [if_pos hh]
                cases hab : (abv (p0 :: mine') n).head? with
                | none =>
                  rw [hab] at ab1
                  simp only [oD] at ab1
                  simp -implicitDefEqProofs [f_parting, defS_ap, b_parting, f1, f2, e, n1, n2, z1, z2, i0, i1, j0, j1, c, ga, ho, ab1, totalOf, isNone]
                | some v =>
                  rw [hab] at ab1
                  simp only [oD] at ab1
                  simp -implicitDefEqProofs [f_parting, defS_ap, b_parting, f1, f2, e, n1, n2, z1, z2, i0, i1, j0, j1, c, ga, ho, ab1, totalOf, isNone]
              · have hh' : holdsB (p0 :: mine') n = false := by simpa using hh
                rw [hh'] at ho
                rw [if_neg hh]
                cases hab : (abv (q0 :: its') n).head? with
                | none =>
                  rw [hab] at ab2
                  simp only [oD] at ab2
                  simp -implicitDefEqProofs [f_parting, defS_ap, b_parting, f1, f2, e, n1, n2, z1, z2, i0, i1, j0, j1, c, ga, ho, ab2, totalOf, isNone]
                | some v =>
                  rw [hab] at ab2
                  simp only [oD] at ab2
                  simp -implicitDefEqProofs [f_parting, defS_ap, b_parting, f1, f2, e, n1, n2, z1, z2, i0, i1, j0, j1, c, ga, ho, ab2, totalOf, isNone]
          · refine ⟨[(if q0.1 > p0.1 then q0.1 else p0.1) - l, l], (if q0.1 > p0.1 then q0.1 else p0.1) - l, .inl rfl, by split <;> omega, fun T _ t1 t2 => by
              have a1 := (tops T t1 t2).1 p0 (by simp)
              have a2 := (tops T t1 t2).2 q0 (by simp)
              split <;> omega, ?_, ?_⟩
            · rw [p2 row mine' p0 _ (by split <;> omega) hA, p2 oth its' q0 _ (by split <;> omega) hB]
              by_cases d : q0.1 > p0.1
              · rw [if_pos d, if_pos (by omega), if_neg (by omega)]
                simp
              · rw [if_neg d, if_neg (by omega), if_pos (by omega)]
                simp
            · apply pure_lift
              intro st
              rw [hm] at f1 e n1 z1
              rw [hi] at f2 e n2 z2
              simp only [bD, List.map_cons, List.isEmpty_cons] at f1 f2 e n1 n2 z1 z2
              simp -implicitDefEqProofs [f_parting, defS_ap, b_parting, f1, f2, e, n1, n2, z1, z2, i0, i1, j0, j1, c]
end My

set_option Elab.async false
set_option linter.all false
set_option maxRecDepth 100000
set_option maxHeartbeats 4000000
namespace My
open PySem PySem.Spec PyProof.Rows L2 Cm
theorem alike_spec {x y : PyData} {row other : List Int} {l : Int} (hx : Sq x (iL row)) (hy : Sq y (iL other)) (h1 : row.length ≤ 1000) (h2 : other.length ≤ 1000) (st : Sto) :
    f_alike [.d x, .d y, .d (.int l)] st = some (.d (.bool (decide (fil row l = fil other l))), st) := by
  have f1 := filling_spec (l := l) hx h1
  have f2 := filling_spec (l := l) hy h2
  have e := fEq_bD (fil row l) (fil other l)
  revert st
  apply pure_lift
  intro st
  simp -implicitDefEqProofs [f_alike, defS_ap, b_alike, f1, f2, e]
end My

set_option Elab.async false
set_option linter.all false
set_option maxRecDepth 100000
set_option maxHeartbeats 4000000
namespace My
open PySem PySem.Spec PyProof.Rows L2 Cm
/-- how many steps of l lead from high to low -/
def stp (l lo hi : Int) : Nat := ((hi - lo + l - 1) / l).toNat
def fewC (l lo hi : Int) : List Int := ((List.range (stp l lo hi)).map fun (i : Nat) => hi - (i : Int) * l) ++ [lo]
theorem fewC_len (l lo hi : Int) : (fewC l lo hi).length = stp l lo hi + 1 := by simp [fewC]
theorem stp_lt {l lo hi : Int} (hl : 1 ≤ l) (i : Nat) : i < stp l lo hi ↔ lo < hi - (i : Int) * l := by
  unfold stp
  have h1 : (i < ((hi - lo + l - 1) / l).toNat) ↔ ((i : Int) < (hi - lo + l - 1) / l) := by omega
  rw [h1]
  have h2 : ((i : Int) < (hi - lo + l - 1) / l) ↔ ((i : Int) + 1 ≤ (hi - lo + l - 1) / l) := by omega
  rw [h2, Int.le_ediv_iff_mul_le (by omega), Int.add_mul, Int.one_mul]
  omega
theorem stp_zero {l lo hi : Int} (hl : 1 ≤ l) (h : hi ≤ lo) : stp l lo hi = 0 := by
  rcases Nat.eq_zero_or_pos (stp l lo hi) with h0 | h0
  · exact h0
  · have := (stp_lt (lo := lo) (hi := hi) hl 0).mp h0
    simp at this
    omega
theorem stp_step {l lo a b : Int} (hl : 1 ≤ l) (h : b - a ≤ l) : stp l lo b ≤ stp l lo a + 1 := by
  rcases Nat.lt_or_ge (stp l lo a + 1) (stp l lo b) with c | c
  · exfalso
    have h1 := (stp_lt (lo := lo) (hi := b) hl (stp l lo a + 1)).mp c
    have h2 : ¬ stp l lo a < stp l lo a := Nat.lt_irrefl _
    rw [stp_lt hl] at h2
    have e : ((stp l lo a + 1 : Nat) : Int) * l = (stp l lo a : Int) * l + l := by
      rw [Int.natCast_add, Int.add_mul]
      simp
    rw [e] at h1
    omega
  · exact c
def costB (l : Int) (ps : List (Int × Int)) : Nat := (ps.map fun p => stp l p.1 p.2 + 1).sum
theorem costB_app (l : Int) (ps qs : List (Int × Int)) : costB l (ps ++ qs) = costB l ps + costB l qs := by simp [costB]
theorem cost_join {l : Int} (hl : 1 ≤ l) : ∀ xs : List Int, costB l (joinB l (dbl xs)) ≤ xs.length := by
  refine snoc_ind (by simp [costB, joinB, dbl]) ?_
  intro xs b ih
  have e : joinB l (dbl (xs ++ [b])) = jstep l (joinB l (dbl xs)) (b, b) := by simp [joinB, dbl]
  rw [e, List.length_append]
  have hb : costB l [(b, b)] = 1 := by simp [costB, stp_zero hl (Int.le_refl b)]
  rcases List.eq_nil_or_concat (joinB l (dbl xs)) with h0 | ⟨A, z, h0⟩
  · rw [h0]
    have : jstep l [] (b, b) = [(b, b)] := by simp [jstep]
    rw [this, hb]
    simp
  · rw [List.concat_eq_append] at h0
    rw [h0] at ih ⊢
    have e2 : jstep l (A ++ [z]) (b, b) = if b - z.2 ≤ l then A ++ [(z.1, b)] else A ++ [z] ++ [(b, b)] := by simp [jstep]
    rw [e2]
    by_cases c : b - z.2 ≤ l
    · rw [if_pos c]
      rw [costB_app] at ih ⊢
      have h1 : costB l [z] = stp l z.1 z.2 + 1 := by simp [costB]
      have h2 : costB l [(z.1, b)] = stp l z.1 b + 1 := by simp [costB]
      have := stp_step (lo := z.1) hl c
      rw [h1] at ih
      rw [h2]
      simp
      omega
    · rw [if_neg c, costB_app, hb]
      simp
      omega
def told (l : Int) (ps : List (Int × Int)) : List Int := ps.reverse.flatMap fun p => fewC l p.1 p.2
theorem told_snoc (l : Int) (ps : List (Int × Int)) (p : Int × Int) : told l (ps ++ [p]) = fewC l p.1 p.2 ++ told l ps := by simp [told]
theorem told_len (l : Int) (ps : List (Int × Int)) : (told l ps).length = costB l ps := by
  rw [← List.reverse_reverse ps]
  induction ps.reverse with
  | nil => rfl
  | cons p rs ih =>
    rw [List.reverse_cons, told_snoc, List.length_append, fewC_len, ih, costB_app]
    simp [costB]
    omega
theorem fewC_mem {l lo hi x : Int} (hl : 1 ≤ l) (h : lo ≤ hi) (hx : x ∈ fewC l lo hi) : lo ≤ x ∧ x ≤ hi := by
  unfold fewC at hx
  rcases List.mem_append.mp hx with hx | hx
  · obtain ⟨i, hi', rfl⟩ := List.mem_map.mp hx
    have h1 := (stp_lt hl i).mp (List.mem_range.mp hi')
    have h2 : 0 ≤ (i : Int) * l := Int.mul_nonneg (by omega) (by omega)
    omega
  · have : x = lo := by simpa using hx
    omega
theorem fewC_desc {l lo hi : Int} (hl : 1 ≤ l) : (fewC l lo hi).Pairwise (· > ·) := by
  unfold fewC
  rw [List.pairwise_append]
  refine ⟨?_, by simp, ?_⟩
  · rw [List.pairwise_map]
    refine List.pairwise_lt_range.imp ?_
    intro a b hab
    have : (a : Int) * l < (b : Int) * l := Int.mul_lt_mul_of_pos_right (by omega) (by omega)
    omega
  · intro x hx y hy
    obtain ⟨i, hi', rfl⟩ := List.mem_map.mp hx
    have h1 := (stp_lt hl i).mp (List.mem_range.mp hi')
    have : y = lo := by simpa using hy
    omega
theorem told_mem {l x : Int} (hl : 1 ≤ l) {ps : List (Int × Int)} (w : Wb l ps) (hx : x ∈ told l ps) : ∃ p ∈ ps, p.1 ≤ x ∧ x ≤ p.2 := by
  unfold told at hx
  obtain ⟨p, hp, hx⟩ := List.mem_flatMap.mp hx
  have hp' := List.mem_reverse.mp hp
  exact ⟨p, hp', fewC_mem hl (w.le p hp') hx⟩
theorem told_desc {l : Int} (hl : 1 ≤ l) : ∀ rs : List (Int × Int), Wb l rs.reverse → (told l rs.reverse).Pairwise (· > ·)
  | [], _ => List.Pairwise.nil
  | p :: rs, w => by
    rw [List.reverse_cons] at w ⊢
    have w' : Wb l rs.reverse := ⟨fun q hq => w.le q (List.mem_append_left _ hq), (List.pairwise_append.mp w.apart).1⟩
    rw [told_snoc, List.pairwise_append]
    refine ⟨fewC_desc hl, told_desc hl rs w', ?_⟩
    intro x hx y hy
    have h1 := fewC_mem hl (w.le p (by simp)) hx
    obtain ⟨q, hq, h2, h3⟩ := told_mem hl w' hy
    have h4 := (List.pairwise_append.mp w.apart).2.2 q hq p (by simp)
    omega
theorem recs_id : ∀ fs : List Int, fs.Pairwise (· > ·) → recs fs = fs := by
  refine snoc_ind (fun _ => rfl) ?_
  intro xs x ih h
  have h' := List.pairwise_append.mp h
  rw [recs_snoc, ih h'.1, recStep]
  cases hg : xs.getLast? with
  | none => rfl
  | some m =>
    have := h'.2.2 m (List.mem_of_getLast? hg) x (by simp)
    simp only [if_pos (show x < m from this)]
/-- a chain of steps of at most l is joined to one block -/
def Ch (l : Int) : Int → List Int → Prop
  | _, [] => True
  | a, y :: ys => a < y ∧ y - a ≤ l ∧ Ch l y ys
def lastD (a : Int) : List Int → Int
  | [] => a
  | y :: ys => lastD y ys
theorem chain_join {l : Int} : ∀ (ys : List Int) (q a : Int) (acc : List (Int × Int)), Ch l a ys → (dbl ys).foldl (jstep l) (acc ++ [(q, a)]) = acc ++ [(q, lastD a ys)]
  | [], q, a, acc, _ => rfl
  | y :: ys, q, a, acc, h => by
    have e : dbl (y :: ys) = (y, y) :: dbl ys := rfl
    have ej : jstep l (acc ++ [(q, a)]) (y, y) = acc ++ [(q, y)] := by simp [jstep, h.2.1]
    rw [e, List.foldl_cons, ej]
    exact chain_join ys q y acc h.2.2
theorem ch_down {l hi : Int} (hl : 1 ≤ l) : ∀ n : Nat, Ch l (hi - (n : Int) * l) ((List.range n).reverse.map fun (i : Nat) => hi - (i : Int) * l) ∧ lastD (hi - (n : Int) * l) ((List.range n).reverse.map fun (i : Nat) => hi - (i : Int) * l) = hi
  | 0 => by simp [Ch, lastD]
  | n + 1 => by
    obtain ⟨h1, h2⟩ := ch_down (hi := hi) hl n
    rw [List.range_succ, List.reverse_append]
    have e : ((n + 1 : Nat) : Int) * l = (n : Int) * l + l := by
      rw [Int.natCast_add, Int.add_mul]
      simp
    have g1 : hi - ((n + 1 : Nat) : Int) * l < hi - (n : Int) * l := by omega
    have g2 : (hi - (n : Int) * l) - (hi - ((n + 1 : Nat) : Int) * l) ≤ l := by omega
    exact ⟨⟨g1, g2, h1⟩, h2⟩
theorem few_chain {l lo hi : Int} (hl : 1 ≤ l) (h : lo ≤ hi) : ∃ ys, (fewC l lo hi).reverse = lo :: ys ∧ Ch l lo ys ∧ lastD lo ys = hi := by
  refine ⟨(List.range (stp l lo hi)).reverse.map fun (i : Nat) => hi - (i : Int) * l, by simp [fewC, List.map_reverse], ?_⟩
  cases hN : stp l lo hi with
  | zero =>
    refine ⟨trivial, ?_⟩
    have : ¬ 0 < stp l lo hi := by omega
    rw [stp_lt hl] at this
    simp at this
    show lo = hi
    omega
  | succ n =>
    obtain ⟨h1, h2⟩ := ch_down (hi := hi) hl n
    have g1 := (stp_lt (lo := lo) (hi := hi) hl n).mp (by omega)
    have g2 : ¬ n + 1 < stp l lo hi := by omega
    rw [stp_lt hl] at g2
    have e : ((n + 1 : Nat) : Int) * l = (n : Int) * l + l := by
      rw [Int.natCast_add, Int.add_mul]
      simp
    rw [e] at g2
    rw [List.range_succ, List.reverse_append]
    have g3 : hi - (n : Int) * l - lo ≤ l := by omega
    exact ⟨⟨g1, g3, h1⟩, h2⟩
theorem told_join {l : Int} (hl : 1 ≤ l) : ∀ rs : List (Int × Int), Wb l rs.reverse → joinB l (dbl (told l rs.reverse).reverse) = rs.reverse
  | [], _ => rfl
  | p :: rs, w => by
    rw [List.reverse_cons] at w ⊢
    have w' : Wb l rs.reverse := ⟨fun q hq => w.le q (List.mem_append_left _ hq), (List.pairwise_append.mp w.apart).1⟩
    have ih := told_join hl rs w'
    obtain ⟨ys, e1, e2, e3⟩ := few_chain hl (w.le p (by simp))
    rw [told_snoc, List.reverse_append, e1]
    have ed : dbl ((told l rs.reverse).reverse ++ p.1 :: ys) = dbl (told l rs.reverse).reverse ++ ((p.1, p.1) :: dbl ys) := by simp [dbl]
    have ej : joinB l (dbl ((told l rs.reverse).reverse ++ p.1 :: ys)) = (dbl ys).foldl (jstep l) (jstep l (joinB l (dbl (told l rs.reverse).reverse)) (p.1, p.1)) := by
      rw [ed]
      simp [joinB]
    rw [ej, ih]
    have es : jstep l rs.reverse (p.1, p.1) = rs.reverse ++ [(p.1, p.1)] := by
      rcases List.eq_nil_or_concat rs.reverse with h0 | ⟨A, z, h0⟩
      · rw [h0]
        simp [jstep]
      · rw [List.concat_eq_append] at h0
        have := (List.pairwise_append.mp w.apart).2.2 z (by rw [h0]; simp) p (by simp)
        rw [h0]
        have c : ¬ p.1 - z.2 ≤ l := by omega
        simp [jstep, c]
    rw [es, chain_join ys p.1 p.1 rs.reverse e2, e3]
theorem fil_told {row : List Int} {l : Int} {ps : List (Int × Int)} (hl : 1 ≤ l) (h : fil row l = some ps) : fil (told l ps) l = some ps := by
  obtain ⟨w, g⟩ := fil_wb hl h
  have w' : Wb l ps.reverse.reverse := by rw [List.reverse_reverse]; exact w
  have hd := told_desc hl ps.reverse w'
  have hj := told_join hl ps.reverse w'
  rw [List.reverse_reverse] at hd hj
  have hlo : ¬ lone (told l ps) l = true := by
    unfold lone
    intro hc
    obtain ⟨x, hx, hlt⟩ := List.any_eq_true.mp hc
    obtain ⟨p, hp, h1, _⟩ := told_mem hl w hx
    have := g p hp
    have := of_decide_eq_true hlt
    omega
  unfold fil
  rw [if_neg hlo, sort_recs, recs_id _ hd, hj]
theorem fil_told_len {row : List Int} {l : Int} {ps : List (Int × Int)} (hl : 1 ≤ l) (h : fil row l = some ps) : (told l ps).length ≤ row.length := by
  rw [told_len]
  unfold fil at h
  split at h
  · cases h
  · cases h
    have := cost_join hl (sortI (recs row))
    rw [sortI_len] at this
    have := recs_len row
    omega
end My

set_option Elab.async false
set_option linter.all false
set_option maxRecDepth 100000
set_option maxHeartbeats 4000000
namespace My
open PySem PySem.Spec PyProof.Rows L2 Cm
/-- a number put in among falling ones -/
def withL (fs : List Int) (n : Int) : List Int := fs.filter (fun x => decide (n < x)) ++ [n] ++ fs.filter (fun x => decide (x < n))
def insD (n : Int) : List Int → List Int
  | [] => [n]
  | b :: r => if n < b then b :: insD n r else if b = n then b :: r else n :: b :: r
theorem with_ins {n : Int} : ∀ {fs : List Int}, fs.Pairwise (· > ·) → withL fs n = insD n fs
  | [], _ => by simp [withL, insD]
  | b :: r, h => by
    have h' := List.pairwise_cons.mp h
    by_cases c : n < b
    · have ih := with_ins (n := n) h'.2
      rw [insD, if_pos c, ← ih]
      have c2 : ¬ b < n := by omega
      simp [withL, c, c2]
    · rw [insD, if_neg c]
      have f1 : r.filter (fun x => decide (n < x)) = [] := List.filter_eq_nil_iff.mpr (fun x hx => by have := h'.1 x hx; simp; omega)
      by_cases d : b = n
      · have f2 : r.filter (fun x => decide (x < n)) = r := List.filter_eq_self.mpr (fun x hx => by have := h'.1 x hx; simp; omega)
        subst d
        simp [withL, f1, f2]
      · have f2 : r.filter (fun x => decide (x < n)) = r := List.filter_eq_self.mpr (fun x hx => by have := h'.1 x hx; simp; omega)
        have c3 : b < n := by omega
        simp [withL, f1, f2, c, c3, d]
theorem ins_mem {n x : Int} : ∀ {fs : List Int}, x ∈ insD n fs → x = n ∨ x ∈ fs
  | [], h => by simp [insD] at h; exact .inl h
  | b :: r, h => by
    rw [insD] at h
    split at h
    · rcases List.mem_cons.mp h with rfl | h
      · exact .inr List.mem_cons_self
      · rcases ins_mem h with h | h
        · exact .inl h
        · exact .inr (List.mem_cons_of_mem _ h)
    · split at h
      · exact .inr h
      · rcases List.mem_cons.mp h with h | h
        · exact .inl h
        · exact .inr h
theorem ins_has {n : Int} : ∀ fs : List Int, n ∈ insD n fs
  | [] => by simp [insD]
  | b :: r => by
    rw [insD]
    split
    · exact List.mem_cons_of_mem _ (ins_has r)
    · split
      · rename_i d
        rw [d]; exact List.mem_cons_self
      · exact List.mem_cons_self
theorem ins_sup {n x : Int} : ∀ {fs : List Int}, x ∈ fs → x ∈ insD n fs
  | b :: r, h => by
    rw [insD]
    split
    · rcases List.mem_cons.mp h with rfl | h
      · exact List.mem_cons_self
      · exact List.mem_cons_of_mem _ (ins_sup h)
    · split
      · exact h
      · exact List.mem_cons_of_mem _ h
theorem ins_desc {n : Int} : ∀ {fs : List Int}, fs.Pairwise (· > ·) → (insD n fs).Pairwise (· > ·)
  | [], _ => by simp [insD]
  | b :: r, h => by
    have h' := List.pairwise_cons.mp h
    rw [insD]
    split
    · rename_i c
      refine List.pairwise_cons.mpr ⟨fun x hx => ?_, ins_desc h'.2⟩
      rcases ins_mem hx with rfl | hx
      · exact c
      · exact h'.1 x hx
    · split
      · exact h
      · rename_i c d
        refine List.pairwise_cons.mpr ⟨fun x hx => ?_, h⟩
        rcases List.mem_cons.mp hx with rfl | hx
        · show n > x; omega
        · have := h'.1 x hx
          show n > x; omega
theorem ins_len {n : Int} : ∀ fs : List Int, (insD n fs).length ≤ fs.length + 1
  | [] => by simp [insD]
  | b :: r => by
    have := ins_len (n := n) r
    rw [insD]
    split
    · simp; omega
    · split <;> simp
theorem ins_head {n b : Int} {r : List Int} (h : n ≤ b) : ∃ r', insD n (b :: r) = b :: r' := by
  rw [insD]
  split
  · exact ⟨_, rfl⟩
  · split
    · exact ⟨_, rfl⟩
    · omega
theorem not_in {n b : Int} {r : List Int} (hd : (b :: r).Pairwise (· > ·)) (h : b < n) : (b :: r).contains n = false := by
  rw [← Bool.not_eq_true, List.contains_iff_mem]
  intro hm
  rcases List.mem_cons.mp hm with rfl | hm
  · omega
  · have := (List.pairwise_cons.mp hd).1 n hm
    omega
theorem nums_ins {l n : Int} (hl : 1 ≤ l) : ∀ {fs : List Int}, fs.Pairwise (· > ·) → hasB fs l n = true → numsD l (insD n fs) = numsD l fs
  | [], _, h => by simp [hasB, hasGo] at h
  | [a], _, h => by
    have : n = a := by simpa [hasB, hasGo] using h
    subst this
    simp [insD]
  | b :: a :: r, hd, h => by
    have h' := List.pairwise_cons.mp hd
    have hab : a < b := h'.1 a (by simp)
    by_cases c : n < b
    · have nb : (n == b) = false := by simp; omega
      rw [insD, if_pos c]
      by_cases e : a < n
      · have hla : b - a ≤ l := by
          unfold hasB at h
          have g : hasGo l n (b :: a :: r) = some (decide (b - a ≤ l)) := by rw [hasGo, if_pos ⟨e, c⟩]
          rw [List.contains_cons, nb, Bool.false_or, not_in h'.2 e, g] at h
          simpa using h
        have e1 : insD n (a :: r) = n :: a :: r := by rw [insD, if_neg (by omega), if_neg (by omega)]
        have s : rangeI (a + 1) (b - a).toNat = rangeI (a + 1) (n - a).toNat ++ rangeI (n + 1) (b - n).toNat := by
          have := rangeI_split (a + 1) (n - a).toNat (b - n).toNat
          have k1 : (n - a).toNat + (b - n).toNat = (b - a).toNat := by omega
          have k2 : a + 1 + ((n - a).toNat : Int) = n + 1 := by omega
          rw [k1, k2] at this
          exact this
        have n1 : numsD l (b :: n :: a :: r) = numsD l (n :: a :: r) ++ (if b - n ≤ l then rangeI (n + 1) (b - n).toNat else [b]) := by rw [numsD]
        have n2 : numsD l (n :: a :: r) = numsD l (a :: r) ++ (if n - a ≤ l then rangeI (a + 1) (n - a).toNat else [n]) := by rw [numsD]
        have n3 : numsD l (b :: a :: r) = numsD l (a :: r) ++ (if b - a ≤ l then rangeI (a + 1) (b - a).toNat else [b]) := by rw [numsD]
        rw [e1, n1, n2, n3, if_pos (by omega), if_pos (by omega), if_pos hla, s, List.append_assoc]
      · obtain ⟨r', er⟩ := ins_head (r := r) (show n ≤ a by omega)
        have hh : hasB (a :: r) l n = true := by
          unfold hasB at h ⊢
          have g : hasGo l n (b :: a :: r) = hasGo l n (a :: r) := by rw [hasGo, if_neg (by omega)]
          rw [g, List.contains_cons, nb, Bool.false_or] at h
          exact h
        have ih := nums_ins hl h'.2 hh
        rw [er] at ih ⊢
        have n1 : numsD l (b :: a :: r') = numsD l (a :: r') ++ (if b - a ≤ l then rangeI (a + 1) (b - a).toNat else [b]) := by rw [numsD]
        have n3 : numsD l (b :: a :: r) = numsD l (a :: r) ++ (if b - a ≤ l then rangeI (a + 1) (b - a).toNat else [b]) := by rw [numsD]
        rw [n1, n3, ih]
    · by_cases d : b = n
      · rw [insD, if_neg c, if_pos d]
      · exfalso
        unfold hasB at h
        rw [hasGo_below hd b _ rfl (by omega), not_in hd (by omega)] at h
        simp at h
theorem holds_mem {ps : List (Int × Int)} {n : Int} : holdsB ps n = true ↔ n ∈ expand ps := by
  unfold holdsB expand
  rw [List.any_eq_true, List.mem_flatMap]
  constructor
  · rintro ⟨p, hp, h⟩
    simp only [Bool.and_eq_true, decide_eq_true_eq] at h
    exact ⟨p, hp, rangeI_mem.mpr (by omega)⟩
  · rintro ⟨p, hp, h⟩
    have := rangeI_mem.mp h
    refine ⟨p, hp, ?_⟩
    simp only [Bool.and_eq_true, decide_eq_true_eq]
    omega
theorem lone_any {row : List Int} {l : Int} : lone row l = true ↔ ∃ x ∈ row, x < 2 * l := by simp [lone]
theorem fil_desc {fs : List Int} {l : Int} (hl : 1 ≤ l) (h : fs.Pairwise (· > ·)) : fil fs l = if lone fs l then none else some (runsL (numsD l fs)) := by
  unfold fil
  rw [sort_recs, recs_id fs h, (runs_nums hl fs h).1]
theorem put_alike {row : List Int} {l n : Int} (hl : 1 ≤ l) : fil (withL (recs row) n) l = fil row l ↔ (fil row l = none ∨ holdsB ((fil row l).getD []) n = true) := by
  have hd := recs_desc row
  rw [with_ins hd, ← fil_recs row l]
  generalize hf : recs row = fs at hd
  have hg := ins_desc (n := n) hd
  have e1 := fil_desc hl hd
  have e2 := fil_desc hl hg
  have lg : lone (insD n fs) l = true ↔ n < 2 * l ∨ lone fs l = true := by
    rw [lone_any, lone_any]
    constructor
    · rintro ⟨x, hx, h⟩
      rcases ins_mem hx with rfl | hx
      · exact .inl h
      · exact .inr ⟨x, hx, h⟩
    · rintro (h | ⟨x, hx, h⟩)
      · exact ⟨n, ins_has fs, h⟩
      · exact ⟨x, ins_sup hx, h⟩
  by_cases c : lone fs l = true
  · rw [if_pos c] at e1
    rw [if_pos (lg.mpr (.inr c))] at e2
    rw [e1, e2]
    simp
  · rw [if_neg c] at e1
    obtain ⟨w, g⟩ := fil_wb hl e1
    rw [e1, e2]
    simp only [Option.getD_some, reduceCtorEq, false_or]
    rw [holds_mem, (expand_runs _).1]
    by_cases d : n < 2 * l
    · rw [if_pos (lg.mpr (.inl d))]
      constructor
      · intro h; cases h
      · intro h
        have := expand_ge (l := l) g n (by rw [(expand_runs _).1]; exact h)
        omega
    · have : ¬ lone (insD n fs) l = true := by
        intro h
        rcases lg.mp h with h | h
        · exact d h
        · exact c h
      rw [if_neg this]
      constructor
      · intro h
        injection h with h
        have h2 := congrArg expand h
        rw [(expand_runs _).1, (expand_runs _).1] at h2
        rw [← h2, nums_has hl hg]
        unfold hasB
        rw [show (insD n fs).contains n = true from List.contains_iff_mem.mpr (ins_has fs)]
        rfl
      · intro h
        rw [nums_ins hl hd ((nums_has hl hd).mp h)]
/-- a hop ahead of a row -/
theorem recs_cons (n : Int) : ∀ row : List Int, recs (n :: row) = n :: (recs row).filter (fun x => decide (x < n)) := by
  refine snoc_ind (by simp [recs, recStep]) ?_
  intro xs x ih
  rw [← List.cons_append, recs_snoc, ih, recs_snoc]
  have hd := recs_desc xs
  generalize recs xs = R at hd
  rcases List.eq_nil_or_concat R with h0 | ⟨A, m, h0⟩
  · subst h0
    by_cases c : x < n
    · simp [recStep, c]
    · simp [recStep, c]
  · rw [List.concat_eq_append] at h0
    subst h0
    have hA := List.pairwise_append.mp hd
    by_cases c : m < n
    · have e : (A ++ [m]).filter (fun x => decide (x < n)) = A.filter (fun x => decide (x < n)) ++ [m] := by simp [c]
      have e2 : recStep (n :: (A.filter (fun x => decide (x < n)) ++ [m])) x = if x < m then n :: (A.filter (fun x => decide (x < n)) ++ [m]) ++ [x] else n :: (A.filter (fun x => decide (x < n)) ++ [m]) := by
        have : n :: (A.filter (fun x => decide (x < n)) ++ [m]) = (n :: A.filter (fun x => decide (x < n))) ++ [m] := by simp
        rw [this]
        unfold recStep
        rw [List.getLast?_concat]
      have e3 : recStep (A ++ [m]) x = if x < m then A ++ [m] ++ [x] else A ++ [m] := by simp [recStep]
      rw [e, e2, e3]
      by_cases d : x < m
      · have d2 : x < n := by omega
        simp [d, d2, c]
      · simp [d, c]
    · have e : (A ++ [m]).filter (fun x => decide (x < n)) = [] := by
        rw [List.filter_eq_nil_iff]
        intro y hy
        rcases List.mem_append.mp hy with hy | hy
        · have := hA.2.2 y hy m (by simp)
          simp; omega
        · have : y = m := by simpa using hy
          simp; omega
      have e3 : recStep (A ++ [m]) x = if x < m then A ++ [m] ++ [x] else A ++ [m] := by simp [recStep]
      rw [e, e3]
      by_cases d : x < n
      · have d2 : x < m := by omega
        rw [if_pos d2, List.filter_append, e]
        simp [recStep, d]
      · by_cases d2 : x < m
        · rw [if_pos d2, List.filter_append, e]
          simp [recStep, d]
        · rw [if_neg d2, e]
          simp [recStep, d]
def lowB (ps : List (Int × Int)) (n : Int) : List (Int × Int) := (ps.filter fun p => decide (p.1 < n)).map fun p => (p.1, if n - 1 < p.2 then n - 1 else p.2)
theorem join_self {l : Int} : ∀ rs : List (Int × Int), Wb l rs.reverse → joinB l rs.reverse = rs.reverse
  | [], _ => rfl
  | p :: rs, w => by
    rw [List.reverse_cons] at w ⊢
    have w' : Wb l rs.reverse := ⟨fun q hq => w.le q (List.mem_append_left _ hq), (List.pairwise_append.mp w.apart).1⟩
    have ih := join_self rs w'
    have ej : joinB l (rs.reverse ++ [p]) = jstep l (joinB l rs.reverse) p := by simp [joinB]
    rw [ej, ih]
    rcases List.eq_nil_or_concat rs.reverse with h0 | ⟨A, z, h0⟩
    · rw [h0]; simp [jstep]
    · rw [List.concat_eq_append] at h0
      have := (List.pairwise_append.mp w.apart).2.2 z (by rw [h0]; simp) p (by simp)
      rw [h0]
      have c : ¬ p.1 - z.2 ≤ l := by omega
      simp [jstep, c]
theorem low_wb {l n : Int} {ps : List (Int × Int)} (w : Wb l ps) : Wb l (lowB ps n) := by
  refine ⟨?_, ?_⟩
  · intro p hp
    obtain ⟨q, hq, rfl⟩ := List.mem_map.mp hp
    obtain ⟨h1, h2⟩ := List.mem_filter.mp hq
    have := w.le q h1
    simp only [decide_eq_true_eq] at h2
    show q.1 ≤ if n - 1 < q.2 then n - 1 else q.2
    split <;> omega
  · unfold lowB
    rw [List.pairwise_map]
    refine (w.apart.filter _).imp ?_
    intro p q h
    show l < q.1 - (if n - 1 < p.2 then n - 1 else p.2)
    split <;> omega
theorem low_app (ps qs : List (Int × Int)) (n : Int) : lowB (ps ++ qs) n = lowB ps n ++ lowB qs n := by simp [lowB]
theorem low_step {l n b : Int} (hl : 1 ≤ l) (hb : n ≤ b) (ps : List (Int × Int)) : jstep l (lowB (jstep l ps (b, b)) n) (n, n) = jstep l (lowB ps n) (n, n) := by
  have k0 : lowB [(b, b)] n = [] := by
    have : ¬ b < n := by omega
    simp [lowB, this]
  rcases List.eq_nil_or_concat ps with h0 | ⟨A, z, h0⟩
  · subst h0
    have : jstep l [] (b, b) = [(b, b)] := by simp [jstep]
    rw [this, k0]
    rfl
  · rw [List.concat_eq_append] at h0
    subst h0
    obtain ⟨q, h⟩ := z
    by_cases c : b - h ≤ l
    · have e : jstep l (A ++ [(q, h)]) (b, b) = A ++ [(q, b)] := by simp [jstep, c]
      rw [e, low_app, low_app]
      by_cases d : q < n
      · have k1 : lowB [(q, b)] n = [(q, n - 1)] := by
          have : n - 1 < b := by omega
          simp [lowB, d, this]
        have k2 : lowB [(q, h)] n = [(q, if n - 1 < h then n - 1 else h)] := by simp [lowB, d]
        rw [k1, k2]
        have g1 : n - (n - 1) ≤ l := by omega
        have g2 : n - (if n - 1 < h then n - 1 else h) ≤ l := by split <;> omega
        simp only [jstep, List.getLast?_concat, List.dropLast_concat, if_pos g1, if_pos g2]
      · have k1 : ∀ h : Int, lowB [(q, h)] n = [] := by intro h; simp [lowB, d]
        rw [k1, k1]
    · have e : jstep l (A ++ [(q, h)]) (b, b) = A ++ [(q, h)] ++ [(b, b)] := by simp [jstep, c]
      rw [e, low_app, k0, List.append_nil]
theorem low_join {l n : Int} (hl : 1 ≤ l) : ∀ fs : List Int, fs.Pairwise (· > ·) → jstep l (lowB (joinB l (dbl fs.reverse)) n) (n, n) = jstep l (joinB l (dbl (fs.filter (fun x => decide (x < n))).reverse)) (n, n)
  | [], _ => rfl
  | b :: r, hd => by
    have h' := List.pairwise_cons.mp hd
    by_cases c : b < n
    · have e : (b :: r).filter (fun x => decide (x < n)) = b :: r := List.filter_eq_self.mpr (fun x hx => by
        rcases List.mem_cons.mp hx with rfl | hx
        · simp [c]
        · have := h'.1 x hx
          simp; omega)
      rw [e]
      have k : ∀ p ∈ joinB l (dbl (b :: r).reverse), p.1 ≤ p.2 ∧ p.2 ≤ b := by
        intro p hp
        rw [← (runs_nums hl _ hd).1] at hp
        obtain ⟨x1, x2⟩ := expand_runs (numsD l (b :: r))
        refine ⟨x2 p hp, ?_⟩
        have := mem_expand hp (x2 p hp) (Int.le_refl _)
        rw [x1] at this
        exact nums_le hd b r rfl _ this
      have : lowB (joinB l (dbl (b :: r).reverse)) n = joinB l (dbl (b :: r).reverse) := by
        generalize joinB l (dbl (b :: r).reverse) = ps at k
        unfold lowB
        rw [List.filter_eq_self.mpr (fun p hp => by have := k p hp; simp; omega)]
        conv => rhs; rw [← List.map_id ps]
        apply List.map_congr_left
        intro p hp
        have := k p hp
        rw [if_neg (by omega)]
        rfl
      rw [this]
    · have e : (b :: r).filter (fun x => decide (x < n)) = r.filter (fun x => decide (x < n)) := by simp [c]
      have ej : joinB l (dbl (b :: r).reverse) = jstep l (joinB l (dbl r.reverse)) (b, b) := by simp [joinB, dbl]
      rw [e, ej, low_step hl (by omega), low_join hl r h'.2]
theorem fil_cons {row : List Int} {l n : Int} {ps : List (Int × Int)} (hl : 1 ≤ l) (hn : 2 * l ≤ n) (h : fil row l = some ps) : fil (n :: row) l = some (joinB l (lowB ps n ++ [(n, n)])) := by
  obtain ⟨w, g⟩ := fil_wb hl h
  have hj : joinB l (lowB ps n ++ [(n, n)]) = jstep l (lowB ps n) (n, n) := by
    have : joinB l (lowB ps n ++ [(n, n)]) = jstep l (joinB l (lowB ps n)) (n, n) := by simp [joinB]
    rw [this]
    have w2 := low_wb (n := n) w
    have := join_self (lowB ps n).reverse (by rw [List.reverse_reverse]; exact w2)
    rw [List.reverse_reverse] at this
    rw [this]
  have hlone : lone row l = false := by
    cases c : lone row l with
    | false => rfl
    | true => unfold fil at h; rw [c] at h; cases h
  have hlone2 : lone (n :: row) l = false := by
    have : lone (n :: row) l = (decide (n < 2 * l) || lone row l) := rfl
    rw [this, hlone, decide_eq_false (by omega)]
    rfl
  have hps : ps = joinB l (dbl (recs row).reverse) := by
    unfold fil at h
    rw [hlone, sort_recs] at h
    simp at h
    exact h.symm
  unfold fil
  rw [hlone2, sort_recs, recs_cons, hj, hps, low_join hl _ (recs_desc row)]
  simp [joinB, dbl]
/-- the numbers of a filling one by one -/
theorem ch_range {l : Int} (hl : 1 ≤ l) : ∀ (k : Nat) (a : Int), Ch l a (rangeI (a + 1) k) ∧ lastD a (rangeI (a + 1) k) = a + k
  | 0, a => by simp [rangeI, Ch, lastD]
  | k + 1, a => by
    obtain ⟨h1, h2⟩ := ch_range hl k (a + 1)
    rw [rangeI_consI]
    have g1 : a + 1 - a ≤ l := by omega
    refine ⟨?_, ?_⟩
    · first | exact ⟨g1, h1⟩ | exact ⟨by omega, g1, h1⟩
    · show lastD (a + 1) _ = _
      rw [h2]
      omega
theorem exp_join {l : Int} (hl : 1 ≤ l) : ∀ rs : List (Int × Int), Wb l rs.reverse → joinB l (dbl (expand rs.reverse)) = rs.reverse
  | [], _ => rfl
  | p :: rs, w => by
    rw [List.reverse_cons] at w ⊢
    have w' : Wb l rs.reverse := ⟨fun q hq => w.le q (List.mem_append_left _ hq), (List.pairwise_append.mp w.apart).1⟩
    have ih := exp_join hl rs w'
    have hp := w.le p (by simp)
    have k1 : (p.2 - p.1 + 1).toNat = (p.2 - p.1).toNat + 1 := by omega
    obtain ⟨c1, c2⟩ := ch_range hl (p.2 - p.1).toNat p.1
    rw [expand_snoc, k1, rangeI_consI]
    generalize rangeI (p.1 + 1) (p.2 - p.1).toNat = ys at c1 c2
    have ej : joinB l (dbl (expand rs.reverse ++ p.1 :: ys)) = (dbl ys).foldl (jstep l) (jstep l (joinB l (dbl (expand rs.reverse))) (p.1, p.1)) := by
      simp [joinB, dbl]
    rw [ej, ih]
    have es : jstep l rs.reverse (p.1, p.1) = rs.reverse ++ [(p.1, p.1)] := by
      rcases List.eq_nil_or_concat rs.reverse with h0 | ⟨A, z, h0⟩
      · rw [h0]
        simp [jstep]
      · rw [List.concat_eq_append] at h0
        have := (List.pairwise_append.mp w.apart).2.2 z (by rw [h0]; simp) p (by simp)
        rw [h0]
        have c : ¬ p.1 - z.2 ≤ l := by omega
        simp [jstep, c]
    rw [es, chain_join ys p.1 p.1 rs.reverse c1, c2]
    have : p.1 + ((p.2 - p.1).toNat : Int) = p.2 := by omega
    rw [this]
theorem fil_exp {row : List Int} {l : Int} {ps : List (Int × Int)} (hl : 1 ≤ l) (h : fil row l = some ps) : fil (expand ps).reverse l = some ps := by
  obtain ⟨w, g⟩ := fil_wb hl h
  have hasc : (expand ps).Pairwise (· < ·) := by rw [fil_nums hl h]; exact nums_asc (recs_desc row)
  have hd : (expand ps).reverse.Pairwise (· > ·) := List.pairwise_reverse.mpr hasc
  have hlone : lone (expand ps).reverse l = false := by
    cases c : lone (expand ps).reverse l with
    | false => rfl
    | true =>
      obtain ⟨x, hx, h2⟩ := lone_any.mp c
      have := expand_ge (l := l) g x (List.mem_reverse.mp hx)
      omega
  unfold fil
  rw [hlone, sort_recs, recs_id _ hd, List.reverse_reverse]
  have := exp_join hl ps.reverse (by rw [List.reverse_reverse]; exact w)
  rw [List.reverse_reverse] at this
  rw [this]
  rfl
theorem size_exp : ∀ ps : List (Int × Int), (∀ p ∈ ps, p.1 ≤ p.2) → (ps.map fun p => p.2 - p.1 + 1).sum = ((expand ps).length : Int)
  | [], _ => rfl
  | p :: ps, h => by
    have := size_exp ps (fun q hq => h q (List.mem_cons_of_mem _ hq))
    have hp := h p List.mem_cons_self
    have hr : (rangeI p.1 (p.2 - p.1 + 1).toNat).length = (p.2 - p.1 + 1).toNat := by simp [rangeI]
    rw [expand_cons, List.length_append, hr, List.map_cons, List.sum_cons, this]
    omega
theorem range_above (a x : Int) (k : Nat) : (rangeI a k).filter (fun y => decide (x < y)) = rangeI (if x + 1 > a then x + 1 else a) (a + k - (if x + 1 > a then x + 1 else a)).toNat := by
  by_cases c : a + k ≤ x + 1
  · rw [List.filter_eq_nil_iff.mpr (fun y hy => by have := rangeI_mem.mp hy; simp; omega)]
    have : (a + k - (if x + 1 > a then x + 1 else a)).toNat = 0 := by split <;> omega
    rw [this]
    rfl
  · have h1 : ∃ j m : Nat, j + m = k ∧ a + j = (if x + 1 > a then x + 1 else a) ∧ (a + k - (if x + 1 > a then x + 1 else a)).toNat = m := by
      split
      · exact ⟨(x + 1 - a).toNat, (a + k - (x + 1)).toNat, by omega, by omega, rfl⟩
      · exact ⟨0, k, by omega, by omega, by omega⟩
    obtain ⟨j, m, e1, e2, e3⟩ := h1
    have hx : x < a + j ∧ a + j ≤ x + 1 ∨ j = 0 ∧ x < a := by
      rw [e2]
      split <;> omega
    rw [e3, ← e2, ← e1, rangeI_split, List.filter_append, List.filter_eq_nil_iff.mpr (fun y hy => by have := rangeI_mem.mp hy; simp; omega), List.nil_append, List.filter_eq_self.mpr (fun y hy => by have := rangeI_mem.mp hy; simp; omega)]
theorem above_head (x : Int) : ∀ ps : List (Int × Int), (∀ p ∈ ps, p.1 ≤ p.2) → (abv ps x).head? = ((expand ps).filter (fun y => decide (x < y))).head?
  | [], _ => rfl
  | p :: ps, h => by
    have ih := above_head x ps (fun q hq => h q (List.mem_cons_of_mem _ hq))
    have hp := h p List.mem_cons_self
    have k1 : p.1 + ((p.2 - p.1 + 1).toNat : Int) = p.2 + 1 := by omega
    rw [expand_cons, List.filter_append, range_above, k1]
    by_cases c : x < p.2
    · have e : abv (p :: ps) x = (if x + 1 > p.1 then x + 1 else p.1) :: abv ps x := by simp [abv, c]
      have k2 : ∃ m : Nat, (p.2 + 1 - (if x + 1 > p.1 then x + 1 else p.1)).toNat = m + 1 := ⟨(p.2 - (if x + 1 > p.1 then x + 1 else p.1)).toNat, by split <;> omega⟩
      obtain ⟨m, k2⟩ := k2
      rw [e, k2, rangeI_consI]
      rfl
    · have e : abv (p :: ps) x = abv ps x := by simp [abv, c]
      have k2 : (p.2 + 1 - (if x + 1 > p.1 then x + 1 else p.1)).toNat = 0 := by split <;> omega
      rw [e, k2, ih]
      rfl
def bel (ps : List (Int × Int)) (n : Int) : List Int := (ps.filter fun p => decide (p.1 < n)).map fun p => if n - 1 < p.2 then n - 1 else p.2
theorem range_below (a x : Int) (k : Nat) : (rangeI a k).filter (fun y => decide (y < x)) = rangeI a (if x < a + k then (x - a).toNat else k) := by
  by_cases c : x < a + k
  · rw [if_pos c]
    by_cases d : a ≤ x
    · have e1 : (x - a).toNat + (a + k - x).toNat = k := by omega
      have e2 : a + ((x - a).toNat : Int) = x := by omega
      conv => lhs; rw [← e1]
      rw [rangeI_split, List.filter_append, List.filter_eq_self.mpr (fun y hy => by have := rangeI_mem.mp hy; simp; omega)]
      rw [List.filter_eq_nil_iff.mpr (fun y hy => by have := rangeI_mem.mp hy; simp; omega), List.append_nil]
    · have : (x - a).toNat = 0 := by omega
      rw [this, List.filter_eq_nil_iff.mpr (fun y hy => by have := rangeI_mem.mp hy; simp; omega)]
      rfl
  · rw [if_neg c, List.filter_eq_self.mpr (fun y hy => by have := rangeI_mem.mp hy; simp; omega)]
theorem below_last (x : Int) : ∀ rs : List (Int × Int), (∀ p ∈ rs, p.1 ≤ p.2) → (bel rs.reverse x).getLast? = ((expand rs.reverse).filter (fun y => decide (y < x))).getLast?
  | [], _ => rfl
  | p :: rs, h => by
    have ih := below_last x rs (fun q hq => h q (List.mem_cons_of_mem _ hq))
    have hp := h p List.mem_cons_self
    have k1 : p.1 + ((p.2 - p.1 + 1).toNat : Int) = p.2 + 1 := by omega
    rw [List.reverse_cons, expand_snoc, List.filter_append, range_below, k1]
    by_cases c : p.1 < x
    · have e : bel (rs.reverse ++ [p]) x = bel rs.reverse x ++ [if x - 1 < p.2 then x - 1 else p.2] := by simp [bel, c]
      have k2 : ∃ m : Nat, (if x < p.2 + 1 then (x - p.1).toNat else (p.2 - p.1 + 1).toNat) = m + 1 ∧ p.1 + m = if x - 1 < p.2 then x - 1 else p.2 := by
        by_cases d : x - 1 < p.2
        · exact ⟨(x - 1 - p.1).toNat, by rw [if_pos (by omega)]; omega, by rw [if_pos d]; omega⟩
        · by_cases d2 : x < p.2 + 1
          · omega
          · exact ⟨(p.2 - p.1).toNat, by rw [if_neg d2]; omega, by rw [if_neg d]; omega⟩
      obtain ⟨m, k2, k3⟩ := k2
      rw [e, k2, rangeI_succ, k3, ← List.append_assoc, List.getLast?_concat, List.getLast?_concat]
    · have e : bel (rs.reverse ++ [p]) x = bel rs.reverse x := by simp [bel, c]
      have k2 : (if x < p.2 + 1 then (x - p.1).toNat else (p.2 - p.1 + 1).toNat) = 0 := by rw [if_pos (by omega)]; omega
      rw [e, k2, ih]
      simp [rangeI]
theorem next_in (L : List Int) (p : Int → Bool) (j : Nat) (h1 : ∀ x ∈ L.take j, p x = false) (h2 : ∀ x ∈ L.drop j, p x = true) : (L.filter p).head? = L[j]? := by
  have e : L.filter p = L.drop j := by
    conv => lhs; rw [← List.take_append_drop j L]
    rw [List.filter_append, List.filter_eq_nil_iff.mpr (fun x hx => by rw [h1 x hx]; simp), List.nil_append, List.filter_eq_self.mpr h2]
  rw [e, List.head?_drop]
theorem asc_next {L : List Int} (h : L.Pairwise (· < ·)) (j : Nat) (hj : j < L.length) : (L.filter (fun y => decide (L[j] < y))).head? = L[j + 1]? := by
  refine next_in L _ (j + 1) ?_ ?_
  · intro x hx
    obtain ⟨i, hi, rfl⟩ := List.mem_iff_getElem.mp hx
    simp only [List.length_take] at hi
    rw [List.getElem_take]
    rcases Nat.lt_or_ge i j with c | c
    · have := List.pairwise_iff_getElem.mp h i j (by omega) hj c
      simp; omega
    · have : i = j := by omega
      subst this
      simp
  · intro x hx
    obtain ⟨i, hi, rfl⟩ := List.mem_iff_getElem.mp hx
    simp only [List.length_drop] at hi
    rw [List.getElem_drop]
    have := List.pairwise_iff_getElem.mp h j (j + 1 + i) hj (by omega) (by omega)
    simp; omega
theorem desc_next {L : List Int} (h : L.Pairwise (· > ·)) (j : Nat) (hj : j < L.length) : (L.filter (fun y => decide (y < L[j]))).head? = L[j + 1]? := by
  refine next_in L _ (j + 1) ?_ ?_
  · intro x hx
    obtain ⟨i, hi, rfl⟩ := List.mem_iff_getElem.mp hx
    simp only [List.length_take] at hi
    rw [List.getElem_take]
    rcases Nat.lt_or_ge i j with c | c
    · have := List.pairwise_iff_getElem.mp h i j (by omega) hj c
      simp; omega
    · have : i = j := by omega
      subst this
      simp
  · intro x hx
    obtain ⟨i, hi, rfl⟩ := List.mem_iff_getElem.mp hx
    simp only [List.length_drop] at hi
    rw [List.getElem_drop]
    have := List.pairwise_iff_getElem.mp h j (j + 1 + i) hj (by omega) (by omega)
    simp; omega
end My

set_option Elab.async false
set_option linter.all false
set_option maxRecDepth 100000
set_option maxHeartbeats 4000000
namespace My
open PySem PySem.Spec PyProof.Rows L2 Cm
def sizeB (ps : List (Int × Int)) : Int := (ps.map fun p => p.2 - p.1 + 1).sum
theorem fAll_true (xs : List PyData) : fAll [.list (xs.map (fun _ => PyData.bool true))] = some (.bool true) := by
  have h := asBools_map (xs.map fun _ => true)
  rw [List.map_map] at h
  have e : xs.map (PyData.bool ∘ fun _ => true) = xs.map (fun _ => PyData.bool true) := rfl
  rw [e] at h
  rw [fAll_l, h, Option.map_some]
  have : (xs.map fun _ => true).all id = true := by simp
  rw [this]
theorem many_spec (o : Option (List (Int × Int))) (hl : (o.getD []).length ≤ 1000) (st : Sto) : f_many_numbers [.d (bD o)] st = some (.d (.int (sizeB (o.getD []))), st) := by
  have hb := blocks_spec o hl
  generalize o.getD [] = ps at hb hl
  revert st
  apply pure_lift
  intro st
  have lc := lcL_pure (g := (gT (gsCons (gN 1) (gsCons (gN 2) gsNil)))) (te := (cD2s fAdd (cD2 fSub (cVar 2) (cVar 1)) (cD (.int 1)))) (tt := bYes) (ev := [some (.d (bD o)), none, none]) (fun _ => true) (fun z => .int (p2D z - p1D z + 1)) (ex st []) (ps.map Cm.pairD) [] (by
    intro z hz acc
    obtain ⟨p, _, rfl⟩ := List.mem_map.mp hz
    refine ⟨_, rfl, rfl, fun _ => ?_⟩
    have e1 : p1D (Cm.pairD p) = p.1 := rfl
    have e2 : p2D (Cm.pairD p) = p.2 := rfl
    rw [e1, e2]
    simp) (by simp; omega)
  rw [List.nil_append, filter_yes, List.map_map] at lc
  have e : ps.map ((fun z => PyData.int (p2D z - p1D z + 1)) ∘ Cm.pairD) = iL (ps.map fun p => p.2 - p.1 + 1) := by
    unfold iL
    rw [List.map_map]
    rfl
  rw [e] at lc
  have ha := asInts_map (ps.map fun p => p.2 - p.1 + 1)
  have hs : (ps.map fun p => p.2 - p.1 + 1).sum = sizeB ps := rfl
  generalize (ps.map fun p => p.2 - p.1 + 1) = L at lc ha hs
  simp -implicitDefEqProofs [f_many_numbers, defS_ap, b_many_numbers, hb, lc, ha, hs]
@[simp] theorem isNone_n : isNone .none = true := rfl
@[simp] theorem isNone_t (xs : List PyData) : isNone (.tuple xs) = false := rfl
theorem allT_lc {ns : List Int} {g : GT} {te : SE} {ev : Ev} {st : Sto} (hl : ns.length ≤ 100000) (h : ∀ i ∈ ns, ∀ acc, ∃ ev1, g (.int i) ev = some ev1 ∧ te ev1 (ex st [some acc]) = some (.d (.bool true), ex st [some acc])) : lcL g bYes te ev (iL ns) st [] = some ((iL ns).map (fun _ => PyData.bool true), st) := by
  have lc := lcL_pure (g := g) (tt := bYes) (te := te) (ev := ev) (fun _ => true) (fun _ => .bool true) st (iL ns) [] (by
    intro z hz acc
    obtain ⟨i, hi, rfl⟩ := List.mem_map.mp hz
    obtain ⟨ev1, h1, h2⟩ := h i hi acc
    exact ⟨ev1, h1, rfl, fun _ => h2⟩) (by simp; omega)
  rw [List.nil_append, filter_yes] at lc
  exact lc
end My

set_option Elab.async false
set_option linter.all false
set_option maxRecDepth 100000
set_option maxHeartbeats 4000000
namespace My
open PySem PySem.Spec PyProof.Rows L2 Cm
def iD : PyData → Int
  | .int a => a
  | _ => 0
theorem filt_int (fs : List Int) (p : Int → Bool) : (((iL fs).filter (fun z => p (iD z))).map fun z => z) = iL (fs.filter p) := by
  rw [List.map_id', List.filter_map]
  rfl
theorem with_spec {fs : List Int} {n : Int} (hl : fs.length ≤ 1000) (st : Sto) : f__law_with [.d (.tuple (iL fs)), .d (.int n)] st = some (.d (.tuple (iL (withL fs n))), st) := by
  revert st
  apply pure_lift
  intro st
  have l1 := lcL_pure (g := (gN 2)) (te := (cVar 2)) (tt := (cB (cD2 fGt (cVar 2) (cVar 1)))) (ev := [some (.d (.tuple (iL fs))), some (.d (.int n)), none]) (fun z => decide (n < iD z)) (fun z => z) (ex st []) (iL fs) [] (by
    intro z hz acc
    obtain ⟨i, _, rfl⟩ := List.mem_map.mp hz
    refine ⟨_, rfl, ?_, fun _ => ?_⟩
    · have e0 : iD (.int i) = i := rfl
      rw [e0]
      simp
    · simp) (by simp; omega)
  have l2 := lcL_pure (g := (gN 2)) (te := (cVar 2)) (tt := (cB (cD2 fLt (cVar 2) (cVar 1)))) (ev := [some (.d (.tuple (iL fs))), some (.d (.int n)), none]) (fun z => decide (iD z < n)) (fun z => z) (ex st []) (iL fs) [] (by
    intro z hz acc
    obtain ⟨i, _, rfl⟩ := List.mem_map.mp hz
    refine ⟨_, rfl, ?_, fun _ => ?_⟩
    · have e0 : iD (.int i) = i := rfl
      rw [e0]
      simp
    · simp) (by simp; omega)
  rw [List.nil_append, filt_int fs (fun x => decide (n < x))] at l1
  rw [List.nil_append, filt_int fs (fun x => decide (x < n))] at l2
  have b1 : (iL (fs.filter (fun x => decide (n < x)))).length ≤ 1000 := by rw [List.length_map]; have := List.length_filter_le (fun x => decide (n < x)) fs; omega
  have b2 : (iL (fs.filter (fun x => decide (x < n)))).length ≤ 1000 := by rw [List.length_map]; have := List.length_filter_le (fun x => decide (x < n)) fs; omega
  have e : iL (withL fs n) = iL (fs.filter (fun x => decide (n < x))) ++ [.int n] ++ iL (fs.filter (fun x => decide (x < n))) := by simp [withL, iL]
  rw [e]
  generalize iL (fs.filter (fun x => decide (n < x))) = D1 at l1 b1
  generalize iL (fs.filter (fun x => decide (x < n))) = D2 at l2 b2
  generalize iL fs = FS at l1 l2 ⊢
  have c1 : D1.length + 1 ≤ 1000000 := by omega
  have c2 : D1.length + 1 + D2.length ≤ 1000000 := by omega
  have c3 : D1.length + (D2.length + 1) ≤ 1000000 := by omega
  simp -implicitDefEqProofs [f__law_with, defS_ap, b__law_with, l1, l2, c1, c2, c3]
theorem fIx_lastN (ys : List Int) (z : Int) (h : ys.getLast? = some z) : fIx (.list (iL ys)) (.int (-1)) = some (.int z) := by
  obtain ⟨zs, rfl⟩ := List.getLast?_eq_some_iff.mp h
  exact fIx_last zs z
theorem below_spec (o : Option (List (Int × Int))) (n : Int) (hl : (o.getD []).length ≤ 1000) (st : Sto) : f_next_below [.d (bD o), .d (.int n)] st = some (.d (oD (bel (o.getD []) n).getLast?), st) := by
  have hb := blocks_spec o hl
  generalize o.getD [] = ps at hb hl
  revert st
  apply pure_lift
  intro st
  have lc := lcL_pure (g := (gT (gsCons (gN 3) (gsCons (gN 4) gsNil)))) (te := (cCall fMin (cCons (cVar 4) (cCons (cD2 fSub (cVar 1) (cD (.int 1))) cNil)))) (tt := (cB (cD2 fLt (cVar 3) (cVar 1)))) (ev := [some (.d (bD o)), some (.d (.int n)), none, none, none]) (fun z => decide (p1D z < n)) (fun z => .int (if n - 1 < p2D z then n - 1 else p2D z)) (ex st []) (ps.map Cm.pairD) [] (by
    intro z hz acc
    obtain ⟨p, _, rfl⟩ := List.mem_map.mp hz
    refine ⟨_, rfl, ?_, fun _ => ?_⟩
    · have e1 : p1D (Cm.pairD p) = p.1 := rfl
      rw [e1]
      simp
    · have e2 : p2D (Cm.pairD p) = p.2 := rfl
      rw [e2]
      simp) (by simp; omega)
  have e : ((ps.map Cm.pairD).filter (fun z => decide (p1D z < n))).map (fun z => PyData.int (if n - 1 < p2D z then n - 1 else p2D z)) = iL (bel ps n) := by
    rw [List.filter_map, List.map_map]
    unfold bel iL
    rw [List.map_map]
    rfl
  rw [List.nil_append, e] at lc
  cases hA : (bel ps n).getLast? with
  | none =>
    have h0 : bel ps n = [] := List.getLast?_eq_none_iff.mp hA
    rw [h0] at lc
    simp at lc
    simp -implicitDefEqProofs [f_next_below, defS_ap, b_next_below, hb, lc, oD]
  | some a =>
    have i0 := fIx_lastN _ _ hA
    have hpos : (0 : Int) < ((iL (bel ps n)).length : Int) := by
      rw [List.length_map]
      have : bel ps n ≠ [] := by intro h0; rw [h0] at hA; cases hA
      have := List.length_pos_iff.mpr this
      omega
    generalize iL (bel ps n) = D at lc i0 hpos
    have hpos' : 0 < D.length := by omega
    simp -implicitDefEqProofs [f_next_below, defS_ap, b_next_below, hb, lc, oD, i0, hpos, hpos']
theorem behind_none (a b : Option (List (Int × Int))) (l : Int) (h : a = none ∨ b = none) (st : Sto) : f_behind [.d (bD a), .d (bD b), .d (.int l)] st = some (.d .none, st) := by
  revert st
  apply pure_lift
  intro st
  cases ha : a.isNone with
  | true =>
    have z1 : isNone (bD a) = true := by rw [isNone_bD, ha]
    generalize bD a = A at z1
    simp -implicitDefEqProofs [f_behind, defS_ap, b_behind, z1]
  | false =>
    have hb : b.isNone = true := by
      rcases h with h | h
      · rw [h] at ha; cases ha
      · rw [h]; rfl
    have z1 : isNone (bD a) = false := by rw [isNone_bD, ha]
    have z2 : isNone (bD b) = true := by rw [isNone_bD, hb]
    generalize bD a = A at z1
    generalize bD b = B at z2
    simp -implicitDefEqProofs [f_behind, defS_ap, b_behind, z1, z2]
theorem behind_spec {n l : Int} {ps : List (Int × Int)} (hl : ps.length ≤ 900) (st : Sto) : f_behind [.d (bD (some [(n, n)])), .d (bD (some ps)), .d (.int l)] st = some (.d (.tuple ((joinB l (lowB ps n ++ [(n, n)])).map Cm.pairD)), st) := by
  have t1 : ∀ st : Sto, f_tupled 16 [.d (bD (some [(n, n)]))] st = some (.d (.tuple ([(n, n)].map Cm.pairD)), st) := tup_pairs (d := 13) (x := bD (some [(n, n)])) (ps := [(n, n)]) (.inl rfl) (by simp)
  have t2 : ∀ st : Sto, f_tupled 16 [.d (bD (some ps))] st = some (.d (.tuple (ps.map Cm.pairD)), st) := tup_pairs (d := 13) (x := bD (some ps)) (.inl rfl) (by omega)
  have z1 := isNone_bD (some [(n, n)])
  have z2 := isNone_bD (some ps)
  revert st
  apply pure_lift
  intro st
  have lc := lcL_pure (g := (gT (gsCons (gN 7) (gsCons (gN 8) gsNil)))) (te := (cTup (cCons (cVar 7) (cCons (cCall fMin (cCons (cVar 8) (cCons (cD2 fSub (cVar 3) (cD (.int 1))) cNil))) cNil)))) (tt := (cB (cD2 fLt (cVar 7) (cVar 3)))) (ev := [some (.d (bD (some [(n, n)]))), some (.d (bD (some ps))), some (.d (.int l)), some (.d (.int n)), none, some (.d (.tuple ([(n, n)].map Cm.pairD))), some (.d (.tuple (ps.map Cm.pairD))), none, none])
    (fun z => decide (p1D z < n)) (fun z => Cm.pairD (p1D z, if n - 1 < p2D z then n - 1 else p2D z)) (ex st []) (ps.map Cm.pairD) [] (by
    intro z hz acc
    obtain ⟨p, _, rfl⟩ := List.mem_map.mp hz
    refine ⟨_, rfl, ?_, fun _ => ?_⟩
    · have e1 : p1D (Cm.pairD p) = p.1 := rfl
      rw [e1]
      simp
    · have e1 : p1D (Cm.pairD p) = p.1 := rfl
      have e2 : p2D (Cm.pairD p) = p.2 := rfl
      rw [e1, e2]
      simp [Cm.pairD]) (by simp; omega)
  have e : ((ps.map Cm.pairD).filter (fun z => decide (p1D z < n))).map (fun z => Cm.pairD (p1D z, if n - 1 < p2D z then n - 1 else p2D z)) = (lowB ps n).map Cm.pairD := by
    rw [List.filter_map, List.map_map]
    unfold lowB
    rw [List.map_map]
    rfl
  rw [List.nil_append, e] at lc
  have hlow : (lowB ps n).length ≤ ps.length := by
    unfold lowB
    rw [List.length_map]
    exact List.length_filter_le _ _
  have jn := joined_spec (x := .list ((lowB ps n ++ [(n, n)]).map Cm.pairD)) (ps := lowB ps n ++ [(n, n)]) (l := l) (.inr rfl) (by simp; omega)
  have i0 : fIx (.tuple ([(n, n)].map Cm.pairD)) (.int 0) = some (Cm.pairD (n, n)) := rfl
  have i1 : fIx (Cm.pairD (n, n)) (.int 0) = some (.int n) := rfl
  have ea : (lowB ps n ++ [(n, n)]).map Cm.pairD = (lowB ps n).map Cm.pairD ++ [(n, n)].map Cm.pairD := by simp
  rw [ea] at jn
  have hD : ((lowB ps n).map Cm.pairD).length ≤ 1000 := by simp; omega
  have hT : ([(n, n)].map Cm.pairD).length = 1 := rfl
  generalize (lowB ps n).map Cm.pairD = D at lc jn hD
  generalize [(n, n)].map Cm.pairD = T at t1 lc jn i0 hT
  generalize bD (some [(n, n)]) = A at t1 z1 lc ⊢
  generalize bD (some ps) = B at t2 z2 lc ⊢
  generalize ps.map Cm.pairD = P at t2 lc
  generalize Cm.pairD (n, n) = Q at i0 i1
  have c1 : D.length + T.length ≤ 1000000 := by omega
  have c2 : D.length + 1 ≤ 1000000 := by omega
  simp at z1 z2
  simp -implicitDefEqProofs [f_behind, defS_ap, b_behind, z1, z2, t1, t2, hT, i0, i1, lc, c1, c2, jn]
end My

set_option Elab.async false
set_option linter.all false
set_option maxRecDepth 100000
set_option maxHeartbeats 4000000
namespace My
open PySem PySem.Spec PyProof.Rows L2 Cm
theorem some_spec {m : Nat} {B : Bx} {o : Option (List (Int × Int))} {ls C : Int} (h : BxOk m B) (hm : m < 100000000000) (l1 : 1 ≤ ls) (l2 : ls ≤ 1000000000000000000000000000000) (hC : C ≤ 1000000000000000000000000000000000) (hlen : (o.getD []).length ≤ 5) (hp : ∀ p ∈ o.getD [], 1 ≤ p.1 ∧ p.1 ≤ p.2 ∧ p.2 ≤ C) :
    Dr f__law_some [.d (bD o), .d (.int ls)] m 20 B (fun x => ∃ ns : List Int, x = .list (iL ns) ∧ ns.length ≤ 40) := by
  obtain ⟨u, B1, u0, u1, h1, e1⟩ := take_spec (k := 20 * ls) h (by omega) (lo_of (by omega) (by omega))
  have o20 : ∀ z, mulOk 20 z = true := fun z => mul_smallL (by omega) (by omega)
  obtain ⟨s', ⟨g5, c5, _⟩, e5⟩ := forL_abs (T := Pos) (S := Sto × List Int × Bx × Option U × Option U)
    (g := (gT (gsCons (gN 4) (gsCons (gN 5) gsNil)))) (b := (cSeq (cSet 3 (cAddM (cVar 3) (cLst (cCons (cVar 4) (cCons (cVar 5) (cCons (cD2s fAdd (cVar 5) (cD (.int 1))) (cCons (cCall fMax (cCons (cD (.int 1)) (cCons (cD2 fSub (cVar 4) (cD (.int 1))) cNil))) (cCons (cD2s fAdd (cVar 4) (cDef 2 f__law_take (cCons (cVar 0) (cCons (cD2s fAdd (cD2 fSub (cVar 5) (cVar 4)) (cD (.int 1))) cNil)))) cNil)))))))) (cExpr (cM mAppend (cVar 3) (cCons (cD2s fAdd (cD2s fAdd (cVar 5) (cD (.int 1))) (cDef 2 f__law_take (cCons (cVar 0) (cCons (cD2s fAdd (cVar 2) (cD (.int 2))) cNil)))) cNil)))))
    Pos.ok (fun θ s => [some (.l θ.b), some (.d (bD o)), some (.d (.int ls)), some (.l (θ.st.length + s.1.length)), s.2.2.2.1, s.2.2.2.2])
    (fun θ s => ex (θ.st.set θ.b (some (lay s.2.2.1))) (s.1 ++ [some (iL s.2.1)]))
    (fun rest s => BxOk (m + 1 + 2 * (5 - rest.length)) s.2.2.1 ∧ s.2.1.length + 6 * rest.length ≤ 31 ∧ ∃ qs : List (Int × Int), rest = qs.map Cm.pairD ∧ qs.length ≤ 5 ∧ ∀ p ∈ qs, 1 ≤ p.1 ∧ p.1 ≤ p.2 ∧ p.2 ≤ C) (by
      rintro x xs ⟨J, ns, D, t4, t5⟩ ⟨hD, hn, qs, hq, hq5, hqs⟩
      cases qs with
      | nil => cases hq
      | cons p qs =>
        rw [List.map_cons] at hq
        injection hq with hx hxs
        subst hx
        have hpp := hqs p List.mem_cons_self
        have hxl : xs.length = qs.length := by rw [hxs, List.length_map]
        simp only [List.length_cons] at hD hn hq5
        obtain ⟨r1, D1, u2, v2, g1, f1⟩ := take_spec (k := p.2 - p.1 + 1) hD (by omega) (lo_of (by omega) (by omega))
        obtain ⟨r2, D2, u3, v3, g2, f2⟩ := take_spec (k := ls + 2) g1 (by omega) (lo_of (by omega) (by omega))
        refine ⟨(J ++ [some (iL ns)], ns ++ [p.1, p.2, p.2 + 1, if p.1 - 1 > 1 then p.1 - 1 else 1, p.1 + r1] ++ [p.2 + 1 + r2], D2, some (.d (.int p.1)), some (.d (.int p.2))), ⟨bx_up g2 (by omega) (by omega), by simp only [List.length_append, List.length_cons, List.length_nil]; omega, qs, hxs, by omega, fun q hq => hqs q (List.mem_cons_of_mem _ hq)⟩, ?_⟩
        intro θ hb
        have eL : iL (ns ++ [p.1, p.2, p.2 + 1, if p.1 - 1 > 1 then p.1 - 1 else 1, p.1 + r1] ++ [p.2 + 1 + r2]) = iL ns ++ [.int p.1, .int p.2, .int (p.2 + 1), .int (if p.1 - 1 > 1 then p.1 - 1 else 1), .int (p.1 + r1)] ++ [.int (p.2 + 1 + r2)] := by
          simp only [iL, List.map_append, List.map_cons, List.map_nil]
        have hN : (iL ns).length = ns.length := by rw [List.length_map]
        refine ⟨_, rfl, ?_⟩
        show _ = some (Out.nx [some (.l θ.b), some (.d (bD o)), some (.d (.int ls)), some (.l (θ.st.length + (J ++ [some (iL ns)]).length)), some (.d (.int p.1)), some (.d (.int p.2))] (ex (θ.st.set θ.b (some (lay D2))) ((J ++ [some (iL ns)]) ++ [some (iL (ns ++ [p.1, p.2, p.2 + 1, if p.1 - 1 > 1 then p.1 - 1 else 1, p.1 + r1] ++ [p.2 + 1 + r2]))])))
        rw [eL]
        generalize iL ns = N at hN ⊢
        have c1 : N.length + 5 ≤ 1000000 := by omega
        have c2 : N.length + 5 < 1000000 := by omega
        have c3 : N.length + (5 + 1) ≤ 1000000 := by omega
        have c4 : N.length + 5 + 1 ≤ 1000000 := by omega
        generalize bD o = O
        simp [f1 _ _ _ hb, f2 _ _ _ hb, c1, c2, c3, c4])
    ((o.getD []).map Cm.pairD) ([], [1 + u], B1, none, none) ⟨bx_up h1 (by omega) (by omega), by simp; omega, o.getD [], rfl, hlen, hp⟩
  obtain ⟨J, ns, D, t4, t5⟩ := s'
  simp only [List.length_nil] at c5 g5
  refine ⟨.list (iL ns), D, ⟨ns, rfl, by omega⟩, bx_up g5 (by omega) (by omega), ?_⟩
  apply dr_lift
  intro st b hb
  have e6 := e5 ⟨st, b⟩ hb
  have z := isNone_bD o
  have hit : ∀ ps, o = some ps → bD o = .tuple (ps.map Cm.pairD) := by intro ps h; rw [h]; rfl
  have n1 : iL [1 + u] = [.int (1 + u)] := rfl
  cases ho : o with
  | none =>
    rw [ho] at e6 z
    simp at e6 z
    simp [f__law_some, defS_ap, b__law_some, e1 _ _ _ hb, o20, z, e6]
  | some ps =>
    rw [ho] at e6 z
    simp only [Option.getD_some, Option.isNone_some] at e6 z
    have hb2 : bD (some ps) = .tuple (ps.map Cm.pairD) := rfl
    rw [hb2] at e6 z ⊢
    generalize ps.map Cm.pairD = P at e6 z
    generalize iL ns = N at e6
    simp at e6
    simp [f__law_some, defS_ap, b__law_some, e1 _ _ _ hb, o20, z, e6]
end My

set_option Elab.async false
set_option linter.all false
set_option maxRecDepth 100000
set_option maxHeartbeats 4000000
namespace My
open PySem PySem.Spec PyProof.Rows L2 Cm
theorem take_one {E : List Int} {j : Nat} (h : j < E.length) : iL (E.take (j + 1)) = iL (E.take j) ++ [.int E[j]] := by
  have : E.take (j + 1) = E.take j ++ [E[j]] := by simp
  rw [this]
  show (E.take j ++ [E[j]]).map PyData.int = _
  rw [List.map_append]
  rfl
theorem loop_up {O R : PyData} {E : List Int} {l : Int} (nx : ∀ (j : Nat) (hj : j < E.length) (st : Sto), f_next_above [.d O, .d (.int E[j])] st = some (.d (oD E[j + 1]?), st)) (hE : E.length ≤ 12) (st : Sto) (b : Nat) (w : Option (List PyData)) : ∀ (k j fuel : Nat), j + k = E.length → k < fuel →
    whileN (bAnd (cB (cD2 fIsNot (cVar 6) (cD .none))) (cB (cD2 fLt (cCall fLen (cCons (cVar 5) cNil)) (cD (.int 13))))) (cSeq (cExpr (cM mAppend (cVar 5) (cCons (cVar 6) cNil))) (cSet 6 (cDef 2 f_next_above (cCons (cVar 3) (cCons (cVar 6) cNil))))) fuel [some (.l b), some (.d R), some (.d (.int l)), some (.d O), none, some (.l st.length), some (.d (oD E[j]?)), none, none] (ex (st.set b w) [some (iL (E.take j))]) =
      some (.nx [some (.l b), some (.d R), some (.d (.int l)), some (.d O), none, some (.l st.length), some (.d .none), none, none] (ex (st.set b w) [some (iL E)])) := by
  intro k
  induction k with
  | zero =>
    intro j fuel hj hf
    obtain ⟨fuel, rfl⟩ : ∃ f, fuel = f + 1 := ⟨fuel - 1, by omega⟩
    have e0 : E[j]? = none := List.getElem?_eq_none (by omega)
    have e1 : E.take j = E := List.take_of_length_le (by omega)
    rw [e0, e1]
    have n0 : oD none = .none := rfl
    have nn : isNone .none = true := rfl
    generalize iL E = N
    simp -implicitDefEqProofs [whileN, n0, nn]
  | succ k ih =>
    intro j fuel hj hf
    obtain ⟨fuel, rfl⟩ : ∃ f, fuel = f + 1 := ⟨fuel - 1, by omega⟩
    have hjl : j < E.length := by omega
    have ih' := ih (j + 1) fuel (by omega) (by omega)
    have n1 := nx j hjl
    have e0 : E[j]? = some E[j] := List.getElem?_eq_getElem hjl
    have hlen : (iL (E.take j)).length = j := by simp; omega
    rw [take_one hjl] at ih'
    rw [e0]
    generalize iL (E.take j) = N at ih' hlen ⊢
    generalize E[j] = e at ih' n1 ⊢
    generalize oD E[j + 1]? = nxt at n1 ih'
    generalize iL E = NE at ih' ⊢
    have o1 : oD (some e) = .int e := rfl
    have nn : isNone (.int e) = false := rfl
    have c0 : (N.length : Int) < 13 := by omega
    have c0' : N.length < 13 := by omega
    have c1 : N.length < 1000000 := by omega
    have c2 : N.length + 1 ≤ 1000000 := by omega
    rw [o1]
    simp -implicitDefEqProofs [whileN, nn, c0, c0', c1, c2, n1]
    simpa using ih'
theorem loop_down {O R : PyData} {E : List Int} {l : Int} {N0 : List PyData} (nx : ∀ (j : Nat) (hj : j < E.length) (st : Sto), f_next_below [.d O, .d (.int E[j])] st = some (.d (oD E[j + 1]?), st)) (hE : E.length ≤ 12) (st : Sto) (b : Nat) (w : Option (List PyData)) : ∀ (k j fuel : Nat), j + k = E.length → k < fuel →
    whileN (bAnd (cB (cD2 fIsNot (cVar 6) (cD .none))) (cB (cD2 fLt (cCall fLen (cCons (cVar 7) cNil)) (cD (.int 13))))) (cSeq (cExpr (cM mAppend (cVar 7) (cCons (cVar 6) cNil))) (cSet 6 (cDef 2 f_next_below (cCons (cVar 3) (cCons (cVar 6) cNil))))) fuel [some (.l b), some (.d R), some (.d (.int l)), some (.d O), none, some (.l st.length), some (.d (oD E[j]?)), some (.l (st.length + 1)), none] (ex (st.set b w) [some N0, some (iL (E.take j))]) =
      some (.nx [some (.l b), some (.d R), some (.d (.int l)), some (.d O), none, some (.l st.length), some (.d .none), some (.l (st.length + 1)), none] (ex (st.set b w) [some N0, some (iL E)])) := by
  intro k
  induction k with
  | zero =>
    intro j fuel hj hf
    obtain ⟨fuel, rfl⟩ : ∃ f, fuel = f + 1 := ⟨fuel - 1, by omega⟩
    have e0 : E[j]? = none := List.getElem?_eq_none (by omega)
    have e1 : E.take j = E := List.take_of_length_le (by omega)
    rw [e0, e1]
    have n0 : oD none = .none := rfl
    have nn : isNone .none = true := rfl
    generalize iL E = N
    simp -implicitDefEqProofs [whileN, n0, nn]
  | succ k ih =>
    intro j fuel hj hf
    obtain ⟨fuel, rfl⟩ : ∃ f, fuel = f + 1 := ⟨fuel - 1, by omega⟩
    have hjl : j < E.length := by omega
    have ih' := ih (j + 1) fuel (by omega) (by omega)
    have n1 := nx j hjl
    have e0 : E[j]? = some E[j] := List.getElem?_eq_getElem hjl
    have hlen : (iL (E.take j)).length = j := by simp; omega
    rw [take_one hjl] at ih'
    rw [e0]
    generalize iL (E.take j) = N at ih' hlen ⊢
    generalize E[j] = e at ih' n1 ⊢
    generalize oD E[j + 1]? = nxt at n1 ih'
    generalize iL E = NE at ih' ⊢
    have o1 : oD (some e) = .int e := rfl
    have nn : isNone (.int e) = false := rfl
    have c0 : (N.length : Int) < 13 := by omega
    have c0' : N.length < 13 := by omega
    have c1 : N.length < 1000000 := by omega
    have c2 : N.length + 1 ≤ 1000000 := by omega
    rw [o1]
    simp -implicitDefEqProofs [whileN, nn, c0, c0', c1, c2, n1]
    simpa using ih'
end My

set_option Elab.async false
set_option linter.all false
set_option maxRecDepth 100000
set_option maxHeartbeats 4000000
namespace My
open PySem PySem.Spec PyProof.Rows L2 Cm
theorem same_bool (d : Nat) (i : Bool) (st : Sto) : f__law_same (d + 1) [.d (.bool i), .d (.bool i)] st = some (.d (.bool true), st) := by
  revert st
  apply pure_lift
  intro st
  simp [f__law_same, defS_ap, b__law_same, known, isaT, isNone]
theorem same_bD (o : Option (List (Int × Int))) (hl : ∀ ps, o = some ps → ps.length ≤ 1000) (d : Nat) : SameOk (d + 3) (bD o) := by
  cases o with
  | none =>
    unfold SameOk
    apply pure_lift
    intro st
    have e0 : fEq .none .none = some (.bool true) := rfl
    simp [bD, f__law_same, defS_ap, b__law_same, known, isaT, isNone, e0]
  | some ps =>
    refine same_seq (d + 2) (.inl rfl) (fun y hy => ?_) (by simpa using hl ps rfl)
    obtain ⟨p, _, rfl⟩ := List.mem_map.mp hy
    exact same_ints (d := d) (x := Cm.pairD p) (ns := [p.1, p.2]) (.inl rfl) (by simp)
end My

set_option Elab.async false
set_option linter.all false
set_option maxRecDepth 100000
set_option maxHeartbeats 4000000
namespace My
open PySem PySem.Spec PyProof.Rows L2 Cm
theorem whole_spec {m : Nat} {B : Bx} {row : List Int} {l : Int} (h : BxOk m B) (hm : m < 10000000000) (hr : row.length ≤ 800) (l1 : 1 ≤ l) (l2 : l ≤ 1000000000000000000000000000000) :
    Dr f__law_whole_right [.d (.tuple (iL row)), .d (.int l)] m 3001 B (· = .bool true) := by
  have f1 := filling_spec (x := .tuple (iL row)) (l := l) (.inl rfl) (by omega)
  cases hc : fil row l with
  | none =>
    rw [hc] at f1
    simp only [bD] at f1
    have nn : isNone .none = true := rfl
    refine ⟨_, B, rfl, bx_up h (by omega) (by omega), ?_⟩
    apply dr_lift
    intro st b hb
    simp -implicitDefEqProofs [f__law_whole_right, defS_ap, b__law_whole_right, f1, nn]
  | some ps =>
    rw [hc] at f1
    have hpl := fil_len hc
    obtain ⟨w, g⟩ := fil_wb l1 hc
    have z1 : isNone (bD (some ps)) = false := rfl
    have eN : fEq (bD (some ps)) (.tuple []) = some (.bool ps.isEmpty) := by
      have := fEq_nilT (A := ps.map Cm.pairD) (shp_pairs (.inl rfl)) (by omega)
      rw [show (ps.map Cm.pairD).isEmpty = ps.isEmpty by cases ps <;> rfl] at this
      exact this
    have mn := many_spec (some ps) (by show ps.length ≤ 1000; omega)
    simp only [Option.getD_some] at mn
    have hsz : sizeB ps = ((expand ps).length : Int) := size_exp ps w.le
    rw [hsz] at mn
    by_cases c : ps.isEmpty = true ∨ 12 < ((expand ps).length : Int)
    · refine ⟨_, B, rfl, bx_up h (by omega) (by omega), ?_⟩
      apply dr_lift
      intro st b hb
      generalize bD (some ps) = O at f1 z1 eN mn
      cases hE : ps.isEmpty with
      | true =>
        rw [hE] at eN
        simp -implicitDefEqProofs [f__law_whole_right, defS_ap, b__law_whole_right, f1, z1, eN]
      | false =>
        rw [hE] at eN
        have c' : 12 < (expand ps).length := by
          rcases c with c | c
          · rw [hE] at c; cases c
          · omega
        have c2 : (12 : Int) < ((expand ps).length : Int) := by omega
        generalize (expand ps).length = k at mn c' c2
        simp -implicitDefEqProofs [f__law_whole_right, defS_ap, b__law_whole_right, f1, z1, eN, mn, c', c2]
    · have c1 : ps.isEmpty = false := by
        cases hE : ps.isEmpty with
        | false => rfl
        | true => exact absurd (.inl hE) c
      have c2 : (expand ps).length ≤ 12 := by
        have := (not_or.mp c).2
        omega
      rw [c1] at eN
      have asc : (expand ps).Pairwise (· < ·) := by rw [fil_nums l1 hc]; exact nums_asc (recs_desc row)
      have ge : ∀ x ∈ expand ps, 2 * l ≤ x := expand_ge (l := l) g
      have ne : expand ps ≠ [] := by
        intro h0
        cases ps with
        | nil => cases c1
        | cons p ps =>
          have := mem_expand (p := p) (ps := p :: ps) List.mem_cons_self (Int.le_refl _) (w.le p List.mem_cons_self)
          rw [h0] at this
          cases this
      have ab : ∀ (x : Int) (st : Sto), f_next_above [.d (bD (some ps)), .d (.int x)] st = some (.d (oD ((expand ps).filter (fun y => decide (x < y))).head?), st) := by
        intro x st
        rw [above_spec (some ps) x (by show ps.length ≤ 1000; omega), ← above_head x ps w.le]
        rfl
      have be : ∀ (x : Int) (st : Sto), f_next_below [.d (bD (some ps)), .d (.int x)] st = some (.d (oD ((expand ps).reverse.filter (fun y => decide (y < x))).head?), st) := by
        intro x st
        have e := below_last x ps.reverse (fun p hp => w.le p (List.mem_reverse.mp hp))
        rw [List.reverse_reverse] at e
        rw [below_spec (some ps) x (by show ps.length ≤ 1000; omega), List.filter_reverse, List.head?_reverse, ← e]
        rfl
      have hH : ∀ i ∈ expand ps, ∀ st : Sto, f_holds [.d (bD (some ps)), .d (.int i)] st = some (.d (.bool true), st) := by
        intro i hi st
        have := holds_spec (some ps) i (by show ps.length ≤ 1000; omega) st
        simp only [Option.getD_some] at this
        rw [holds_mem.mpr hi] at this
        exact this
      have fe := fil_exp l1 hc
      have f4 := filling_spec (x := .tuple (iL (expand ps).reverse)) (row := (expand ps).reverse) (l := l) (.inl rfl) (by simp; omega)
      have al := alike_spec (x := .tuple (iL (expand ps).reverse)) (y := .tuple (iL row)) (l := l) (.inl rfl) (.inl rfl) (by simp; omega) (by omega)
      rw [fe] at f4
      rw [fe, hc, decide_eq_true rfl] at al
      have fr : fil (expand ps).reverse l = fil row l := by rw [fe, hc]
      have sb : SameOk 16 (bD (some ps)) := same_bD (some ps) (by intro qs hq; cases hq; omega) 13
      clear hsz c
      generalize expand ps = E at *
      have hd : E.reverse.Pairwise (· > ·) := List.pairwise_reverse.mpr asc
      obtain ⟨z, hz⟩ : ∃ z, E.getLast? = some z := by
        cases hl : E.getLast? with
        | none => exact absurd (List.getLast?_eq_none_iff.mp hl) ne
        | some z => exact ⟨z, rfl⟩
      obtain ⟨zs, hzs⟩ := List.getLast?_eq_some_iff.mp hz
      have zle : ∀ y ∈ E, y ≤ z := by
        intro y hy
        rw [hzs] at hy asc
        rcases List.mem_append.mp hy with hy | hy
        · have := (List.pairwise_append.mp asc).2.2 y hy z (by simp)
          omega
        · have : y = z := by simpa using hy
          omega
      have a0 : ∀ st : Sto, f_next_above [.d (bD (some ps)), .d (.int 0)] st = some (.d (oD E[0]?), st) := by
        intro st
        rw [ab, List.filter_eq_self.mpr (fun y hy => by have := ge y hy; simp; omega), List.head?_eq_getElem?]
      have nxu : ∀ (j : Nat) (hj : j < E.length) (st : Sto), f_next_above [.d (bD (some ps)), .d (.int E[j])] st = some (.d (oD E[j + 1]?), st) := by
        intro j hj st
        rw [ab, asc_next asc j hj]
      have b0 : ∀ st : Sto, f_next_below [.d (bD (some ps)), .d (.int (z + 1))] st = some (.d (oD E.reverse[0]?), st) := by
        intro st
        rw [be, List.filter_eq_self.mpr (fun y hy => by have := zle y (List.mem_reverse.mp hy); simp; omega), List.head?_eq_getElem?]
      have nxd : ∀ (j : Nat) (hj : j < E.reverse.length) (st : Sto), f_next_below [.d (bD (some ps)), .d (.int E.reverse[j])] st = some (.d (oD E.reverse[j + 1]?), st) := by
        intro j hj st
        rw [be, desc_next hd j hj]
      have i1 := fIx_lastN _ _ hz
      have hrev : (iL E).reverse = iL E.reverse := by
        show (E.map PyData.int).reverse = E.reverse.map PyData.int
        rw [List.map_reverse]
      have rl : E.reverse.length ≤ 12 := by simp; omega
      obtain ⟨x8, B8, ⟨bt, rfl, d1, d2, d3⟩, h8, e8⟩ := batch_spec (ls := l) (a := 12) h (by omega) l1 l2 (by omega) (by omega)
      replace e8 : ∀ (st L : Sto) (b : Nat), b < st.length → f__law_batch (.l b :: [.d (.int l), .d (.int 12)]) (ex (st.set b (some (lay B))) L) = some (.d (.tuple (iL bt)), ex (st.set b (some (lay B8))) L) := e8
      have hk : ∀ x ∈ bt, l ≤ x := fun x hx => (d3 x hx).1
      have hpe := alike_places hk l1 (by omega) fr
      obtain ⟨cs1, hc1, ec1⟩ := cuts_spec (x := .list (iL E.reverse)) (y := .tuple (iL bt)) (.inr rfl) (.inl rfl) (by omega) (by omega) (by omega)
      obtain ⟨cs2, hc2, ec2⟩ := cuts_spec (x := .tuple (iL row)) (y := .tuple (iL bt)) (.inl rfl) (.inl rfl) (by omega) (by omega) (by omega)
      rw [hpe] at hc1
      have pln : (places bt row).length ≤ 1000 := by have := pl_len (Nat.zero_le _) (places_pl bt row); omega
      have cl : ∀ cs : List (Int × Int), cs.map Prod.fst = cst (places bt row) → cs.length ≤ 1000 := by
        intro cs hcs
        have := congrArg List.length hcs
        simp [cst] at this
        omega
      have cl1 := cl cs1 hc1
      have cl2 := cl cs2 hc2
      have cm : ∀ cs : List (Int × Int), cs.map Prod.fst = cst (places bt row) → ((cs.map Cm.pairD).filter fun _ => true).map (fun z => PyData.int (p1D z)) = iL (cst (places bt row)) := by
        intro cs hcs
        rw [filter_yes, ← hcs, List.map_map]
        show cs.map _ = (cs.map Prod.fst).map PyData.int
        rw [List.map_map]
        rfl
      have cm1 := cm cs1 hc1
      have cm2 := cm cs2 hc2
      have eqC := eq_self (shp_ints (x := .list (iL (cst (places bt row)))) (.inr rfl)) (by omega)
      have neD := ne_self (shp_ints (x := .list (iL E.reverse)) (.inr rfl)) (by omega)
      have fa := fAll_true (iL E)
      have hEl : (iL E).length = E.length := by rw [List.length_map]
      refine ⟨_, B8, rfl, bx_up h8 (by omega) (by omega), ?_⟩
      apply dr_lift
      intro st b hb
      have lu := loop_up (R := .tuple (iL row)) (l := l) nxu c2 st b (some (lay B)) E.length 0 lim (by omega) (by show E.length < 1000000; omega)
      have ld := loop_down (R := .tuple (iL row)) (l := l) (N0 := iL E) nxd rl st b (some (lay B)) E.reverse.length 0 lim (by omega) (by show E.reverse.length < 1000000; omega)
      have e0 : iL (E.take 0) = [] := rfl
      have e0' : iL (E.reverse.take 0) = [] := rfl
      rw [e0] at lu
      rw [e0'] at ld
      have lc := lcC_pure (g := (gN 8)) (te := (cDef 2 f_holds (cCons (cVar 3) (cCons (cVar 8) cNil)))) (tt := bYes) (ev := [some (.l b), some (.d (.tuple (iL row))), some (.d (.int l)), some (.d (bD (some ps))), none, some (.l st.length), some (.d .none), some (.d (.list (iL E.reverse))), none])
        (fun _ => true) (fun _ => .bool true) (ex (st.set b (some (lay B))) [some (iL E), none]) st.length (iL E) (by simp) (by
          intro y hy acc
          obtain ⟨i, hi, rfl⟩ := List.mem_map.mp hy
          have hh := hH i hi
          refine ⟨_, rfl, rfl, fun _ => ?_⟩
          generalize bD (some ps) = O at hh
          simp -implicitDefEqProofs [hh]) lim 0 [] (by rw [hEl]; show E.length - 0 < 1000000; omega) (by rw [hEl]; show 0 + (E.length - 0) ≤ 1000000; omega)
      rw [List.drop_zero, List.nil_append, filter_yes] at lc
      have lc1 := lcL_pure (g := (gN 8)) (te := (cD2 fIx (cVar 8) (cD (.int 0)))) (tt := bYes) (ev := [some (.l b), some (.d (.tuple (iL row))), some (.d (.int l)), some (.d (bD (some ps))), some (.d (.tuple (iL bt))), some (.l st.length), some (.d .none), some (.d (.list (iL E.reverse))), none])
        (fun _ => true) (fun z => .int (p1D z)) (ex (st.set b (some (lay B8))) [some (iL E), none]) (cs1.map Cm.pairD) [] (by
          intro y hy acc
          obtain ⟨p, hp, rfl⟩ := List.mem_map.mp hy
          have ip : fIx (Cm.pairD p) (.int 0) = some (.int (p1D (Cm.pairD p))) := rfl
          refine ⟨_, rfl, rfl, fun _ => ?_⟩
          generalize Cm.pairD p = PP at ip
          simp -implicitDefEqProofs [ip]) (by simp; omega)
      have lc2 := lcL_pure (g := (gN 8)) (te := (cD2 fIx (cVar 8) (cD (.int 0)))) (tt := bYes) (ev := [some (.l b), some (.d (.tuple (iL row))), some (.d (.int l)), some (.d (bD (some ps))), some (.d (.tuple (iL bt))), some (.l st.length), some (.d .none), some (.d (.list (iL E.reverse))), none])
        (fun _ => true) (fun z => .int (p1D z)) (ex (st.set b (some (lay B8))) [some (iL E), none]) (cs2.map Cm.pairD) [] (by
          intro y hy acc
          obtain ⟨p, hp, rfl⟩ := List.mem_map.mp hy
          have ip : fIx (Cm.pairD p) (.int 0) = some (.int (p1D (Cm.pairD p))) := rfl
          refine ⟨_, rfl, rfl, fun _ => ?_⟩
          generalize Cm.pairD p = PP at ip
          simp -implicitDefEqProofs [ip]) (by simp; omega)
      rw [List.nil_append, cm1] at lc1
      rw [List.nil_append, cm2] at lc2
      have nc : ¬ (12 : Int) < (E.length : Int) := by omega
      have nc' : ¬ 12 < E.length := by omega
      simp only [lim_eq] at lu ld lc
      rw [← hEl] at mn nc nc'
      clear hH ab be nxu nxd cm cm1 cm2 hc1 hc2 fr fe e0 e0'
      generalize iL (cst (places bt row)) = CC at lc1 lc2 eqC
      generalize (iL E).map (fun _ => PyData.bool true) = TT at lc fa
      generalize iL E.reverse = N7 at *
      generalize iL E = N5 at *
      generalize cs1.map Cm.pairD = K1 at *
      generalize cs2.map Cm.pairD = K2 at *
      generalize oD E[0]? = U0 at *
      generalize oD E.reverse[0]? = U1 at *
      have sb' := sb
      unfold SameOk at sb'
      generalize bD (some ps) = O at *
      generalize iL row = RR at *
      generalize iL bt = BT at *
      simp -implicitDefEqProofs [f__law_whole_right, defS_ap, b__law_whole_right, cWhile, f1, z1, eN, mn, nc, nc', a0, lu, i1, b0, ld, hrev, neD, lc, fa, e8 _ _ _ hb, f4, sb', al, ec1, ec2, lc1, lc2, eqC]
end My

set_option Elab.async false
set_option linter.all false
set_option maxRecDepth 100000
set_option maxHeartbeats 4000000
namespace My
open PySem PySem.Spec PyProof.Rows L2 Cm
theorem put_spec {m : Nat} {B : Bx} {row : List Int} {l n : Int} (h : BxOk m B) (hm : m < 10000000000) (hr : row.length ≤ 800) (l1 : 1 ≤ l) (l2 : l ≤ 1000000000000000000000000000000) :
    Dr f__law_put_right [.d (.tuple (iL row)), .d (.int l), .d (.int n)] m 3001 B (· = .bool true) := by
  obtain ⟨x8, B8, ⟨bt, rfl, d1, d2, d3⟩, h8, e8⟩ := batch_spec (ls := l) (a := 8) h (by omega) l1 l2 (by omega) (by omega)
  have f1 := filling_spec (x := .tuple (iL row)) (l := l) (.inl rfl) (by omega)
  have rc := records_spec (x := .tuple (iL row)) (.inl rfl) (by omega)
  have hrl := recs_len row
  have ws := with_spec (fs := recs row) (n := n) (by omega)
  have wl : (withL (recs row) n).length ≤ 900 := by
    rw [with_ins (recs_desc row)]
    have := ins_len (n := n) (recs row)
    omega
  have hlen : ∀ rw' : List Int, rw'.length ≤ 900 → ((fil rw' l).getD []).length ≤ 900 := by
    intro rw' hw
    cases hc : fil rw' l with
    | none => simp
    | some ps => have := fil_len hc; show ps.length ≤ 900; omega
  have hh := holds_spec (fil row l) n (by have := hlen row (by omega); omega)
  have al := alike_spec (x := .tuple (iL (withL (recs row) n))) (y := .tuple (iL row)) (l := l) (.inl rfl) (.inl rfl) (by omega) (by omega)
  have f2 := filling_spec (x := .tuple (iL [n])) (row := [n]) (l := l) (.inl rfl) (by simp)
  have f3 := filling_spec (x := .tuple (iL (n :: row))) (row := n :: row) (l := l) (.inl rfl) (by simp; omega)
  have z1 := isNone_bD (fil row l)
  have key := put_alike (row := row) (l := l) (n := n) l1
  have bh : ∀ st : Sto, f_behind [.d (bD (fil [n] l)), .d (bD (fil row l)), .d (.int l)] st = some (.d (bD (fil (n :: row) l)), st) := by
    intro st
    by_cases c : n < 2 * l
    · have g1 : fil [n] l = none := lone_of.mpr (lone_any.mpr ⟨n, by simp, c⟩)
      have g2 : fil (n :: row) l = none := lone_of.mpr (lone_any.mpr ⟨n, by simp, c⟩)
      rw [g2, behind_none _ _ l (.inl g1)]
      rfl
    · cases hc : fil row l with
      | none =>
        obtain ⟨x, hx, h2⟩ := lone_any.mp (lone_of.mp hc)
        have g2 : fil (n :: row) l = none := lone_of.mpr (lone_any.mpr ⟨x, List.mem_cons_of_mem _ hx, h2⟩)
        rw [g2, behind_none _ _ l (.inr rfl)]
        rfl
      | some ps =>
        have g0 : fil [] l = some [] := by first | rfl | simp [fil, lone, recs, dbl, joinB]
        have g1 : fil [n] l = some [(n, n)] := by
          rw [fil_cons l1 (by omega) g0]
          simp [lowB, joinB, jstep]
        rw [g1, fil_cons l1 (by omega) hc]
        have := fil_len hc
        exact behind_spec (by omega) st
  have sb : SameOk 16 (bD (fil (n :: row) l)) := same_bD (fil (n :: row) l) (by intro ps hc; have := fil_len hc; simp at this; omega) 13
  have sl : ∀ i : Bool, SameOk 16 (.bool i) := fun i st => same_bool 15 i st
  have ad : fAdd (.tuple (iL [n])) (.tuple (iL row)) = some (.tuple (iL (n :: row))) := by
    rw [fAdd_t, if_pos (by simp; omega)]
    rfl
  have hk : ∀ x ∈ bt, l ≤ x := fun x hx => (d3 x hx).1
  have p1 := parts_spec (x := .tuple (iL (withL (recs row) n))) (y := .tuple (iL bt)) (.inl rfl) (.inl rfl) (by omega) (by omega) (by omega)
  have p2 := parts_spec (x := .tuple (iL row)) (y := .tuple (iL bt)) (.inl rfl) (.inl rfl) (by omega) (by omega) (by omega)
  have tn : PyData.tuple (iL [n]) = .tuple [.int n] := rfl
  refine ⟨_, B8, rfl, bx_up h8 (by omega) (by omega), ?_⟩
  apply dr_lift
  intro st b hb
  by_cases c : fil (withL (recs row) n) l = fil row l
  · have hpl := alike_places hk l1 (by omega) c
    rw [hpl] at p1
    have eqP := eq_self (shp_parts bt (places bt row)) (by omega)
    rw [decide_eq_true c] at al
    have kk : (fil row l).isNone = true ∨ (fil row l).isNone = false ∧ holdsB ((fil row l).getD []) n = true := by
      rcases key.mp c with h0 | h0
      · rw [h0]; exact .inl rfl
      · cases hi : (fil row l).isNone with
        | true => exact .inl rfl
        | false => exact .inr ⟨rfl, h0⟩
    have s1 := sl true
    generalize bD (fil row l) = O at f1 z1 hh bh
    generalize bD (fil [n] l) = O2 at f2 bh
    generalize bD (fil (n :: row) l) = O3 at f3 bh sb
    generalize iL (withL (recs row) n) = W at ws al p1
    generalize iL (recs row) = R2 at rc ws
    generalize PyData.list (partsD bt (places bt row)) = PD at p1 p2 eqP
    generalize iL (n :: row) = R3 at f3 ad
    rw [tn] at f2 ad
    generalize iL row = R1 at *
    generalize hH : holdsB ((fil row l).getD []) n = HH at hh kk
    rcases kk with hi | ⟨hi, hhe⟩
    · rw [hi] at z1
      simp -implicitDefEqProofs [f__law_put_right, defS_ap, b__law_put_right, f1, rc, ws, z1, hh, al, s1 _, f2, bh, ad, f3, sb _, e8 _ _ _ hb, p1, p2, eqP]
    · rw [hi] at z1
      rw [hhe] at hh
      simp -implicitDefEqProofs [f__law_put_right, defS_ap, b__law_put_right, f1, rc, ws, z1, hh, al, s1 _, f2, bh, ad, f3, sb _, e8 _ _ _ hb, p1, p2, eqP]
  · rw [decide_eq_false c] at al
    obtain ⟨pb, a, pf, pa, _, pu, pt⟩ := parting_spec (x := .tuple (iL (withL (recs row) n))) (y := .tuple (iL row)) (.inl rfl) (.inl rfl) (by omega) (by omega) l1 c
    have pl3 : pb.length ≤ 3 ∧ 0 < pb.length := by rcases pf with rfl | rfl <;> simp
    have q1 := parts_spec (x := .tuple (iL (withL (recs row) n))) (y := .tuple (iL pb)) (.inl rfl) (.inl rfl) (by omega) (by omega) (by omega)
    have q2 := parts_spec (x := .tuple (iL row)) (y := .tuple (iL pb)) (.inl rfl) (.inl rfl) (by omega) (by omega) (by omega)
    have plen : ∀ (c : List Int) (R : List Int), (partsD c (places c R)).length = (places c R).length + 1 := by
      intro c R
      unfold partsD
      rw [List.length_map]
      simp [segs]
    have gl : ¬ (partsD pb (places pb (withL (recs row) n))).length = (partsD pb (places pb row)).length := by rw [plen, plen]; omega
    obtain ⟨mn, hmn⟩ := minI_some (xs := pb) (by intro h0; rw [h0] at pl3; simp at pl3)
    have fm : fMin [.tuple (iL pb)] = some (.int mn) := by rw [fMin_t, asInts_map, Option.bind_some, hmn]; rfl
    have mge : l ≤ mn := by
      have := (minI_spec hmn).1
      rcases pf with rfl | rfl <;> simp at this <;> omega
    have hi : (fil row l).isNone = false := by
      cases hi : (fil row l).isNone with
      | false => rfl
      | true => exact absurd (key.mpr (.inl (Option.isNone_iff_eq_none.mp hi))) c
    have hho : holdsB ((fil row l).getD []) n = false := by
      cases hx : holdsB ((fil row l).getD []) n with
      | false => rfl
      | true => exact absurd (key.mpr (.inr hx)) c
    rw [hi] at z1
    rw [hho] at hh
    have s1 := sl false
    generalize bD (fil row l) = O at f1 z1 hh bh
    generalize bD (fil [n] l) = O2 at f2 bh
    generalize bD (fil (n :: row) l) = O3 at f3 bh sb
    generalize partsD pb (places pb (withL (recs row) n)) = PD1 at q1 gl
    generalize partsD pb (places pb row) = PD2 at q2 gl
    have gl2 : ¬ (PD1.length : Int) = (PD2.length : Int) := by omega
    clear p1 p2
    generalize iL (withL (recs row) n) = W at ws al q1 pt
    generalize iL (recs row) = R2 at rc ws
    generalize iL (n :: row) = R3 at f3 ad
    rw [tn] at f2 ad
    generalize iL row = R1 at *
    generalize iL pb = PB at *
    simp -implicitDefEqProofs [f__law_put_right, defS_ap, b__law_put_right, f1, rc, ws, z1, hh, al, s1 _, f2, bh, ad, f3, sb _, e8 _ _ _ hb, pt, q1, q2, gl, gl2, fm, mge]
end My

set_option Elab.async false
set_option linter.all false
set_option maxRecDepth 100000
set_option maxHeartbeats 4000000
namespace My
open PySem PySem.Spec PyProof.Rows L2 Cm
theorem right_spec {m : Nat} {B : Bx} (h : BxOk m B) (hm : m < 1000000000) : Dr f__law_right [] m 200000 B (· = .bool true) := by
  obtain ⟨x1, B1, ⟨ls, rfl, a1, a2⟩, h1, e1⟩ := least_spec h (by omega)
  obtain ⟨x2, B2, ⟨row, rfl, b1, b2⟩, h2, e2⟩ := row_spec (ls := ls) (a := 5) h1 (by omega) a1 a2 (by omega) (by omega)
  replace e2 : ∀ (st L : Sto) (b : Nat), b < st.length → f__law_row (.l b :: [.d (.int ls), .d (.int 5)]) (ex (st.set b (some (lay B1))) L) = some (.d (.tuple (iL row)), ex (st.set b (some (lay B2))) L) := e2
  have hr : row.length ≤ 5 := by omega
  have f1 := filling_spec (x := .tuple (iL row)) (l := ls) (.inl rfl) (by omega)
  have hlen : ((fil row ls).getD []).length ≤ 5 := by
    cases hc : fil row ls with
    | none => simp
    | some ps => have := fil_len hc; show ps.length ≤ 5; omega
  have hp : ∀ p ∈ (fil row ls).getD [], 1 ≤ p.1 ∧ p.1 ≤ p.2 ∧ p.2 ≤ 14 * ls + 5 := by
    cases hc : fil row ls with
    | none => intro p hp; cases hp
    | some ps =>
      obtain ⟨w, g⟩ := fil_wb a1 hc
      have ft := fil_top a1 hc (fun x hx => (b2 x hx).2)
      intro p hp
      have q1 := g p hp
      have q2 := w.le p hp
      have q3 := ft p hp
      omega
  obtain ⟨x3, B3, ⟨ns, rfl, n1⟩, h3, e3⟩ := some_spec (o := fil row ls) (ls := ls) (C := 14 * ls + 5) h2 (by omega) a1 a2 (by omega) hlen hp
  obtain ⟨B4, acc, ⟨h4, ⟨k, rfl, hk⟩, _⟩, e4⟩ := lcL_abs (T := Pos) (S := Bx) (g := (gN 7)) (te := (cDef 4 f__law_put_right (cCons (cVar 0) (cCons (cVar 2) (cCons (cVar 1) (cCons (cVar 7) cNil))))))
    Pos.ok (fun θ => [some (.l θ.b), some (.d (.int ls)), some (.d (.tuple (iL row))), some (.d (bD (fil row ls))), none, none, none, none]) (fun θ s => ex (θ.st.set θ.b (some (lay s))) []) (by intro θ s s'; simp)
    (fun rest s acc => BxOk (m + 1027 + 3001 * (40 - rest.length)) s ∧ (∃ k, acc = trues k ∧ k + rest.length = ns.length) ∧ ∃ qs : List Int, rest = iL qs) (by
      rintro x xs C acc ⟨hC, ⟨k, rfl, hk⟩, qs, hq⟩
      cases qs with
      | nil => cases hq
      | cons n qs =>
        have hq' : x :: xs = PyData.int n :: iL qs := hq
        injection hq' with hx hxs
        subst hx
        simp only [List.length_cons] at hC hk
        obtain ⟨y, C2, rfl, g2, f2⟩ := put_spec (row := row) (l := ls) (n := n) hC (by omega) (by omega) a1 a2
        refine ⟨.bool true, C2, ⟨bx_up g2 (by omega) (by omega), ⟨k + 1, trues_snoc k, by omega⟩, qs, hxs⟩, by simp [trues]; omega, ?_⟩
        intro θ hb
        refine ⟨_, rfl, ?_⟩
        generalize bD (fil row ls) = O
        simp -implicitDefEqProofs [f2 _ _ _ hb])
    (iL ns) B3 [] ⟨bx_up h3 (by omega) (by omega), ⟨0, rfl, by simp⟩, ns, rfl⟩
  obtain ⟨u, B5, u0, u1, h5, e5⟩ := take_spec (k := 2) h4 (by simp only [List.length_nil]; omega) (lo_of (by omega) (by omega))
  obtain ⟨v, B6, v0, v1, h6, e6⟩ := take_spec (k := 4) h5 (by simp only [List.length_nil]; omega) (lo_of (by omega) (by omega))
  simp only [List.length_nil] at h6
  have o2 : ∀ z, mulOk 2 z = true := fun z => mul_smallL (by omega) (by omega)
  obtain ⟨B7, acc7, ⟨h7, ms, rfl, hms⟩, e7⟩ := lcL_abs (T := Pos) (S := Bx) (g := (gN 6)) (te := (cD2s fAdd (cD2s fMul (cD (.int 2)) (cVar 4)) (cDef 2 f__law_take (cCons (cVar 0) (cCons (cD (.int 14)) cNil)))))
    Pos.ok (fun θ => [some (.l θ.b), some (.d (.int ls)), some (.d (.tuple (iL row))), some (.d (bD (fil row ls))), some (.d (.int (1 + u))), none, none, none]) (fun θ s => ex (θ.st.set θ.b (some (lay s))) []) (by intro θ s s'; simp)
    (fun rest s acc => BxOk (m + 130000 + (10 - rest.length)) s ∧ ∃ ms : List Int, acc = iL ms ∧ ms.length + rest.length = (1 + v).toNat) (by
      rintro x xs C acc ⟨hC, ms, rfl, hms⟩
      simp only [List.length_cons] at hC hms
      obtain ⟨q, C2, q0, q1, g2, f2⟩ := take_spec (k := 14) hC (by omega) (lo_of (by omega) (by omega))
      refine ⟨.int (2 * (1 + u) + q), C2, ⟨bx_up g2 (by omega) (by omega), ms ++ [2 * (1 + u) + q], by show _ = (ms ++ [2 * (1 + u) + q]).map PyData.int; rw [List.map_append]; rfl, by simp; omega⟩, by simp; omega, ?_⟩
      intro θ hb
      refine ⟨_, rfl, ?_⟩
      generalize bD (fil row ls) = O
      generalize iL ms = MM
      simp -implicitDefEqProofs [o2, f2 _ _ _ hb])
    (rangeD 0 (1 + v).toNat) B6 [] ⟨bx_up h6 (by omega) (by omega), [], rfl, by simp⟩
  simp only [List.length_nil] at h7 hms
  obtain ⟨y8, B8, rfl, h8, e8⟩ := whole_spec (row := row) (l := ls) h7 (by omega) (by omega) a1 a2
  obtain ⟨y9, B9, rfl, h9, e9⟩ := whole_spec (row := ms) (l := 1 + u) h8 (by omega) (by omega) (by omega) (by omega)
  refine ⟨_, B9, rfl, bx_up h9 (by omega) (by omega), ?_⟩
  apply dr_lift
  intro st b hb
  have g4 := e4 ⟨st, b⟩ hb
  have g7 := e7 ⟨st, b⟩ hb
  have ta := trues_all k
  have bg : big (1 + v) = true := big_of (by omega) (by omega)
  generalize bD (fil row ls) = O at *
  generalize trues k = TK at *
  generalize iL ns = NS at *
  generalize iL ms = MS at *
  generalize iL row = RR at *
  simp at g4 g7
  simp -implicitDefEqProofs [f__law_right, defS_ap, b__law_right, e1 _ _ _ hb, e2 _ _ _ hb, f1, e3 _ _ _ hb, g4, ta, e5 _ _ _ hb, e6 _ _ _ hb, bg, g7, e8 _ _ _ hb, e9 _ _ _ hb]
end My

set_option Elab.async false
set_option linter.all false
set_option maxRecDepth 100000
set_option maxHeartbeats 4000000
namespace My
open PySem PySem.Spec PyProof.Rows L2 Cm
theorem turns {m : Nat} {B : Bx} (h : BxOk m B) (hm : m < 1000000) (ns cs : List Int) (t2 : Option U) : ∃ B', ∀ Z : Sto, lcL (gN 4) bYes (cDef 1 f__law_right (cCons (cVar 3) cNil)) [some (.s ns), some (.d (.list (iL cs))), t2, some (.l Z.length), none] (rangeD 0 4) (ex Z [some (lay B)]) [] = some (trues 4, ex Z [some (lay B')]) := by
  obtain ⟨B3, acc, ⟨h3, k, rfl, hk⟩, e3⟩ := lcL_abs (T := Sto) (S := Bx) (g := gN 4) (te := cDef 1 f__law_right (cCons (cVar 3) cNil))
    (fun _ => True) (fun Z => [some (.s ns), some (.d (.list (iL cs))), t2, some (.l Z.length), none]) (fun Z s => ex Z [some (lay s)]) (by intro θ s s'; simp)
    (fun rest s acc => BxOk (m + 200000 * (4 - rest.length)) s ∧ ∃ k, acc = trues k ∧ k + rest.length = 4) (by
      rintro x xs C acc ⟨hC, k, rfl, hk⟩
      simp only [List.length_cons] at hC hk
      obtain ⟨y, C2, rfl, g2, f2⟩ := right_spec hC (by omega)
      refine ⟨.bool true, C2, ⟨bx_up g2 (by omega) (by omega), k + 1, trues_snoc k, by omega⟩, by simp [trues]; omega, ?_⟩
      intro Z _
      refine ⟨_, rfl, ?_⟩
      have f3 : f__law_right [.l Z.length] (ex Z [some (lay C), some (trues k)]) = some (.d (.bool true), ex Z [some (lay C2), some (trues k)]) := by
        have := f2 (Z ++ [none]) [some (trues k)] Z.length (by simp)
        simpa [ex, List.set_append] using this
      simp -implicitDefEqProofs [f3])
    (rangeD 0 4) B [] ⟨bx_up h (by omega) (by omega), 0, rfl, by simp⟩
  simp at hk
  subst hk
  exact ⟨B3, fun Z => e3 Z trivial⟩
theorem law_true : ∀ ns : List Int, ns.length ≤ 63 → (∀ z ∈ ns, Builtin.Int.intBits z ≤ 1048576) → ∃ st, f_law [.s ns] [] = some (.d (.bool true), st) := by
  intro ns _ _
  obtain ⟨cs, c1, c2, ec⟩ := cells_spec ns 2 (by omega) (by omega) []
  rw [← ex_nil] at ec
  obtain ⟨ev', st', e, t2, t3, hev, _⟩ := forL_ind (g := (gN 2)) (b := (cSeq (cSet 3 (cDef 2 f__law_box (cCons (cVar 1) (cCons (cVar 2) cNil)))) (cIfS (bNot (cTr (cCall fAll (cCons (cLc (iRange1 (cCons (cD (.int 4)) cNil)) (gN 4) bYes (cDef 1 f__law_right (cCons (cVar 3) cNil)) [4]) cNil)))) (cRet (cD (.bool false))) cSkip)))
    (fun rest ev st => ∃ t2 t3, ev = [some (.s ns), some (.d (.list (iL cs))), t2, t3, none] ∧ ∀ y ∈ rest, ∃ k : Nat, k < cs.length ∧ y = .int (k : Nat)) (by
      rintro x xs ev st ⟨t2, t3, rfl, hr⟩
      obtain ⟨k, hk, rfl⟩ := hr x List.mem_cons_self
      obtain ⟨B, hB, eb⟩ := box_spec cs k hk (by omega) st
      rw [← ex_nil] at eb
      obtain ⟨B', et⟩ := turns hB (by omega) ns cs (some (.d (.int (k : Nat))))
      replace et := et st
      have ta := trues_all 4
      have bg : big 4 = true := big_of (by omega) (by omega)
      refine ⟨_, [some (.s ns), some (.d (.list (iL cs))), some (.d (.int (k : Nat))), some (.l st.length), none], ex st [some (lay B')], rfl, ?_, _, _, rfl, fun y hy => hr y (List.mem_cons_of_mem _ hy)⟩
      simp -implicitDefEqProofs [eb, bg, et, ta])
    (rangeD 0 cs.length) [some (.s ns), some (.d (.list (iL cs))), none, none, none] [] ⟨none, none, rfl, fun y hy => by
      obtain ⟨k, hk, rfl⟩ := rangeD_mem.mp hy
      exact ⟨k, hk, by rw [Int.zero_add]⟩⟩
  have bg : big (cs.length : Int) = true := big_of (by omega) (by omega)
  simp at ec
  refine ⟨[], ?_⟩
  simp -implicitDefEqProofs [f_law, defS_ap, b_law, hand_spec', ec, bg, e]
end My

open PySem PySem.W PySem.Calls PyProof.Rows
set_option maxHeartbeats 0 in
theorem PySem.Challenge.cw_cutsmaller_k67_whole_limits_put_in_holds : PySem.Challenge.rw_cutsmaller_k67_whole_limits_put_in.Holds := by
  w_on; o_law
  refine HandSHeadRun.head_any (r := OpenLaw.row PySem.Challenge.rw_cutsmaller_k67_whole_limits_put_in) (q := view (OpenLaw.row PySem.Challenge.rw_cutsmaller_k67_whole_limits_put_in).prog [35]) (H := My.hk) (ob := My.ob) (M := 4000) (loose := My.loose) (d := HandSHeadRun.topDef (OpenLaw.row PySem.Challenge.rw_cutsmaller_k67_whole_limits_put_in).prog 35) (kwd := []) My.ob_eq
    (by kernel_rfl) (fun s => by kernel_rfl) My.run (by kernel_rfl) (by kernel_rfl) (by kernel_rfl) (by rfl) (by first | assumption | decide +kernel) (by decide +kernel) ⟨rfl, rfl, rfl, rfl, rfl, by decide +kernel⟩ ?hw ?hc
  case hw => w_witness2
  case hc =>
    refine Cm.walk_cm (l := PySem.Challenge.rw_cutsmaller_k67_whole_limits_put_in) (n := 63) (k := 23) (x := "_law_script") (g := My.f_law) rfl (by decide) (by kernel_rfl) ⟨rfl, by decide, by decide⟩ ?F My.law_true
    intro w mg fa h Y G hmg0
    obtain ⟨K, KX, c⟩ := Y
    have hmg : mg ("law" : PySem.Str) = some (.ref fa) := by
      have e : (HandSHeadRun.topDef (OpenLaw.row PySem.Challenge.rw_cutsmaller_k67_whole_limits_put_in).prog 35).name = ("law" : PySem.Str) := by kernel_rfl
      rw [← e]
      exact hmg0
    obtain ⟨fd, hb, hF⟩ := My.facts (P := (PySem.Challenge.rw_cutsmaller_k67_whole_limits_put_in).prog) (w := w) KX G hmg c
    exact ⟨K, fd, KX, hb, hF⟩
