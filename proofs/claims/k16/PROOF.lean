import PyProof.Rows.All
import Wide.All
import OpenK.AllK
import Wide.FinOn
import HandS.ForMost
import HandS.ForExc
import HandS.Lambda
import HandS.TupAny
import HandS.TupMul
import HandS.Deep
import HandS.Conv
import HandS.Style
import HandS.TupLe
import HandS.Zip
import HandS.IsInst
import HandS.Wide
import HandS.ExcCtx
import HandS.HotCalls
import HandS.ExcIs
import KE.DataMinMax
import KE.DataIsa
import KE.DataFind
import KE.DataCmp
import KE.SortData
import KE.GoesEnum
import HandS.Defaults
import HandS.Head0
import HandS.Head1
import HandS.Head2
import HandS.HeadEnd
import HandS.HeadHook1
import HandS.HeadHook2
import HandS.HeadWalk
import HandS.HeadHook4
import HandS.TupSets
import HandS.SetFor
import HandS.Strs
import Lean
import KE.KStateDown
import HandS.Ends
import KE.KNestM
import PySem.Challenge.RW_strideflight_k16_whole_which_walks
set_option Elab.async false
set_option linter.all false
set_option maxRecDepth 100000
set_option maxHeartbeats 0
/-! A layer of data over the hand layer: slots hold data, lists are values. -/
namespace SD
open PySem PySem.Spec PyProof.Rows L2
abbrev D := PyData
abbrev St := L2.St

/-! ### representation -/
mutual
inductive Rp (F : Hp) : V → D → Prop
  | non : Rp F .non .none
  | bl (b : Bool) : Rp F (.bl b) (.bool b)
  | int (i : Int) : Rp F (.int i) (.int i)
  | str (x : Str) : Rp F (.str x) (.str x)
  | lst {a : Addr} {xs : List V} {ds : List D} : F a = some (.lst xs) → RpL F xs ds → Rp F (.ref a) (.list ds)
  | tup {a : Addr} {xs : List V} {ds : List D} : F a = some (.tup xs) → RpL F xs ds → Rp F (.ref a) (.tuple ds)
inductive RpL (F : Hp) : List V → List D → Prop
  | nil : RpL F [] []
  | cons {v : V} {vs : List V} {d : D} {ds : List D} : Rp F v d → RpL F vs ds → RpL F (v :: vs) (d :: ds)
end
mutual
theorem Rp.up {F F' : Hp} (s : Same F F') : ∀ {v : V} {d : D}, Rp F v d → Rp F' v d
  | _, _, .non => .non
  | _, _, .bl b => .bl b
  | _, _, .int i => .int i
  | _, _, .str x => .str x
  | _, _, .lst h t => .lst (s _ _ h) (RpL.up s t)
  | _, _, .tup h t => .tup (s _ _ h) (RpL.up s t)
theorem RpL.up {F F' : Hp} (s : Same F F') : ∀ {v : List V} {d : List D}, RpL F v d → RpL F' v d
  | _, _, .nil => .nil
  | _, _, .cons h t => .cons (Rp.up s h) (RpL.up s t)
end
mutual
theorem Rp.dp {K : PySem.W.Frag} {F H : Hp} (s : Same F H) : ∀ {v : V} {d : D}, Rp F v d → Dp K H v d
  | _, _, .non => .non
  | _, _, .bl b => .bl b
  | _, _, .int i => .int i
  | _, _, .str x => .str x
  | _, _, .lst h t => .lst (SqL.of (s _ _ h)) (RpL.dp s t)
  | _, _, .tup h t => .tup (SqT.of (s _ _ h)) (RpL.dp s t)
theorem RpL.dp {K : PySem.W.Frag} {F H : Hp} (s : Same F H) : ∀ {v : List V} {d : List D}, RpL F v d → DpAll K H v d
  | _, _, .nil => .nil
  | _, _, .cons h t => .cons (Rp.dp s h) (RpL.dp s t)
end
theorem RpL.length {F : Hp} : ∀ {vs : List V} {ds : List D}, RpL F vs ds → vs.length = ds.length
  | _, _, .nil => rfl
  | _, _, .cons _ t => congrArg Nat.succ (RpL.length t)
theorem RpL.get {F : Hp} : ∀ {vs : List V} {ds : List D}, RpL F vs ds → ∀ {i : Nat} {d : D}, ds[i]? = some d → ∃ v, vs[i]? = some v ∧ Rp F v d
  | _, _, .nil, i, d, e => by simp at e
  | _, _, .cons h t, 0, d, e => by
    simp at e
    subst e
    exact ⟨_, rfl, h⟩
  | _, _, .cons h t, i + 1, d, e => by
    obtain ⟨v, h1, h2⟩ := RpL.get t (i := i) (d := d) (by simpa using e)
    exact ⟨v, by simpa using h1, h2⟩
theorem RpL.getV {F : Hp} {vs : List V} {ds : List D} (r : RpL F vs ds) {i : Nat} {v : V} (e : vs[i]? = some v) : ∃ d, ds[i]? = some d ∧ Rp F v d := by
  have hl := r.length
  have hi : i < ds.length := by
    have := (List.getElem?_eq_some_iff.mp e).1
    omega
  obtain ⟨v', h1, h2⟩ := r.get (List.getElem?_eq_getElem hi)
  rw [e] at h1
  cases h1
  exact ⟨_, List.getElem?_eq_getElem hi, h2⟩
theorem RpL.append {F : Hp} : ∀ {vs ws : List V} {ds es : List D}, RpL F vs ds → RpL F ws es → RpL F (vs ++ ws) (ds ++ es)
  | _, _, _, _, .nil, s => s
  | _, _, _, _, .cons h t, s => .cons h (RpL.append t s)
theorem RpL.take {F : Hp} : ∀ {vs : List V} {ds : List D} (n : Nat), RpL F vs ds → RpL F (vs.take n) (ds.take n)
  | _, _, 0, _ => .nil
  | _, _, _ + 1, .nil => .nil
  | _, _, n + 1, .cons h t => .cons h (RpL.take n t)
theorem RpL.drop {F : Hp} : ∀ {vs : List V} {ds : List D} (n : Nat), RpL F vs ds → RpL F (vs.drop n) (ds.drop n)
  | _, _, 0, r => r
  | _, _, _ + 1, .nil => .nil
  | _, _, n + 1, .cons _ t => RpL.drop n t
theorem RpL.set {F : Hp} {v : V} {d : D} (h : Rp F v d) : ∀ {vs : List V} {ds : List D} (n : Nat), RpL F vs ds → RpL F (vs.set n v) (ds.set n d)
  | _, _, _, .nil => .nil
  | _, _, 0, .cons _ t => .cons h t
  | _, _, n + 1, .cons q t => .cons q (RpL.set h n t)
theorem RpL.one {F : Hp} {v : V} {d : D} (h : Rp F v d) : RpL F [v] [d] := .cons h .nil
theorem RpL.rev {F : Hp} : ∀ {vs : List V} {ds : List D}, RpL F vs ds → RpL F vs.reverse ds.reverse
  | _, _, .nil => .nil
  | _, _, .cons h t => by
    rw [List.reverse_cons, List.reverse_cons]
    exact (RpL.rev t).append (.one h)
theorem RpL.ints {F : Hp} : ∀ {vs : List V} {ns : List Int}, RpL F vs (ns.map PyData.int) → vs = ns.map V.int
  | vs, [], h => by
    have h' : RpL F vs [] := h
    cases h'
    rfl
  | vs, n :: ns, h => by
    have h' : RpL F vs (.int n :: ns.map PyData.int) := h
    cases h' with
    | cons h1 h2 =>
      cases h1
      rw [RpL.ints h2]
      rfl
theorem RpL.ofInts {F : Hp} : ∀ (ns : List Int), RpL F (ns.map V.int) (ns.map PyData.int)
  | [] => .nil
  | n :: ns => .cons (.int n) (RpL.ofInts ns)
theorem RpL.bools {F : Hp} : ∀ {vs : List V} {ns : List Bool}, RpL F vs (ns.map PyData.bool) → vs = ns.map V.bl
  | vs, [], h => by
    have h' : RpL F vs [] := h
    cases h'
    rfl
  | vs, n :: ns, h => by
    have h' : RpL F vs (.bool n :: ns.map PyData.bool) := h
    cases h' with
    | cons h1 h2 =>
      cases h1
      rw [RpL.bools h2]
      rfl

/-! ### data without lists -/
mutual
@[simp] def nolist : D → Bool
  | .list _ => false
  | .tuple ds => nolists ds
  | .dict _ => false
  | _ => true
@[simp] def nolists : List D → Bool
  | [] => true
  | d :: ds => nolist d && nolists ds
end

/-! ### the slots of a frame, by data -/
inductive Sl where
  | un
  | dat (d : D)
  | own (ds : List D)
  | own2 (dss : List (List D))
  | dice
abbrev En := List Sl

/-! ### heaps -/
structure Vw (T : List (Addr × Str)) (O : List Addr) (F H : Hp) : Prop where
  frz : Same F H
  ntb : ∀ b ps, F b ≠ some (.tbl ps)
  tab : LamX.Tabs T H
  dic : ∀ p ∈ O, F p = none ∧ ∃ c n : Int, H p = some (.lst [.int c, .int n])
structure Stp (O : List Addr) (F H F' H' : Hp) : Prop where
  same : ∀ b o, H b = some o → (∀ ps, o ≠ .tbl ps) → b ∉ O → H' b = some o
  grow : Same F F'
  new : ∀ b o, F' b = some o → F b = some o ∨ H b = none
  tbs : ∀ b ps, H b = some (.tbl ps) → ∃ ps', H' b = some (.tbl ps')
  dcs : ∀ b ∈ O, H b ≠ none → H' b ≠ none
def Sls (O : List Addr) (F : Hp) (σ : St) (env : En) : Prop := env.length = σ.length ∧
  ∀ (i : Nat), match env[i]? with
    | some (.dat d) => ∃ v, σ[i]? = some (some v) ∧ Rp F v d
    | some .dice => ∃ p, p ∈ O ∧ σ[i]? = some (some (.ref p))
    | _ => True
theorem Sls.up {O : List Addr} {F F' : Hp} {σ : St} {env : En} (s : Sls O F σ env) (g : Same F F') : Sls O F' σ env := ⟨s.1, fun i => by
  have h := s.2 i
  cases e : env[i]? with
  | none => trivial
  | some x =>
    rw [e] at h
    cases x with
    | un => trivial
    | dat d =>
      obtain ⟨v, h1, h2⟩ := h
      exact ⟨v, h1, h2.up g⟩
    | own ds => trivial
    | own2 dss => trivial
    | dice => exact h⟩
theorem Sls.dat {O : List Addr} {F : Hp} {σ : St} {env : En} (s : Sls O F σ env) {i : Nat} {d : D} (e : env[i]? = some (.dat d)) : ∃ v, σ[i]? = some (some v) ∧ Rp F v d := by
  have h := s.2 i
  rw [e] at h
  exact h
theorem Sls.dice {O : List Addr} {F : Hp} {σ : St} {env : En} (s : Sls O F σ env) {i : Nat} (e : env[i]? = some .dice) : ∃ p, p ∈ O ∧ σ[i]? = some (some (.ref p)) := by
  have h := s.2 i
  rw [e] at h
  exact h
theorem Stp.refl (O : List Addr) (F H : Hp) : Stp O F H F H := ⟨fun _ _ h _ _ => h, Same.refl F, fun _ _ h => .inl h, fun _ ps h => ⟨ps, h⟩, fun _ _ h => h⟩
theorem Stp.trans {T : List (Addr × Str)} {O : List Addr} {F H F1 H1 F2 H2 : Hp} (a : Stp O F H F1 H1) (b : Stp O F1 H1 F2 H2) (v : Vw T O F2 H2) : Stp O F H F2 H2 where
  same := fun c o h n m => b.same c o (a.same c o h n m) n m
  grow := a.grow.trans b.grow
  new := fun c o h => by
    rcases b.new c o h with h1 | h1
    · exact a.new c o h1
    · refine .inr ?_
      cases q : H c with
      | none => rfl
      | some u =>
        exfalso
        by_cases hc : c ∈ O
        · rw [(v.dic c hc).1] at h
          cases h
        · by_cases ht : ∃ ps, u = .tbl ps
          · obtain ⟨ps, rfl⟩ := ht
            obtain ⟨ps', e⟩ := a.tbs c ps q
            rw [e] at h1
            cases h1
          · rw [a.same c u q (fun ps e => ht ⟨ps, e⟩) hc] at h1
            cases h1
  tbs := fun c ps h => by
    obtain ⟨ps1, h1⟩ := a.tbs c ps h
    exact b.tbs c ps1 h1
  dcs := fun c hc h => b.dcs c hc (a.dcs c hc h)
/-- a new object that is data at once -/
theorem Vw.lay {T : List (Addr × Str)} {O : List Addr} {F H : Hp} {p : Addr} {o : HO} (v : Vw T O F H) (hp : H p = none) (ho : ∀ ps, o ≠ .tbl ps) : Vw T O (upd F p o) (upd H p o) where
  frz := fun b u h => by
    by_cases hb : b = p
    · subst hb
      rw [upd_same] at h ⊢
      exact h
    · rw [upd_ne hb] at h ⊢
      exact v.frz b u h
  ntb := fun b ps h => by
    by_cases hb : b = p
    · subst hb
      rw [upd_same] at h
      exact ho ps (Option.some.inj h)
    · rw [upd_ne hb] at h
      exact v.ntb b ps h
  tab := v.tab.ext fun b u h => by
    rw [upd_ne (ne_of_none h hp)]
    exact h
  dic := fun q hq => by
    obtain ⟨h1, c, n, h2⟩ := v.dic q hq
    have hne : q ≠ p := ne_of_none h2 hp
    exact ⟨by rw [upd_ne hne]; exact h1, c, n, by rw [upd_ne hne]; exact h2⟩
theorem Vw.fF {T : List (Addr × Str)} {O : List Addr} {F H : Hp} {p : Addr} (v : Vw T O F H) (hp : H p = none) : F p = none := v.frz.free hp
theorem Stp.lay {O : List Addr} {F H : Hp} {p : Addr} {o : HO} (hF : F p = none) (hp : H p = none) : Stp O F H (upd F p o) (upd H p o) where
  same := fun b u h _ _ => by
    rw [upd_ne (ne_of_none h hp)]
    exact h
  grow := fun b u h => by
    rw [upd_ne (ne_of_none h hF)]
    exact h
  new := fun b u h => by
    by_cases hb : b = p
    · subst hb
      exact .inr hp
    · rw [upd_ne hb] at h
      exact .inl h
  tbs := fun b ps h => ⟨ps, by rw [upd_ne (ne_of_none h hp)]; exact h⟩
  dcs := fun b _ h z => by
    cases q : H b with
    | none => exact h q
    | some u =>
      rw [upd_ne (ne_of_none q hp), q] at z
      cases z
/-- a new object that is not data yet -/
theorem Vw.layO {T : List (Addr × Str)} {O : List Addr} {F H : Hp} {p : Addr} {o : HO} (v : Vw T O F H) (hp : H p = none) : Vw T O F (upd H p o) where
  frz := fun b u h => by
    have h1 := v.frz b u h
    rw [upd_ne (ne_of_none h1 hp)]
    exact h1
  ntb := v.ntb
  tab := v.tab.ext fun b u h => by
    rw [upd_ne (ne_of_none h hp)]
    exact h
  dic := fun q hq => by
    obtain ⟨h1, c, n, h2⟩ := v.dic q hq
    exact ⟨h1, c, n, by rw [upd_ne (ne_of_none h2 hp)]; exact h2⟩
theorem Stp.layO {O : List Addr} {F H : Hp} {p : Addr} {o : HO} (hp : H p = none) : Stp O F H F (upd H p o) where
  same := fun b u h _ _ => by
    rw [upd_ne (ne_of_none h hp)]
    exact h
  grow := Same.refl F
  new := fun b u h => .inl h
  tbs := fun b ps h => ⟨ps, by rw [upd_ne (ne_of_none h hp)]; exact h⟩
  dcs := fun b _ h z => by
    cases q : H b with
    | none => exact h q
    | some u =>
      rw [upd_ne (ne_of_none q hp), q] at z
      cases z
/-- a fresh list becomes data -/
theorem Vw.freeze {T : List (Addr × Str)} {O : List Addr} {F H : Hp} {p : Addr} {o : HO} (v : Vw T O F H) (hF : F p = none) (hp : H p = some o) (ho : ∀ ps, o ≠ .tbl ps) (hO : p ∉ O) : Vw T O (upd F p o) H where
  frz := fun b u h => by
    by_cases hb : b = p
    · subst hb
      rw [upd_same] at h
      rw [hp]
      exact h
    · rw [upd_ne hb] at h
      exact v.frz b u h
  ntb := fun b ps h => by
    by_cases hb : b = p
    · subst hb
      rw [upd_same] at h
      exact ho ps (Option.some.inj h)
    · rw [upd_ne hb] at h
      exact v.ntb b ps h
  tab := v.tab
  dic := fun q hq => by
    obtain ⟨h1, c, n, h2⟩ := v.dic q hq
    have hne : q ≠ p := fun e => hO (e ▸ hq)
    exact ⟨by rw [upd_ne hne]; exact h1, c, n, h2⟩
theorem grow_upd {F : Hp} {p : Addr} {o : HO} (hF : F p = none) : Same F (upd F p o) := fun b u h => by
  rw [upd_ne (ne_of_none h hF)]
  exact h

/-! ### the readings -/
abbrev WE := En → (D → Prop) → (Str → Prop) → Prop
abbrev WA := En → (List D → Prop) → (Str → Prop) → Prop
abbrev WT := En → (Bool → Prop) → (Str → Prop) → Prop
abbrev WSl := En → (List Sl → Prop) → (Str → Prop) → Prop
/-- what is fixed while a def runs: the tables, the wish about exceptions -/
structure Ctx where
  T : List (Addr × Str)
  mg : Str → Option Value
  E : XK
def Ctx.exc (c : Ctx) (O : List Addr) (F H : Hp) (QE : Str → Prop) : Prop :=
  ∀ x, QE x → ∀ F' H' C, Vw c.T O F' H' → Stp O F H F' H' → c.mg x = some (.ref C) → c.E (.ref C) none H'
theorem Ctx.exc.up {c : Ctx} {O : List Addr} {F H F1 H1 : Hp} {QE : Str → Prop} (h : c.exc O F H QE) (s : Stp O F H F1 H1) : c.exc O F1 H1 QE := fun x hx F' H' C v st e => h x hx F' H' C v (s.trans st v) e
def liftE (c : Ctx) (w : WE) : TE := fun σ H Q => ∃ O F env QD QE, Vw c.T O F H ∧ Sls O F σ env ∧ w env QD QE ∧
  (∀ d, QD d → ∀ F' H' v, Vw c.T O F' H' → Stp O F H F' H' → Rp F' v d → Q v H') ∧ c.exc O F H QE
def liftT (c : Ctx) (w : WT) : TT := fun σ H Q => ∃ O F env QD QE, Vw c.T O F H ∧ Sls O F σ env ∧ w env QD QE ∧
  (∀ b, QD b → ∀ F' H', Vw c.T O F' H' → Stp O F H F' H' → Q b H') ∧ c.exc O F H QE
def liftA (c : Ctx) (w : WA) : TA := fun σ H Q => ∃ O F env QD QE, Vw c.T O F H ∧ Sls O F σ env ∧ w env QD QE ∧
  (∀ ds, QD ds → ∀ F' H' vs, Vw c.T O F' H' → Stp O F H F' H' → RpL F' vs ds → Q vs H') ∧ c.exc O F H QE
/-- a new list: not data yet -/
def liftL (c : Ctx) (w : WA) : TE := fun σ H Q => ∃ O F env QD QE, Vw c.T O F H ∧ Sls O F σ env ∧ w env QD QE ∧
  (∀ ds, QD ds → ∀ F' H' p xs, Vw c.T O F' H' → Stp O F H F' H' → H p = none → F' p = none → H' p = some (.lst xs) → RpL F' xs ds → Q (.ref p) H') ∧ c.exc O F H QE
def ArgR (O : List Addr) (F : Hp) : List V → List Sl → Prop
  | [], [] => True
  | v :: vs, .dat d :: as => Rp F v d ∧ ArgR O F vs as
  | v :: vs, .dice :: as => (∃ p, p ∈ O ∧ v = .ref p) ∧ ArgR O F vs as
  | _, _ => False
theorem ArgR.up {O : List Addr} {F F' : Hp} (g : Same F F') : ∀ {vs : List V} {as : List Sl}, ArgR O F vs as → ArgR O F' vs as
  | [], [], _ => trivial
  | v :: vs, .dat d :: as, h => ⟨h.1.up g, ArgR.up g h.2⟩
  | v :: vs, .dice :: as, h => ⟨h.1, ArgR.up g h.2⟩
  | [], _ :: _, h => h.elim
  | _ :: _, [], h => h.elim
  | _ :: _, .un :: _, h => h.elim
  | _ :: _, .own _ :: _, h => h.elim
  | _ :: _, .own2 _ :: _, h => h.elim
def liftSl (c : Ctx) (w : WSl) : TA := fun σ H Q => ∃ O F env QD QE, Vw c.T O F H ∧ Sls O F σ env ∧ w env QD QE ∧
  (∀ as, QD as → ∀ F' H' vs, Vw c.T O F' H' → Stp O F H F' H' → ArgR O F' vs as → Q vs H') ∧ c.exc O F H QE
abbrev DE (X : Cx) (c : Ctx) (e : Expr) (w : WE) : Prop := PE X e (liftE c w)
abbrev DL (X : Cx) (c : Ctx) (e : Expr) (w : WA) : Prop := PE X e (liftL c w)
abbrev DT (X : Cx) (c : Ctx) (e : Expr) (w : WT) : Prop := PT X e (liftT c w)
abbrev DA (X : Cx) (c : Ctx) (es : List Expr) (w : WA) : Prop := PA X es (liftA c w)
abbrev DSl (X : Cx) (c : Ctx) (es : List Expr) (w : WSl) : Prop := PA X es (liftSl c w)
theorem PE.imp {X : Cx} {e : Expr} {t t' : TE} (h : PE X e t) (i : ∀ σ H Q, t' σ H Q → t σ H Q) : PE X e t' := ⟨fun pins s σ H Q I z => h.run pins s σ H Q I (i σ H Q z)⟩
theorem PT.imp {X : Cx} {e : Expr} {t t' : TT} (h : PT X e t) (i : ∀ σ H Q, t' σ H Q → t σ H Q) : PT X e t' := ⟨fun pins s σ H Q I z => h.run pins s σ H Q I (i σ H Q z)⟩
theorem PA.imp {X : Cx} {e : List Expr} {t t' : TA} (h : PA X e t) (i : ∀ σ H Q, t' σ H Q → t σ H Q) : PA X e t' := ⟨fun pos pins s σ H Q I z => h.run pos pins s σ H Q I (i σ H Q z)⟩
theorem PS.imp {X : Cx} {e : Stmt} {t t' : TS} (h : PS X e t) (i : ∀ D σ H, t' D σ H → t D σ H) : PS X e t' := ⟨fun pins s σ H D I z => h.run pins s σ H D I (i D σ H z)⟩
theorem PSs.imp {X : Cx} {e : List Stmt} {t t' : TS} (h : PSs X e t) (i : ∀ D σ H, t' D σ H → t D σ H) : PSs X e t' := ⟨fun pins s σ H D I z => h.run pins s σ H D I (i D σ H z)⟩
theorem PI.imp {X : Cx} {tg e : Expr} {t t' : TI} (h : PI X tg e t) (i : ∀ σ H R, t' σ H R → t σ H R) : PI X tg e t' := ⟨fun pins s σ H R I z => h.run pins s σ H R I (i σ H R z)⟩

/-! ### expressions -/
section
variable {X : Cx} {c : Ctx} {a b e : Expr} {wa wb : WE} {pos : Pos}
@[simp] def wC (d : D) : WE := fun _ Q _ => Q d
@[simp] def wV (i : Nat) : WE := fun env Q _ => ∃ d, env[i]? = some (.dat d) ∧ Q d
theorem d_const {v : V} {d : D} (h : PE X e (tC v)) (r : ∀ F, Rp F v d) : DE X c e (wC d) := PE.imp h fun σ H Q ⟨O, F, env, QD, QE, vw, sl, hw, hq, he⟩ => hq d hw F H v vw (Stp.refl O F H) (r F)
theorem d_int {i : Int} {j pos} : DE X c (.Constant (.int i) j pos) (wC (.int i)) := d_const pe_int fun _ => .int i
theorem d_bool {i : Bool} {j pos} : DE X c (.Constant (.bool i) j pos) (wC (.bool i)) := d_const pe_bl fun _ => .bl i
theorem d_none {j pos} : DE X c (.Constant .none j pos) (wC .none) := d_const pe_non fun _ => .non
theorem d_str {x : Str} {j pos} : DE X c (.Constant (.str x) j pos) (wC (.str x)) := d_const pe_str fun _ => .str x
theorem d_var (i : Nat) {x : Str} (hN : X.N[i]? = some x := by rfl) (hv : Vis X.env.scope x := by first | exact Or.inl rfl | exact Or.inr (Or.inl rfl) | exact Or.inr (Or.inr rfl)) (hd : (x == ("__debug__" : Str)) = false := by decide)
    (hcd : (x == ("__classdict__" : Str)) = false := by decide) : DE X c (.Name x pos) (wV i) := PE.imp (pe_var hN hv hd hcd) fun σ H Q ⟨O, F, env, QD, QE, vw, sl, ⟨d, e1, hw⟩, hq, he⟩ => by
  obtain ⟨v, e2, r⟩ := sl.dat e1
  exact ⟨v, e2, hq d hw F H v vw (Stp.refl O F H) r⟩
/-- an operation on data, by its rule on values -/
def DOp (r : R2) (g : D → D → (D → Prop) → Prop) : Prop := ∀ (T : List (Addr × Str)) (O : List Addr) (F H : Hp) (x y : V) (dx dy : D) (QD : D → Prop) (Q : VK), Vw T O F H → Rp F x dx → Rp F y dy → g dx dy QD →
  (∀ d, QD d → ∀ F' H' v, Vw T O F' H' → Stp O F H F' H' → Rp F' v d → Q v H') → r x y H Q
@[simp] def wOp (g : D → D → (D → Prop) → Prop) (wa wb : WE) : WE := fun env Q E => wa env (fun x => wb env (fun y => g x y Q) E) E
theorem lift_op {r : R2} {g : D → D → (D → Prop) → Prop} (hg : DOp r g) : ∀ σ H Q, liftE c (wOp g wa wb) σ H Q → tOp r (liftE c wa) (liftE c wb) σ H Q := by
  rintro σ H Q ⟨O, F, env, QD, QE, vw, sl, hw, hq, he⟩
  refine ⟨O, F, env, _, QE, vw, sl, hw, fun dx hx F1 H1 v v1 s1 r1 => ?_, he⟩
  refine ⟨O, F1, env, _, QE, v1, sl.up s1.grow, hx, fun dy hy F2 H2 u v2 s2 r2 => ?_, he.up s1⟩
  exact hg c.T O F2 H2 v u dx dy QD Q v2 (r1.up s2.grow) r2 hy fun d hd F3 H3 z v3 s3 r3 => hq d hd F3 H3 z v3 (s1.trans (s2.trans s3 v3) v3) r3
theorem d_op {op : Operator} {r : R2} {g : D → D → (D → Prop) → Prop} (ho : OpR X (binaryOp op) r) (hg : DOp r g) (ha : DE X c a wa) (hb : DE X c b wb) : DE X c (.BinOp a op b pos) (wOp g wa wb) :=
  PE.imp (pe_op ho ha hb) (lift_op hg)
theorem d_cmp {op : CmpOp} {r : R2} {g : D → D → (D → Prop) → Prop} (ho : OpR X (compareOp op) r) (hg : DOp r g) (ha : DE X c a wa) (hb : DE X c b wb) (hm : behindInMarks op b = false) : DE X c (.Compare a [op] [b] pos) (wOp g wa wb) :=
  PE.imp (pe_cmpR ho ha hb hm) (lift_op hg)
@[simp] def wB (w : WE) : WT := fun env Q E => w env (fun d => ∃ k, d = .bool k ∧ Q k) E
theorem lift_test {t : TE} {w : WE} (i : ∀ σ H Q, liftE c w σ H Q → t σ H Q) : ∀ σ H Q, liftT c (wB w) σ H Q → tTest t σ H Q := by
  rintro σ H Q ⟨O, F, env, QD, QE, vw, sl, hw, hq, he⟩
  refine i σ H _ ⟨O, F, env, _, QE, vw, sl, hw, fun d hd F1 H1 v v1 s1 r1 => ?_, he⟩
  obtain ⟨k, e1, hk⟩ := hd
  subst e1
  cases r1
  exact ⟨k, rfl, hq k hk F1 H1 v1 s1⟩
theorem t_cmp {op : CmpOp} {r : R2} {g : D → D → (D → Prop) → Prop} (ho : OpR X (compareOp op) r) (hg : DOp r g) (ha : DE X c a wa) (hb : DE X c b wb) (hm : behindInMarks op b = false) : DT X c (.Compare a [op] [b] pos) (wB (wOp g wa wb)) :=
  PT.imp (pt_cmpR ho ha hb hm) (lift_test (lift_op hg))
theorem t_val (h : DE X c e wa) (he : ∀ whole, isTrue e X.env whole = (do let v ← whole; standAt e.pos; holding [v] (truthy v)) := by intro _; rfl) : DT X c e (wB wa) :=
  PT.imp (pt_val h he) (lift_test fun _ _ _ z => z)
/-- a op1 b op2 c -/
@[simp] def wChain (g g' : D → D → (D → Prop) → Prop) (wa wb wc : WE) : WE := fun env Q E => wa env (fun x => wb env (fun y => g x y fun z => ∃ k, z = .bool k ∧ (if k = true then wc env (fun u => g' y u Q) E else Q (.bool false))) E) E
theorem lift_chain {r r' : R2} {g g' : D → D → (D → Prop) → Prop} {wc : WE} (hg : DOp r g) (hg' : DOp r' g') : ∀ σ H Q, liftE c (wChain g g' wa wb wc) σ H Q → tChain r r' (liftE c wa) (liftE c wb) (liftE c wc) σ H Q := by
  rintro σ H Q ⟨O, F, env, QD, QE, vw, sl, hw, hq, he⟩
  refine ⟨O, F, env, _, QE, vw, sl, hw, fun dx hx F1 H1 v v1 s1 r1 => ?_, he⟩
  refine ⟨O, F1, env, _, QE, v1, sl.up s1.grow, hx, fun dy hy F2 H2 u v2 s2 r2 => ?_, he.up s1⟩
  refine hg c.T O F2 H2 v u dx dy _ _ v2 (r1.up s2.grow) r2 hy fun d hd F3 H3 z v3 s3 r3 => ?_
  obtain ⟨k, e1, hk⟩ := hd
  subst e1
  cases r3
  refine ⟨k, rfl, ?_⟩
  have s03 := s1.trans (s2.trans s3 v3) v3
  cases k with
  | false => exact hq _ hk F3 H3 _ v3 s03 (.bl false)
  | true =>
    refine ⟨O, F3, env, _, QE, v3, sl.up s03.grow, hk, fun dz hz F4 H4 z v4 s4 r4 => ?_, he.up s03⟩
    exact hg' c.T O F4 H4 u z dy dz QD Q v4 (r2.up (s3.grow.trans s4.grow)) r4 hz fun d hd F5 H5 y v5 s5 r5 => hq d hd F5 H5 y v5 (s03.trans (s4.trans s5 v5) v5) r5
theorem d_chain {c' : Expr} {wc : WE} {op op' : CmpOp} {r r' : R2} {g g' : D → D → (D → Prop) → Prop} (ho : OpR X (compareOp op) r) (ho' : OpR X (compareOp op') r') (hg : DOp r g) (hg' : DOp r' g') (ha : DE X c a wa) (hb : DE X c b wb) (hc : DE X c c' wc)
    (hm : lastMarks [op, op'] [b, c'] = false := by with_unfolding_all rfl) : DE X c (.Compare a [op, op'] [b, c'] pos) (wChain g g' wa wb wc) := PE.imp (pe_chain ho ho' ha hb hc hm) (lift_chain hg hg')
theorem t_chain {c' : Expr} {wc : WE} {op op' : CmpOp} {r r' : R2} {g g' : D → D → (D → Prop) → Prop} (ho : OpR X (compareOp op) r) (ho' : OpR X (compareOp op') r') (hg : DOp r g) (hg' : DOp r' g') (ha : DE X c a wa) (hb : DE X c b wb) (hc : DE X c c' wc)
    (hm : lastMarks [op, op'] [b, c'] = false := by with_unfolding_all rfl) : DT X c (.Compare a [op, op'] [b, c'] pos) (wB (wChain g g' wa wb wc)) := PT.imp (pt_chain ho ho' ha hb hc hm) (lift_test (lift_chain hg hg'))
/-! tests -/
@[simp] def wAnd (t u : WT) : WT := fun env Q E => t env (fun k => if k = true then u env Q E else Q false) E
@[simp] def wOr (t u : WT) : WT := fun env Q E => t env (fun k => if k = true then Q true else u env Q E) E
@[simp] def wNot (t : WT) : WT := fun env Q E => t env (fun k => Q (!k)) E
theorem lift_not {t : TT} {w : WT} (i : ∀ σ H Q, liftT c w σ H Q → t σ H Q) : ∀ σ H Q, liftT c (wNot w) σ H Q → tNot t σ H Q := by
  rintro σ H Q ⟨O, F, env, QD, QE, vw, sl, hw, hq, he⟩
  exact i σ H _ ⟨O, F, env, _, QE, vw, sl, hw, fun k hk F1 H1 v1 s1 => hq _ hk F1 H1 v1 s1, he⟩
theorem lift_and {t u : TT} {w z : WT} (i : ∀ σ H Q, liftT c w σ H Q → t σ H Q) (j : ∀ σ H Q, liftT c z σ H Q → u σ H Q) : ∀ σ H Q, liftT c (wAnd w z) σ H Q → tAnd t u σ H Q := by
  rintro σ H Q ⟨O, F, env, QD, QE, vw, sl, hw, hq, he⟩
  refine i σ H _ ⟨O, F, env, _, QE, vw, sl, hw, fun k hk F1 H1 v1 s1 => ?_, he⟩
  cases k with
  | false => exact hq _ hk F1 H1 v1 s1
  | true => exact j σ H1 _ ⟨O, F1, env, QD, QE, v1, sl.up s1.grow, hk, fun b hb F2 H2 v2 s2 => hq b hb F2 H2 v2 (s1.trans s2 v2), he.up s1⟩
theorem lift_or {t u : TT} {w z : WT} (i : ∀ σ H Q, liftT c w σ H Q → t σ H Q) (j : ∀ σ H Q, liftT c z σ H Q → u σ H Q) : ∀ σ H Q, liftT c (wOr w z) σ H Q → tOr t u σ H Q := by
  rintro σ H Q ⟨O, F, env, QD, QE, vw, sl, hw, hq, he⟩
  refine i σ H _ ⟨O, F, env, _, QE, vw, sl, hw, fun k hk F1 H1 v1 s1 => ?_, he⟩
  cases k with
  | true => exact hq _ hk F1 H1 v1 s1
  | false => exact j σ H1 _ ⟨O, F1, env, QD, QE, v1, sl.up s1.grow, hk, fun b hb F2 H2 v2 s2 => hq b hb F2 H2 v2 (s1.trans s2 v2), he.up s1⟩
end
end SD

namespace SD
open PySem PySem.Spec PyProof.Rows L2
theorem OpR.or {X : Cx} {f : Value → Value → Sem Value} {r r' : R2} (h : OpR X f r) (h' : OpR X f r') : OpR X f (fun x y H Q => r x y H Q ∨ r' x y H Q) := by
  intro pins s σ H x y v u Q I rx ry q
  rcases q with q | q
  · exact h pins s σ H x y v u Q I rx ry q
  · exact h' pins s σ H x y v u Q I rx ry q
theorem CallR.or {X : Cx} {f : Value} {r r' : List V → Hp → VK → Prop} (h : CallR X f r) (h' : CallR X f r') : CallR X f (fun xs H Q => r xs H Q ∨ r' xs H Q) := by
  intro pins s σ H x y Q I rx q
  rcases q with q | q
  · exact h pins s σ H x y Q I rx q
  · exact h' pins s σ H x y Q I rx q
/-- data in a frozen place -/
theorem Vw.out {T : List (Addr × Str)} {O : List Addr} {F H : Hp} (v : Vw T O F H) {p : Addr} (h : H p = none) : p ∉ O := fun hp => by
  obtain ⟨_, c, n, e⟩ := v.dic p hp
  rw [h] at e
  cases e
/-- lists -/
def DOpL (r : R2) (g : D → D → (List D → Prop) → Prop) : Prop := ∀ (T : List (Addr × Str)) (O : List Addr) (F H : Hp) (x y : V) (dx dy : D) (QD : List D → Prop) (Q : VK), Vw T O F H → Rp F x dx → Rp F y dy → g dx dy QD →
  (∀ ds, QD ds → ∀ F' H' p xs, Vw T O F' H' → Stp O F H F' H' → H p = none → F' p = none → H' p = some (.lst xs) → RpL F' xs ds → Q (.ref p) H') → r x y H Q
theorem DOp.or {r r' : R2} {g g' : D → D → (D → Prop) → Prop} (h : DOp r g) (h' : DOp r' g') : DOp (fun x y H Q => r x y H Q ∨ r' x y H Q) (fun x y Q => g x y Q ∨ g' x y Q) := by
  intro T O F H x y dx dy QD Q v rx ry hg hq
  rcases hg with hg | hg
  · exact .inl (h T O F H x y dx dy QD Q v rx ry hg hq)
  · exact .inr (h' T O F H x y dx dy QD Q v rx ry hg hq)
theorem DOp.pre {r : R2} {g g' : D → D → (D → Prop) → Prop} (h : DOp r g) (i : ∀ x y Q, g' x y Q → g x y Q) : DOp r g' := fun T O F H x y dx dy QD Q v rx ry hg hq => h T O F H x y dx dy QD Q v rx ry (i _ _ _ hg) hq
/-- a new list is data -/
theorem lay_list {T : List (Addr × Str)} {O : List Addr} {F H : Hp} {xs : List V} {ds : List D} {Q : VK} {QD : D → Prop} (v : Vw T O F H) (r : RpL F xs ds) (hd : QD (.list ds)) (hq : ∀ d, QD d → ∀ F' H' v, Vw T O F' H' → Stp O F H F' H' → Rp F' v d → Q v H') {p : Addr} (hp : H p = none) : Q (.ref p) (upd H p (.lst xs)) :=
  hq _ hd _ _ _ (v.lay hp (fun _ z => nomatch z)) (Stp.lay (v.fF hp) hp) (.lst upd_same (r.up (grow_upd (v.fF hp))))
theorem lay_tup {T : List (Addr × Str)} {O : List Addr} {F H : Hp} {xs : List V} {ds : List D} {Q : VK} {QD : D → Prop} (v : Vw T O F H) (r : RpL F xs ds) (hd : QD (.tuple ds)) (hq : ∀ d, QD d → ∀ F' H' v, Vw T O F' H' → Stp O F H F' H' → Rp F' v d → Q v H') {p : Addr} (hp : H p = none) : Q (.ref p) (upd H p (.tup xs)) :=
  hq _ hd _ _ _ (v.lay hp (fun _ z => nomatch z)) (Stp.lay (v.fF hp) hp) (.tup upd_same (r.up (grow_upd (v.fF hp))))
theorem lay_own {T : List (Addr × Str)} {O : List Addr} {F H : Hp} {xs : List V} {ds : List D} {Q : VK} {QD : List D → Prop} (v : Vw T O F H) (r : RpL F xs ds) (hd : QD ds)
    (hq : ∀ ds, QD ds → ∀ F' H' p xs, Vw T O F' H' → Stp O F H F' H' → H p = none → F' p = none → H' p = some (.lst xs) → RpL F' xs ds → Q (.ref p) H') {p : Addr} (hp : H p = none) : Q (.ref p) (upd H p (.lst xs)) :=
  hq _ hd _ _ _ _ (v.layO hp) (Stp.layO hp) hp (v.fF hp) upd_same r
/-! ### whole numbers -/
@[simp] def gI (C : Int → Int → Prop) (f : Int → Int → D) : D → D → (D → Prop) → Prop
  | .int i, .int j, Q => C i j ∧ Q (f i j)
  | _, _, _ => False
theorem dop_I {C : Int → Int → Prop} {g : Int → Int → V} {f : Int → Int → D} (hf : ∀ i j F, Rp F (g i j) (f i j)) : DOp (rI C g) (gI C f) := by
  intro T O F H x y dx dy QD Q v rx ry hg hq
  cases rx <;> cases ry <;> first | exact hg.elim | skip
  exact ⟨_, _, rfl, rfl, hg.1, hq _ hg.2 F H _ v (Stp.refl O F H) (hf _ _ F)⟩
@[simp] def gI0 (f : Int → Int → D) : D → D → (D → Prop) → Prop
  | .int i, .int j, Q => Q (f i j)
  | _, _, _ => False
theorem dop_I0 {g : Int → Int → V} {f : Int → Int → D} (hf : ∀ i j F, Rp F (g i j) (f i j)) : DOp (rI0 g) (gI0 f) := by
  intro T O F H x y dx dy QD Q v rx ry hg hq
  cases rx <;> cases ry <;> first | exact hg.elim | skip
  exact ⟨_, _, rfl, rfl, hq _ hg F H _ v (Stp.refl O F H) (hf _ _ F)⟩
section
variable {X : Cx} {c : Ctx} {a b e : Expr} {wa wb : WE} {pos : Pos}
/-! ### + -/
@[simp] def gAdd : D → D → (D → Prop) → Prop
  | .int i, .int j, Q => Q (.int (i + j))
  | .str x, .str y, Q => x.length + y.length ≤ sizeLine ∧ Q (.str (x ++ y))
  | .tuple x, .tuple y, Q => x.length + y.length ≤ sizeLine ∧ Q (.tuple (x ++ y))
  | .list x, .list y, Q => x.length + y.length ≤ sizeLine ∧ Q (.list (x ++ y))
  | _, _, _ => False
theorem dop_add : DOp (fun x y H Q => (rI0 fun i j => V.int (i + j)) x y H Q ∨ (∃ i j, x = .str i ∧ y = .str j ∧ i.length + j.length ≤ sizeLine ∧ Q (.str (i ++ j)) H) ∨ rCatA X.K x y H Q ∨ rCat x y H Q) gAdd := by
  intro T O F H x y dx dy QD Q v rx ry hg hq
  cases rx with
  | int i => cases ry with
    | int j => exact .inl ⟨_, _, rfl, rfl, hq _ hg F H _ v (Stp.refl O F H) (.int _)⟩
    | _ => exact hg.elim
  | str i => cases ry with
    | str j => exact .inr (.inl ⟨_, _, rfl, rfl, hg.1, hq _ hg.2 F H _ v (Stp.refl O F H) (.str _)⟩)
    | _ => exact hg.elim
  | @tup p xs ds h1 r1 => cases ry with
    | @tup q ys es h2 r2 =>
      have l1 := r1.length
      have l2 := r2.length
      refine .inr (.inr (.inl ⟨p, q, xs, ys, rfl, rfl, SqT.of (v.frz _ _ h1), SqT.of (v.frz _ _ h2), by rw [l1, l2]; exact hg.1, fun hx => ?_, fun hx hy => ?_, fun hx hy t ht => ?_⟩))
      · subst hx
        cases r1
        exact hq _ hg.2 F H _ v (Stp.refl O F H) (.tup h2 r2)
      · subst hy
        cases r2
        have h3 := hg.2
        rw [List.append_nil] at h3
        exact hq _ h3 F H _ v (Stp.refl O F H) (.tup h1 r1)
      · exact lay_tup v (r1.append r2) hg.2 hq ht
    | _ => exact hg.elim
  | @lst p xs ds h1 r1 => cases ry with
    | @lst q ys es h2 r2 =>
      have l1 := r1.length
      have l2 := r2.length
      exact .inr (.inr (.inr ⟨p, q, xs, ys, rfl, rfl, v.frz _ _ h1, v.frz _ _ h2, by rw [l1, l2]; exact hg.1, fun t ht => lay_list v (r1.append r2) hg.2 hq ht⟩))
    | _ => exact hg.elim
  | _ => cases ry <;> exact hg.elim
theorem d_add (ha : DE X c a wa) (hb : DE X c b wb) : DE X c (.BinOp a .Add b pos) (wOp gAdd wa wb) := d_op (OpR.or op_add (OpR.or op_add_str (OpR.or op_catA op_cat))) dop_add ha hb
@[simp] def gAddL : D → D → (List D → Prop) → Prop
  | .list x, .list y, Q => x.length + y.length ≤ sizeLine ∧ Q (x ++ y)
  | _, _, _ => False
theorem dopL_add : DOpL rCat gAddL := by
  intro T O F H x y dx dy QD Q v rx ry hg hq
  cases rx with
  | @lst p xs ds h1 r1 => cases ry with
    | @lst q ys es h2 r2 =>
      have l1 := r1.length
      have l2 := r2.length
      exact ⟨p, q, xs, ys, rfl, rfl, v.frz _ _ h1, v.frz _ _ h2, by rw [l1, l2]; exact hg.1, fun t ht => lay_own v (r1.append r2) hg.2 hq ht⟩
    | _ => exact hg.elim
  | _ => cases ry <;> exact hg.elim
@[simp] def wOpL (g : D → D → (List D → Prop) → Prop) (wa wb : WE) : WA := fun env Q E => wa env (fun x => wb env (fun y => g x y Q) E) E
theorem d_opL {op : Operator} {r : R2} {g : D → D → (List D → Prop) → Prop} (ho : OpR X (binaryOp op) r) (hg : DOpL r g) (ha : DE X c a wa) (hb : DE X c b wb) : DL X c (.BinOp a op b pos) (wOpL g wa wb) := by
  refine PE.imp (pe_op ho ha hb) ?_
  rintro σ H Q ⟨O, F, env, QD, QE, vw, sl, hw, hq, he⟩
  refine ⟨O, F, env, _, QE, vw, sl, hw, fun dx hx F1 H1 v v1 s1 r1 => ?_, he⟩
  refine ⟨O, F1, env, _, QE, v1, sl.up s1.grow, hx, fun dy hy F2 H2 u v2 s2 r2 => ?_, he.up s1⟩
  refine hg c.T O F2 H2 v u dx dy QD Q v2 (r1.up s2.grow) r2 hy fun d hd F3 H3 p xs v3 s3 n1 n2 n3 r3 => hq d hd F3 H3 p xs v3 (s1.trans (s2.trans s3 v3) v3) ?_ n2 n3 r3
  have s02 := s1.trans s2 v2
  cases q : H p with
  | none => rfl
  | some o =>
    exfalso
    by_cases hp : p ∈ O
    · exact s02.dcs p hp (by rw [q]; exact fun z => nomatch z) n1
    · by_cases ht : ∃ ps, o = .tbl ps
      · obtain ⟨ps, rfl⟩ := ht
        obtain ⟨ps', e1⟩ := s02.tbs p ps q
        rw [n1] at e1
        cases e1
      · rw [s02.same p o q (fun ps z => ht ⟨ps, z⟩) hp] at n1
        cases n1
theorem Stp.back {O : List Addr} {F H F' H' : Hp} (s : Stp O F H F' H') {p : Addr} (h : H' p = none) : H p = none := by
  cases q : H p with
  | none => rfl
  | some o =>
    exfalso
    by_cases hp : p ∈ O
    · exact s.dcs p hp (by rw [q]; exact fun z => nomatch z) h
    · by_cases ht : ∃ ps, o = .tbl ps
      · obtain ⟨ps, rfl⟩ := ht
        obtain ⟨ps', e1⟩ := s.tbs p ps q
        rw [h] at e1
        cases e1
      · rw [s.same p o q (fun ps z => ht ⟨ps, z⟩) hp] at h
        cases h
theorem l_add (ha : DE X c a wa) (hb : DE X c b wb) : DL X c (.BinOp a .Add b pos) (wOpL gAddL wa wb) := d_opL op_cat dopL_add ha hb
/-- a new list as data -/
@[simp] def wL (w : WA) : WE := fun env Q E => w env (fun ds => Q (.list ds)) E
theorem d_ofL {w : WA} (h : DL X c e w) : DE X c e (wL w) := by
  refine PE.imp h ?_
  rintro σ H Q ⟨O, F, env, QD, QE, vw, sl, hw, hq, he⟩
  refine ⟨O, F, env, _, QE, vw, sl, hw, fun ds hd F1 H1 p xs v1 s1 n1 n2 n3 r1 => ?_, he⟩
  refine hq _ hd (upd F1 p (.lst xs)) H1 _ (v1.freeze n2 n3 (fun _ z => nomatch z) (vw.out n1)) ⟨s1.same, s1.grow.trans (grow_upd n2), fun b o h => ?_, s1.tbs, s1.dcs⟩ (.lst upd_same (r1.up (grow_upd n2)))
  by_cases hb : b = p
  · subst hb
    exact .inr n1
  · rw [upd_ne hb] at h
    exact s1.new b o h
/-! ### - * // % ** -/
theorem d_sub (ha : DE X c a wa) (hb : DE X c b wb) : DE X c (.BinOp a .Sub b pos) (wOp (gI0 fun i j => .int (i - j)) wa wb) := d_op op_sub (dop_I0 fun _ _ _ => .int _) ha hb
theorem d_mod (ha : DE X c a wa) (hb : DE X c b wb) : DE X c (.BinOp a .Mod b pos) (wOp (gI (fun _ j => 0 < j) fun i j => .int (i % j)) wa wb) := d_op op_mod (dop_I fun _ _ _ => .int _) ha hb
theorem d_fdiv (ha : DE X c a wa) (hb : DE X c b wb) : DE X c (.BinOp a .FloorDiv b pos) (wOp (gI CDiv fun i j => .int (i / j)) wa wb) := d_op op_fdiv (dop_I fun _ _ _ => .int _) ha hb
theorem d_fdivW (ha : DE X c a wa) (hb : DE X c b wb) : DE X c (.BinOp a .FloorDiv b pos) (wOp (gI CDivW fun i j => .int (i / j)) wa wb) := d_op op_fdivW (dop_I fun _ _ _ => .int _) ha hb
theorem d_mul (ha : DE X c a wa) (hb : DE X c b wb) : DE X c (.BinOp a .Mult b pos) (wOp (gI CMul fun i j => .int (i * j)) wa wb) := d_op op_mul (dop_I fun _ _ _ => .int _) ha hb
theorem d_mulW (ha : DE X c a wa) (hb : DE X c b wb) : DE X c (.BinOp a .Mult b pos) (wOp (gI CMulW fun i j => .int (i * j)) wa wb) := d_op op_mulW (dop_I fun _ _ _ => .int _) ha hb
theorem d_pow (ha : DE X c a wa) (hb : DE X c b wb) : DE X c (.BinOp a .Pow b pos) (wOp (gI CPow fun i j => .int (i ^ j.toNat)) wa wb) := d_op op_pow (dop_I fun _ _ _ => .int _) ha hb
/-- [..] * n -/
@[simp] def gRepL : D → D → (List D → Prop) → Prop
  | .list x, .int n, Q => n < 2 ^ 62 ∧ -(2 ^ 62) < n ∧ x.length * n.toNat ≤ sizeLine ∧ Q (List.replicate n.toNat x).flatten
  | _, _, _ => False
theorem rpl_rep {F : Hp} {xs : List V} {ds : List D} (r : RpL F xs ds) : ∀ n : Nat, RpL F (List.replicate n xs).flatten (List.replicate n ds).flatten
  | 0 => .nil
  | n + 1 => by
    rw [List.replicate_succ, List.replicate_succ, List.flatten_cons, List.flatten_cons]
    exact r.append (rpl_rep r n)
theorem dopL_rep : DOpL rRep gRepL := by
  intro T O F H x y dx dy QD Q v rx ry hg hq
  cases rx with
  | @lst p xs ds h1 r1 => cases ry with
    | int n =>
      have l1 := r1.length
      exact ⟨p, n, xs, rfl, rfl, v.frz _ _ h1, by have := hg.2.1; omega, by have := hg.1; omega, by rw [l1]; exact hg.2.2.1, fun t ht => lay_own v (rpl_rep r1 _) hg.2.2.2 hq ht⟩
    | _ => exact hg.elim
  | _ => cases ry <;> exact hg.elim
theorem l_rep (ha : DE X c a wa) (hb : DE X c b wb) : DL X c (.BinOp a .Mult b pos) (wOpL gRepL wa wb) := d_opL op_rep dopL_rep ha hb
/-- -a -/
@[simp] def gNeg : D → (D → Prop) → Prop
  | .int i, Q => Q (.int (-i))
  | _, _ => False
@[simp] def wUn (g : D → (D → Prop) → Prop) (wa : WE) : WE := fun env Q E => wa env (fun x => g x Q) E
theorem d_neg (ha : DE X c a wa) : DE X c (.UnaryOp .USub a pos) (wUn gNeg wa) := by
  refine PE.imp (pe_un un_neg ha) ?_
  rintro σ H Q ⟨O, F, env, QD, QE, vw, sl, hw, hq, he⟩
  refine ⟨O, F, env, _, QE, vw, sl, hw, fun dx hx F1 H1 v v1 s1 r1 => ?_, he⟩
  cases r1 with
  | int i => exact ⟨i, rfl, hq _ hx F1 H1 _ v1 s1 (.int _)⟩
  | _ => exact hx.elim
/-! ### comparisons -/
@[simp] abbrev gLt := gI0 fun i j => .bool (decide (i < j))
@[simp] abbrev gLe := gI0 fun i j => .bool (decide (i ≤ j))
@[simp] abbrev gGt := gI0 fun i j => .bool (decide (j < i))
@[simp] abbrev gGe := gI0 fun i j => .bool (decide (j ≤ i))
theorem dop_lt : DOp (rI0 fun i j => V.bl (decide (i < j))) gLt := dop_I0 fun _ _ _ => .bl _
theorem dop_le : DOp (rI0 fun i j => V.bl (decide (i ≤ j))) gLe := dop_I0 fun _ _ _ => .bl _
theorem dop_gt : DOp (rI0 fun i j => V.bl (decide (j < i))) gGt := dop_I0 fun _ _ _ => .bl _
theorem dop_ge : DOp (rI0 fun i j => V.bl (decide (j ≤ i))) gGe := dop_I0 fun _ _ _ => .bl _
theorem t_lt (ha : DE X c a wa) (hb : DE X c b wb) : DT X c (.Compare a [.Lt] [b] pos) (wB (wOp gLt wa wb)) := t_cmp op_lt dop_lt ha hb (nomark _)
theorem t_le (ha : DE X c a wa) (hb : DE X c b wb) : DT X c (.Compare a [.LtE] [b] pos) (wB (wOp gLe wa wb)) := t_cmp op_le dop_le ha hb (nomark _)
theorem t_gt (ha : DE X c a wa) (hb : DE X c b wb) : DT X c (.Compare a [.Gt] [b] pos) (wB (wOp gGt wa wb)) := t_cmp op_gt dop_gt ha hb (nomark _)
theorem t_ge (ha : DE X c a wa) (hb : DE X c b wb) : DT X c (.Compare a [.GtE] [b] pos) (wB (wOp gGe wa wb)) := t_cmp op_ge dop_ge ha hb (nomark _)
theorem d_lt (ha : DE X c a wa) (hb : DE X c b wb) : DE X c (.Compare a [.Lt] [b] pos) (wOp gLt wa wb) := d_cmp op_lt dop_lt ha hb (nomark _)
theorem d_le (ha : DE X c a wa) (hb : DE X c b wb) : DE X c (.Compare a [.LtE] [b] pos) (wOp gLe wa wb) := d_cmp op_le dop_le ha hb (nomark _)
theorem d_gt (ha : DE X c a wa) (hb : DE X c b wb) : DE X c (.Compare a [.Gt] [b] pos) (wOp gGt wa wb) := d_cmp op_gt dop_gt ha hb (nomark _)
theorem d_ge (ha : DE X c a wa) (hb : DE X c b wb) : DE X c (.Compare a [.GtE] [b] pos) (wOp gGe wa wb) := d_cmp op_ge dop_ge ha hb (nomark _)
@[simp] def gEq : D → D → (D → Prop) → Prop := fun x y Q => SeqAt.shaped x = true ∧ SeqAt.shaped y = true ∧ Q (.bool (PyData.eqv x y))
@[simp] def gNe : D → D → (D → Prop) → Prop := fun x y Q => SeqAt.shaped x = true ∧ SeqAt.shaped y = true ∧ Q (.bool (!PyData.eqv x y))
theorem dop_eq : DOp (rEqD X.K) gEq := fun T O F H x y dx dy QD Q v rx ry hg hq => ⟨dx, dy, rx.dp v.frz, ry.dp v.frz, hg.1, hg.2.1, hq _ hg.2.2 F H _ v (Stp.refl O F H) (.bl _)⟩
theorem dop_ne : DOp (rNeD X.K) gNe := fun T O F H x y dx dy QD Q v rx ry hg hq => ⟨dx, dy, rx.dp v.frz, ry.dp v.frz, hg.1, hg.2.1, hq _ hg.2.2 F H _ v (Stp.refl O F H) (.bl _)⟩
theorem t_eq {k : Nat} (hr : Room k X.A) (ha : DE X c a wa) (hb : DE X c b wb) : DT X c (.Compare a [.Eq] [b] pos) (wB (wOp gEq wa wb)) := t_cmp (op_eqD hr.units) dop_eq ha hb (nomark _)
theorem t_ne {k : Nat} (hr : Room k X.A) (ha : DE X c a wa) (hb : DE X c b wb) : DT X c (.Compare a [.NotEq] [b] pos) (wB (wOp gNe wa wb)) := t_cmp (op_neD hr.units) dop_ne ha hb (nomark _)
theorem d_eq {k : Nat} (hr : Room k X.A) (ha : DE X c a wa) (hb : DE X c b wb) : DE X c (.Compare a [.Eq] [b] pos) (wOp gEq wa wb) := d_cmp (op_eqD hr.units) dop_eq ha hb (nomark _)
theorem d_ne {k : Nat} (hr : Room k X.A) (ha : DE X c a wa) (hb : DE X c b wb) : DE X c (.Compare a [.NotEq] [b] pos) (wOp gNe wa wb) := d_cmp (op_neD hr.units) dop_ne ha hb (nomark _)
/-- is None, is True .. -/
@[simp] def isNone : D → Bool
  | .none => true
  | _ => false
@[simp] def gIs : D → D → (D → Prop) → Prop
  | x, .none, Q => Q (.bool (isNone x))
  | .bool a, .bool b, Q => Q (.bool (decide (a = b)))
  | _, _, _ => False
@[simp] def gIsN : D → D → (D → Prop) → Prop
  | x, .none, Q => Q (.bool (!isNone x))
  | .bool a, .bool b, Q => Q (.bool (!decide (a = b)))
  | _, _, _ => False
theorem rp_none {F : Hp} {x : V} {d : D} (r : Rp F x d) : decide (x = .non) = isNone d := by cases r <;> rfl
theorem dop_is : DOp (fun x y H Q => (y = .non ∧ Q (.bl (decide (x = .non))) H) ∨ rIsB x y H Q) gIs := by
  intro T O F H x y dx dy QD Q v rx ry hg hq
  cases ry with
  | non =>
    refine .inl ⟨rfl, ?_⟩
    rw [rp_none rx]
    have h2 : QD (.bool (isNone dx)) := by cases dx <;> exact hg
    exact hq _ h2 F H _ v (Stp.refl O F H) (.bl _)
  | bl b => cases rx with
    | bl a => exact .inr ⟨a, b, rfl, rfl, hq _ hg F H _ v (Stp.refl O F H) (.bl _)⟩
    | _ => exact hg.elim
  | _ => cases rx <;> exact hg.elim
theorem dop_isN : DOp (fun x y H Q => (y = .non ∧ Q (.bl (!decide (x = .non))) H) ∨ rNotB x y H Q) gIsN := by
  intro T O F H x y dx dy QD Q v rx ry hg hq
  cases ry with
  | non =>
    refine .inl ⟨rfl, ?_⟩
    rw [rp_none rx]
    have h2 : QD (.bool (!isNone dx)) := by cases dx <;> exact hg
    exact hq _ h2 F H _ v (Stp.refl O F H) (.bl _)
  | bl b => cases rx with
    | bl a => exact .inr ⟨a, b, rfl, rfl, hq _ hg F H _ v (Stp.refl O F H) (.bl _)⟩
    | _ => exact hg.elim
  | _ => cases rx <;> exact hg.elim
theorem t_is (ha : DE X c a wa) (hb : DE X c b wb) : DT X c (.Compare a [.Is] [b] pos) (wB (wOp gIs wa wb)) := t_cmp (OpR.or op_isN op_isBl) dop_is ha hb (nomark _)
theorem t_isN (ha : DE X c a wa) (hb : DE X c b wb) : DT X c (.Compare a [.IsNot] [b] pos) (wB (wOp gIsN wa wb)) := t_cmp (OpR.or op_notN op_notBl) dop_isN ha hb (nomark _)
theorem d_is (ha : DE X c a wa) (hb : DE X c b wb) : DE X c (.Compare a [.Is] [b] pos) (wOp gIs wa wb) := d_cmp (OpR.or op_isN op_isBl) dop_is ha hb (nomark _)
theorem d_isN (ha : DE X c a wa) (hb : DE X c b wb) : DE X c (.Compare a [.IsNot] [b] pos) (wOp gIsN wa wb) := d_cmp (OpR.or op_notN op_notBl) dop_isN ha hb (nomark _)
/-- x in y -/
@[simp] def gIn : D → D → (D → Prop) → Prop := fun x y Q => (∃ ds, y = .list ds ∧ SeqAt.shaped x = true ∧ SeqAt.shaped (.list ds) = true ∧ Q (.bool (ds.any fun z => PyData.eqv z x))) ∨ (∃ (i : Int) (ns : List Int), x = .int i ∧ y = .tuple (ns.map .int) ∧ Q (.bool (decide (i ∈ ns))))
@[simp] def gNotIn : D → D → (D → Prop) → Prop := fun x y Q => (∃ ds, y = .list ds ∧ SeqAt.shaped x = true ∧ SeqAt.shaped (.list ds) = true ∧ Q (.bool (!ds.any fun z => PyData.eqv z x))) ∨ (∃ (i : Int) (ns : List Int), x = .int i ∧ y = .tuple (ns.map .int) ∧ Q (.bool (!decide (i ∈ ns))))
theorem inV_ints (i : Int) : ∀ ns : List Int, inV (.int i) (ns.map V.int) = decide (i ∈ ns)
  | [] => rfl
  | n :: ns => by
    show (eqV (.int n) (.int i) || inV (.int i) (ns.map V.int)) = decide (i ∈ n :: ns)
    rw [inV_ints i ns]
    have e : eqV (.int n) (.int i) = decide (n = i) := by
      simp [eqV]
      try exact Bool.beq_eq_decide_eq n i
    rw [e]
    by_cases h : n = i
    · subst h
      simp
    · have h' : ¬ i = n := fun z => h z.symm
      simp [h, h', List.mem_cons]
theorem flat_ints : ∀ ns : List Int, (ns.map V.int).all flatV = true
  | [] => rfl
  | n :: ns => by
    show (flatV (.int n) && (ns.map V.int).all flatV) = true
    rw [flat_ints ns]
    rfl
theorem dop_in : DOp (fun x y H Q => rInD X.K x y H Q ∨ rIn X.K false x y H Q) gIn := by
  intro T O F H x y dx dy QD Q v rx ry hg hq
  rcases hg with ⟨ds, rfl, h1, h2, h3⟩ | ⟨i, ns, rfl, rfl, h3⟩
  · exact .inl ⟨dx, ds, rx.dp v.frz, ry.dp v.frz, h1, h2, hq _ h3 F H _ v (Stp.refl O F H) (.bl _)⟩
  · cases ry with
    | tup h r =>
      have e := r.ints
      subst e
      cases rx
      refine .inr ⟨_, _, rfl, .inr (SqT.of (v.frz _ _ h)), rfl, flat_ints ns, ?_⟩
      rw [inV_ints]
      exact hq _ h3 F H _ v (Stp.refl O F H) (.bl _)
theorem dop_notIn : DOp (fun x y H Q => rNotInD X.K x y H Q ∨ rIn X.K true x y H Q) gNotIn := by
  intro T O F H x y dx dy QD Q v rx ry hg hq
  rcases hg with ⟨ds, rfl, h1, h2, h3⟩ | ⟨i, ns, rfl, rfl, h3⟩
  · exact .inl ⟨dx, ds, rx.dp v.frz, ry.dp v.frz, h1, h2, hq _ h3 F H _ v (Stp.refl O F H) (.bl _)⟩
  · cases ry with
    | tup h r =>
      have e := r.ints
      subst e
      cases rx
      refine .inr ⟨_, _, rfl, .inr (SqT.of (v.frz _ _ h)), rfl, flat_ints ns, ?_⟩
      show Q (.bl (!inV (.int i) (ns.map V.int))) H
      rw [inV_ints]
      exact hq _ h3 F H _ v (Stp.refl O F H) (.bl _)
theorem units65 {A : Around} {k : Nat} (hr : Room k A) : A.units + 65 < cLine := by
  have := hr.un
  omega
theorem t_in {k : Nat} (hr : Room k X.A) (ha : DE X c a wa) (hb : DE X c b wb) (hm : behindInMarks .In b = false := by rfl) : DT X c (.Compare a [.In] [b] pos) (wB (wOp gIn wa wb)) := t_cmp (OpR.or (op_inD (units65 hr)) op_in_seq) dop_in ha hb hm
theorem t_notIn {k : Nat} (hr : Room k X.A) (ha : DE X c a wa) (hb : DE X c b wb) (hm : behindInMarks .NotIn b = false := by rfl) : DT X c (.Compare a [.NotIn] [b] pos) (wB (wOp gNotIn wa wb)) := t_cmp (OpR.or (op_notInD (units65 hr)) op_notIn_seq) dop_notIn ha hb hm
theorem d_in {k : Nat} (hr : Room k X.A) (ha : DE X c a wa) (hb : DE X c b wb) (hm : behindInMarks .In b = false := by rfl) : DE X c (.Compare a [.In] [b] pos) (wOp gIn wa wb) := d_cmp (OpR.or (op_inD (units65 hr)) op_in_seq) dop_in ha hb hm
theorem d_notIn {k : Nat} (hr : Room k X.A) (ha : DE X c a wa) (hb : DE X c b wb) (hm : behindInMarks .NotIn b = false := by rfl) : DE X c (.Compare a [.NotIn] [b] pos) (wOp gNotIn wa wb) := d_cmp (OpR.or (op_notInD (units65 hr)) op_notIn_seq) dop_notIn ha hb hm
/-! ### and, or, not; conditional expressions -/
theorem t_not {wt : WT} (h : DT X c a wt) : DT X c (.UnaryOp .Not a pos) (wNot wt) := PT.imp (pt_not h) (lift_not fun _ _ _ z => z)
end
end SD

namespace SD
open PySem PySem.Spec PyProof.Rows L2
/-- what every rule with a call asks of the context -/
structure Good (X : Cx) (c : Ctx) : Prop where
  mg : c.mg = X.mg
  calm : X.calm = true
  pass : Passes (L2N.CX X.prog X.w) X c.E
  tk : L2N.Takes X (fun cls d _ H => c.E cls d H)
  own : PassesOwn (model X.prog X.w) X.A X.env X.xe
theorem passN {X : Cx} : Passes (L2N.CX X.prog X.w) X E0 := fun _ _ _ _ _ _ _ ⟨_, _, _, _, _, _, _, _, _, _, _, _, z⟩ => z.elim
theorem takesN {X : Cx} : L2N.Takes X (fun _ _ _ _ => False) := fun _ _ ⟨_, _, _, _, _, _, _, _, _, _, _, _, _, _, _, _, z⟩ => z.elim
abbrev Ctx.nox (c : Ctx) : Ctx := { c with E := E0 }
section
variable {X : Cx} {c : Ctx} {a b e : Expr} {es : List Expr} {wa wb : WE} {was : WA} {pos : Pos}
/-! ### and, or, not; conditional expressions -/
abbrev DW (X : Cx) (c : Ctx) (e : Expr) (w : WT) : Prop := PW X e (liftT c w)
theorem PW.imp {X : Cx} {e : Expr} {t t' : TT} (h : PW X e t) (i : ∀ σ H Q, t' σ H Q → t σ H Q) : PW X e t' := ⟨fun wh pins s σ H Q I z => h.run wh pins s σ H Q I (i σ H Q z)⟩
theorem w_and1 {wt : WT} (h : DT X c a wt) : DW X c (.BoolOp .And [a] pos) wt := pw_and1 h
theorem w_or1 {wt : WT} (h : DT X c a wt) : DW X c (.BoolOp .Or [a] pos) wt := pw_or1 h
theorem w_and {rest : List Expr} {wt wu : WT} (h : DT X c a wt) (h2 : DW X c (.BoolOp .And (b :: rest) pos) wu) : DW X c (.BoolOp .And (a :: b :: rest) pos) (wAnd wt wu) := PW.imp (pw_and h h2) (lift_and (fun _ _ _ z => z) fun _ _ _ z => z)
theorem w_or {rest : List Expr} {wt wu : WT} (h : DT X c a wt) (h2 : DW X c (.BoolOp .Or (b :: rest) pos) wu) : DW X c (.BoolOp .Or (a :: b :: rest) pos) (wOr wt wu) := PW.imp (pw_or h h2) (lift_or (fun _ _ _ z => z) fun _ _ _ z => z)
theorem t_w {wt : WT} (h : DW X c a wt) : DT X c a wt := PW.pt h
/-- values: all but the last True or False -/
@[simp] def wAndV (wa wb : WE) : WE := fun env Q E => wa env (fun d => ∃ k, d = .bool k ∧ (if k = true then wb env Q E else Q (.bool false))) E
@[simp] def wOrV (wa wb : WE) : WE := fun env Q E => wa env (fun d => ∃ k, d = .bool k ∧ (if k = true then Q (.bool true) else wb env Q E)) E
@[simp] def wNotV (wa : WE) : WE := fun env Q E => wa env (fun d => ∃ k, d = .bool k ∧ Q (.bool (!k))) E
theorem d_one {op} (h : DE X c a wa) : DE X c (.BoolOp op [a] pos) wa := pe_one h
theorem d_and {rest : List Expr} (h : DE X c a wa) (h2 : DE X c (.BoolOp .And (b :: rest) pos) wb) : DE X c (.BoolOp .And (a :: b :: rest) pos) (wAndV wa wb) := by
  refine PE.imp (pe_and h h2) ?_
  rintro σ H Q ⟨O, F, env, QD, QE, vw, sl, hw, hq, he⟩
  refine ⟨O, F, env, _, QE, vw, sl, hw, fun d hd F1 H1 v v1 s1 r1 => ?_, he⟩
  obtain ⟨k, rfl, hk⟩ := hd
  cases r1
  refine ⟨k, rfl, ?_⟩
  cases k with
  | false => exact hq _ hk F1 H1 _ v1 s1 (.bl false)
  | true => exact ⟨O, F1, env, QD, QE, v1, sl.up s1.grow, hk, fun d hd F2 H2 u v2 s2 r2 => hq d hd F2 H2 u v2 (s1.trans s2 v2) r2, he.up s1⟩
theorem d_or {rest : List Expr} (h : DE X c a wa) (h2 : DE X c (.BoolOp .Or (b :: rest) pos) wb) : DE X c (.BoolOp .Or (a :: b :: rest) pos) (wOrV wa wb) := by
  refine PE.imp (pe_or h h2) ?_
  rintro σ H Q ⟨O, F, env, QD, QE, vw, sl, hw, hq, he⟩
  refine ⟨O, F, env, _, QE, vw, sl, hw, fun d hd F1 H1 v v1 s1 r1 => ?_, he⟩
  obtain ⟨k, rfl, hk⟩ := hd
  cases r1
  refine ⟨k, rfl, ?_⟩
  cases k with
  | true => exact hq _ hk F1 H1 _ v1 s1 (.bl true)
  | false => exact ⟨O, F1, env, QD, QE, v1, sl.up s1.grow, hk, fun d hd F2 H2 u v2 s2 r2 => hq d hd F2 H2 u v2 (s1.trans s2 v2) r2, he.up s1⟩
theorem d_not (h : DE X c a wa) : DE X c (.UnaryOp .Not a pos) (wNotV wa) := by
  refine PE.imp (pe_not h) ?_
  rintro σ H Q ⟨O, F, env, QD, QE, vw, sl, hw, hq, he⟩
  refine ⟨O, F, env, _, QE, vw, sl, hw, fun d hd F1 H1 v v1 s1 r1 => ?_, he⟩
  obtain ⟨k, rfl, hk⟩ := hd
  cases r1
  exact ⟨k, rfl, hq _ hk F1 H1 _ v1 s1 (.bl _)⟩
@[simp] def wIf (wt : WT) (wa wb : WE) : WE := fun env Q E => wt env (fun k => if k = true then wa env Q E else wb env Q E) E
theorem d_ifExp {t : Expr} {wt : WT} (ht : DT X c t wt) (ha : DE X c a wa) (hb : DE X c b wb) : DE X c (.IfExp t a b pos) (wIf wt wa wb) := by
  refine PE.imp (pe_ifExp ht ha hb) ?_
  rintro σ H Q ⟨O, F, env, QD, QE, vw, sl, hw, hq, he⟩
  refine ⟨O, F, env, _, QE, vw, sl, hw, fun k hk F1 H1 v1 s1 => ?_, he⟩
  cases k with
  | true => exact ⟨O, F1, env, QD, QE, v1, sl.up s1.grow, hk, fun d hd F2 H2 u v2 s2 r2 => hq d hd F2 H2 u v2 (s1.trans s2 v2) r2, he.up s1⟩
  | false => exact ⟨O, F1, env, QD, QE, v1, sl.up s1.grow, hk, fun d hd F2 H2 u v2 s2 r2 => hq d hd F2 H2 u v2 (s1.trans s2 v2) r2, he.up s1⟩
/-! ### arguments, displays -/
@[simp] def waNil : WA := fun _ Q _ => Q []
@[simp] def waCons (w : WE) (r : WA) : WA := fun env Q E => w env (fun d => r env (fun ds => Q (d :: ds)) E) E
theorem a_nil : DA X c [] waNil := PA.imp pa_nil fun σ H Q ⟨O, F, env, QD, QE, vw, sl, hw, hq, he⟩ => hq [] hw F H [] vw (Stp.refl O F H) .nil
theorem a_cons (ha : DE X c a wa) (hr : DA X c es was) (hs : starEach (a :: es) X.env = (false, eval a X.env) :: starEach es X.env := by rfl) : DA X c (a :: es) (waCons wa was) := by
  refine PA.imp (pa_cons ha hr hs) ?_
  rintro σ H Q ⟨O, F, env, QD, QE, vw, sl, hw, hq, he⟩
  refine ⟨O, F, env, _, QE, vw, sl, hw, fun d hd F1 H1 v v1 s1 r1 => ?_, he⟩
  exact ⟨O, F1, env, _, QE, v1, sl.up s1.grow, hd, fun ds hds F2 H2 vs v2 s2 r2 => hq _ hds F2 H2 _ v2 (s1.trans s2 v2) (.cons (r1.up s2.grow) r2), he.up s1⟩
@[simp] def wTup (w : WA) : WE := fun env Q E => w env (fun ds => ds.length ≤ sizeLine ∧ Q (.tuple ds)) E
@[simp] def wLst (w : WA) : WA := fun env Q E => w env (fun ds => ds.length ≤ sizeLine ∧ Q ds) E
theorem d_tup {k} (h : DA X c es was) : DE X c (.Tuple es k pos) (wTup was) := by
  refine PE.imp (pe_tup h) ?_
  rintro σ H Q ⟨O, F, env, QD, QE, vw, sl, hw, hq, he⟩
  refine ⟨O, F, env, _, QE, vw, sl, hw, fun ds hd F1 H1 vs v1 s1 r1 => ⟨by rw [r1.length]; exact hd.1, fun p hp => ?_⟩, he⟩
  exact lay_tup v1 r1 hd.2 (fun d hd F2 H2 u v2 s2 r2 => hq d hd F2 H2 u v2 (s1.trans s2 v2) r2) hp
theorem l_lst (h : DA X c es was) : DL X c (.List es pos) (wLst was) := by
  refine PE.imp (pe_lst h) ?_
  rintro σ H Q ⟨O, F, env, QD, QE, vw, sl, hw, hq, he⟩
  refine ⟨O, F, env, _, QE, vw, sl, hw, fun ds hd F1 H1 vs v1 s1 r1 => ⟨by rw [r1.length]; exact hd.1, fun p hp => ?_⟩, he⟩
  exact lay_own v1 r1 hd.2 (fun d hd F2 H2 q xs v2 s2 n1 n2 n3 r2 => hq d hd F2 H2 q xs v2 (s1.trans s2 v2) (s1.back n1) n2 n3 r2) hp
/-! ### arguments of defs -/
@[simp] def wsNil : WSl := fun _ Q _ => Q []
@[simp] def wsCons (w : WE) (r : WSl) : WSl := fun env Q E => w env (fun d => r env (fun as => Q (.dat d :: as)) E) E
@[simp] def wsDice (i : Nat) (r : WSl) : WSl := fun env Q E => env[i]? = some .dice ∧ r env (fun as => Q (.dice :: as)) E
theorem sl_nil : DSl X c [] wsNil := PA.imp pa_nil fun σ H Q ⟨O, F, env, QD, QE, vw, sl, hw, hq, he⟩ => hq [] hw F H [] vw (Stp.refl O F H) trivial
theorem sl_cons {wr : WSl} (ha : DE X c a wa) (hr : DSl X c es wr) (hs : starEach (a :: es) X.env = (false, eval a X.env) :: starEach es X.env := by rfl) : DSl X c (a :: es) (wsCons wa wr) := by
  refine PA.imp (pa_cons ha hr hs) ?_
  rintro σ H Q ⟨O, F, env, QD, QE, vw, sl, hw, hq, he⟩
  refine ⟨O, F, env, _, QE, vw, sl, hw, fun d hd F1 H1 v v1 s1 r1 => ?_, he⟩
  exact ⟨O, F1, env, _, QE, v1, sl.up s1.grow, hd, fun ds hds F2 H2 vs v2 s2 r2 => hq _ hds F2 H2 _ v2 (s1.trans s2 v2) ⟨r1.up s2.grow, r2⟩, he.up s1⟩
theorem sl_dice (i : Nat) {x : Str} {p : Pos} {wr : WSl} (hr : DSl X c es wr) (hN : X.N[i]? = some x := by rfl) (hv : Vis X.env.scope x := by first | exact Or.inl rfl | exact Or.inr (Or.inl rfl) | exact Or.inr (Or.inr rfl)) (hd : (x == ("__debug__" : Str)) = false := by decide)
    (hcd : (x == ("__classdict__" : Str)) = false := by decide) (hs : starEach (.Name x p :: es) X.env = (false, eval (.Name x p) X.env) :: starEach es X.env := by rfl) : DSl X c (.Name x p :: es) (wsDice i wr) := by
  refine PA.imp (pa_cons (pe_var hN hv hd hcd) hr hs) ?_
  rintro σ H Q ⟨O, F, env, QD, QE, vw, sl, ⟨h1, hw⟩, hq, he⟩
  obtain ⟨q, hq1, hq2⟩ := sl.dice h1
  exact ⟨.ref q, hq2, O, F, env, _, QE, vw, sl, hw, fun ds hds F2 H2 vs v2 s2 r2 => hq _ hds F2 H2 _ v2 s2 ⟨⟨q, hq1, rfl⟩, r2⟩, he⟩
/-! ### promises over data -/
abbrev FS := List Sl → (D → Prop) → (Str → Prop) → Prop
def spP (T : List (Addr × Str)) (mg : Str → Option Value) (G : FS) : Sp := fun vs H Q E => ∃ O F as QD QE, Vw T O F H ∧ ArgR O F vs as ∧ G as QD QE ∧
  (∀ d, QD d → ∀ F' H' v, Vw T O F' H' → Stp O F H F' H' → Rp F' v d → Q v H') ∧ Ctx.exc ⟨T, mg, E⟩ O F H QE
theorem ArgR.length {O : List Addr} {F : Hp} : ∀ {vs : List V} {as : List Sl}, ArgR O F vs as → vs.length = as.length
  | [], [], _ => rfl
  | v :: vs, .dat d :: as, h => congrArg Nat.succ (ArgR.length h.2)
  | v :: vs, .dice :: as, h => congrArg Nat.succ (ArgR.length h.2)
  | [], _ :: _, h => h.elim
  | _ :: _, [], h => h.elim
  | _ :: _, .un :: _, h => h.elim
  | _ :: _, .own _ :: _, h => h.elim
  | _ :: _, .own2 _ :: _, h => h.elim
/-- a def that may be called by its name -/
structure CallOk (P : Program) (w : World) (K : PySem.W.Frag) (mg : Str → Option Value) (base : Heap) (T : List (Addr × Str)) (k : Nat) (x : Str) (ps : List Str) (G : FS) : Prop where
  ex : ∃ f fd, mg x = some (.ref f) ∧ PySem.W.keepIn K (.ref f) = true ∧ Binds K fd ps [] ∧ FnOk P w K mg base (L2N.CX P w) k f fd ps (spP T mg G)
theorem CallOk.imp {P : Program} {w : World} {K : PySem.W.Frag} {mg : Str → Option Value} {base : Heap} {T : List (Addr × Str)} {k j : Nat} {x : Str} {ps : List Str} {G G' : FS} (h : CallOk P w K mg base T k x ps G) (hk : k ≤ j) (i : ∀ as Q E, G' as Q E → G as Q E) : CallOk P w K mg base T j x ps G' := by
  obtain ⟨f, fd, h1, h2, h3, h4⟩ := h.ex
  exact ⟨f, fd, h1, h2, h3, (h4.mono hk).imp fun vs H Q E ⟨O, F, as, QD, QE, z1, z2, z3, z4⟩ => ⟨O, F, as, QD, QE, z1, z2, i _ _ _ z3, z4⟩⟩
@[simp] def wCall (G : FS) (w : WSl) : WE := fun env Q E => w env (fun as => G as Q E) E
theorem d_call {k j : Nat} {x : Str} {ps : List Str} {G : FS} {wr : WSl} {p : Pos} (gd : Good X c) (hr : Room j X.A) (h : CallOk X.prog X.w X.K X.mg X.base c.T k x ps G) (hk : k ≤ j) (ha : DSl X c (e :: es) wr) (hg : Gl X x := by rfl) (hdb : (x == ("__debug__" : Str)) = false := by decide)
    (he : starEach (e :: es) X.env = (false, eval e X.env) :: starEach es X.env := by rfl) (hpl : (backTo pos (starEach es X.env)).any (·.1) = false := by rfl) : DE X c (.Call (.Name x p) (e :: es) [] pos) (wCall G wr) := by
  obtain ⟨f, fd, h1, h2, h3, h4⟩ := h.ex
  refine PE.imp (pe_call (E := c.E) h4 (hr.mono hk) hg h1 h2 h3 .nil gd.pass ha hdb he hpl) ?_
  rintro σ H Q ⟨O, F, env, QD, QE, vw, sl, hw, hq, hE⟩
  refine ⟨O, F, env, _, QE, vw, sl, hw, fun as hd F1 H1 vs v1 s1 r1 => ?_, hE⟩
  show spP c.T X.mg G (vs ++ []) H1 Q c.E
  rw [List.append_nil]
  exact ⟨O, F1, as, QD, QE, v1, r1, hd, fun d hd F2 H2 u v2 s2 r2 => hq d hd F2 H2 u v2 (s1.trans s2 v2) r2, by rw [← gd.mg]; exact hE.up s1⟩
/-! ### built-ins -/
def DCall (r : List V → Hp → VK → Prop) (g : List D → (D → Prop) → Prop) : Prop := ∀ (T : List (Addr × Str)) (O : List Addr) (F H : Hp) (xs : List V) (ds : List D) (QD : D → Prop) (Q : VK), Vw T O F H → RpL F xs ds → g ds QD →
  (∀ d, QD d → ∀ F' H' v, Vw T O F' H' → Stp O F H F' H' → Rp F' v d → Q v H') → r xs H Q
def DCallL (r : List V → Hp → VK → Prop) (g : List D → (List D → Prop) → Prop) : Prop := ∀ (T : List (Addr × Str)) (O : List Addr) (F H : Hp) (xs : List V) (ds : List D) (QD : List D → Prop) (Q : VK), Vw T O F H → RpL F xs ds → g ds QD →
  (∀ ds, QD ds → ∀ F' H' p xs, Vw T O F' H' → Stp O F H F' H' → H p = none → F' p = none → H' p = some (.lst xs) → RpL F' xs ds → Q (.ref p) H') → r xs H Q
@[simp] def wCB (g : List D → (D → Prop) → Prop) (w : WA) : WE := fun env Q E => w env (fun ds => g ds Q) E
@[simp] def wCL (g : List D → (List D → Prop) → Prop) (w : WA) : WA := fun env Q E => w env (fun ds => g ds Q) E
theorem lift_cb {r : List V → Hp → VK → Prop} {g : List D → (D → Prop) → Prop} (hg : DCall r g) : ∀ σ H Q, liftE c (wCB g was) σ H Q → tCB r (liftA c was) σ H Q := by
  rintro σ H Q ⟨O, F, env, QD, QE, vw, sl, hw, hq, he⟩
  refine ⟨O, F, env, _, QE, vw, sl, hw, fun ds hd F1 H1 vs v1 s1 r1 => ?_, he⟩
  exact hg c.T O F1 H1 vs ds QD Q v1 r1 hd fun d hd F2 H2 u v2 s2 r2 => hq d hd F2 H2 u v2 (s1.trans s2 v2) r2
theorem lift_cl {r : List V → Hp → VK → Prop} {g : List D → (List D → Prop) → Prop} (hg : DCallL r g) : ∀ σ H Q, liftL c (wCL g was) σ H Q → tCB r (liftA c was) σ H Q := by
  rintro σ H Q ⟨O, F, env, QD, QE, vw, sl, hw, hq, he⟩
  refine ⟨O, F, env, _, QE, vw, sl, hw, fun ds hd F1 H1 vs v1 s1 r1 => ?_, he⟩
  exact hg c.T O F1 H1 vs ds QD Q v1 r1 hd fun d hd F2 H2 p xs v2 s2 n1 n2 n3 r2 => hq d hd F2 H2 p xs v2 (s1.trans s2 v2) (s1.back n1) n2 n3 r2
theorem d_callB {id : String} {x : Str} {p : Pos} {r : List V → Hp → VK → Prop} {g : List D → (D → Prop) → Prop} (hc : CallR X (.builtin id) r) (hg' : DCall r g) (hm : X.mg x = none) (hv : bootBuiltins x = some (.builtin id)) (ha : DA X c (e :: es) was) (hg : Gl X x := by rfl) (hn : x ≠ "__name__" := by decide) (hdb : (x == ("__debug__" : Str)) = false := by decide)
    (he : starEach (e :: es) X.env = (false, eval e X.env) :: starEach es X.env := by rfl) (hpl : (backTo pos (starEach es X.env)).any (·.1) = false := by rfl) : DE X c (.Call (.Name x p) (e :: es) [] pos) (wCB g was) :=
  PE.imp (pe_callB hc hg hm hv ha hn hdb he hpl) (lift_cb hg')
theorem d_callTy {id : String} {x : Str} {p : Pos} {r : List V → Hp → VK → Prop} {g : List D → (D → Prop) → Prop} (hc : CallR X (.type id) r) (hg' : DCall r g) (hm : X.mg x = none) (hv : bootBuiltins x = some (.type id)) (ha : DA X c (e :: es) was) (hg : Gl X x := by rfl) (hn : x ≠ "__name__" := by decide) (hdb : (x == ("__debug__" : Str)) = false := by decide)
    (he : starEach (e :: es) X.env = (false, eval e X.env) :: starEach es X.env := by rfl) (hpl : (backTo pos (starEach es X.env)).any (·.1) = false := by rfl) : DE X c (.Call (.Name x p) (e :: es) [] pos) (wCB g was) :=
  PE.imp (pe_callTy hc hg hm hv ha hn hdb he hpl) (lift_cb hg')
theorem l_callB {id : String} {x : Str} {p : Pos} {r : List V → Hp → VK → Prop} {g : List D → (List D → Prop) → Prop} (hc : CallR X (.builtin id) r) (hg' : DCallL r g) (hm : X.mg x = none) (hv : bootBuiltins x = some (.builtin id)) (ha : DA X c (e :: es) was) (hg : Gl X x := by rfl) (hn : x ≠ "__name__" := by decide) (hdb : (x == ("__debug__" : Str)) = false := by decide)
    (he : starEach (e :: es) X.env = (false, eval e X.env) :: starEach es X.env := by rfl) (hpl : (backTo pos (starEach es X.env)).any (·.1) = false := by rfl) : DL X c (.Call (.Name x p) (e :: es) [] pos) (wCL g was) :=
  PE.imp (pe_callB hc hg hm hv ha hn hdb he hpl) (lift_cl hg')
theorem l_callTy {id : String} {x : Str} {p : Pos} {r : List V → Hp → VK → Prop} {g : List D → (List D → Prop) → Prop} (hc : CallR X (.type id) r) (hg' : DCallL r g) (hm : X.mg x = none) (hv : bootBuiltins x = some (.type id)) (ha : DA X c (e :: es) was) (hg : Gl X x := by rfl) (hn : x ≠ "__name__" := by decide) (hdb : (x == ("__debug__" : Str)) = false := by decide)
    (he : starEach (e :: es) X.env = (false, eval e X.env) :: starEach es X.env := by rfl) (hpl : (backTo pos (starEach es X.env)).any (·.1) = false := by rfl) : DL X c (.Call (.Name x p) (e :: es) [] pos) (wCL g was) :=
  PE.imp (pe_callTy hc hg hm hv ha hn hdb he hpl) (lift_cl hg')
/-! len -/
@[simp] def gLen : List D → (D → Prop) → Prop
  | [.list ds], Q => Q (.int ds.length)
  | [.tuple ds], Q => Q (.int ds.length)
  | [.str x], Q => x.length ≤ sizeLine ∧ Q (.int x.length)
  | _, _ => False
theorem RpL.single {F : Hp} {xs : List V} {d : D} (r : RpL F xs [d]) : ∃ v, xs = [v] ∧ Rp F v d := by
  cases r with
  | cons h t =>
    cases t
    exact ⟨_, rfl, h⟩
theorem RpL.two {F : Hp} {xs : List V} {d d' : D} (r : RpL F xs [d, d']) : ∃ v v', xs = [v, v'] ∧ Rp F v d ∧ Rp F v' d' := by
  cases r with
  | cons h t =>
    obtain ⟨v', rfl, h'⟩ := t.single
    exact ⟨_, _, rfl, h, h'⟩
theorem dc_len : DCall (fun xs H Q => (∃ p ys, xs = [.ref p] ∧ (SqL X.K H p ys ∨ SqT X.K H p ys) ∧ Q (.int ys.length) H) ∨ ∃ z, xs = [.str z] ∧ z.length ≤ sizeLine ∧ Q (.int z.length) H) gLen := by
  intro T O F H xs ds QD Q v r hg hq
  unfold gLen at hg
  split at hg
  · obtain ⟨u, rfl, h⟩ := r.single
    cases h with
    | lst h1 h2 =>
      refine .inl ⟨_, _, rfl, .inl (SqL.of (v.frz _ _ h1)), ?_⟩
      rw [h2.length]
      exact hq _ hg F H _ v (Stp.refl O F H) (.int _)
  · obtain ⟨u, rfl, h⟩ := r.single
    cases h with
    | tup h1 h2 =>
      refine .inl ⟨_, _, rfl, .inr (SqT.of (v.frz _ _ h1)), ?_⟩
      rw [h2.length]
      exact hq _ hg F H _ v (Stp.refl O F H) (.int _)
  · obtain ⟨u, rfl, h⟩ := r.single
    cases h
    exact .inr ⟨_, rfl, hg.1, hq _ hg.2 F H _ v (Stp.refl O F H) (.int _)⟩
  · exact hg.elim
theorem d_len {p : Pos} (hm : X.mg "len" = none) (ha : DE X c a wa) (hg : Gl X "len" := by rfl) (he : starEach [a] X.env = [(false, eval a X.env)] := by rfl) : DE X c (.Call (.Name "len" p) [a] [] pos) (wCB gLen (waCons wa waNil)) :=
  d_callB (CallR.or call_len_seq call_len_str) dc_len hm boot_len (a_cons ha a_nil he) hg (he := he)
/-! max, min of two; abs; int -/
@[simp] def gMax2 : List D → (D → Prop) → Prop
  | [.int i, .int j], Q => Q (.int (if j > i then j else i))
  | _, _ => False
@[simp] def gMin2 : List D → (D → Prop) → Prop
  | [.int i, .int j], Q => Q (.int (if j < i then j else i))
  | _, _ => False
@[simp] def gAbs : List D → (D → Prop) → Prop
  | [.int i], Q => Q (.int (if i < 0 then -i else i))
  | _, _ => False
@[simp] def gInt : List D → (D → Prop) → Prop
  | [.int i], Q => Q (.int i)
  | [.bool k], Q => Q (.int (if k then 1 else 0))
  | _, _ => False
theorem dc_max2 : DCall (fun xs H Q => ∃ i j, xs = [.int i, .int j] ∧ Q (.int (if j > i then j else i)) H) gMax2 := by
  intro T O F H xs ds QD Q v r hg hq
  unfold gMax2 at hg
  split at hg
  · obtain ⟨u, u', rfl, h, h'⟩ := r.two
    cases h
    cases h'
    exact ⟨_, _, rfl, hq _ hg F H _ v (Stp.refl O F H) (.int _)⟩
  · exact hg.elim
theorem dc_min2 : DCall (fun xs H Q => ∃ i j, xs = [.int i, .int j] ∧ Q (.int (if j < i then j else i)) H) gMin2 := by
  intro T O F H xs ds QD Q v r hg hq
  unfold gMin2 at hg
  split at hg
  · obtain ⟨u, u', rfl, h, h'⟩ := r.two
    cases h
    cases h'
    exact ⟨_, _, rfl, hq _ hg F H _ v (Stp.refl O F H) (.int _)⟩
  · exact hg.elim
theorem dc_abs : DCall (fun xs H Q => ∃ i, xs = [.int i] ∧ Q (.int (if i < 0 then -i else i)) H) gAbs := by
  intro T O F H xs ds QD Q v r hg hq
  unfold gAbs at hg
  split at hg
  · obtain ⟨u, rfl, h⟩ := r.single
    cases h
    exact ⟨_, rfl, hq _ hg F H _ v (Stp.refl O F H) (.int _)⟩
  · exact hg.elim
theorem dc_int : DCall (fun xs H Q => (∃ i, xs = [.int i] ∧ Q (.int i) H) ∨ ∃ k, xs = [.bl k] ∧ Q (.int (if k then 1 else 0)) H) gInt := by
  intro T O F H xs ds QD Q v r hg hq
  unfold gInt at hg
  split at hg
  · obtain ⟨u, rfl, h⟩ := r.single
    cases h
    exact .inl ⟨_, rfl, hq _ hg F H _ v (Stp.refl O F H) (.int _)⟩
  · obtain ⟨u, rfl, h⟩ := r.single
    cases h
    exact .inr ⟨_, rfl, hq _ hg F H _ v (Stp.refl O F H) (.int _)⟩
  · exact hg.elim
theorem bt_max : bootBuiltins "max" = some (.builtin "max") := by decide +kernel
theorem bt_min : bootBuiltins "min" = some (.builtin "min") := by decide +kernel
theorem bt_abs : bootBuiltins "abs" = some (.builtin "abs") := by decide +kernel
theorem bt_int : bootBuiltins "int" = some (.type "int") := by decide +kernel
theorem bt_sum : bootBuiltins "sum" = some (.builtin "sum") := by decide +kernel
theorem bt_all : bootBuiltins "all" = some (.builtin "all") := by decide +kernel
theorem bt_any : bootBuiltins "any" = some (.builtin "any") := by decide +kernel
theorem bt_list : bootBuiltins "list" = some (.type "list") := by decide +kernel
theorem bt_tuple : bootBuiltins "tuple" = some (.type "tuple") := by decide +kernel
theorem bt_str : bootBuiltins "str" = some (.type "str") := by decide +kernel
theorem bt_bool : bootBuiltins "bool" = some (.type "bool") := by decide +kernel
theorem bt_sorted : bootBuiltins "sorted" = some (.builtin "sorted") := by decide +kernel
theorem bt_isinstance : bootBuiltins "isinstance" = some (.builtin "isinstance") := by decide +kernel
end
end SD

namespace SD
open PySem PySem.Spec PyProof.Rows L2
section
variable {X : Cx} {c : Ctx} {a b e : Expr} {es : List Expr} {wa wb : WE} {was : WA} {pos : Pos}
/-- items by data: a list or a tuple -/
@[simp] def seqOf : D → Option (List D)
  | .list ds => some ds
  | .tuple ds => some ds
  | _ => none
/-! ### sum -/
theorem sum_rawT {prog : Program} {w : World} {A : Around} {E : Value → Shared → Prop} {s : Shared} {l : Addr} {its : List Value} {ns : List Int} {Q : Value → Shared → Prop} (hh : A.handled = none) (hl : s.heap.IsTuple l its.toArray) (hi : IntsAre its ns)
    (h : ∀ h' tk t', (∀ b o, s.heap.get? b = some o → h'.get? b = some o) → Q (.int ns.sum t') { s with heap := h', toks := tk }) : wpAny (model prog w) A (call (.builtin "sum") [.ref l]) Q E s := by
  obtain ⟨xs, e⟩ := hi.allInts.items
  have hn : numsOf (intItems xs).toList = ns := by rw [← e]; exact hi.numsOf
  rw [nums_intItems] at hn
  rw [e] at hl
  have hlt : l < s.heap.objs.size := by obtain ⟨_, e, _⟩ := hl; exact Heap.lt_size e
  refine call_sum_walkG (wpAny_pyIter_tuple hl ?_)
  refine ⟨_, [s.heap.objs.size, l], [s.heap.objs.size], _, _, _, numAt xs, rfl, Walks.tuple (A := A.in1) hh _ l (Nat.ne_of_lt hlt) (intItems xs), ⟨⟨_, Heap.get?_push_size _ rfl, rfl, rfl⟩, hl.push _⟩, fun b hb => ?_, (fun _ _ => intItems_at), fun h' tk t' hk => ?_⟩
  · show b < (s.heap.push _).objs.size
    rw [Heap.size_push]
    rcases List.mem_cons.mp hb with rfl | hb
    · exact Nat.lt_succ_self _
    · rcases List.mem_cons.mp hb with rfl | hb
      · exact Nat.lt_succ_of_lt hlt
      · cases hb
  · have := h h' tk t' fun b o eo => hk b o (fun hm => by
      rcases List.mem_cons.mp hm with e1 | hm
      · exact absurd (e1 ▸ Heap.lt_size eo) (Nat.lt_irrefl _)
      · cases hm) (Heap.get?_push_of_some _ eo)
    rw [preSum_eq, List.take_of_length_le (by simp [intItems]), hn]
    exact this
theorem cr_sumT (hc : X.calm = true) : CallR X (.builtin "sum") (fun vs H Q => ∃ (a : Addr) (ns : List Int), vs = [V.ref a] ∧ SqT X.K H a (ns.map V.int) ∧ Q (.int ns.sum) H) := by
  intro pins s σ H vs us Q I r h
  obtain ⟨a, ns, rfl, hs, q⟩ := h
  obtain ⟨its, rv, hl, _⟩ := I.tuple hs
  rw [Vals.ref1 r]
  exact sum_rawT (I.ok.hd hc) hl rv.ints fun h' tk t' hk => ⟨.int _, H, I.kept hk, ⟨_, rfl⟩, q⟩
@[simp] def gSum (ds : List D) (Q : D → Prop) : Prop := ∃ (d : D) (ns : List Int), ds = [d] ∧ seqOf d = some (ns.map .int) ∧ Q (.int ns.sum)
theorem rp_seq {T : List (Addr × Str)} {O : List Addr} {F H : Hp} {x : V} {d : D} {es : List D} (vw : Vw T O F H) (r : Rp F x d) (h : seqOf d = some es) : ∃ p xs, x = .ref p ∧ RpL F xs es ∧ ((d = .list es ∧ F p = some (.lst xs)) ∨ (d = .tuple es ∧ F p = some (.tup xs))) := by
  cases r with
  | lst h1 r1 =>
    cases h
    exact ⟨_, _, rfl, r1, .inl ⟨rfl, h1⟩⟩
  | tup h1 r1 =>
    cases h
    exact ⟨_, _, rfl, r1, .inr ⟨rfl, h1⟩⟩
  | _ => cases h
theorem dc_sum : DCall (fun xs H Q => rSum X.K xs H Q ∨ ∃ (a : Addr) (ns : List Int), xs = [V.ref a] ∧ SqT X.K H a (ns.map V.int) ∧ Q (.int ns.sum) H) gSum := by
  intro T O F H xs ds QD Q v r hg hq
  obtain ⟨d, ns, rfl, h1, h2⟩ := hg
  obtain ⟨u, rfl, h⟩ := r.single
  obtain ⟨p, ys, rfl, r1, h3 | h3⟩ := rp_seq v h h1
  · have e := r1.ints
    subst e
    exact .inl ⟨p, ns, rfl, SqL.of (v.frz _ _ h3.2), hq _ h2 F H _ v (Stp.refl O F H) (.int _)⟩
  · have e := r1.ints
    subst e
    exact .inr ⟨p, ns, rfl, SqT.of (v.frz _ _ h3.2), hq _ h2 F H _ v (Stp.refl O F H) (.int _)⟩
theorem d_sum {p : Pos} (gd : Good X c) (hm : X.mg "sum" = none) (ha : DE X c a wa) (hg : Gl X "sum" := by rfl) (he : starEach [a] X.env = [(false, eval a X.env)] := by rfl) : DE X c (.Call (.Name "sum" p) [a] [] pos) (wCB gSum (waCons wa waNil)) :=
  d_callB (CallR.or (cr_sum gd.calm) (cr_sumT gd.calm)) dc_sum hm bt_sum (a_cons ha a_nil he) hg (he := he)
/-! ### all, any -/
@[simp] def gAll (ds : List D) (Q : D → Prop) : Prop := ∃ bs : List Bool, ds = [.list (bs.map .bool)] ∧ Q (.bool (bs.all id))
@[simp] def gAny (ds : List D) (Q : D → Prop) : Prop := ∃ bs : List Bool, ds = [.list (bs.map .bool)] ∧ Q (.bool (bs.any id))
theorem dc_all : DCall (rAll X.K) gAll := by
  intro T O F H xs ds QD Q v r hg hq
  obtain ⟨bs, rfl, h2⟩ := hg
  obtain ⟨u, rfl, h⟩ := r.single
  cases h with
  | lst h1 r1 =>
    have e := r1.bools
    subst e
    exact ⟨_, bs, rfl, SqL.of (v.frz _ _ h1), hq _ h2 F H _ v (Stp.refl O F H) (.bl _)⟩
theorem dc_any : DCall (rAny X.K) gAny := by
  intro T O F H xs ds QD Q v r hg hq
  obtain ⟨bs, rfl, h2⟩ := hg
  obtain ⟨u, rfl, h⟩ := r.single
  cases h with
  | lst h1 r1 =>
    have e := r1.bools
    subst e
    exact ⟨_, bs, rfl, SqL.of (v.frz _ _ h1), hq _ h2 F H _ v (Stp.refl O F H) (.bl _)⟩
theorem d_all {p : Pos} (gd : Good X c) (hm : X.mg "all" = none) (ha : DE X c a wa) (hg : Gl X "all" := by rfl) (he : starEach [a] X.env = [(false, eval a X.env)] := by rfl) : DE X c (.Call (.Name "all" p) [a] [] pos) (wCB gAll (waCons wa waNil)) :=
  d_callB (cr_all gd.calm) dc_all hm bt_all (a_cons ha a_nil he) hg (he := he)
theorem d_any {p : Pos} (gd : Good X c) (hm : X.mg "any" = none) (ha : DE X c a wa) (hg : Gl X "any" := by rfl) (he : starEach [a] X.env = [(false, eval a X.env)] := by rfl) : DE X c (.Call (.Name "any" p) [a] [] pos) (wCB gAny (waCons wa waNil)) :=
  d_callB (cr_any gd.calm) dc_any hm bt_any (a_cons ha a_nil he) hg (he := he)
theorem d_max2 {p : Pos} (gd : Good X c) (hm : X.mg "max" = none) (ha : DE X c a wa) (hb : DE X c b wb) (hg : Gl X "max" := by rfl) (he : starEach [a, b] X.env = (false, eval a X.env) :: starEach [b] X.env := by rfl) (he2 : starEach [b] X.env = (false, eval b X.env) :: starEach [] X.env := by rfl) (hpl : (backTo pos (starEach [b] X.env)).any (·.1) = false := by rfl) : DE X c (.Call (.Name "max" p) [a, b] [] pos) (wCB gMax2 (waCons wa (waCons wb waNil))) :=
  d_callB (call_max2 gd.calm) dc_max2 hm bt_max (a_cons ha (a_cons hb a_nil he2) he) hg (he := he) (hpl := hpl)
theorem d_min2 {p : Pos} (gd : Good X c) (hm : X.mg "min" = none) (ha : DE X c a wa) (hb : DE X c b wb) (hg : Gl X "min" := by rfl) (he : starEach [a, b] X.env = (false, eval a X.env) :: starEach [b] X.env := by rfl) (he2 : starEach [b] X.env = (false, eval b X.env) :: starEach [] X.env := by rfl) (hpl : (backTo pos (starEach [b] X.env)).any (·.1) = false := by rfl) : DE X c (.Call (.Name "min" p) [a, b] [] pos) (wCB gMin2 (waCons wa (waCons wb waNil))) :=
  d_callB (call_min2 gd.calm) dc_min2 hm bt_min (a_cons ha (a_cons hb a_nil he2) he) hg (he := he) (hpl := hpl)
theorem d_abs {p : Pos} (hm : X.mg "abs" = none) (ha : DE X c a wa) (hg : Gl X "abs" := by rfl) (he : starEach [a] X.env = [(false, eval a X.env)] := by rfl) : DE X c (.Call (.Name "abs" p) [a] [] pos) (wCB gAbs (waCons wa waNil)) :=
  d_callB call_abs dc_abs hm bt_abs (a_cons ha a_nil he) hg (he := he)
theorem d_intOf {p : Pos} (hm : X.mg "int" = none) (ha : DE X c a wa) (hg : Gl X "int" := by rfl) (he : starEach [a] X.env = [(false, eval a X.env)] := by rfl) : DE X c (.Call (.Name "int" p) [a] [] pos) (wCB gInt (waCons wa waNil)) :=
  d_callTy call_int1 dc_int hm bt_int (a_cons ha a_nil he) hg (he := he)
/-! ### max, min of a list or tuple of whole numbers -/
theorem alikeAll_ints (n : Int) (ns : List Int) : PySem.W.AlikeAll (.int n :: ns.map .int) := by
  refine ⟨fun x hx y hy => ?_, fun x hx => ?_⟩
  · have h : ∀ z ∈ (PyData.int n :: ns.map PyData.int), ∃ k, z = .int k := fun z hz => by
      rcases List.mem_cons.mp hz with rfl | hz
      · exact ⟨_, rfl⟩
      · obtain ⟨k, _, rfl⟩ := List.mem_map.mp hz
        exact ⟨k, rfl⟩
    obtain ⟨k, rfl⟩ := h x hx
    obtain ⟨j, rfl⟩ := h y hy
    rfl
  · rcases List.mem_cons.mp hx with rfl | hz
    · exact fun z => nomatch z
    · obtain ⟨k, _, rfl⟩ := List.mem_map.mp hz
      exact fun z => nomatch z
theorem depth_ints1 (n : Int) (ns : List Int) : PyData.depthAll (.int n :: ns.map .int) = 0 := PySem.W.depth_ints (n :: ns)
theorem readsAll_ints {h : Heap} : ∀ {its : List Value} {ns : List Int}, Vals (ns.map V.int) its → ∃ as, ReadsAll h its (ns.map PyData.int) as
  | _, [], r => by
    have r' : Vals [] _ := r
    cases r'
    exact ⟨_, .nil⟩
  | _, n :: ns, r => by
    have r' : Vals (V.int n :: ns.map V.int) _ := r
    cases r' with
    | cons r1 r2 =>
      obtain ⟨t, rfl⟩ := r1
      obtain ⟨as, h2⟩ := readsAll_ints r2
      exact ⟨_, .cons (.int n t) h2⟩
theorem reads_int {h : Heap} {v : Value} {k : Int} {as : List Addr} (r : Reads h v (.int k) as) : ∃ t, v = .int k t := by
  cases r
  exact ⟨_, rfl⟩
theorem cr_maxT (hc : X.calm = true) (hu : X.A.units + 64 < cLine) : CallR X (.builtin "max") (fun vs H Q => ∃ (a : Addr) (n : Int) (ns : List Int), vs = [V.ref a] ∧ (SqT X.K H a ((n :: ns).map V.int) ∨ SqL X.K H a ((n :: ns).map V.int)) ∧ Q (.int (ns.foldl max n)) H) := by
  intro pins s σ H vs us Q I r h
  obtain ⟨a, n, ns, rfl, hs | hs, q⟩ := h
  · obtain ⟨its, rv, hl, _⟩ := I.tuple hs
    rw [Vals.ref1 r]
    obtain ⟨as, hr⟩ := readsAll_ints (h := s.heap) rv
    refine PySem.W.max_tuple_data (I.ok.hd hc) hl (x := .int n) (xs := ns.map .int) (as := as) (by simpa using hr) (alikeAll_ints n ns) (by rw [depth_ints1]; omega) fun i v h' tk bs _ hv hk => ?_
    rw [PySem.W.maxD_ints] at hv
    obtain ⟨t, rfl⟩ := reads_int hv
    exact ⟨.int _, H, I.kept hk, ⟨_, rfl⟩, q⟩
  · obtain ⟨its, rv, hl, _⟩ := I.list hs
    rw [Vals.ref1 r]
    obtain ⟨as, hr⟩ := readsAll_ints (h := s.heap) rv
    refine PySem.W.max_list_data (I.ok.hd hc) hl.isList (x := .int n) (xs := ns.map .int) (as := as) (by simpa using hr) (alikeAll_ints n ns) (by rw [depth_ints1]; omega) fun i v h' tk bs _ hv hk => ?_
    rw [PySem.W.maxD_ints] at hv
    obtain ⟨t, rfl⟩ := reads_int hv
    exact ⟨.int _, H, I.kept hk, ⟨_, rfl⟩, q⟩
theorem cr_minT (hc : X.calm = true) (hu : X.A.units + 64 < cLine) : CallR X (.builtin "min") (fun vs H Q => ∃ (a : Addr) (n : Int) (ns : List Int), vs = [V.ref a] ∧ (SqT X.K H a ((n :: ns).map V.int) ∨ SqL X.K H a ((n :: ns).map V.int)) ∧ Q (.int (ns.foldl min n)) H) := by
  intro pins s σ H vs us Q I r h
  obtain ⟨a, n, ns, rfl, hs | hs, q⟩ := h
  · obtain ⟨its, rv, hl, _⟩ := I.tuple hs
    rw [Vals.ref1 r]
    obtain ⟨as, hr⟩ := readsAll_ints (h := s.heap) rv
    refine PySem.W.min_tuple_data (I.ok.hd hc) hl (x := .int n) (xs := ns.map .int) (as := as) (by simpa using hr) (alikeAll_ints n ns) (by rw [depth_ints1]; omega) fun i v h' tk bs _ hv hk => ?_
    rw [PySem.W.minD_ints] at hv
    obtain ⟨t, rfl⟩ := reads_int hv
    exact ⟨.int _, H, I.kept hk, ⟨_, rfl⟩, q⟩
  · obtain ⟨its, rv, hl, _⟩ := I.list hs
    rw [Vals.ref1 r]
    obtain ⟨as, hr⟩ := readsAll_ints (h := s.heap) rv
    refine PySem.W.min_list_data (I.ok.hd hc) hl.isList (x := .int n) (xs := ns.map .int) (as := as) (by simpa using hr) (alikeAll_ints n ns) (by rw [depth_ints1]; omega) fun i v h' tk bs _ hv hk => ?_
    rw [PySem.W.minD_ints] at hv
    obtain ⟨t, rfl⟩ := reads_int hv
    exact ⟨.int _, H, I.kept hk, ⟨_, rfl⟩, q⟩
@[simp] def gMax (ds : List D) (Q : D → Prop) : Prop := ∃ (d : D) (n : Int) (ns : List Int), ds = [d] ∧ seqOf d = some ((n :: ns).map .int) ∧ Q (.int (ns.foldl max n))
@[simp] def gMin (ds : List D) (Q : D → Prop) : Prop := ∃ (d : D) (n : Int) (ns : List Int), ds = [d] ∧ seqOf d = some ((n :: ns).map .int) ∧ Q (.int (ns.foldl min n))
theorem dc_max : DCall (fun vs H Q => ∃ (a : Addr) (n : Int) (ns : List Int), vs = [V.ref a] ∧ (SqT X.K H a ((n :: ns).map V.int) ∨ SqL X.K H a ((n :: ns).map V.int)) ∧ Q (.int (ns.foldl max n)) H) gMax := by
  intro T O F H xs ds QD Q v r hg hq
  obtain ⟨d, n, ns, rfl, h1, h2⟩ := hg
  obtain ⟨u, rfl, h⟩ := r.single
  obtain ⟨p, ys, rfl, r1, h3 | h3⟩ := rp_seq v h h1
  · have e := r1.ints
    subst e
    exact ⟨p, n, ns, rfl, .inr (SqL.of (v.frz _ _ h3.2)), hq _ h2 F H _ v (Stp.refl O F H) (.int _)⟩
  · have e := r1.ints
    subst e
    exact ⟨p, n, ns, rfl, .inl (SqT.of (v.frz _ _ h3.2)), hq _ h2 F H _ v (Stp.refl O F H) (.int _)⟩
theorem dc_min : DCall (fun vs H Q => ∃ (a : Addr) (n : Int) (ns : List Int), vs = [V.ref a] ∧ (SqT X.K H a ((n :: ns).map V.int) ∨ SqL X.K H a ((n :: ns).map V.int)) ∧ Q (.int (ns.foldl min n)) H) gMin := by
  intro T O F H xs ds QD Q v r hg hq
  obtain ⟨d, n, ns, rfl, h1, h2⟩ := hg
  obtain ⟨u, rfl, h⟩ := r.single
  obtain ⟨p, ys, rfl, r1, h3 | h3⟩ := rp_seq v h h1
  · have e := r1.ints
    subst e
    exact ⟨p, n, ns, rfl, .inr (SqL.of (v.frz _ _ h3.2)), hq _ h2 F H _ v (Stp.refl O F H) (.int _)⟩
  · have e := r1.ints
    subst e
    exact ⟨p, n, ns, rfl, .inl (SqT.of (v.frz _ _ h3.2)), hq _ h2 F H _ v (Stp.refl O F H) (.int _)⟩
theorem d_max {k : Nat} {p : Pos} (gd : Good X c) (hr : Room k X.A) (hm : X.mg "max" = none) (ha : DE X c a wa) (hg : Gl X "max" := by rfl) (he : starEach [a] X.env = [(false, eval a X.env)] := by rfl) : DE X c (.Call (.Name "max" p) [a] [] pos) (wCB gMax (waCons wa waNil)) :=
  d_callB (cr_maxT gd.calm hr.units) dc_max hm bt_max (a_cons ha a_nil he) hg (he := he)
theorem d_min {k : Nat} {p : Pos} (gd : Good X c) (hr : Room k X.A) (hm : X.mg "min" = none) (ha : DE X c a wa) (hg : Gl X "min" := by rfl) (he : starEach [a] X.env = [(false, eval a X.env)] := by rfl) : DE X c (.Call (.Name "min" p) [a] [] pos) (wCB gMin (waCons wa waNil)) :=
  d_callB (cr_minT gd.calm hr.units) dc_min hm bt_min (a_cons ha a_nil he) hg (he := he)
/-! ### isinstance -/
@[simp] def isaOf (T : String) (d : D) : Bool := match T with
  | "int" => d.isInt
  | "bool" => d.isBool
  | "tuple" => d.isTuple
  | "list" => d.isList
  | "str" => d.isStr
  | _ => false
def isaT (T : String) : Prop := T = "int" ∨ T = "bool" ∨ T = "tuple" ∨ T = "list" ∨ T = "str"
theorem cr_isa {T : String} (hT : isaT T) : CallR X (.builtin "isinstance") (fun vs H Q => ∃ x d, vs = [x, .ty T] ∧ Dp X.K H x d ∧ Q (.bl (isaOf T d)) H) := by
  intro pins s σ H vs us Q I r h
  obtain ⟨x, d, rfl, hd, q⟩ := h
  cases r with
  | cons rx rr =>
    cases rr with
    | cons rt rr =>
      cases rr
      cases rt
      obtain ⟨as, hr⟩ := Dp.reads I d x _ hd rx
      have fin : ∀ tk, EP X pins σ Q (.bool (isaOf T d)) { s with toks := tk } := fun tk => ⟨.bl _, H, I.tok tk, rfl, q⟩
      rcases hT with rfl | rfl | rfl | rfl | rfl
      · exact PySem.W.isinstance_int_data hr fun tk _ => fin tk
      · exact PySem.W.isinstance_bool_data hr fun tk _ => fin tk
      · exact PySem.W.isinstance_tuple_data hr fun tk _ => fin tk
      · exact PySem.W.isinstance_list_data hr fun tk _ => fin tk
      · exact PySem.W.isinstance_str_data hr fun tk _ => fin tk
@[simp] def gIsa (T : String) : D → (D → Prop) → Prop := fun d Q => Q (.bool (isaOf T d))
theorem d_isa {T : String} {t : Str} {p p2 : Pos} (hm : X.mg "isinstance" = none) (hm2 : X.mg t = none) (ha : DE X c a wa) (hT : isaT T := by first | exact .inl rfl | exact .inr (.inl rfl) | exact .inr (.inr (.inl rfl)) | exact .inr (.inr (.inr (.inl rfl))) | exact .inr (.inr (.inr (.inr rfl)))) (hb : bootBuiltins t = some (.type T) := by first | exact bt_int | exact bt_bool | exact bt_tuple | exact bt_list | exact bt_str) (hg : Gl X "isinstance" := by rfl) (hg2 : Gl X t := by rfl)
    (hn : t ≠ "__name__" := by decide) (hdb : (t == ("__debug__" : Str)) = false := by decide) (he : starEach [a, .Name t p2] X.env = (false, eval a X.env) :: starEach [.Name t p2] X.env := by rfl) (he2 : starEach [.Name t p2] X.env = (false, eval (.Name t p2) X.env) :: starEach [] X.env := by rfl) (hpl : (backTo pos (starEach [.Name t p2] X.env)).any (·.1) = false := by rfl) :
    DE X c (.Call (.Name "isinstance" p) [a, .Name t p2] [] pos) (wUn (gIsa T) wa) := by
  refine PE.imp (pe_callB (cr_isa hT) hg hm bt_isinstance (pa_cons ha (pa_cons (pe_bltn (v := .ty T) hg2 hm2 hb rfl hn hdb) pa_nil he2) he) (he := he) (hpl := hpl)) ?_
  rintro σ H Q ⟨O, F, env, QD, QE, vw, sl, hw, hq, hE⟩
  refine ⟨O, F, env, _, QE, vw, sl, hw, fun d hd F1 H1 v v1 s1 r1 => ?_, hE⟩
  exact ⟨_, d, rfl, r1.dp v1.frz, hq _ hd F1 H1 _ v1 s1 (.bl _)⟩
/-! ### list(x), tuple(x) -/
@[simp] def gList (ds : List D) (Q : List D → Prop) : Prop := ∃ d es, ds = [d] ∧ seqOf d = some es ∧ Q es
theorem dc_list : DCallL (fun xs H Q => ∃ p ys, xs = [.ref p] ∧ (SqL X.K H p ys ∨ SqT X.K H p ys) ∧ ∀ l, H l = none → Q (.ref l) (upd H l (.lst ys))) gList := by
  intro T O F H xs ds QD Q v r hg hq
  obtain ⟨d, es, rfl, h1, h2⟩ := hg
  obtain ⟨u, rfl, h⟩ := r.single
  obtain ⟨p, ys, rfl, r1, h3 | h3⟩ := rp_seq v h h1
  · exact ⟨p, ys, rfl, .inl (SqL.of (v.frz _ _ h3.2)), fun l hl => lay_own v r1 h2 hq hl⟩
  · exact ⟨p, ys, rfl, .inr (SqT.of (v.frz _ _ h3.2)), fun l hl => lay_own v r1 h2 hq hl⟩
theorem l_list {p : Pos} (hm : X.mg "list" = none) (ha : DE X c a wa) (hg : Gl X "list" := by rfl) (he : starEach [a] X.env = [(false, eval a X.env)] := by rfl) : DL X c (.Call (.Name "list" p) [a] [] pos) (wCL gList (waCons wa waNil)) :=
  l_callTy call_list_of dc_list hm bt_list (a_cons ha a_nil he) hg (he := he)
@[simp] def gTuple (ds : List D) (Q : D → Prop) : Prop := ∃ d es, ds = [d] ∧ seqOf d = some es ∧ Q (.tuple es)
theorem dc_tuple : DCall (fun xs H Q => ∃ p ys, xs = [.ref p] ∧ ((SqL X.K H p ys ∧ ∀ l, H l = none → Q (.ref l) (upd H l (.tup ys))) ∨ (SqT X.K H p ys ∧ Q (.ref p) H))) gTuple := by
  intro T O F H xs ds QD Q v r hg hq
  obtain ⟨d, es, rfl, h1, h2⟩ := hg
  obtain ⟨u, rfl, h⟩ := r.single
  obtain ⟨p, ys, rfl, r1, h3 | h3⟩ := rp_seq v h h1
  · exact ⟨p, ys, rfl, .inl ⟨SqL.of (v.frz _ _ h3.2), fun l hl => lay_tup v r1 h2 hq hl⟩⟩
  · exact ⟨p, ys, rfl, .inr ⟨SqT.of (v.frz _ _ h3.2), hq _ h2 F H _ v (Stp.refl O F H) (.tup h3.2 r1)⟩⟩
theorem d_tuple {p : Pos} (hm : X.mg "tuple" = none) (ha : DE X c a wa) (hg : Gl X "tuple" := by rfl) (he : starEach [a] X.env = [(false, eval a X.env)] := by rfl) : DE X c (.Call (.Name "tuple" p) [a] [] pos) (wCB gTuple (waCons wa waNil)) :=
  d_callTy call_tuple_of dc_tuple hm bt_tuple (a_cons ha a_nil he) hg (he := he)
/-! ### a[i] -/
@[simp] def gIx : D → D → (D → Prop) → Prop := fun x y Q => ∃ es i d, seqOf x = some es ∧ y = .int i ∧ atI es i = some d ∧ Q d
theorem rpl_at {F : Hp} {xs : List V} {ds : List D} (r : RpL F xs ds) {i : Int} {d : D} (h : atI ds i = some d) : ∃ v, atI xs i = some v ∧ Rp F v d := by
  unfold atI at h ⊢
  rw [r.length]
  cases q : ixN ds.length i with
  | none =>
    rw [q] at h
    cases h
  | some j =>
    rw [q] at h
    exact r.get h
theorem dop_ix : DOp (fun x y H Q => rIx X.K x y H Q) gIx := by
  intro T O F H x y dx dy QD Q v rx ry hg hq
  obtain ⟨es, i, d, h1, rfl, h2, h3⟩ := hg
  cases ry
  obtain ⟨p, ys, rfl, r1, h4 | h4⟩ := rp_seq v rx h1
  · obtain ⟨u, e1, r2⟩ := rpl_at r1 h2
    exact .inl ⟨p, ys, i, u, rfl, rfl, SqL.of (v.frz _ _ h4.2), e1, hq _ h3 F H _ v (Stp.refl O F H) r2⟩
  · obtain ⟨u, e1, r2⟩ := rpl_at r1 h2
    exact .inr (.inl ⟨p, ys, i, u, rfl, rfl, SqT.of (v.frz _ _ h4.2), e1, hq _ h3 F H _ v (Stp.refl O F H) r2⟩)
theorem d_ix (ha : DE X c a wa) (hb : DE X c b wb) (hs : PlainIx b := by exact fun _ _ => rfl) : DE X c (.Subscript a b pos) (wOp gIx wa wb) := PE.imp (pe_ix ix_seq ha hb hs) (lift_op dop_ix)
/-! ### a[i:j] -/
abbrev WO := En → (Option Int → Prop) → (Str → Prop) → Prop
def liftO (c : Ctx) (w : WO) : TO := fun σ H Q => ∃ O F env QD QE, Vw c.T O F H ∧ Sls O F σ env ∧ w env QD QE ∧
  (∀ o, QD o → ∀ F' H', Vw c.T O F' H' → Stp O F H F' H' → Q o H') ∧ c.exc O F H QE
abbrev DO' (X : Cx) (c : Ctx) (e : Option Expr) (w : WO) : Prop := PO X e (liftO c w)
theorem PO.imp {X : Cx} {e : Option Expr} {t t' : TO} (h : PO X e t) (i : ∀ σ H Q, t' σ H Q → t σ H Q) : PO X e t' := ⟨fun pins s σ H Q I z => h.run pins s σ H Q I (i σ H Q z)⟩
@[simp] def woNone : WO := fun _ Q _ => Q none
@[simp] def woSome (w : WE) : WO := fun env Q E => w env (fun d => ∃ i, d = .int i ∧ Q (some i)) E
theorem o_none : DO' X c none woNone := PO.imp po_none fun σ H Q ⟨O, F, env, QD, QE, vw, sl, hw, hq, he⟩ => hq none hw F H vw (Stp.refl O F H)
theorem o_some (h : DE X c a wa) : DO' X c (some a) (woSome wa) := by
  refine PO.imp (po_some h) ?_
  rintro σ H Q ⟨O, F, env, QD, QE, vw, sl, hw, hq, he⟩
  refine ⟨O, F, env, _, QE, vw, sl, hw, fun d hd F1 H1 v v1 s1 r1 => ?_, he⟩
  obtain ⟨i, rfl, hi⟩ := hd
  cases r1
  exact ⟨i, rfl, hq _ hi F1 H1 v1 s1⟩
def cutD (xs : List D) (lo hi : Option Int) : List D := (xs.drop (HT.sIx xs.length 0 lo)).take (HT.sIx xs.length xs.length hi - HT.sIx xs.length 0 lo)
theorem rpl_cut {F : Hp} {xs : List V} {ds : List D} (r : RpL F xs ds) (lo hi : Option Int) : RpL F (cutV xs lo hi) (cutD ds lo hi) := by
  unfold cutV cutD
  rw [r.length]
  exact (r.drop _).take _
theorem cutD_whole {ds : List D} {lo hi : Option Int} (h : HT.sIx ds.length 0 lo = 0 ∧ HT.sIx ds.length ds.length hi = ds.length) : cutD ds lo hi = ds := by
  unfold cutD
  rw [h.1, h.2]
  simp
/-- of a list: a new one; of a tuple; of a text -/
@[simp] def gCut (x : D) (lo hi : Option Int) (Q : D → Prop) : Prop := match x with
  | .list ds => Q (.list (cutD ds lo hi))
  | .tuple ds => Q (.tuple (cutD ds lo hi))
  | .str z => z.length ≤ sizeLine ∧ Q (.str (cutS z lo hi))
  | _ => False
@[simp] def wCut (w : WE) (wl wh : WO) : WE := fun env Q E => w env (fun x => wl env (fun lo => wh env (fun hi => gCut x lo hi Q) E) E) E
@[simp] def gCutL (x : D) (lo hi : Option Int) (Q : List D → Prop) : Prop := match x with
  | .list ds => Q (cutD ds lo hi)
  | _ => False
@[simp] def wCutL (w : WE) (wl wh : WO) : WA := fun env Q E => w env (fun x => wl env (fun lo => wh env (fun hi => gCutL x lo hi Q) E) E) E
theorem d_cut {lo hi : Option Expr} {wl wh : WO} {p2 : Pos} (ha : DE X c a wa) (hl : DO' X c lo wl) (hh : DO' X c hi wh) : DE X c (.Subscript a (.Slice lo hi none p2) pos) (wCut wa wl wh) := by
  refine PE.imp (pe_slice (SlR.or sl_list (SlR.or sl_tupA sl_str)) ha hl hh) ?_
  rintro σ H Q ⟨O, F, env, QD, QE, vw, sl, hw, hq, he⟩
  refine ⟨O, F, env, _, QE, vw, sl, hw, fun d hd F1 H1 v v1 s1 r1 => ?_, he⟩
  refine ⟨O, F1, env, _, QE, v1, sl.up s1.grow, hd, fun lo hlo F2 H2 v2 s2 => ?_, he.up s1⟩
  have s02 := s1.trans s2 v2
  refine ⟨O, F2, env, _, QE, v2, sl.up s02.grow, hlo, fun hi hhi F3 H3 v3 s3 => ?_, he.up s02⟩
  have s03 := s02.trans s3 v3
  have r3 := r1.up (s2.grow.trans s3.grow)
  have hq' : ∀ d, QD d → ∀ F' H' v, Vw c.T O F' H' → Stp O F3 H3 F' H' → Rp F' v d → Q v H' := fun d hd F' H' v v' st r' => hq d hd F' H' v v' (s03.trans st v') r'
  cases r3 with
  | @lst p xs ds h1 t1 => exact .inl ⟨p, xs, rfl, SqL.of (v3.frz _ _ h1), fun t ht => lay_list v3 (rpl_cut t1 lo hi) hhi hq' ht⟩
  | @tup p xs ds h1 t1 =>
    refine .inr (.inl ⟨p, xs, rfl, SqT.of (v3.frz _ _ h1), fun hw => ?_, fun _ t ht => lay_tup v3 (rpl_cut t1 lo hi) hhi hq' ht⟩)
    rw [t1.length] at hw
    have h5 : QD (.tuple (cutD ds lo hi)) := hhi
    rw [cutD_whole hw] at h5
    exact hq' _ h5 F3 H3 _ v3 (Stp.refl O F3 H3) (.tup h1 t1)
  | str z => exact .inr (.inr ⟨z, rfl, hhi.1, hq' _ hhi.2 F3 H3 _ v3 (Stp.refl O F3 H3) (.str _)⟩)
  | _ => exact hhi.elim
theorem l_cut {lo hi : Option Expr} {wl wh : WO} {p2 : Pos} (ha : DE X c a wa) (hl : DO' X c lo wl) (hh : DO' X c hi wh) : DL X c (.Subscript a (.Slice lo hi none p2) pos) (wCutL wa wl wh) := by
  refine PE.imp (pe_slice sl_list ha hl hh) ?_
  rintro σ H Q ⟨O, F, env, QD, QE, vw, sl, hw, hq, he⟩
  refine ⟨O, F, env, _, QE, vw, sl, hw, fun d hd F1 H1 v v1 s1 r1 => ?_, he⟩
  refine ⟨O, F1, env, _, QE, v1, sl.up s1.grow, hd, fun lo hlo F2 H2 v2 s2 => ?_, he.up s1⟩
  have s02 := s1.trans s2 v2
  refine ⟨O, F2, env, _, QE, v2, sl.up s02.grow, hlo, fun hi hhi F3 H3 v3 s3 => ?_, he.up s02⟩
  have s03 := s02.trans s3 v3
  have r3 := r1.up (s2.grow.trans s3.grow)
  cases r3 with
  | @lst p xs ds h1 t1 => exact ⟨p, xs, rfl, SqL.of (v3.frz _ _ h1), fun t ht => lay_own v3 (rpl_cut t1 lo hi) hhi (fun ds hd F4 H4 q ys v4 s4 n1 n2 n3 r4 => hq ds hd F4 H4 q ys v4 (s03.trans s4 v4) (s03.back n1) n2 n3 r4) ht⟩
  | _ => exact hhi.elim
end
end SD

namespace SD
open PySem PySem.Spec PyProof.Rows L2
/-! ### enumerate(a tuple) -/
theorem enum_new1 {v : Value} {o : Obj} {Hh : Heap → Prop} (B : Begins v o Hh) : Meets (Builtin.«enumerate.__new__» ⟨[.type "enumerate", v], []⟩) (fun _ R s => Hh s.heap ∧
      R (.ok (.ret (.ref (s.heap.push o).objs.size))) { s with heap := (s.heap.push o).push { cls := .type "enumerate", data := .fields #[.none, .bool false, .ref s.heap.objs.size, rawInt 0, .none, .none] } }) :=
  .of_wp fun prog w A R s ⟨h1, h⟩ => by
    obtain ⟨hp, g, d, tk, os⟩ := s
    have hsub := sub_enumerate
    have q1 : ∀ {A' : Around} {E : Value → Shared → Prop} {Q : Value → Shared → Prop}, Q (.ref hp.objs.size) ⟨hp.push o, g, d, tk, os⟩ → wpAny (model prog w) A' (pyIter v) Q E ⟨hp, g, d, tk, os⟩ := fun q => B.iter prog w _ _ ⟨hp, g, d, tk, os⟩ _ h1 q
    wp_walk using q1
    refine wpAny_stack_any fun st => wpAny_pure ?_
    split
    · rename_i c _ _ _ _ _
      cases (c == Value.type "enumerate")
      · wp_walk using q1
        exact ⟨_, rfl, h⟩
      · wp_walk using q1
        exact ⟨_, rfl, h⟩
    · wp_walk using q1
      exact ⟨_, rfl, h⟩
theorem enum_call1 {prog : Program} {w : World} {A : Around} {E : Value → Shared → Prop} {s : Shared} {v : Value} {o : Obj} {Hh : Heap → Prop} {Q : Value → Shared → Prop} (B : Begins v o Hh) (h1 : Hh s.heap)
    (h : ∀ h', IsEnum h' (s.heap.objs.size + 1) s.heap.objs.size 0 .none → h'.get? s.heap.objs.size = some o → (∀ b o, s.heap.get? b = some o → h'.get? b = some o) → Q (.ref (s.heap.objs.size + 1)) { s with heap := h' }) :
    wpAny (model prog w) A (call (.type "enumerate") [v]) Q E s := by
  refine callType_new F.called_enumerate (by decide) (F.typeCall_enumerate_1 _) (F.newCall_enumerate_1 _) (fun obj => F.args_object_init_2 obj _) F.entry_enumerate_new (enum_new1 B) ⟨h1, ?_⟩
  have hz : (s.heap.push o).objs.size = s.heap.objs.size + 1 := Heap.size_push ..
  show _ ∧ _
  rw [hz]
  have he : IsEnum ((s.heap.push o).push { cls := .type "enumerate", data := .fields #[.none, .bool false, .ref s.heap.objs.size, rawInt 0, .none, .none] }) (s.heap.objs.size + 1) s.heap.objs.size 0 .none := by
    have q := Heap.get?_push_size (s.heap.push o) (o := { cls := .type "enumerate", data := .fields #[.none, .bool false, .ref s.heap.objs.size, rawInt 0, .none, .none] }) rfl
    rw [hz] at q
    exact q
  exact ⟨⟨_, he, rfl⟩, h _ he (Heap.get?_push_of_some _ (Heap.get?_push_size _ B.free)) fun b o x => Heap.get?_push_of_some _ (Heap.get?_push_of_some _ x)⟩
/-- the tuple at a, each item in a new pair -/
def IteT (K : PySem.W.Frag) (a : Addr) : It where
  go := fun i H => ∃ (xs : List V) (x : V), SqT K H a xs ∧ xs[i]? = some x
  yld := fun i H v H' => ∃ T x, v = .ref T ∧ H T = none ∧ H' = upd H T (.tup [.int (i : Nat), x]) ∧ ∀ xs, SqT K H a xs → xs[i]? = some x
  stop := fun i H => ∃ xs : List V, SqT K H a xs ∧ xs.length = i
theorem turn_enumT {P : Program} {w : World} {K : PySem.W.Frag} {elts : List Expr} {kk : Nat} {tpos : Pos} (a e it : Addr) :
    Turn P w K (.Tuple elts kk tpos) (IteT K a) [e, it] e (fun i h => (∃ old, IsEnum h e it ((i : Nat) : Int) old) ∧ h.IsTupleIter it a i ∧ e ≠ it ∧ a ≠ it ∧ a ≠ e) where
  mem := List.mem_cons_self
  obj := fun i h z b hb => by
    obtain ⟨⟨old, he⟩, ⟨o, ho, hc, hd⟩, _⟩ := z
    rcases List.mem_cons.mp hb with z | hb
    · rw [z]
      exact ⟨_, he, fun v q => nomatch q⟩
    · rw [List.mem_singleton.mp hb]
      exact ⟨o, ho, fun v q => by rw [hd] at q; cases q⟩
  keep := fun i h h' ⟨⟨old, he⟩, hi, hne⟩ k => ⟨⟨old, k e (by simp) _ he⟩, hi.at fun o q => k it (by simp) o q, hne⟩
  item := fun X hP hw hK hc i pins s σ H E I hf ⟨⟨old, he⟩, hit, hne, hai, hae⟩ ⟨xs, x, hq, hx⟩ => by
    subst hP hw hK
    obtain ⟨its, rv, p, hz⟩ := I.tuple hq
    obtain ⟨u, hu, ru⟩ := rv.get hx
    have hel : e < s.heap.objs.size := Heap.lt_size he
    have hil : it < s.heap.objs.size := by obtain ⟨_, q, _⟩ := hit; exact Heap.lt_size q
    have hi : i < its.toArray.size := by
      have := (List.getElem?_eq_some_iff.mp hu).1
      simpa using this
    refine wpAny_pyNext_enum_itemD (Draws.tuple (A := X.A.in1) (I.ok.hd hc) it a hai its.toArray) he ⟨hit, p⟩ hi hne (by simp [hne, hae.symm]) fun y h' tk hy ho ⟨hit', hp'⟩ hT hsz hk => ?_
    have ey : y = u := by
      have hy2 : its.toArray[i]? = some y := hy
      rw [show its.toArray[i]? = some u by simpa using hu] at hy2
      exact (Option.some.inj hy2).symm
    subst ey
    refine ⟨_, rfl, wpAny_letOwnedTupleGo_enum (s := { s with heap := h', toks := tk + 1 }) ho fun h'' he' sb => ?_⟩
    have hT2 : h''.get? s.heap.objs.size = some { cls := .type "tuple", data := .seq #[.int i tk, y] } := (sb.2 _ (Nat.ne_of_gt hel)).trans hT
    have new : ObjOk X.prog X.w (upd H s.heap.objs.size (.tup [.int (i : Nat), x])) h'' s.heap.objs.size (.tup [.int (i : Nat), x]) := ⟨by show 2 ≤ sizeLine; decide, [.int i tk, y], .cons ⟨_, rfl⟩ (.cons ru .nil), ⟨_, hT2, rfl, _, rfl⟩⟩
    have I1 : Inv X pins σ (upd H s.heap.objs.size (.tup [.int (i : Nat), x])) { s with heap := h'', toks := tk + 1 } :=
      I.turnedNew (ch := [e, it]) (fun b ob hb q => (sb.2 b (fun z => hb (by simp [z]))).trans (hk b ob (fun z => hb (by simp [z])) (fun z => hb (by simp [z])) q)) hf (Nat.le_refl _) new
    refine ⟨.ref s.heap.objs.size, _, I1, rfl, ⟨_, x, rfl, I.hok.fresh (Nat.le_refl _), rfl, fun ys hy => by rw [I.tuple_inj hy hq]; exact hx⟩, ⟨⟨y, ?_⟩, hit'.at fun o q => (sb.2 it (Ne.symm hne)).trans q, hne, hai, hae⟩, fun b hb => ?_⟩
    · have e1 : ((i + 1 : Nat) : Int) = (i : Int) + 1 := by omega
      rw [e1]
      exact he'
    · have hb' : b < s.heap.objs.size := by
        rcases List.mem_cons.mp hb with z | hb
        · rw [z]
          exact hel
        · rw [List.mem_singleton.mp hb]
          exact hil
      rw [upd_ne (Nat.ne_of_lt hb')]
      exact (hf b hb).1
  done := fun X hP hw hK hc i pins s σ H E I hf ⟨⟨old, he⟩, hit, hne, hai, hae⟩ ⟨xs, hq, hx⟩ => by
    subst hP hw hK
    obtain ⟨its, rv, p, hz⟩ := I.tuple hq
    obtain ⟨f0, f1, f2, f3, f4, f5⟩ := hf it (by simp)
    have hl := rv.length
    have en : i = its.toArray.size := by
      rw [List.size_toArray]
      omega
    subst en
    exact wpAny_pyNext_enum_endD (Draws.tuple (A := X.A.in1) (I.ok.hd hc) it a hai its.toArray) he ⟨hit, p⟩ fun h' eb => ⟨rfl, I.turned (t' := s.toks) (fun b o hb q => eb b o hb q) f0 f1 f3 f4 f5⟩
  self := fun A i s Q E ⟨⟨_, he⟩, _⟩ h => wpAny_pyIter_enum he h
def iEnumT (K : PySem.W.Frag) (ta : TA) : TI := fun σ H R => ta σ H fun vs H1 => ∃ a xs, vs = [.ref a] ∧ ((SqT K H1 a xs ∧ R (IteT K a) H1) ∨ (SqL K H1 a xs ∧ R (Ite K a) H1))
theorem pi_enumT {X : Cx} {e : Expr} {ta : TA} {p pos tpos : Pos} {elts : List Expr} {kk : Nat} (hg : Gl X "enumerate") (hm : X.mg "enumerate" = none) (ha : PA X [e] ta) (hs : starEach [e] X.env = [(false, eval e X.env)] := by rfl) :
    PI X (.Tuple elts kk tpos) (.Call (.Name "enumerate" p) [e] [] pos) (iEnumT X.K ta) := ⟨fun pins s σ H R I h => by
  refine Call_ (ld_blt I hg hm boot_enumerate (PyProof.Rows.callWith_type1 (thn (ha.run pos pins s σ H _ I h) fun us s1 ⟨vs, H1, I1, r1, a, xs, ex, q1⟩ => ?_) hs rfl))
  subst ex
  cases r1 with
  | cons r rr =>
    cases rr
    cases r
    have fin : ∀ b : Addr, b ∈ [s1.heap.objs.size + 1, s1.heap.objs.size] → FpOk X pins H1 b := fun b hb => by
      have hle : s1.heap.objs.size ≤ b := by
        rcases List.mem_cons.mp hb with z | hb
        · rw [z]
          exact Nat.le_add_right _ _
        · rw [List.mem_singleton.mp hb]
          exact Nat.le_refl _
      exact I1.fpOk hle (I1.hok.fresh hle)
    rcases q1 with ⟨hq, q⟩ | ⟨hq, q⟩
    · obtain ⟨its, rv, p', hz⟩ := I1.tuple hq
      have hlt : a < s1.heap.objs.size := by obtain ⟨_, e, _⟩ := p'; exact Heap.lt_size e
      refine enum_call1 (begins_tuple a its.toArray) p' fun h' he ho hk => wpAny_pyIter_enum he ?_
      exact ⟨s1.heap.objs.size + 1, _, _, _, H1, rfl, I1.kept (t' := s1.toks) hk, turn_enumT a (s1.heap.objs.size + 1) s1.heap.objs.size, ⟨⟨.none, he⟩, ⟨_, ho, rfl, rfl⟩, Nat.succ_ne_self _, Nat.ne_of_lt hlt, Nat.ne_of_lt (Nat.lt_succ_of_lt hlt)⟩, fin, q⟩
    · obtain ⟨its, rv, p', hz⟩ := I1.list hq
      refine call_enumerate_list p'.isList fun h' he hit hsz hk => wpAny_pyIter_enum he ?_
      exact ⟨s1.heap.objs.size + 1, _, _, _, H1, rfl, I1.kept (t' := s1.toks) hk, turn_enum a (s1.heap.objs.size + 1) s1.heap.objs.size, ⟨⟨.none, he⟩, hit, Nat.succ_ne_self _⟩, fin, q⟩⟩
end SD

namespace SD
open PySem PySem.Spec PyProof.Rows L2
/-! ### what is walked, by data -/
def Yl (F H : Hp) (x : V) (H' : Hp) (d : D) : Prop := (H' = H ∧ Rp F x d) ∨ ∃ (t : Addr) (a b : V) (da db : D), x = .ref t ∧ H t = none ∧ H' = upd H t (.tup [a, b]) ∧ Rp F a da ∧ Rp F b db ∧ d = .tuple [da, db]
def Wk (J : It) (F : Hp) (ds : List D) : Prop := ∀ H, Same F H → (∀ i d, ds[i]? = some d → J.go i H ∧ ∀ x H', J.yld i H x H' → Yl F H x H' d) ∧ J.stop ds.length H
theorem Wk.up {J : It} {F F' : Hp} {ds : List D} (w : Wk J F ds) (g : Same F F') : Wk J F' ds := fun H s => by
  obtain ⟨h1, h2⟩ := w H (g.trans s)
  refine ⟨fun i d e => ⟨(h1 i d e).1, fun x H' y => ?_⟩, h2⟩
  rcases (h1 i d e).2 x H' y with ⟨e1, r⟩ | ⟨t, a, b, da, db, e1, e2, e3, r1, r2, e4⟩
  · exact .inl ⟨e1, r.up g⟩
  · exact .inr ⟨t, a, b, da, db, e1, e2, e3, r1.up g, r2.up g, e4⟩
def liftI (c : Ctx) (w : WA) : TI := fun σ H R => ∃ O F env QD QE, Vw c.T O F H ∧ Sls O F σ env ∧ w env QD QE ∧
  (∀ ds, QD ds → ∀ F' H' J, Vw c.T O F' H' → Stp O F H F' H' → Wk J F' ds → R J H') ∧ c.exc O F H QE
abbrev DI (X : Cx) (c : Ctx) (tg e : Expr) (w : WA) : Prop := PI X tg e (liftI c w)
section
variable {X : Cx} {c : Ctx} {a b e tg : Expr} {es : List Expr} {wa wb : WE} {was : WA} {pos : Pos}
theorem wk_list {K : PySem.W.Frag} {F : Hp} {p : Addr} {xs : List V} {ds : List D} (h : F p = some (.lst xs)) (r : RpL F xs ds) : Wk (Itl K p) F ds := fun H s => by
  have hs : SqL K H p xs := SqL.of (s _ _ h)
  refine ⟨fun i d e => ?_, ⟨xs, hs, Nat.le_of_eq r.length⟩⟩
  obtain ⟨v, e1, r1⟩ := r.get e
  refine ⟨⟨xs, v, hs, e1⟩, fun x H' ⟨e2, y⟩ => .inl ⟨e2, ?_⟩⟩
  have e3 := y xs hs
  rw [e1] at e3
  cases e3
  exact r1
theorem wk_tup {K : PySem.W.Frag} {F : Hp} {p : Addr} {xs : List V} {ds : List D} (h : F p = some (.tup xs)) (r : RpL F xs ds) : Wk (Itt K p) F ds := fun H s => by
  have hs : SqT K H p xs := SqT.of (s _ _ h)
  refine ⟨fun i d e => ?_, ⟨xs, hs, Nat.le_of_eq r.length⟩⟩
  obtain ⟨v, e1, r1⟩ := r.get e
  refine ⟨⟨xs, v, hs, e1⟩, fun x H' ⟨e2, y⟩ => .inl ⟨e2, ?_⟩⟩
  have e3 := y xs hs
  rw [e1] at e3
  cases e3
  exact r1
/-- a list or a tuple -/
def iSeq (K : PySem.W.Frag) (tl : TE) : TI := fun σ H R => tl σ H fun x H1 => ∃ a, x = .ref a ∧ (((∃ xs, SqL K H1 a xs) ∧ R (Itl K a) H1) ∨ ((∃ xs, SqT K H1 a xs) ∧ R (Itt K a) H1))
theorem pi_seq {l : Expr} {tl : TE} (hl : PE X l tl) : PI X tg l (iSeq X.K tl) := ⟨fun pins s σ H R I h => by
  refine thn (hl.run pins s σ H _ I h) fun v s1 ⟨x, H1, I1, r1, a, e, q⟩ => ?_
  subst e
  cases r1
  have fin : ∀ b : Addr, b ∈ [s1.heap.objs.size] → FpOk X pins H1 b := fun b hb => by
    rw [List.mem_singleton.mp hb]
    exact I1.fpOk (Nat.le_refl _) (I1.hok.fresh (Nat.le_refl _))
  rcases q with ⟨⟨xs, hq⟩, q⟩ | ⟨⟨xs, hq⟩, q⟩
  · obtain ⟨its, rv, p, hz⟩ := I1.list hq
    exact wpAny_pyIter_list p.isList ⟨s1.heap.objs.size, _, _, _, H1, rfl, I1.kept (t' := s1.toks) fun b o e => Heap.get?_push_of_some _ e, turn_list a _, ⟨_, Heap.get?_push_size _ rfl, rfl, rfl⟩, fin, q⟩
  · obtain ⟨its, rv, p, hz⟩ := I1.tuple hq
    exact wpAny_pyIter_tuple p ⟨s1.heap.objs.size, _, _, _, H1, rfl, I1.kept (t' := s1.toks) fun b o e => Heap.get?_push_of_some _ e, turn_tuple a _, ⟨_, Heap.get?_push_size _ rfl, rfl, rfl⟩, fin, q⟩⟩
@[simp] def wiSeq (w : WE) : WA := fun env Q E => w env (fun d => ∃ ds, seqOf d = some ds ∧ Q ds) E
theorem i_seq (h : DE X c e wa) : DI X c tg e (wiSeq wa) := by
  refine PI.imp (pi_seq h) ?_
  rintro σ H R ⟨O, F, env, QD, QE, vw, sl, hw, hq, he⟩
  refine ⟨O, F, env, _, QE, vw, sl, hw, fun d hd F1 H1 v v1 s1 r1 => ?_, he⟩
  obtain ⟨ds, h1, h2⟩ := hd
  obtain ⟨p, ys, rfl, r2, h3 | h3⟩ := rp_seq v1 r1 h1
  · exact ⟨p, rfl, .inl ⟨⟨ys, SqL.of (v1.frz _ _ h3.2)⟩, hq ds h2 F1 H1 _ v1 s1 (wk_list h3.2 r2)⟩⟩
  · exact ⟨p, rfl, .inr ⟨⟨ys, SqT.of (v1.frz _ _ h3.2)⟩, hq ds h2 F1 H1 _ v1 s1 (wk_tup h3.2 r2)⟩⟩
/-! range -/
def rgD (lo hi : Int) : List D := (List.range (hi - lo).toNat).map fun i => .int (lo + (i : Nat))
theorem rgD_get {lo hi : Int} {i : Nat} {d : D} (h : (rgD lo hi)[i]? = some d) : i < (hi - lo).toNat ∧ d = .int (lo + (i : Nat)) := by
  unfold rgD at h
  rw [List.getElem?_map] at h
  by_cases hi' : i < (hi - lo).toNat
  · rw [List.getElem?_range hi'] at h
    cases h
    exact ⟨hi', rfl⟩
  · rw [List.getElem?_eq_none (by simpa using hi')] at h
    cases h
theorem rgD_len (lo hi : Int) : (rgD lo hi).length = (hi - lo).toNat := by
  unfold rgD
  rw [List.length_map, List.length_range]
theorem wk_range {F : Hp} (lo hi : Int) : Wk (Itr lo (hi - lo).toNat) F (rgD lo hi) := fun H s => by
  refine ⟨fun i d e => ?_, ?_⟩
  · obtain ⟨h1, rfl⟩ := rgD_get e
    refine ⟨h1, fun x H' ⟨e2, y⟩ => .inl ⟨e2, ?_⟩⟩
    rw [y]
    exact .int _
  · show _ ≤ _
    rw [rgD_len]
    exact Nat.le_refl _
@[simp] def rgOk (i : Int) : Prop := -(2 ^ 62) ≤ i ∧ i < 2 ^ 62
@[simp] def wiRng1 (w : WE) : WA := fun env Q E => w env (fun d => ∃ j, d = .int j ∧ rgOk j ∧ Q (rgD 0 j)) E
@[simp] def wiRng2 (w u : WE) : WA := fun env Q E => w env (fun d => u env (fun d' => ∃ i j, d = .int i ∧ d' = .int j ∧ rgOk i ∧ rgOk j ∧ Q (rgD i j)) E) E
theorem i_rng1 {p : Pos} (hm : X.mg "range" = none) (h : DE X c e wa) (hg : Gl X "range" := by rfl) (hs : starEach [e] X.env = [(false, eval e X.env)] := by rfl) : DI X c tg (.Call (.Name "range" p) [e] [] pos) (wiRng1 wa) := by
  refine PI.imp (pi_range1 hg hm (pa_cons h pa_nil hs) hs) ?_
  rintro σ H R ⟨O, F, env, QD, QE, vw, sl, hw, hq, he⟩
  refine ⟨O, F, env, _, QE, vw, sl, hw, fun d hd F1 H1 v v1 s1 r1 => ?_, he⟩
  obtain ⟨j, rfl, h1, h2⟩ := hd
  cases r1
  refine ⟨j, rfl, h1.1, h1.2, ?_⟩
  have q := hq _ h2 F1 H1 _ v1 s1 (wk_range 0 j)
  rw [Int.sub_zero] at q
  exact q
theorem i_rng2 {p : Pos} (hm : X.mg "range" = none) (h : DE X c a wa) (h' : DE X c b wb) (hg : Gl X "range" := by rfl) (hs : starEach [a, b] X.env = [(false, eval a X.env), (false, eval b X.env)] := by rfl) (hs2 : starEach [b] X.env = [(false, eval b X.env)] := by rfl) : DI X c tg (.Call (.Name "range" p) [a, b] [] pos) (wiRng2 wa wb) := by
  refine PI.imp (pi_range2 hg hm (pa_cons h (pa_cons h' pa_nil hs2) (by rw [hs, hs2])) hs hs2) ?_
  rintro σ H R ⟨O, F, env, QD, QE, vw, sl, hw, hq, he⟩
  refine ⟨O, F, env, _, QE, vw, sl, hw, fun d hd F1 H1 v v1 s1 r1 => ?_, he⟩
  refine ⟨O, F1, env, _, QE, v1, sl.up s1.grow, hd, fun d' hd' F2 H2 v' v2 s2 r2 => ?_, he.up s1⟩
  obtain ⟨i, j, rfl, rfl, h1, h2, h3⟩ := hd'
  cases r1
  cases r2
  exact ⟨i, j, rfl, ⟨h1.1, h1.2, h2.1, h2.2⟩, hq _ h3 F2 H2 _ v2 (s1.trans s2 v2) (wk_range i j)⟩
/-! zip, enumerate -/
def zipD (xs ys : List D) : List D := List.zipWith (fun x y => PyData.tuple [x, y]) xs ys
theorem zipD_get {xs ys : List D} {i : Nat} {d : D} (h : (zipD xs ys)[i]? = some d) : ∃ x y, xs[i]? = some x ∧ ys[i]? = some y ∧ d = .tuple [x, y] := by
  unfold zipD at h
  rw [List.getElem?_zipWith] at h
  cases e1 : xs[i]? with
  | none => simp [e1] at h
  | some x =>
    cases e2 : ys[i]? with
    | none => simp [e1, e2] at h
    | some y =>
      simp [e1, e2] at h
      exact ⟨x, y, rfl, rfl, h.symm⟩
def gZip (d d' : D) (Q : List D → Prop) : Prop := (∃ xs ys, d = .tuple xs ∧ d' = .tuple ys ∧ Q (zipD xs ys)) ∨ (∃ xs ys, d = .list xs ∧ d' = .list ys ∧ Q (zipD xs ys))
@[simp] def wiZip (w u : WE) : WA := fun env Q E => w env (fun d => u env (fun d' => gZip d d' Q) E) E
theorem i_zip {p tpos : Pos} {elts : List Expr} {kk : Nat} (hm : X.mg "zip" = none) (h : DE X c a wa) (h' : DE X c b wb) (hg : Gl X "zip" := by rfl) (hs : starEach [a, b] X.env = (false, eval a X.env) :: starEach [b] X.env := by rfl) (hs2 : starEach [b] X.env = [(false, eval b X.env)] := by rfl) (hpl : (backTo pos (starEach [b] X.env)).any (·.1) = false := by rfl) :
    DI X c (.Tuple elts kk tpos) (.Call (.Name "zip" p) [a, b] [] pos) (wiZip wa wb) := by
  refine PI.imp (RZ.pi_zipA hg hm (pa_cons h (pa_cons h' pa_nil hs2) hs) hs hpl) ?_
  rintro σ H R ⟨O, F, env, QD, QE, vw, sl, hw, hq, he⟩
  refine ⟨O, F, env, _, QE, vw, sl, hw, fun d hd F1 H1 v v1 s1 r1 => ?_, he⟩
  refine ⟨O, F1, env, _, QE, v1, sl.up s1.grow, hd, fun d' hd' F2 H2 v' v2 s2 r2 => ?_, he.up s1⟩
  have r1' := r1.up s2.grow
  rcases hd' with ⟨xs, ys, rfl, rfl, h3⟩ | ⟨xs, ys, rfl, rfl, h3⟩
  · cases r1' with
    | @tup p us _ e1 t1 => cases r2 with
      | @tup q ws _ e2 t2 =>
        refine ⟨p, q, us, ws, rfl, .inr ⟨SqT.of (v2.frz _ _ e1), SqT.of (v2.frz _ _ e2), hq _ h3 F2 H2 _ v2 (s1.trans s2 v2) fun H' s' => ?_⟩⟩
        have g1 : SqT X.K H' p us := SqT.of (s' _ _ e1)
        have g2 : SqT X.K H' q ws := SqT.of (s' _ _ e2)
        have l1 := t1.length
        have l2 := t2.length
        refine ⟨fun i d e => ?_, ⟨us, ws, g1, g2, ?_⟩⟩
        · obtain ⟨x, y, ex, ey, rfl⟩ := zipD_get e
          obtain ⟨vx, ax, rx⟩ := t1.get ex
          obtain ⟨vy, ay, ry⟩ := t2.get ey
          refine ⟨⟨us, ws, vx, vy, g1, g2, ax, ay⟩, fun z H'' ⟨t, z1, z2, k1, k2, k3, k4, k5⟩ => .inr ⟨t, vx, vy, x, y, k1, k2, ?_, rx, ry, rfl⟩⟩
          have k6 := k4 us g1
          have k7 := k5 ws g2
          rw [ax] at k6
          rw [ay] at k7
          cases k6
          cases k7
          exact k3
        · unfold zipD
          rw [List.length_zipWith, l1, l2]
          omega
  · cases r1' with
    | @lst p us _ e1 t1 => cases r2 with
      | @lst q ws _ e2 t2 =>
        refine ⟨p, q, us, ws, rfl, .inl ⟨SqL.of (v2.frz _ _ e1), SqL.of (v2.frz _ _ e2), hq _ h3 F2 H2 _ v2 (s1.trans s2 v2) fun H' s' => ?_⟩⟩
        have g1 : SqL X.K H' p us := SqL.of (s' _ _ e1)
        have g2 : SqL X.K H' q ws := SqL.of (s' _ _ e2)
        have l1 := t1.length
        have l2 := t2.length
        refine ⟨fun i d e => ?_, ⟨us, ws, g1, g2, ?_⟩⟩
        · obtain ⟨x, y, ex, ey, rfl⟩ := zipD_get e
          obtain ⟨vx, ax, rx⟩ := t1.get ex
          obtain ⟨vy, ay, ry⟩ := t2.get ey
          refine ⟨⟨us, ws, vx, vy, g1, g2, ax, ay⟩, fun z H'' ⟨t, z1, z2, k1, k2, k3, k4, k5⟩ => .inr ⟨t, vx, vy, x, y, k1, k2, ?_, rx, ry, rfl⟩⟩
          have k6 := k4 us g1
          have k7 := k5 ws g2
          rw [ax] at k6
          rw [ay] at k7
          cases k6
          cases k7
          exact k3
        · unfold zipD
          rw [List.length_zipWith, l1, l2]
          omega
def enumD (xs : List D) : List D := xs.mapIdx fun i x => .tuple [.int (i : Nat), x]
@[simp] def wiEnum (w : WE) : WA := fun env Q E => w env (fun d => ∃ xs, seqOf d = some xs ∧ Q (enumD xs)) E
theorem i_enum {p tpos : Pos} {elts : List Expr} {kk : Nat} (hm : X.mg "enumerate" = none) (h : DE X c a wa) (hg : Gl X "enumerate" := by rfl) (hs : starEach [a] X.env = [(false, eval a X.env)] := by rfl) :
    DI X c (.Tuple elts kk tpos) (.Call (.Name "enumerate" p) [a] [] pos) (wiEnum wa) := by
  refine PI.imp (pi_enumT hg hm (pa_cons h pa_nil hs) hs) ?_
  rintro σ H R ⟨O, F, env, QD, QE, vw, sl, hw, hq, he⟩
  refine ⟨O, F, env, _, QE, vw, sl, hw, fun d hd F1 H1 v v1 s1 r1 => ?_, he⟩
  obtain ⟨xs, h1, h2⟩ := hd
  obtain ⟨p, ys, rfl, r2, h3 | h3⟩ := rp_seq v1 r1 h1
  · refine ⟨p, ys, rfl, .inr ⟨SqL.of (v1.frz _ _ h3.2), hq _ h2 F1 H1 _ v1 s1 fun H' s' => ?_⟩⟩
    have g1 : SqL X.K H' p ys := SqL.of (s' _ _ h3.2)
    refine ⟨fun i d e => ?_, ⟨ys, g1, ?_⟩⟩
    · unfold enumD at e
      rw [List.getElem?_mapIdx] at e
      obtain ⟨x, ex, rfl⟩ := Option.map_eq_some_iff.mp e
      obtain ⟨vx, ax, rx⟩ := r2.get ex
      refine ⟨⟨ys, vx, g1, ax⟩, fun z H'' ⟨t, z1, k1, k2, k3, k4⟩ => .inr ⟨t, .int (i : Nat), vx, .int (i : Nat), x, k1, k2, ?_, .int _, rx, rfl⟩⟩
      have k6 := k4 ys g1
      rw [ax] at k6
      cases k6
      exact k3
    · unfold enumD
      rw [List.length_mapIdx, r2.length]
      exact Nat.le_refl _
  · refine ⟨p, ys, rfl, .inl ⟨SqT.of (v1.frz _ _ h3.2), hq _ h2 F1 H1 _ v1 s1 fun H' s' => ?_⟩⟩
    have g1 : SqT X.K H' p ys := SqT.of (s' _ _ h3.2)
    refine ⟨fun i d e => ?_, ⟨ys, g1, ?_⟩⟩
    · unfold enumD at e
      rw [List.getElem?_mapIdx] at e
      obtain ⟨x, ex, rfl⟩ := Option.map_eq_some_iff.mp e
      obtain ⟨vx, ax, rx⟩ := r2.get ex
      refine ⟨⟨ys, vx, g1, ax⟩, fun z H'' ⟨t, z1, k1, k2, k3, k4⟩ => .inr ⟨t, .int (i : Nat), vx, .int (i : Nat), x, k1, k2, ?_, .int _, rx, rfl⟩⟩
      have k6 := k4 ys g1
      rw [ax] at k6
      cases k6
      exact k3
    · unfold enumD
      rw [List.length_mapIdx, r2.length]
/-! list(range(..)), tuple(range(..)) -/
def gRg (lo hi : Int) (Q : List D → Prop) : Prop := RgOk lo hi ∧ Q (rgD lo hi)
theorem rpl_rg {F : Hp} (lo hi : Int) : RpL F (rgV lo hi) (rgD lo hi) := by
  unfold rgV rgD
  have h : ∀ l : List Nat, RpL F (l.map fun i => V.int (lo + (i : Nat))) (l.map fun i => PyData.int (lo + (i : Nat))) := fun l => by
    induction l with
    | nil => exact .nil
    | cons n l ih => exact .cons (.int _) ih
  exact h _
@[simp] def wlRng1 (w : WE) : WA := fun env Q E => w env (fun d => ∃ j, d = .int j ∧ gRg 0 j Q) E
@[simp] def wlRng2 (w u : WE) : WA := fun env Q E => w env (fun d => u env (fun d' => ∃ i j, d = .int i ∧ d' = .int j ∧ gRg i j Q) E) E
theorem l_rng1 {p p2 pos2 : Pos} (gd : Good X c) (hm : X.mg "list" = none) (hm2 : X.mg "range" = none) (h : DE X c a wa) (hg : Gl X "list" := by rfl) (hg2 : Gl X "range" := by rfl) (hs : starEach [a] X.env = (false, eval a X.env) :: starEach [] X.env := by rfl)
    (hs2 : starEach [.Call (.Name "range" p2) [a] [] pos2] X.env = (false, eval (.Call (.Name "range" p2) [a] [] pos2) X.env) :: starEach [] X.env := by rfl) : DL X c (.Call (.Name "list" p) [.Call (.Name "range" p2) [a] [] pos2] [] pos) (wlRng1 wa) := by
  refine PE.imp (pe_listRg gd.calm hg hm (prg_1 hg2 hm2 h hs) hs2) ?_
  rintro σ H Q ⟨O, F, env, QD, QE, vw, sl, hw, hq, he⟩
  refine ⟨O, F, env, _, QE, vw, sl, hw, fun d hd F1 H1 v v1 s1 r1 => ?_, he⟩
  obtain ⟨j, rfl, h1, h2⟩ := hd
  cases r1
  exact ⟨j, rfl, h1, fun q hq' => lay_own v1 (rpl_rg 0 j) h2 (fun ds hd F2 H2 q xs v2 s2 n1 n2 n3 r2 => hq ds hd F2 H2 q xs v2 (s1.trans s2 v2) (s1.back n1) n2 n3 r2) hq'⟩
theorem l_rng2 {p p2 pos2 : Pos} (gd : Good X c) (hm : X.mg "list" = none) (hm2 : X.mg "range" = none) (h : DE X c a wa) (h' : DE X c b wb) (hg : Gl X "list" := by rfl) (hg2 : Gl X "range" := by rfl) (hs : starEach [a, b] X.env = (false, eval a X.env) :: starEach [b] X.env := by rfl) (hs1 : starEach [b] X.env = (false, eval b X.env) :: starEach [] X.env := by rfl)
    (hs2 : starEach [.Call (.Name "range" p2) [a, b] [] pos2] X.env = (false, eval (.Call (.Name "range" p2) [a, b] [] pos2) X.env) :: starEach [] X.env := by rfl) (hpl : (backTo pos2 (starEach [b] X.env)).any (·.1) = false := by rfl) : DL X c (.Call (.Name "list" p) [.Call (.Name "range" p2) [a, b] [] pos2] [] pos) (wlRng2 wa wb) := by
  refine PE.imp (pe_listRg gd.calm hg hm (prg_2 hg2 hm2 h h' hs hs1 hpl) hs2) ?_
  rintro σ H Q ⟨O, F, env, QD, QE, vw, sl, hw, hq, he⟩
  refine ⟨O, F, env, _, QE, vw, sl, hw, fun d hd F1 H1 v v1 s1 r1 => ?_, he⟩
  refine ⟨O, F1, env, _, QE, v1, sl.up s1.grow, hd, fun d' hd' F2 H2 v' v2 s2 r2 => ?_, he.up s1⟩
  obtain ⟨i, j, rfl, rfl, h1, h2⟩ := hd'
  cases r1
  cases r2
  have s02 := s1.trans s2 v2
  exact ⟨i, j, rfl, rfl, h1, fun q hq' => lay_own v2 (rpl_rg i j) h2 (fun ds hd F2 H2 q xs v2 s2 n1 n2 n3 r2 => hq ds hd F2 H2 q xs v2 (s02.trans s2 v2) (s02.back n1) n2 n3 r2) hq'⟩
end
end SD

namespace SD
open PySem PySem.Spec PyProof.Rows L2
/-! ### targets -/
def isOwn : Sl → Bool
  | .own _ => true
  | .own2 _ => true
  | _ => false
abbrev WG := D → En → (En → Prop) → Prop
@[simp] def wgName (i : Nat) : WG := fun d env k => k (env.set i (.dat d))
@[simp] def wgTup2 (g1 g2 : WG) : WG := fun d env k => ∃ x y, d = .tuple [x, y] ∧ g1 x env fun env' => g2 y env' k
@[simp] def wgTup3 (g1 g2 g3 : WG) : WG := fun d env k => ∃ x y z, d = .tuple [x, y, z] ∧ g1 x env fun env' => g2 y env' fun env'' => g3 z env'' k
/-- a target by data: the slots that it sets -/
structure TgOk (K : PySem.W.Frag) (g : TG) (w : WG) (vs : List Nat) : Prop where
  run : ∀ (T : List (Addr × Str)) (O : List Addr) (F H : Hp) (σ : St) (env : En) (v : V) (d : D) (k : En → Prop) (Q : St → Hp → Prop), Vw T O F H → Sls O F σ env → Rp F v d → w d env k →
    (∀ env' σ', k env' → Sls O F σ' env' → σ'.length = σ.length → wipe σ' vs = wipe σ vs → (∀ (i : Nat) (s : Sl), env'[i]? = some s → isOwn s = true → env[i]? = some s ∧ σ'[i]? = σ[i]?) → Q σ' H) → g v σ H Q
theorem Sls.set {O : List Addr} {F : Hp} {σ : St} {env : En} (s : Sls O F σ env) {i : Nat} {v : V} {d : D} (r : Rp F v d) : Sls O F (σ.set i (some v)) (env.set i (.dat d)) := ⟨by rw [List.length_set, List.length_set]; exact s.1, fun j => by
  have hl := s.1
  by_cases hj : i = j
  · subst hj
    by_cases hi : i < env.length
    · rw [List.getElem?_set_self hi]
      exact ⟨v, by rw [List.getElem?_set_self (by omega)], r⟩
    · rw [List.getElem?_eq_none (by rw [List.length_set]; omega)]
      trivial
  · rw [List.getElem?_set_ne hj, List.getElem?_set_ne hj]
    exact s.2 j⟩
theorem wipe_set_in {σ : St} {i : Nat} {x : Option V} : ∀ {vs : List Nat}, i ∈ vs → wipe (σ.set i x) vs = wipe σ vs
  | v :: vs, h => by
    unfold wipe
    by_cases hv : i = v
    · subst hv
      by_cases hm : i ∈ vs
      · rw [wipe_set_in hm]
      · have e : ∀ (us : List Nat), i ∉ us → wipe (σ.set i x) us = (wipe σ us).set i x := fun us => by
          induction us with
          | nil => intro _; rfl
          | cons u us ih =>
            intro hu
            unfold wipe
            rw [ih fun z => hu (List.mem_cons_of_mem _ z), List.set_comm _ _ (fun z : u = i => hu (by rw [z]; exact List.mem_cons_self))]
        rw [e vs hm, List.set_set]
    · rcases List.mem_cons.mp h with h | h
      · exact absurd h hv
      · rw [wipe_set_in h]
theorem tg_name {K : PySem.W.Frag} {i : Nat} {vs : List Nat} (hi : i ∈ vs) : TgOk K (gName i) (wgName i) vs := ⟨fun T O F H σ env v d k Q vw sl r hk hq =>
  hq _ _ hk (sl.set r) (by simp) (wipe_set_in hi) fun j s hj ho => by
    have hne : i ≠ j := fun z => by
      subst z
      by_cases hi : i < env.length
      · rw [List.getElem?_set_self hi] at hj
        cases hj
        cases ho
      · rw [List.getElem?_eq_none (by rw [List.length_set]; omega)] at hj
        cases hj
    rw [List.getElem?_set_ne hne] at hj
    rw [List.getElem?_set_ne hne]
    exact ⟨hj, rfl⟩⟩
theorem tg_tup2 {K : PySem.W.Frag} {g1 g2 : TG} {w1 w2 : WG} {vs : List Nat} (h1 : TgOk K g1 w1 vs) (h2 : TgOk K g2 w2 vs) : TgOk K (gTup K 2 (gCons g1 (gCons g2 gNil))) (wgTup2 w1 w2) vs := ⟨fun T O F H σ env v d k Q vw sl r hk hq => by
  obtain ⟨x, y, rfl, hk⟩ := hk
  cases r with
  | @tup p us _ e1 t1 =>
    obtain ⟨a, b, rfl, ra, rb⟩ := t1.two
    refine ⟨p, [a, b], rfl, SqT.of (vw.frz _ _ e1), rfl, a, [b], rfl, ?_⟩
    refine h1.run T O F H σ env a x _ _ vw sl ra hk fun env1 σ1 k1 s1 m1 w1 o1 => ⟨b, [], rfl, ?_⟩
    refine h2.run T O F H σ1 env1 b y _ _ vw s1 rb k1 fun env2 σ2 k2 s2 m2 w2 o2 => ⟨rfl, ?_⟩
    exact hq env2 σ2 k2 s2 (m2.trans m1) (w2.trans w1) fun j s hj ho => by
      obtain ⟨a1, a2⟩ := o2 j s hj ho
      obtain ⟨b1, b2⟩ := o1 j s a1 ho
      exact ⟨b1, a2.trans b2⟩⟩
theorem tg_tup3 {K : PySem.W.Frag} {g1 g2 g3 : TG} {w1 w2 w3 : WG} {vs : List Nat} (h1 : TgOk K g1 w1 vs) (h2 : TgOk K g2 w2 vs) (h3 : TgOk K g3 w3 vs) : TgOk K (gTup K 3 (gCons g1 (gCons g2 (gCons g3 gNil)))) (wgTup3 w1 w2 w3) vs := ⟨fun T O F H σ env v d k Q vw sl r hk hq => by
  obtain ⟨x, y, z, rfl, hk⟩ := hk
  cases r with
  | @tup p us _ e1 t1 =>
    cases t1 with
    | cons ra t1 =>
      obtain ⟨b, c, rfl, rb, rc⟩ := t1.two
      refine ⟨p, [_, b, c], rfl, SqT.of (vw.frz _ _ e1), rfl, _, [b, c], rfl, ?_⟩
      refine h1.run T O F H σ env _ x _ _ vw sl ra hk fun env1 σ1 k1 s1 m1 w1 o1 => ⟨b, [c], rfl, ?_⟩
      refine h2.run T O F H σ1 env1 b y _ _ vw s1 rb k1 fun env2 σ2 k2 s2 m2 w2 o2 => ⟨c, [], rfl, ?_⟩
      refine h3.run T O F H σ2 env2 c z _ _ vw s2 rc k2 fun env3 σ3 k3 s3 m3 w3 o3 => ⟨rfl, ?_⟩
      exact hq env3 σ3 k3 s3 (m3.trans (m2.trans m1)) (w3.trans (w2.trans w1)) fun j s hj ho => by
        obtain ⟨a1, a2⟩ := o3 j s hj ho
        obtain ⟨b1, b2⟩ := o2 j s a1 ho
        obtain ⟨c1, c2⟩ := o1 j s b1 ho
        exact ⟨c1, a2.trans (b2.trans c2)⟩⟩
/-! ### list comprehensions -/
@[simp] def wipeE (env : En) : List Nat → En
  | [] => env
  | v :: vs => (wipeE env vs).set v .un
theorem wipeE_len (env : En) : ∀ vs : List Nat, (wipeE env vs).length = env.length
  | [] => rfl
  | v :: vs => by
    unfold wipeE
    rw [List.length_set, wipeE_len env vs]
theorem Sls.un {O : List Addr} {F : Hp} {σ : St} {env : En} (s : Sls O F σ env) {i : Nat} : Sls O F (σ.set i none) (env.set i .un) := ⟨by rw [List.length_set, List.length_set]; exact s.1, fun j => by
  by_cases hj : i = j
  · subst hj
    by_cases hi : i < env.length
    · rw [List.getElem?_set_self hi]
      trivial
    · rw [List.getElem?_eq_none (by rw [List.length_set]; omega)]
      trivial
  · rw [List.getElem?_set_ne hj, List.getElem?_set_ne hj]
    exact s.2 j⟩
theorem Sls.wipe {O : List Addr} {F : Hp} {σ : St} {env : En} (s : Sls O F σ env) : ∀ vs : List Nat, Sls O F (wipe σ vs) (wipeE env vs)
  | [] => s
  | v :: vs => (s.wipe vs).un
def noEx : Str → Prop := fun _ => False
@[simp] def wtYes : WT := fun _ Q _ => Q true
def lcL (g : WG) (wt : WT) (we : WE) (env : En) : List D → List D → (List D → Prop) → Prop
  | [], acc, Q => Q acc
  | d :: ds, acc, Q => g d env fun env' => wt env' (fun k => if k = true then we env' (fun y => acc.length < sizeLine ∧ lcL g wt we env ds (acc ++ [y]) Q) noEx else lcL g wt we env ds acc Q) noEx
@[simp] def wLc (wi : WA) (g : WG) (wt : WT) (we : WE) (vs : List Nat) : WA := fun env Q E => wi env (fun ds => lcL g wt we (wipeE env vs) ds [] Q) E
section
variable {X : Cx} {c : Ctx}
/-- the tests of a clause -/
abbrev DTs (X : Cx) (c : Ctx) (ifs : List Expr) (w : WT) : Prop := PTs X ifs (liftT c w)
theorem ts_nil : DTs X c [] wtYes := by
  refine ⟨fun pins s σ H Q I h => ?_⟩
  obtain ⟨O, F, env, QD, QE, vw, sl, hw, hq, he⟩ := h
  exact pts_nil.run pins s σ H Q I (hq true hw F H vw (Stp.refl O F H))
theorem ts_one {t : Expr} {w : WT} (h : DT X c t w) : DTs X c [t] w := pts_one h
theorem lift_lc {wi : WA} {g : TG} {wg : WG} {wt : WT} {we : WE} {vs : List Nat} (hg : TgOk X.K g wg vs) : ∀ σ H Q, liftL c (wLc wi wg wt we vs) σ H Q → tLc (liftI c wi) g (liftT c.nox wt) (liftE c.nox we) vs σ H Q := by
  rintro σ H Q ⟨O, F, env, QD, QE, vw, sl, hw, hq, he⟩
  refine ⟨O, F, env, _, QE, vw, sl, hw, fun ds hd F1 H1 J v1 s1 wk => fun D hD => ?_, he⟩
  have sl1 := (sl.up s1.grow).wipe vs
  -- the state between two turns
  refine ⟨fun i m H2 => ∃ F2 acc xs, i + m = ds.length ∧ Vw c.T O F2 H2 ∧ Stp O F1 H1 F2 H2 ∧ F2 D = none ∧ H2 D = some (.lst xs) ∧ RpL F2 xs acc ∧ lcL wg wt we (wipeE env vs) (ds.drop i) acc QD, ⟨ds.length, F1, [], [], by omega, v1.layO hD, Stp.layO hD, v1.fF hD, upd_same, .nil, hd⟩, ?_⟩
  rintro i m H2 ⟨F2, acc, xs, em, v2, s2, n1, n2, r2, h2⟩
  by_cases hi : i < ds.length
  · rw [List.drop_eq_getElem_cons hi] at h2
    obtain ⟨hgo, hy⟩ := (wk.up s2.grow H2 v2.frz).1 i ds[i] (List.getElem?_eq_getElem hi)
    refine .inr ⟨hgo, fun H3 => ∃ F3 acc' xs', Vw c.T O F3 H3 ∧ Stp O F1 H1 F3 H3 ∧ F3 D = none ∧ H3 D = some (.lst xs') ∧ RpL F3 xs' acc' ∧ lcL wg wt we (wipeE env vs) (ds.drop (i + 1)) acc' QD, ?_, fun x H3 y => ?_⟩
    · rintro H3 ⟨F3, acc', xs', a1, a2, a3, a4, a5, a6⟩
      exact ⟨m - 1, by omega, F3, acc', xs', by omega, a1, a2, a3, a4, a5, a6⟩
    · -- the item
      have item : ∃ F3, Vw c.T O F3 H3 ∧ Stp O F2 H2 F3 H3 ∧ F3 D = none ∧ H3 D = some (.lst xs) ∧ Rp F3 x ds[i] := by
        rcases hy x H3 y with ⟨e1, r⟩ | ⟨t, a, b, da, db, e1, e2, e3, ra, rb, e4⟩
        · rw [e1]
          exact ⟨F2, v2, Stp.refl O F2 H2, n1, n2, r⟩
        · have htD : D ≠ t := ne_of_none n2 e2
          rw [e3, e1, e4]
          have hF := v2.fF e2
          exact ⟨upd F2 t (.tup [a, b]), v2.lay e2 (fun _ z => nomatch z), Stp.lay hF e2, by rw [upd_ne htD]; exact n1, by rw [upd_ne htD]; exact n2, .tup upd_same (.cons (ra.up (grow_upd hF)) (.cons (rb.up (grow_upd hF)) .nil))⟩
      obtain ⟨F3, v3, s3, m1, m2, r3⟩ := item
      refine hg.run c.T O F3 H3 (wipe σ vs) (wipeE env vs) x ds[i] _ _ v3 (sl1.up (s2.grow.trans s3.grow)) r3 h2 fun env4 σ4 k4 sl4 ml4 w4 o4 => ⟨?_, ?_⟩
      · have e5 : wipe (wipe σ vs) vs = wipe σ vs := by
          have gen : ∀ (us ws : List Nat), (∀ u ∈ ws, u ∈ us) → wipe (wipe σ us) ws = wipe σ us := fun us ws => by
            induction ws with
            | nil => intro _; rfl
            | cons u ws ih =>
              intro hu
              show (wipe (wipe σ us) ws).set u none = wipe σ us
              rw [ih fun z hz => hu z (List.mem_cons_of_mem _ hz)]
              have hu1 := hu u List.mem_cons_self
              have hn : ∀ (us : List Nat), u ∈ us → (wipe σ us).set u none = wipe σ us := fun us => by
                induction us with
                | nil => intro h; cases h
                | cons a us ih2 =>
                  intro h
                  show ((wipe σ us).set a none).set u none = (wipe σ us).set a none
                  by_cases ha : a = u
                  · rw [ha, List.set_set]
                  · rcases List.mem_cons.mp h with h | h
                    · exact absurd h.symm ha
                    · rw [List.set_comm _ _ ha, ih2 h]
              exact hn us hu1
          exact gen vs vs fun _ h => h
        rw [w4, e5]
      · -- the test
        refine ⟨O, F3, env4, _, noEx, v3, sl4, k4, fun b hb F5 H5 v5 s5 => ?_, fun x hx => hx.elim⟩
        have nO : D ∉ O := v1.out hD
        have hD5 : F5 D = none ∧ H5 D = some (.lst xs) := by
          have q : H5 D = some (.lst xs) := s5.same D _ m2 (fun _ z => nomatch z) nO
          refine ⟨?_, q⟩
          cases e6 : F5 D with
          | none => rfl
          | some o =>
            rcases s5.new D o e6 with z | z
            · rw [m1] at z
              cases z
            · rw [m2] at z
              cases z
        cases b with
        | false => exact ⟨F5, acc, xs, v5, s2.trans (s3.trans s5 v5) v5, hD5.1, hD5.2, r2.up (s3.grow.trans s5.grow), hb⟩
        | true =>
          refine ⟨O, F5, env4, _, noEx, v5, sl4.up s5.grow, hb, fun y hy F6 H6 vy v6 s6 r6 => ?_, fun x hx => hx.elim⟩
          have q6 : H6 D = some (.lst xs) := s6.same D _ hD5.2 (fun _ z => nomatch z) nO
          have p6 : F6 D = none := by
            cases e6 : F6 D with
            | none => rfl
            | some o =>
              rcases s6.new D o e6 with z | z
              · rw [hD5.1] at z
                cases z
              · rw [hD5.2] at z
                cases z
          have s16 := s2.trans (s3.trans (s5.trans s6 v6) v6) v6
          refine ⟨xs, q6, by rw [r2.length]; exact hy.1, F6, acc ++ [y], xs ++ [vy], ?_, ?_, p6, upd_same, (r2.up (s3.grow.trans (s5.grow.trans s6.grow))).append (.one r6), hy.2⟩
          · refine ⟨fun b u h => ?_, v6.ntb, ?_, fun q hq' => ?_⟩
            · rw [upd_ne (fun z => by rw [z, p6] at h; cases h)]
              exact v6.frz b u h
            · refine fun t ht => ?_
              obtain ⟨ps, z1, z2, z3⟩ := v6.tab t ht
              refine ⟨ps, by rw [upd_ne (fun z => by rw [z, q6] at z1; cases z1)]; exact z1, z2, fun pos cv hc => ?_⟩
              obtain ⟨k, z4, z5⟩ := z3 pos cv hc
              exact ⟨k, z4, by rw [upd_ne (fun z => by rw [z, q6] at z5; exact nomatch z5)]; exact z5⟩
            · obtain ⟨z1, k, n, z2⟩ := v6.dic q hq'
              exact ⟨z1, k, n, by rw [upd_ne (fun z : q = D => nO (by rw [← z]; exact hq'))]; exact z2⟩
          · refine ⟨fun b u h ht ho => ?_, s16.grow, s16.new, fun b ps h => ?_, fun b hb h z => ?_⟩
            · by_cases hb : b = D
              · rw [hb, hD] at h
                cases h
              · rw [upd_ne hb]
                exact s16.same b u h ht ho
            · obtain ⟨ps', h'⟩ := s16.tbs b ps h
              exact ⟨ps', by rw [upd_ne (fun z => by rw [z, q6] at h'; cases h')]; exact h'⟩
            · by_cases hbD : b = D
              · rw [hbD, upd_same] at z
                cases z
              · rw [upd_ne hbD] at z
                exact s16.dcs b hb h z
  · have e : i = ds.length := by omega
    subst e
    rw [List.drop_length] at h2
    exact .inl ⟨(wk.up s2.grow H2 v2.frz).2, hq acc h2 F2 H2 D xs v2 (s1.trans s2 v2) (s1.back hD) n1 n2 r2⟩
end
end SD

namespace SD
open PySem PySem.Spec PyProof.Rows L2
section
variable {X : Cx} {c : Ctx}
theorem Good.blk (gd : Good X c) (s : Shared) (H : Hp) (scope : Scope) (cenv : Env) (fp : List Addr) : Good (X.blk s H scope cenv fp) c.nox := ⟨gd.mg, gd.calm, passN, takesN, PassesOwn.never⟩
theorem l_lc {elt tg iter : Expr} {ifs : List Expr} {scope : Scope} {own : List (Str × Nat)} {pos : Pos} {wi : WA} {g : TG} {wg : WG} {wt : WT} {we : WE} (gd : Good X c) (hN : X.N.Nodup) (hi : DI X c tg iter wi) (ok : BlkOk X.N X.env.scope scope own) (hgo : TgOk X.K g wg (own.map (·.2)))
    (hg : ∀ (s : Shared) (H : Hp) (C : Addr) (cl : List (Str × Addr)) (fp : List Addr), PG (X.blk s H scope (compEnvC scope cl C X.env) fp) tg g) (ht : ∀ (s : Shared) (H : Hp) (C : Addr) (cl : List (Str × Addr)) (fp : List Addr), Good (X.blk s H scope (compEnvC scope cl C X.env) fp) c.nox → DTs (X.blk s H scope (compEnvC scope cl C X.env) fp) c.nox ifs wt)
    (he : ∀ (s : Shared) (H : Hp) (C : Addr) (cl : List (Str × Addr)) (fp : List Addr), Good (X.blk s H scope (compEnvC scope cl C X.env) fp) c.nox → DE (X.blk s H scope (compEnvC scope cl C X.env) fp) c.nox elt we) (hs : ∀ x, foldedSetIterable iter X.env x = pure x := by intro _; rfl) :
    DL X c (.ListComp elt [⟨tg, iter, ifs, 0⟩] scope pos) (wLc wi wg wt we (own.map (·.2))) :=
  PE.imp (pe_lc gd.calm hN hi ok hg (fun s H C cl fp => ht s H C cl fp (gd.blk ..)) (fun s H C cl fp => he s H C cl fp (gd.blk ..)) hs) (lift_lc hgo)
end
/-! ### frames with lists of their own -/
def FA {α β : Type} (R : α → β → Prop) : List α → List β → Prop
  | [], [] => True
  | a :: as, b :: bs => R a b ∧ FA R as bs
  | _, _ => False
def OwnAt (F H : Hp) (v : V) (s : Sl) (A : List Addr) : Prop := match s with
  | .own ds => ∃ p xs, v = .ref p ∧ A = [p] ∧ H p = some (.lst xs) ∧ RpL F xs ds
  | .own2 dss => ∃ p ps, v = .ref p ∧ A = p :: ps ∧ (p :: ps).Nodup ∧ H p = some (.lst (ps.map V.ref)) ∧ FA (fun q ds => ∃ xs, H q = some (.lst xs) ∧ RpL F xs ds) ps dss
  | _ => False
structure Own (O : List Addr) (F H H0 : Hp) (σ : St) (env : En) (fps : Nat → List Addr) : Prop where
  at_ : ∀ (i : Nat) (s : Sl), env[i]? = some s → isOwn s = true → ∃ v, σ[i]? = some (some v) ∧ OwnAt F H v s (fps i)
  fr : ∀ (i : Nat) (s : Sl), env[i]? = some s → isOwn s = true → ∀ a ∈ fps i, F a = none ∧ a ∉ O ∧ H0 a = none ∧ ∃ xs, H a = some (.lst xs)
  dis : ∀ (i j : Nat) (s t : Sl), env[i]? = some s → isOwn s = true → env[j]? = some t → isOwn t = true → i ≠ j → ∀ a ∈ fps i, a ∉ fps j
structure Frm (c : Ctx) (O : List Addr) (F0 H0 F H : Hp) (σ : St) (env : En) : Prop where
  vw : Vw c.T O F H
  sl : Sls O F σ env
  ow : ∃ fps, Own O F H H0 σ env fps
  st : Stp O F0 H0 F H
structure DC where
  nx : En → Prop
  rt : D → Prop
  ex : Str → Prop
abbrev WS := En → DC → Prop
def liftS (c : Ctx) (w : WS) : TS := fun D σ H => ∃ O F0 H0 F env C, Frm c O F0 H0 F H σ env ∧ w env C ∧
  (∀ env', C.nx env' → ∀ F' H' σ', Frm c O F0 H0 F' H' σ' env' → Same F F' → D.nx σ' H') ∧
  (∀ d, C.rt d → ∀ F' H' v, Vw c.T O F' H' → Stp O F0 H0 F' H' → Rp F' v d → D.rt v H') ∧ c.exc O F0 H0 C.ex
abbrev DS (X : Cx) (c : Ctx) (st : Stmt) (w : WS) : Prop := PS X st (liftS c w)
abbrev DSs (X : Cx) (c : Ctx) (st : List Stmt) (w : WS) : Prop := PSs X st (liftS c w)
theorem OwnAt.up {F F' H H' : Hp} {v : V} {s : Sl} {A : List Addr} (h : OwnAt F H v s A) (g : Same F F') (k : ∀ a ∈ A, H' a = H a) : OwnAt F' H' v s A := by
  cases s with
  | own ds =>
    obtain ⟨p, xs, e1, e2, e3, r⟩ := h
    refine ⟨p, xs, e1, e2, ?_, r.up g⟩
    rw [k p (by rw [e2]; exact List.mem_singleton.mpr rfl)]
    exact e3
  | own2 dss =>
    obtain ⟨p, ps, e1, e2, e3, e4, e5⟩ := h
    refine ⟨p, ps, e1, e2, e3, ?_, ?_⟩
    · rw [k p (by rw [e2]; exact List.mem_cons_self)]
      exact e4
    · have gen : ∀ (qs : List Addr) (ess : List (List D)), (∀ q ∈ qs, q ∈ A) → FA (fun q ds => ∃ xs, H q = some (.lst xs) ∧ RpL F xs ds) qs ess → FA (fun q ds => ∃ xs, H' q = some (.lst xs) ∧ RpL F' xs ds) qs ess := fun qs => by
        induction qs with
        | nil =>
          intro ess _ h
          cases ess with
          | nil => trivial
          | cons _ _ => exact h.elim
        | cons q qs ih =>
          intro ess hm h
          cases ess with
          | nil => exact h.elim
          | cons ds ess =>
            obtain ⟨⟨xs, z1, z2⟩, z3⟩ := h
            exact ⟨⟨xs, by rw [k q (hm q List.mem_cons_self)]; exact z1, z2.up g⟩, ih ess (fun u hu => hm u (List.mem_cons_of_mem _ hu)) z3⟩
      exact gen ps dss (fun q hq => by rw [e2]; exact List.mem_cons_of_mem _ hq) e5
  | un => exact h
  | dat d => exact h
  | dice => exact h
theorem OwnAt.un {F H : Hp} {v : V} {s : Sl} {A : List Addr} (h : OwnAt F H v s A) : ∀ a ∈ A, ∃ xs, H a = some (.lst xs) := by
  cases s with
  | own ds =>
    obtain ⟨p, xs, e1, e2, e3, r⟩ := h
    intro a ha
    rw [e2] at ha
    rw [List.mem_singleton.mp ha]
    exact ⟨xs, e3⟩
  | own2 dss =>
    obtain ⟨p, ps, e1, e2, e3, e4, e5⟩ := h
    intro a ha
    rw [e2] at ha
    rcases List.mem_cons.mp ha with z | ha
    · rw [z]
      exact ⟨_, e4⟩
    · have gen : ∀ (qs : List Addr) (ess : List (List D)), FA (fun q ds => ∃ xs, H q = some (.lst xs) ∧ RpL F xs ds) qs ess → a ∈ qs → ∃ xs, H a = some (.lst xs) := fun qs => by
        induction qs with
        | nil => intro _ _ h; cases h
        | cons q qs ih =>
          intro ess h hm
          cases ess with
          | nil => exact h.elim
          | cons ds ess =>
            obtain ⟨⟨xs, z1, z2⟩, z3⟩ := h
            rcases List.mem_cons.mp hm with z | hm
            · rw [z]
              exact ⟨xs, z1⟩
            · exact ih ess z3 hm
      exact gen ps dss e5 ha
  | un => exact h.elim
  | dat d => exact h.elim
  | dice => exact h.elim
/-- an expression that does not look at the own lists -/
theorem Own.step {T : List (Addr × Str)} {O : List Addr} {H0 F H F1 H1 : Hp} {σ : St} {env : En} {fps : Nat → List Addr} (ow : Own O F H H0 σ env fps) (v1 : Vw T O F1 H1) (s1 : Stp O F H F1 H1) : Own O F1 H1 H0 σ env fps := by
  refine ⟨fun i s e ho => ?_, fun i s e ho a ha => ?_, ow.dis⟩
  · obtain ⟨v, h1, h2⟩ := ow.at_ i s e ho
    refine ⟨v, h1, h2.up s1.grow fun a ha => ?_⟩
    obtain ⟨_, z2, _, xs, z3⟩ := ow.fr i s e ho a ha
    rw [z3]
    exact s1.same a _ z3 (fun _ z => nomatch z) z2
  · obtain ⟨z1, z2, z3, xs, z4⟩ := ow.fr i s e ho a ha
    have z5 := s1.same a _ z4 (fun _ z => nomatch z) z2
    refine ⟨?_, z2, z3, xs, z5⟩
    cases q : F1 a with
    | none => rfl
    | some o =>
      rcases s1.new a o q with z | z
      · rw [z1] at z
        cases z
      · rw [z4] at z
        cases z
theorem Frm.step {c : Ctx} {O : List Addr} {F0 H0 F H F1 H1 : Hp} {σ : St} {env : En} (f : Frm c O F0 H0 F H σ env) (v1 : Vw c.T O F1 H1) (s1 : Stp O F H F1 H1) : Frm c O F0 H0 F1 H1 σ env := by
  obtain ⟨fps, ow⟩ := f.ow
  exact ⟨v1, f.sl.up s1.grow, ⟨fps, ow.step v1 s1⟩, f.st.trans s1 v1⟩
/-- a slot gets data -/
theorem Frm.setD {c : Ctx} {O : List Addr} {F0 H0 F H : Hp} {σ : St} {env : En} (f : Frm c O F0 H0 F H σ env) {i : Nat} {v : V} {d : D} (r : Rp F v d) : Frm c O F0 H0 F H (σ.set i (some v)) (env.set i (.dat d)) := by
  obtain ⟨fps, ow⟩ := f.ow
  have key : ∀ j s, (env.set i (.dat d))[j]? = some s → isOwn s = true → env[j]? = some s ∧ (σ.set i (some v))[j]? = σ[j]? := fun j s hj ho => by
    have hne : i ≠ j := fun z => by
      subst z
      by_cases hi : i < env.length
      · rw [List.getElem?_set_self hi] at hj
        cases hj
        cases ho
      · rw [List.getElem?_eq_none (by rw [List.length_set]; omega)] at hj
        cases hj
    rw [List.getElem?_set_ne hne] at hj
    rw [List.getElem?_set_ne hne]
    exact ⟨hj, rfl⟩
  refine ⟨f.vw, f.sl.set r, ⟨fps, fun j s e ho => ?_, fun j s e ho => ow.fr j s (key j s e ho).1 ho, fun j k s t e1 o1 e2 o2 => ow.dis j k s t (key j s e1 o1).1 o1 (key k t e2 o2).1 o2⟩, f.st⟩
  obtain ⟨v', h1, h2⟩ := ow.at_ j s (key j s e ho).1 ho
  exact ⟨v', by rw [(key j s e ho).2]; exact h1, h2⟩
theorem Sls.setOwn {O : List Addr} {F : Hp} {σ : St} {env : En} (s : Sls O F σ env) {i : Nat} {v : Option V} {x : Sl} (hx : isOwn x = true) : Sls O F (σ.set i v) (env.set i x) := ⟨by rw [List.length_set, List.length_set]; exact s.1, fun j => by
  by_cases hj : i = j
  · subst hj
    by_cases hi : i < env.length
    · rw [List.getElem?_set_self hi]
      cases x <;> first | trivial | cases hx
    · rw [List.getElem?_eq_none (by rw [List.length_set]; omega)]
      trivial
  · rw [List.getElem?_set_ne hj, List.getElem?_set_ne hj]
    exact s.2 j⟩
/-- a slot gets lists of its own -/
theorem Frm.setO {c : Ctx} {O : List Addr} {F0 H0 F H : Hp} {σ : St} {env : En} {fps : Nat → List Addr} (f : Frm c O F0 H0 F H σ env) (ow : Own O F H H0 σ env fps) {i : Nat} {v : V} {x : Sl} {A : List Addr} (hx : isOwn x = true) (h : OwnAt F H v x A)
    (hA : ∀ a ∈ A, F a = none ∧ a ∉ O ∧ H0 a = none) (hn : ∀ (j : Nat) (s : Sl), env[j]? = some s → isOwn s = true → j ≠ i → ∀ a ∈ A, a ∉ fps j) : Frm c O F0 H0 F H (σ.set i (some v)) (env.set i x) := by
  have key : ∀ j s, (env.set i x)[j]? = some s → (j = i ∧ s = x) ∨ (j ≠ i ∧ env[j]? = some s ∧ (σ.set i (some v))[j]? = σ[j]?) := fun j s hj => by
    by_cases hji : i = j
    · subst hji
      by_cases hi : i < env.length
      · rw [List.getElem?_set_self hi] at hj
        exact .inl ⟨rfl, (Option.some.inj hj).symm⟩
      · rw [List.getElem?_eq_none (by rw [List.length_set]; omega)] at hj
        cases hj
    · rw [List.getElem?_set_ne hji] at hj
      exact .inr ⟨fun z => hji z.symm, hj, List.getElem?_set_ne hji⟩
  have hlen := f.sl.1
  refine ⟨f.vw, f.sl.setOwn hx, ⟨fun j => if j = i then A else fps j, fun j s e ho => ?_, fun j s e ho a ha => ?_, fun j k s t e1 o1 e2 o2 hjk a ha hb => ?_⟩, f.st⟩
  · rcases key j s e with ⟨rfl, rfl⟩ | ⟨h1, h2, h3⟩
    · have hi : j < env.length := by
        have := (List.getElem?_eq_some_iff.mp e).1
        rwa [List.length_set] at this
      rw [if_pos rfl]
      exact ⟨v, by rw [List.getElem?_set_self (by omega)], h⟩
    · obtain ⟨v', z1, z2⟩ := ow.at_ j s h2 ho
      rw [if_neg h1]
      exact ⟨v', by rw [h3]; exact z1, z2⟩
  · rcases key j s e with ⟨rfl, rfl⟩ | ⟨h1, h2, h3⟩
    · rw [if_pos rfl] at ha
      obtain ⟨z1, z2, z3⟩ := hA a ha
      exact ⟨z1, z2, z3, h.un a ha⟩
    · rw [if_neg h1] at ha
      exact ow.fr j s h2 ho a ha
  · rcases key j s e1 with ⟨rfl, rfl⟩ | ⟨h1, h2, h3⟩
    · rcases key k t e2 with ⟨rfl, rfl⟩ | ⟨h4, h5, h6⟩
      · exact hjk rfl
      · rw [if_pos rfl] at ha
        rw [if_neg h4] at hb
        exact hn k t h5 o2 h4 a ha hb
    · rcases key k t e2 with ⟨rfl, rfl⟩ | ⟨h4, h5, h6⟩
      · rw [if_neg h1] at ha
        rw [if_pos rfl] at hb
        exact hn j s h2 o1 h1 a hb ha
      · rw [if_neg h1] at ha
        rw [if_neg h4] at hb
        exact ow.dis j k s t h2 o1 h5 o2 hjk a ha hb
/-! ### the view: own lists as data -/
@[simp] def vwS : Sl → Sl
  | .own ds => .dat (.list ds)
  | .own2 dss => .dat (.list (dss.map .list))
  | s => s
@[simp] def vwE (env : En) : En := env.map vwS
open Classical in
noncomputable def vwF (F H : Hp) (P : Addr → Prop) : Hp := fun b => if P b then H b else F b
open Classical in
noncomputable def unF (F : Hp) (P : Addr → Prop) : Hp := fun b => if P b then none else F b
def ownP (env : En) (fps : Nat → List Addr) (b : Addr) : Prop := ∃ i s, env[i]? = some s ∧ isOwn s = true ∧ b ∈ fps i
theorem Frm.view {c : Ctx} {O : List Addr} {F0 H0 F H : Hp} {σ : St} {env : En} {fps : Nat → List Addr} (f : Frm c O F0 H0 F H σ env) (ow : Own O F H H0 σ env fps) :
    Vw c.T O (vwF F H (ownP env fps)) H ∧ Sls O (vwF F H (ownP env fps)) σ (vwE env) ∧ Stp O F0 H0 (vwF F H (ownP env fps)) H ∧ Same F (vwF F H (ownP env fps)) := by
  have inP : ∀ b, ownP env fps b → vwF F H (ownP env fps) b = H b := fun b h => if_pos h
  have outP : ∀ b, ¬ ownP env fps b → vwF F H (ownP env fps) b = F b := fun b h => if_neg h
  have lstP : ∀ b, ownP env fps b → F b = none ∧ b ∉ O ∧ H0 b = none ∧ ∃ xs, H b = some (.lst xs) := fun b ⟨i, s, e, ho, hb⟩ => ow.fr i s e ho b hb
  have gr : Same F (vwF F H (ownP env fps)) := fun b o h => by
    rw [outP b fun z => by rw [(lstP b z).1] at h; cases h]
    exact h
  refine ⟨⟨fun b o h => ?_, fun b ps h => ?_, f.vw.tab, fun p hp => ?_⟩, ⟨?_, fun i => ?_⟩, ⟨f.st.same, f.st.grow.trans gr, fun b o h => ?_, f.st.tbs, f.st.dcs⟩, gr⟩
  · by_cases hb : ownP env fps b
    · rw [inP b hb] at h
      exact h
    · rw [outP b hb] at h
      exact f.vw.frz b o h
  · by_cases hb : ownP env fps b
    · rw [inP b hb] at h
      obtain ⟨_, _, _, xs, z⟩ := lstP b hb
      rw [z] at h
      cases h
    · rw [outP b hb] at h
      exact f.vw.ntb b ps h
  · obtain ⟨z1, z2⟩ := f.vw.dic p hp
    refine ⟨?_, z2⟩
    rw [outP p fun z => (lstP p z).2.1 hp]
    exact z1
  · unfold vwE
    rw [List.length_map]
    exact f.sl.1
  · unfold vwE
    rw [List.getElem?_map]
    have old := f.sl.2 i
    cases e : env[i]? with
    | none => trivial
    | some s =>
      rw [e] at old
      cases s with
      | un => trivial
      | dat d =>
        obtain ⟨v, h1, h2⟩ := old
        exact ⟨v, h1, h2.up gr⟩
      | dice => exact old
      | own ds =>
        obtain ⟨v, h1, p, xs, e1, e2, e3, r⟩ := ow.at_ i _ e rfl
        refine ⟨v, h1, ?_⟩
        rw [e1]
        refine .lst ?_ (r.up gr)
        rw [inP p ⟨i, _, e, rfl, by rw [e2]; exact List.mem_singleton.mpr rfl⟩]
        exact e3
      | own2 dss =>
        obtain ⟨v, h1, p, ps, e1, e2, _, e4, e5⟩ := ow.at_ i _ e rfl
        refine ⟨v, h1, ?_⟩
        rw [e1]
        refine .lst (xs := ps.map V.ref) ?_ ?_
        · rw [inP p ⟨i, _, e, rfl, by rw [e2]; exact List.mem_cons_self⟩]
          exact e4
        · have gen : ∀ (qs : List Addr) (ess : List (List D)), (∀ q ∈ qs, q ∈ fps i) → FA (fun q ds => ∃ xs, H q = some (.lst xs) ∧ RpL F xs ds) qs ess → RpL (vwF F H (ownP env fps)) (qs.map V.ref) (ess.map .list) := fun qs => by
            induction qs with
            | nil =>
              intro ess _ h
              cases ess with
              | nil => exact .nil
              | cons _ _ => exact h.elim
            | cons q qs ih =>
              intro ess hm h
              cases ess with
              | nil => exact h.elim
              | cons ds ess =>
                obtain ⟨⟨xs, z1, z2⟩, z3⟩ := h
                refine .cons (.lst ?_ (z2.up gr)) (ih ess (fun u hu => hm u (List.mem_cons_of_mem _ hu)) z3)
                rw [inP q ⟨i, _, e, rfl, hm q List.mem_cons_self⟩]
                exact z1
          exact gen ps dss (fun q hq => by rw [e2]; exact List.mem_cons_of_mem _ hq) e5
  · by_cases hb : ownP env fps b
    · exact .inr (lstP b hb).2.2.1
    · rw [outP b hb] at h
      exact f.st.new b o h
mutual
theorem Rp.unv {F : Hp} {P : Addr → Prop} (hP : ∀ b, P b → ∀ xs, F b ≠ some (.tup xs)) : ∀ {v : V} {d : D}, Rp F v d → nolist d = true → Rp (unF F P) v d
  | _, _, .non, _ => .non
  | _, _, .bl b, _ => .bl b
  | _, _, .int i, _ => .int i
  | _, _, .str x, _ => .str x
  | _, _, .lst h t, n => by cases n
  | _, _, .tup (a := a) h t, n => .tup (by
      unfold unF
      rw [if_neg fun z => hP a z _ h]
      exact h) (RpL.unv hP t n)
theorem RpL.unv {F : Hp} {P : Addr → Prop} (hP : ∀ b, P b → ∀ xs, F b ≠ some (.tup xs)) : ∀ {v : List V} {d : List D}, RpL F v d → nolists d = true → RpL (unF F P) v d
  | _, _, .nil, _ => .nil
  | _, _, .cons h t, n => by
    unfold nolists at n
    have n' := Bool.and_eq_true_iff.mp n
    exact .cons (Rp.unv hP h n'.1) (RpL.unv hP t n'.2)
end
/-- back from the view -/
theorem Frm.back {c : Ctx} {O : List Addr} {F0 H0 F H F1 H1 : Hp} {σ : St} {env : En} {fps : Nat → List Addr} (f : Frm c O F0 H0 F H σ env) (ow : Own O F H H0 σ env fps) (v1 : Vw c.T O F1 H1) (s1 : Stp O (vwF F H (ownP env fps)) H F1 H1) :
    Frm c O F0 H0 (unF F1 (ownP env fps)) H1 σ env ∧ Own O (unF F1 (ownP env fps)) H1 H0 σ env fps ∧ (∀ b, ownP env fps b → ∀ xs, F1 b ≠ some (.tup xs)) ∧ Same F (unF F1 (ownP env fps)) := by
  have lstP : ∀ b, ownP env fps b → F b = none ∧ b ∉ O ∧ H0 b = none ∧ ∃ xs, H b = some (.lst xs) := fun b ⟨i, s, e, ho, hb⟩ => ow.fr i s e ho b hb
  have lst1 : ∀ b, ownP env fps b → ∃ xs, H b = some (.lst xs) ∧ H1 b = some (.lst xs) := fun b hb => by
    obtain ⟨_, z2, _, xs, z4⟩ := lstP b hb
    exact ⟨xs, z4, s1.same b _ z4 (fun _ z => nomatch z) z2⟩
  have inU : ∀ b, ownP env fps b → unF F1 (ownP env fps) b = none := fun b h => if_pos h
  have outU : ∀ b, ¬ ownP env fps b → unF F1 (ownP env fps) b = F1 b := fun b h => if_neg h
  have gr : Same F (unF F1 (ownP env fps)) := fun b o h => by
    have hb : ¬ ownP env fps b := fun z => by
      rw [(lstP b z).1] at h
      cases h
    rw [outU b hb]
    exact s1.grow b o (by unfold vwF; rw [if_neg hb]; exact h)
  have ow1 : Own O (unF F1 (ownP env fps)) H1 H0 σ env fps := ⟨fun i s e ho => by
      obtain ⟨v, h1, h2⟩ := ow.at_ i s e ho
      refine ⟨v, h1, h2.up gr fun a ha => ?_⟩
      obtain ⟨xs, z1, z2⟩ := lst1 a ⟨i, s, e, ho, ha⟩
      rw [z1, z2], fun i s e ho a ha => by
      obtain ⟨xs, z1, z2⟩ := lst1 a ⟨i, s, e, ho, ha⟩
      obtain ⟨_, w2, w3, _⟩ := ow.fr i s e ho a ha
      exact ⟨inU a ⟨i, s, e, ho, ha⟩, w2, w3, xs, z2⟩, ow.dis⟩
  refine ⟨⟨⟨fun b o h => ?_, fun b ps h => ?_, v1.tab, fun p hp => ?_⟩, f.sl.up gr, ⟨fps, ow1⟩, ⟨fun b o h ht ho => ?_, f.st.grow.trans gr, fun b o h => ?_, fun b ps h => ?_, fun b hb h => ?_⟩⟩, ow1, fun b hb xs h => ?_, gr⟩
  · by_cases hb : ownP env fps b
    · rw [inU b hb] at h
      cases h
    · rw [outU b hb] at h
      exact v1.frz b o h
  · by_cases hb : ownP env fps b
    · rw [inU b hb] at h
      cases h
    · rw [outU b hb] at h
      exact v1.ntb b ps h
  · obtain ⟨z1, z2⟩ := v1.dic p hp
    refine ⟨?_, z2⟩
    by_cases hb : ownP env fps p
    · exact inU p hb
    · rw [outU p hb]
      exact z1
  · exact s1.same b o (f.st.same b o h ht ho) ht ho
  · by_cases hb : ownP env fps b
    · rw [inU b hb] at h
      cases h
    · rw [outU b hb] at h
      rcases s1.new b o h with z | z
      · unfold vwF at z
        rw [if_neg hb] at z
        exact f.st.new b o z
      · exact .inr (f.st.back z)
  · obtain ⟨ps1, h1⟩ := f.st.tbs b ps h
    exact s1.tbs b ps1 h1
  · exact s1.dcs b hb (f.st.dcs b hb h)
  · obtain ⟨ys, _, z2⟩ := lst1 b hb
    rw [v1.frz b _ h] at z2
    cases z2
end SD

namespace SD
open PySem PySem.Spec PyProof.Rows L2
/-! ### values for slots -/
abbrev WV := En → (Sl → Prop) → (Str → Prop) → Prop
def VR (H F' H' : Hp) (v : V) : Sl → Prop
  | .dat d => Rp F' v d
  | .own ds => ∃ p xs, v = .ref p ∧ H p = none ∧ F' p = none ∧ H' p = some (.lst xs) ∧ RpL F' xs ds
  | _ => False
def liftV (c : Ctx) (w : WV) : TE := fun σ H Q => ∃ O F env QD QE, Vw c.T O F H ∧ Sls O F σ env ∧ w env QD QE ∧
  (∀ s, QD s → ∀ F' H' v, Vw c.T O F' H' → Stp O F H F' H' → VR H F' H' v s → Q v H') ∧ c.exc O F H QE
abbrev DV (X : Cx) (c : Ctx) (e : Expr) (w : WV) : Prop := PE X e (liftV c w)
@[simp] def wvD (w : WE) : WV := fun env Q E => w env (fun d => Q (.dat d)) E
@[simp] def wvL (w : WA) : WV := fun env Q E => w env (fun ds => Q (.own ds)) E
theorem lift_vD {c : Ctx} {w : WE} : ∀ σ H Q, liftV c (wvD w) σ H Q → liftE c w σ H Q := fun σ H Q ⟨O, F, env, QD, QE, vw, sl, hw, hq, he⟩ => ⟨O, F, env, _, QE, vw, sl, hw, fun d hd F' H' v v1 s1 r1 => hq _ hd F' H' v v1 s1 r1, he⟩
theorem lift_vL {c : Ctx} {w : WA} : ∀ σ H Q, liftV c (wvL w) σ H Q → liftL c w σ H Q := fun σ H Q ⟨O, F, env, QD, QE, vw, sl, hw, hq, he⟩ => ⟨O, F, env, _, QE, vw, sl, hw, fun d hd F' H' p xs v1 s1 n1 n2 n3 r1 => hq _ hd F' H' _ v1 s1 ⟨p, xs, rfl, n1, n2, n3, r1⟩, he⟩
section
variable {X : Cx} {c : Ctx} {a b e : Expr} {wa wb : WE} {pos : Pos} {st : Stmt} {rest : List Stmt}
theorem v_d (h : DE X c e wa) : DV X c e (wvD wa) := PE.imp h lift_vD
theorem v_l {w : WA} (h : DL X c e w) : DV X c e (wvL w) := PE.imp h lift_vL
/-! ### blocks -/
@[simp] def wNil : WS := fun env C => C.nx env
@[simp] def wSeq (w u : WS) : WS := fun env C => w env { C with nx := fun env' => u env' C }
theorem ss_nil : DSs X c [] wNil := PSs.imp pss_nil fun D σ H ⟨O, F0, H0, F, env, C, f, hw, hn, hr, he⟩ => hn env hw F H σ f (Same.refl F)
theorem ss_cons {w u : WS} (h1 : DS X c st w) (h2 : DSs X c rest u) : DSs X c (st :: rest) (wSeq w u) := PSs.imp (pss_cons h1 h2) fun D σ H ⟨O, F0, H0, F, env, C, f, hw, hn, hr, he⟩ =>
  ⟨O, F0, H0, F, env, _, f, hw, fun env' hC F' H' σ' f' g' => ⟨O, F0, H0, F', env', C, f', hC, fun env2 h2 F2 H2 σ2 f2 g2 => hn env2 h2 F2 H2 σ2 f2 (g'.trans g2), hr, he⟩, hr, he⟩
theorem ss_one {w : WS} (h1 : DS X c st w) : DSs X c [st] w := pss_one h1
/-! ### expressions, returns, ifs, raises -/
@[simp] def wsExpr (w : WE) : WS := fun env C => w env (fun _ => C.nx env) C.ex
theorem s_expr (h : DE X c e wa) (hs : swapsWith e none pos.line X.env = pure false := by rfl) : DS X c (.Expr e pos) (wsExpr wa) := PS.imp (ps_expr h hs) fun D σ H ⟨O, F0, H0, F, env, C, f, hw, hn, hr, he⟩ =>
  ⟨O, F, env, _, C.ex, f.vw, f.sl, hw, fun d hd F1 H1 v v1 s1 r1 => hn env hd F1 H1 σ (f.step v1 s1) s1.grow, he.up f.st⟩
@[simp] def wsRet (w : WE) : WS := fun env C => w env C.rt C.ex
theorem s_ret (h : DE X c e wa) : DS X c (.Return (some e) pos) (wsRet wa) := PS.imp (ps_ret h) fun D σ H ⟨O, F0, H0, F, env, C, f, hw, hn, hr, he⟩ =>
  ⟨O, F, env, _, C.ex, f.vw, f.sl, hw, fun d hd F1 H1 v v1 s1 r1 => hr d hd F1 H1 v v1 (f.st.trans s1 v1) r1, he.up f.st⟩
@[simp] def wsRetV (w : WE) : WS := fun env C => w (vwE env) C.rt C.ex
theorem s_retV (h : DE X c e wa) : DS X c (.Return (some e) pos) (wsRetV wa) := PS.imp (ps_ret h) fun D σ H ⟨O, F0, H0, F, env, C, f, hw, hn, hr, he⟩ => by
  obtain ⟨fps, ow⟩ := f.ow
  obtain ⟨v, sl, s, g⟩ := f.view ow
  exact ⟨O, _, vwE env, _, C.ex, v, sl, hw, fun d hd F1 H1 u v1 s1 r1 => hr d hd F1 H1 u v1 (s.trans s1 v1) r1, he.up s⟩
@[simp] def wsIf (wt : WT) (w u : WS) : WS := fun env C => wt env (fun k => if k = true then w env C else u env C) C.ex
theorem s_if {t : Expr} {A B : List Stmt} {wt : WT} {w u : WS} (ht : DT X c t wt) (h1 : DSs X c A w) (h2 : DSs X c B u) : DS X c (.If t A B pos) (wsIf wt w u) := PS.imp (ps_if ht h1 h2) fun D σ H ⟨O, F0, H0, F, env, C, f, hw, hn, hr, he⟩ => by
  refine ⟨O, F, env, _, C.ex, f.vw, f.sl, hw, fun k hk F1 H1 v1 s1 => ?_, he.up f.st⟩
  cases k with
  | true => exact ⟨O, F0, H0, F1, env, C, f.step v1 s1, hk, fun env2 h2 F2 H2 σ2 f2 g2 => hn env2 h2 F2 H2 σ2 f2 (s1.grow.trans g2), hr, he⟩
  | false => exact ⟨O, F0, H0, F1, env, C, f.step v1 s1, hk, fun env2 h2 F2 H2 σ2 f2 g2 => hn env2 h2 F2 H2 σ2 f2 (s1.grow.trans g2), hr, he⟩
@[simp] def wsIfV (wt : WT) (w u : WS) : WS := fun env C => wt (vwE env) (fun k => if k = true then w env C else u env C) C.ex
theorem s_ifV {t : Expr} {A B : List Stmt} {wt : WT} {w u : WS} (ht : DT X c t wt) (h1 : DSs X c A w) (h2 : DSs X c B u) : DS X c (.If t A B pos) (wsIfV wt w u) := PS.imp (ps_if ht h1 h2) fun D σ H ⟨O, F0, H0, F, env, C, f, hw, hn, hr, he⟩ => by
  obtain ⟨fps, ow⟩ := f.ow
  obtain ⟨v, sl, s, g⟩ := f.view ow
  refine ⟨O, _, vwE env, _, C.ex, v, sl, hw, fun k hk F1 H1 v1 s1 => ?_, he.up s⟩
  obtain ⟨f1, _, _, gb⟩ := f.back ow v1 s1
  cases k with
  | true => exact ⟨O, F0, H0, _, env, C, f1, hk, fun env2 h2 F2 H2 σ2 f2 g2 => hn env2 h2 F2 H2 σ2 f2 (gb.trans g2), hr, he⟩
  | false => exact ⟨O, F0, H0, _, env, C, f1, hk, fun env2 h2 F2 H2 σ2 f2 g2 => hn env2 h2 F2 H2 σ2 f2 (gb.trans g2), hr, he⟩
/-! ### x = e -/
@[simp] def wsSet (i : Nat) (w : WV) : WS := fun env C => w env (fun s => C.nx (env.set i s)) C.ex
theorem Frm.setV {O : List Addr} {F0 H0 F H F1 H1 : Hp} {σ : St} {env : En} {i : Nat} {v : V} {s : Sl} (f : Frm c O F0 H0 F H σ env) (v1 : Vw c.T O F1 H1) (s1 : Stp O F H F1 H1) (r : VR H F1 H1 v s) : Frm c O F0 H0 F1 H1 (σ.set i (some v)) (env.set i s) := by
  cases s with
  | dat d => exact (f.step v1 s1).setD r
  | own ds =>
    obtain ⟨p, xs, rfl, n1, n2, n3, r⟩ := r
    obtain ⟨fps, ow⟩ := f.ow
    refine (f.step v1 s1).setO (ow.step v1 s1) (A := [p]) rfl ⟨p, xs, rfl, rfl, n3, r⟩ (fun a ha => ?_) fun j s e ho hj a ha hb => ?_
    · rw [List.mem_singleton.mp ha]
      exact ⟨n2, f.vw.out n1, f.st.back n1⟩
    · rw [List.mem_singleton.mp ha] at hb
      obtain ⟨_, _, _, ys, z⟩ := ow.fr j s e ho p hb
      rw [n1] at z
      cases z
  | _ => exact r.elim
theorem lift_set {i : Nat} {w : WV} {te : TE} (h : ∀ σ H Q, liftV c w σ H Q → te σ H Q) : ∀ D σ H, liftS c (wsSet i w) D σ H → tAsg te (gName i) D σ H := fun D σ H ⟨O, F0, H0, F, env, C, f, hw, hn, hr, he⟩ =>
  h σ H _ ⟨O, F, env, _, C.ex, f.vw, f.sl, hw, fun s hs F1 H1 v v1 s1 r1 => hn _ hs F1 H1 _ (f.setV v1 s1 r1) s1.grow, he.up f.st⟩
theorem s_set {i : Nat} {x : Str} {w : WV} {p : Pos} (hN : X.N.Nodup) (h : DV X c e w) (hi : X.N[i]? = some x := by rfl) (hx : Loc X.env.scope x := by first | exact Or.inl rfl | exact Or.inr rfl) (hs : swapsWith e (some (.Name x p)) pos.line X.env = pure false := by rfl)
    (hf : X.fn x = true ∨ X.env.scope.names.lookup x = some .local := by first | exact .inl rfl | exact .inr rfl) : DS X c (.Assign [.Name x p] e pos) (wsSet i w) := PS.imp (ps_set hN hi hx h hs hf) (lift_set fun _ _ _ z => z)
/-- with a look at the own lists: what comes of it bears no lists, or is a new list of such -/
@[simp] def flatS : Sl → Bool
  | .dat d => nolist d
  | .own ds => nolists ds
  | _ => false
@[simp] def wsSetV (i : Nat) (w : WV) : WS := fun env C => w (vwE env) (fun s => flatS s = true ∧ C.nx (env.set i s)) C.ex
theorem VR.unv {H F1 H1 : Hp} {P : Addr → Prop} {v : V} {s : Sl} (hP : ∀ b, P b → ∀ xs, F1 b ≠ some (.tup xs)) (r : VR H F1 H1 v s) (n : flatS s = true) : VR H (unF F1 P) H1 v s := by
  cases s with
  | dat d => exact Rp.unv hP r n
  | own ds =>
    obtain ⟨p, xs, e, n1, n2, n3, r⟩ := r
    refine ⟨p, xs, e, n1, ?_, n3, RpL.unv hP r n⟩
    unfold unF
    split
    · rfl
    · exact n2
  | _ => exact r.elim
theorem Frm.setVv {O : List Addr} {F0 H0 F H F1 H1 : Hp} {σ : St} {env : En} {fps : Nat → List Addr} {i : Nat} {v : V} {s : Sl} (f : Frm c O F0 H0 F H σ env) (ow : Own O F H H0 σ env fps) (v1 : Vw c.T O F1 H1) (s1 : Stp O (vwF F H (ownP env fps)) H F1 H1) (r : VR H F1 H1 v s) (n : flatS s = true) :
    Frm c O F0 H0 (unF F1 (ownP env fps)) H1 (σ.set i (some v)) (env.set i s) := by
  obtain ⟨f1, ow1, hP, gb⟩ := f.back ow v1 s1
  have r' := r.unv hP n
  cases s with
  | dat d => exact f1.setD r'
  | own ds =>
    obtain ⟨p, xs, rfl, n1, n2, n3, r⟩ := r'
    refine f1.setO ow1 (A := [p]) rfl ⟨p, xs, rfl, rfl, n3, r⟩ (fun a ha => ?_) fun j s e ho hj a ha hb => ?_
    · rw [List.mem_singleton.mp ha]
      exact ⟨n2, f.vw.out n1, f.st.back n1⟩
    · rw [List.mem_singleton.mp ha] at hb
      obtain ⟨_, _, _, ys, z⟩ := ow.fr j s e ho p hb
      rw [n1] at z
      cases z
  | _ => exact r.elim
theorem lift_setV {i : Nat} {w : WV} {te : TE} (h : ∀ σ H Q, liftV c w σ H Q → te σ H Q) : ∀ D σ H, liftS c (wsSetV i w) D σ H → tAsg te (gName i) D σ H := fun D σ H ⟨O, F0, H0, F, env, C, f, hw, hn, hr, he⟩ => by
  obtain ⟨fps, ow⟩ := f.ow
  obtain ⟨v, sl, s, g⟩ := f.view ow
  exact h σ H _ ⟨O, _, vwE env, _, C.ex, v, sl, hw, fun s hs F1 H1 u v1 s1 r1 => hn _ hs.2 _ H1 _ (f.setVv ow v1 s1 r1 hs.1) (f.back ow v1 s1).2.2.2, he.up s⟩
theorem s_setV {i : Nat} {x : Str} {w : WV} {p : Pos} (hN : X.N.Nodup) (h : DV X c e w) (hi : X.N[i]? = some x := by rfl) (hx : Loc X.env.scope x := by first | exact Or.inl rfl | exact Or.inr rfl) (hs : swapsWith e (some (.Name x p)) pos.line X.env = pure false := by rfl)
    (hf : X.fn x = true ∨ X.env.scope.names.lookup x = some .local := by first | exact .inl rfl | exact .inr rfl) : DS X c (.Assign [.Name x p] e pos) (wsSetV i w) := PS.imp (ps_set hN hi hx h hs hf) (lift_setV fun _ _ _ z => z)
/-- y = [..] on one line, y a local -/
theorem s_lcAny {i : Nat} {y : Str} {py : Pos} {elt tg iter : Expr} {ifs : List Expr} {scope : Scope} {own : List (Str × Nat)} {spos : Pos} {wi : WA} {g : TG} {wg : WG} {wt : WT} {we : WE} {w : WS} (gd : Good X c) (hN : X.N.Nodup) (hi : DI X c tg iter wi) (ok : BlkOk X.N X.env.scope scope own) (hgo : TgOk X.K g wg (own.map (·.2)))
    (hg : ∀ (s : Shared) (H : Hp) (C : Addr) (cl : List (Str × Addr)) (fp : List Addr), PG (X.blk s H scope (compEnvC scope cl C X.env) fp) tg g) (ht : ∀ (s : Shared) (H : Hp) (C : Addr) (cl : List (Str × Addr)) (fp : List Addr), Good (X.blk s H scope (compEnvC scope cl C X.env) fp) c.nox → DTs (X.blk s H scope (compEnvC scope cl C X.env) fp) c.nox ifs wt)
    (he : ∀ (s : Shared) (H : Hp) (C : Addr) (cl : List (Str × Addr)) (fp : List Addr), Good (X.blk s H scope (compEnvC scope cl C X.env) fp) c.nox → DE (X.blk s H scope (compEnvC scope cl C X.env) fp) c.nox elt we)
    (hl : (∀ σ H Q, liftL c (wLc wi wg wt we (own.map (·.2))) σ H Q → tLc (liftI c wi) g (liftT c.nox wt) (liftE c.nox we) (own.map (·.2)) σ H Q) → ∀ D σ H, liftS c w D σ H → tAsg (tLc (liftI c wi) g (liftT c.nox wt) (liftE c.nox we) (own.map (·.2))) (gName i) D σ H)
    (hsw : swapsWith (.ListComp elt [⟨tg, iter, ifs, 0⟩] scope pos) (some (.Name y py)) spos.line X.env = pure true) (hy : X.N[i]? = some y := by rfl) (hyl : X.env.scope.names.lookup y = some .local := by rfl) (hs : ∀ x, foldedSetIterable iter X.env x = pure x := by intro _; rfl) :
    DS X c (.Assign [.Name y py] (.ListComp elt [⟨tg, iter, ifs, 0⟩] scope pos) spos) w :=
  PS.imp (ps_setLc gd.calm hN hy hyl hsw hi ok hg (fun s H C cl fp => ht s H C cl fp (gd.blk ..)) (fun s H C cl fp => he s H C cl fp (gd.blk ..)) hs) (hl (lift_lc hgo))
/-- the four kinds of it: as data, as an own list; without, with a look at the own lists -/
@[simp] def wvLD (w : WA) : WV := fun env Q E => w env (fun ds => Q (.dat (.list ds))) E
theorem lc_data {i : Nat} {w : WA} {t : TE} (h : ∀ σ H Q, liftL c w σ H Q → t σ H Q) : ∀ D σ H, liftS c (wsSet i (wvD (wL w))) D σ H → tAsg t (gName i) D σ H := lift_set fun σ H Q z => h σ H Q (by
  obtain ⟨O, F, env, QD, QE, vw, sl, hw, hq, he⟩ := z
  refine ⟨O, F, env, _, QE, vw, sl, hw, fun ds hd F1 H1 p xs v1 s1 n1 n2 n3 r1 => ?_, he⟩
  refine hq _ hd (upd F1 p (.lst xs)) H1 _ (v1.freeze n2 n3 (fun _ z => nomatch z) (vw.out n1)) ⟨s1.same, s1.grow.trans (grow_upd n2), fun b o h => ?_, s1.tbs, s1.dcs⟩ (.lst upd_same (r1.up (grow_upd n2)))
  by_cases hb : b = p
  · subst hb
    exact .inr n1
  · rw [upd_ne hb] at h
    exact s1.new b o h)
theorem lc_own {i : Nat} {w : WA} {t : TE} (h : ∀ σ H Q, liftL c w σ H Q → t σ H Q) : ∀ D σ H, liftS c (wsSet i (wvL w)) D σ H → tAsg t (gName i) D σ H := lift_set fun σ H Q z => h σ H Q (lift_vL σ H Q z)
theorem lc_ownV {i : Nat} {w : WA} {t : TE} (h : ∀ σ H Q, liftL c w σ H Q → t σ H Q) : ∀ D σ H, liftS c (wsSetV i (wvL w)) D σ H → tAsg t (gName i) D σ H := lift_setV fun σ H Q z => h σ H Q (lift_vL σ H Q z)
/-- a new list of things without lists, as data, with a look at the own lists -/
@[simp] def wsSetLV (i : Nat) (w : WA) : WS := fun env C => w (vwE env) (fun ds => nolists ds = true ∧ C.nx (env.set i (.dat (.list ds)))) C.ex
theorem lc_dataV {i : Nat} {w : WA} {t : TE} (h : ∀ σ H Q, liftL c w σ H Q → t σ H Q) : ∀ D σ H, liftS c (wsSetLV i w) D σ H → tAsg t (gName i) D σ H := fun D σ H ⟨O, F0, H0, F, env, C, f, hw, hn, hr, he⟩ => by
  obtain ⟨fps, ow⟩ := f.ow
  obtain ⟨v, sl, s, g⟩ := f.view ow
  refine h σ H _ ⟨O, _, vwE env, _, C.ex, v, sl, hw, fun ds hs F1 H1 p xs v1 s1 n1 n2 n3 r1 => ?_, he.up s⟩
  obtain ⟨f1, ow1, hP, gb⟩ := f.back ow v1 s1
  have r2 := RpL.unv hP r1 hs.1
  have m2 : unF F1 (ownP env fps) p = none := by
    unfold unF
    split
    · rfl
    · exact n2
  have v2 := f1.vw.freeze m2 n3 (fun _ z => nomatch z) (f.vw.out n1)
  refine hn _ hs.2 (upd (unF F1 (ownP env fps)) p (.lst xs)) H1 _ ?_ (gb.trans (grow_upd m2))
  have f2 : Frm c O F0 H0 (upd (unF F1 (ownP env fps)) p (.lst xs)) H1 σ env := by
    refine ⟨v2, f1.sl.up (grow_upd m2), ⟨fps, fun i s e ho => ?_, fun i s e ho a ha => ?_, ow1.dis⟩, ⟨f1.st.same, f1.st.grow.trans (grow_upd m2), fun b o hb => ?_, f1.st.tbs, f1.st.dcs⟩⟩
    · obtain ⟨u, z1, z2⟩ := ow1.at_ i s e ho
      exact ⟨u, z1, z2.up (grow_upd m2) fun _ _ => rfl⟩
    · obtain ⟨z1, z2, z3, ys, z4⟩ := ow1.fr i s e ho a ha
      have hne : a ≠ p := fun z => by
        obtain ⟨_, _, _, zs, z5⟩ := ow.fr i s e ho a ha
        rw [z, n1] at z5
        cases z5
      exact ⟨by rw [upd_ne hne]; exact z1, z2, z3, ys, z4⟩
    · by_cases hbp : b = p
      · subst hbp
        exact .inr (f.st.back n1)
      · rw [upd_ne hbp] at hb
        exact f1.st.new b o hb
  exact f2.setD (.lst upd_same (r2.up (grow_upd m2)))
theorem s_setLV {i : Nat} {x : Str} {w : WA} {p : Pos} (hN : X.N.Nodup) (h : DL X c e w) (hi : X.N[i]? = some x := by rfl) (hx : Loc X.env.scope x := by first | exact Or.inl rfl | exact Or.inr rfl) (hs : swapsWith e (some (.Name x p)) pos.line X.env = pure false := by rfl)
    (hf : X.fn x = true ∨ X.env.scope.names.lookup x = some .local := by first | exact .inl rfl | exact .inr rfl) : DS X c (.Assign [.Name x p] e pos) (wsSetLV i w) := PS.imp (ps_set hN hi hx h hs hf) (lc_dataV fun _ _ _ z => z)
end
end SD

namespace SD
open PySem PySem.Spec PyProof.Rows L2
section
variable {X : Cx} {c : Ctx} {a b e : Expr} {wa wb : WE} {pos : Pos} {st : Stmt} {rest : List Stmt}
/-! ### (a, b) = e -/
@[simp] def wsUnp (g : WG) (w : WE) : WS := fun env C => w env (fun d => g d env C.nx) C.ex
theorem Frm.tg {O : List Addr} {F0 H0 F H : Hp} {σ σ' : St} {env env' : En} (f : Frm c O F0 H0 F H σ env) (sl : Sls O F σ' env') (o : ∀ (i : Nat) (s : Sl), env'[i]? = some s → isOwn s = true → env[i]? = some s ∧ σ'[i]? = σ[i]?) : Frm c O F0 H0 F H σ' env' := by
  obtain ⟨fps, ow⟩ := f.ow
  refine ⟨f.vw, sl, ⟨fps, fun i s e ho => ?_, fun i s e ho => ow.fr i s (o i s e ho).1 ho, fun i j s t e1 o1 e2 o2 => ow.dis i j s t (o i s e1 o1).1 o1 (o j t e2 o2).1 o2⟩, f.st⟩
  obtain ⟨v, h1, h2⟩ := ow.at_ i s (o i s e ho).1 ho
  exact ⟨v, by rw [(o i s e ho).2]; exact h1, h2⟩
theorem s_unp {tg : Expr} {g : TG} {wg : WG} {vs : List Nat} (h : DE X c e wa) (hg : PG X tg g) (ho : TgOk X.K g wg vs) (hs : swapsWithSole [tg] e pos.line X.env = pure false := by rfl) (hw : swappedStores [tg] e X.env = pure none := by rfl)
    (h1 : (assignEach [tg] X.env).map (·.2) = [assign tg X.env] := by rfl) : DS X c (.Assign [tg] e pos) (wsUnp wg wa) := PS.imp (ps_asg h hg hs hw h1) fun D σ H ⟨O, F0, H0, F, env, C, f, hw, hn, hr, he⟩ => by
  refine ⟨O, F, env, _, C.ex, f.vw, f.sl, hw, fun d hd F1 H1 v v1 s1 r1 => ?_, he.up f.st⟩
  have f1 := f.step v1 s1
  exact ho.run c.T O F1 H1 σ env v d C.nx D.nx v1 f1.sl r1 hd fun env' σ' hk sl' _ _ o' => hn env' hk F1 H1 σ' (f1.tg sl' o') s1.grow
/-! ### a, b = x, y -/
@[simp] def wsPar (i j : Nat) (w u : WV) : WS := fun env C => w env (fun s => u env (fun t => C.nx ((env.set i s).set j t)) C.ex) C.ex
theorem VR.later {T : List (Addr × Str)} {O : List Addr} {H F1 H1 F2 H2 : Hp} {v : V} {s : Sl} (v1 : Vw T O F1 H1) (hO : ∀ p, H p = none → p ∉ O) (s2 : Stp O F1 H1 F2 H2) (r : VR H F1 H1 v s) : VR H F2 H2 v s := by
  cases s with
  | dat d => exact Rp.up s2.grow r
  | own ds =>
    obtain ⟨p, xs, e, n1, n2, n3, r⟩ := r
    refine ⟨p, xs, e, n1, ?_, s2.same p _ n3 (fun _ z => nomatch z) (hO p n1), r.up s2.grow⟩
    cases q : F2 p with
    | none => rfl
    | some o =>
      rcases s2.new p o q with z | z
      · rw [n2] at z
        cases z
      · rw [n3] at z
        cases z
  | _ => exact r.elim
theorem s_par {i j : Nat} {x y : Str} {w u : WV} {px py pt : Pos} {kt k2 pt2} (gd : Good X c) (hN : X.N.Nodup) (ha : DV X c a w) (hb : DV X c b u) (hi : X.N[i]? = some x := by rfl) (hj : X.N[j]? = some y := by rfl) (hij : i ≠ j := by decide)
    (hx : X.env.scope.names.lookup x = some .local := by rfl) (hy : X.env.scope.names.lookup y = some .local := by rfl) (hw : swappedStores [.Tuple [.Name x px, .Name y py] kt pt] (.Tuple [a, b] k2 pt2) X.env = pure (some [x, y]) := by rfl)
    (hs : swapsWithSole [.Tuple [.Name x px, .Name y py] kt pt] (.Tuple [a, b] k2 pt2) pos.line X.env = pure false := by rfl) (h1 : starEach [a, b] X.env = (false, eval a X.env) :: starEach [b] X.env := by rfl) (h2 : starEach [b] X.env = (false, eval b X.env) :: starEach [] X.env := by rfl) :
    DS X c (.Assign [.Tuple [.Name x px, .Name y py] kt pt] (.Tuple [a, b] k2 pt2) pos) (wsPar i j w u) :=
  PS.imp (ps_par gd.calm hN hi hj hij hx hy (pa_cons ha (pa_cons hb pa_nil h2) h1) hw hs) fun D σ H ⟨O, F0, H0, F, env, C, f, hw, hn, hr, he⟩ => by
  refine ⟨O, F, env, _, C.ex, f.vw, f.sl, hw, fun s hs F1 H1 v v1 s1 r1 => ?_, he.up f.st⟩
  refine ⟨O, F1, env, _, C.ex, v1, f.sl.up s1.grow, hs, fun t ht F2 H2 v' v2 s2 r2 => ?_, (he.up f.st).up s1⟩
  refine ⟨v, v', rfl, hn _ ht F2 H2 _ ?_ (s1.grow.trans s2.grow)⟩
  have hO : ∀ p, H p = none → p ∉ O := fun p hp => f.vw.out hp
  have r1' := r1.later v1 hO s2
  obtain ⟨fps, ow⟩ := f.ow
  -- the first, then the second: the second's list is new behind the first's
  have f2 : Frm c O F0 H0 F2 H2 (σ.set i (some v)) (env.set i s) := f.setV v2 (s1.trans s2 v2) r1'
  cases t with
  | dat d => exact f2.setD r2
  | own ds =>
    obtain ⟨p, xs, rfl, n1, n2, n3, r2⟩ := r2
    have n0 : H p = none := s1.back n1
    cases s with
    | dat d' =>
      have f1 : Frm c O F0 H0 F1 H1 (σ.set i (some v)) (env.set i (.dat d')) := f.setV v1 s1 r1
      exact f1.setV (i := j) v2 s2 (show VR H1 F2 H2 (.ref p) (.own ds) from ⟨p, xs, rfl, n1, n2, n3, r2⟩)
    | own ds' =>
      have f1 : Frm c O F0 H0 F1 H1 (σ.set i (some v)) (env.set i (.own ds')) := f.setV v1 s1 r1
      exact f1.setV (i := j) v2 s2 (show VR H1 F2 H2 (.ref p) (.own ds) from ⟨p, xs, rfl, n1, n2, n3, r2⟩)
    | _ => exact r1.elim
  | _ => exact r2.elim
/-! ### an own list changes -/
theorem Frm.upd1 {O : List Addr} {F0 H0 F H : Hp} {σ : St} {env : En} {fps : Nat → List Addr} (f : Frm c O F0 H0 F H σ env) (ow : Own O F H H0 σ env fps) {i : Nat} {ds es : List D} (hi : env[i]? = some (.own ds)) {p : Addr} (hp : σ[i]? = some (some (.ref p))) {ys : List V} (r : RpL F ys es) :
    Frm c O F0 H0 F (upd H p (.lst ys)) σ (env.set i (.own es)) := by
  obtain ⟨v, h1, q, xs, e1, e2, e3, _⟩ := ow.at_ i _ hi rfl
  rw [hp] at h1
  cases h1
  cases e1
  have hil := (List.getElem?_eq_some_iff.mp hi).1
  obtain ⟨z1, z2, z3, _⟩ := ow.fr i _ hi rfl p (by rw [e2]; exact List.mem_singleton.mpr rfl)
  have key : ∀ (j : Nat) (s : Sl), (env.set i (.own es))[j]? = some s → (j = i ∧ s = .own es) ∨ (j ≠ i ∧ env[j]? = some s) := fun j s hj => by
    by_cases hji : i = j
    · subst hji
      rw [List.getElem?_set_self hil] at hj
      exact .inl ⟨rfl, (Option.some.inj hj).symm⟩
    · rw [List.getElem?_set_ne hji] at hj
      exact .inr ⟨fun z => hji z.symm, hj⟩
  have sl' : Sls O F σ (env.set i (.own es)) := ⟨by rw [List.length_set]; exact f.sl.1, fun j => by
    by_cases hji : i = j
    · subst hji
      rw [List.getElem?_set_self hil]
      trivial
    · rw [List.getElem?_set_ne hji]
      exact f.sl.2 j⟩
  have nO : ∀ (j : Nat) (s : Sl), env[j]? = some s → isOwn s = true → j ≠ i → p ∉ fps j := fun j s e ho hji hb => ow.dis i j _ s hi rfl e ho (Ne.symm hji) p (by rw [e2]; exact List.mem_singleton.mpr rfl) hb
  refine ⟨⟨fun b o h => ?_, f.vw.ntb, fun t ht => ?_, fun q hq => ?_⟩, sl', ⟨fps, fun j s e ho => ?_, fun j s e ho a ha => ?_, fun j k s t a1 o1 a2 o2 hjk => ?_⟩, ⟨fun b o h ht ho => ?_, f.st.grow, f.st.new, fun b ps h => ?_, fun b hb h z => ?_⟩⟩
  · rw [upd_ne fun z => by rw [z, z1] at h; cases h]
    exact f.vw.frz b o h
  · obtain ⟨ps, w1, w2, w3⟩ := f.vw.tab t ht
    refine ⟨ps, by rw [upd_ne fun z => by rw [z, e3] at w1; cases w1]; exact w1, w2, fun ps' cv hc => ?_⟩
    obtain ⟨k, w4, w5⟩ := w3 ps' cv hc
    exact ⟨k, w4, by rw [upd_ne fun z => by rw [z, e3] at w5; exact nomatch w5]; exact w5⟩
  · obtain ⟨w1, k, n, w2⟩ := f.vw.dic q hq
    exact ⟨w1, k, n, by rw [upd_ne fun z => z2 (by rw [← z]; exact hq)]; exact w2⟩
  · rcases key j s e with ⟨rfl, rfl⟩ | ⟨hji, e'⟩
    · exact ⟨.ref p, hp, p, ys, rfl, e2, upd_same, r⟩
    · obtain ⟨v, w1, w2⟩ := ow.at_ j s e' ho
      exact ⟨v, w1, w2.up (Same.refl F) fun a ha => upd_ne fun z => nO j s e' ho hji (by rw [← z]; exact ha)⟩
  · rcases key j s e with ⟨rfl, rfl⟩ | ⟨hji, e'⟩
    · rw [e2] at ha
      rw [List.mem_singleton.mp ha]
      exact ⟨z1, z2, z3, ys, upd_same⟩
    · obtain ⟨w1, w2, w3, zs, w4⟩ := ow.fr j s e' ho a ha
      exact ⟨w1, w2, w3, zs, by rw [upd_ne fun z => nO j s e' ho hji (by rw [← z]; exact ha)]; exact w4⟩
  · rcases key j s a1 with ⟨rfl, rfl⟩ | ⟨hj, b1⟩
    · rcases key k t a2 with ⟨rfl, rfl⟩ | ⟨hk, b2⟩
      · exact absurd rfl hjk
      · exact ow.dis j k _ t hi rfl b2 o2 hjk
    · rcases key k t a2 with ⟨rfl, rfl⟩ | ⟨hk, b2⟩
      · exact ow.dis j k s _ b1 o1 hi rfl hjk
      · exact ow.dis j k s t b1 o1 b2 o2 hjk
  · by_cases hb : b = p
    · rw [hb, z3] at h
      cases h
    · rw [upd_ne hb]
      exact f.st.same b o h ht ho
  · obtain ⟨ps', h'⟩ := f.st.tbs b ps h
    exact ⟨ps', by rw [upd_ne fun z => by rw [z, e3] at h'; cases h']; exact h'⟩
  · by_cases hbp : b = p
    · rw [hbp, upd_same] at z
      cases z
    · rw [upd_ne hbp] at z
      exact f.st.dcs b hb h z
theorem Frm.own1 {O : List Addr} {F0 H0 F H : Hp} {σ : St} {env : En} {fps : Nat → List Addr} (f : Frm c O F0 H0 F H σ env) (ow : Own O F H H0 σ env fps) {i : Nat} {ds : List D} (hi : env[i]? = some (.own ds)) : ∃ p xs, σ[i]? = some (some (.ref p)) ∧ H p = some (.lst xs) ∧ RpL F xs ds := by
  obtain ⟨v, h1, q, xs, e1, e2, e3, r⟩ := ow.at_ i _ hi rfl
  rw [e1] at h1
  exact ⟨q, xs, h1, e3, r⟩
/-- x.append(e) -/
@[simp] def wsApp (i : Nat) (w : WE) : WS := fun env C => ∃ ds, env[i]? = some (.own ds) ∧ ds.length < sizeLine ∧ w env (fun d => C.nx (env.set i (.own (ds ++ [d])))) C.ex
@[simp] def wsAppV (i : Nat) (w : WE) : WS := fun env C => ∃ ds, env[i]? = some (.own ds) ∧ ds.length < sizeLine ∧ w (vwE env) (fun d => nolist d = true ∧ C.nx (env.set i (.own (ds ++ [d])))) C.ex
theorem ps_app {i : Nat} {x : Str} {p p2 cpos : Pos} {te : TE} (h : PE X a te) (hN : X.N[i]? = some x := by rfl) (hv : Vis X.env.scope x := by first | exact Or.inl rfl | exact Or.inr (Or.inl rfl) | exact Or.inr (Or.inr rfl)) (hd : (x == ("__debug__" : Str)) = false := by decide) (hcd : (x == ("__classdict__" : Str)) = false := by decide)
    (hbase : attributeBase (.Name x p) "append" X.env (eval (.Name x p) X.env) = eval (.Name x p) X.env := by rfl) (hfew : ((backTo cpos (starEach [a] X.env)).all (fun x => !x.1) && (backToKw cpos (keywordEach [] X.env)).all (fun x => x.1.isSome) && decide ([a].length + ([] : List Keyword).length + (if ([] : List Keyword).isEmpty then 0 else 1) < 30)) = true := by rfl)
    (hline : (p2.endLine == cpos.line) = true := by rfl) (hs : starEach [a] X.env = (false, eval a X.env) :: starEach [] X.env := by rfl) (hsw : swapsWith (.Call (.Attribute (.Name x p) "append" p2) [a] [] cpos) none pos.line X.env = pure false := by rfl) :
    PS X (.Expr (.Call (.Attribute (.Name x p) "append" p2) [a] [] cpos) pos) (tDrop (tBM X.K "list" rAppend (tVar i) (tCons te tNil))) :=
  ps_expr (pe_bm PySem.F.plainAttrs_list PySem.F.slot_list_append PySem.F.type_list_append mt_append (pe_var hN hv hd hcd) (pa_cons h pa_nil hs) hbase hfew hline hs rfl) hsw
theorem s_app {i : Nat} {x : Str} {p p2 cpos : Pos} (h : DE X c a wa) (hN : X.N[i]? = some x := by rfl) (hv : Vis X.env.scope x := by first | exact Or.inl rfl | exact Or.inr (Or.inl rfl) | exact Or.inr (Or.inr rfl)) (hd : (x == ("__debug__" : Str)) = false := by decide) (hcd : (x == ("__classdict__" : Str)) = false := by decide)
    (hbase : attributeBase (.Name x p) "append" X.env (eval (.Name x p) X.env) = eval (.Name x p) X.env := by rfl) (hfew : ((backTo cpos (starEach [a] X.env)).all (fun x => !x.1) && (backToKw cpos (keywordEach [] X.env)).all (fun x => x.1.isSome) && decide ([a].length + ([] : List Keyword).length + (if ([] : List Keyword).isEmpty then 0 else 1) < 30)) = true := by rfl)
    (hline : (p2.endLine == cpos.line) = true := by rfl) (hs : starEach [a] X.env = (false, eval a X.env) :: starEach [] X.env := by rfl) (hsw : swapsWith (.Call (.Attribute (.Name x p) "append" p2) [a] [] cpos) none pos.line X.env = pure false := by rfl) :
    DS X c (.Expr (.Call (.Attribute (.Name x p) "append" p2) [a] [] cpos) pos) (wsApp i wa) :=
  PS.imp (ps_app (pos := pos) h hN hv hd hcd hbase hfew hline hs hsw) fun D σ H ⟨O, F0, H0, F, env, C, f, ⟨ds, hi, hz, hw⟩, hn, hr, he⟩ => by
  obtain ⟨fps, ow⟩ := f.ow
  obtain ⟨q, xs, z1, z2, r⟩ := f.own1 ow hi
  refine ⟨.ref q, z1, .inl ⟨rfl, xs, SqL.of z2⟩, O, F, env, _, C.ex, f.vw, f.sl, hw, fun d hd F1 H1 v v1 s1 r1 => ?_, he.up f.st⟩
  have ow1 := ow.step v1 s1
  have f1 := f.step v1 s1
  obtain ⟨q', xs', y1, y2, r'⟩ := f1.own1 ow1 hi
  rw [z1] at y1
  cases y1
  exact ⟨q, xs', v, rfl, rfl, y2, by rw [r'.length]; exact hz, hn _ hd F1 _ σ (f1.upd1 ow1 hi z1 (r'.append (.one r1))) s1.grow⟩
theorem s_appV {i : Nat} {x : Str} {p p2 cpos : Pos} (h : DE X c a wa) (hN : X.N[i]? = some x := by rfl) (hv : Vis X.env.scope x := by first | exact Or.inl rfl | exact Or.inr (Or.inl rfl) | exact Or.inr (Or.inr rfl)) (hd : (x == ("__debug__" : Str)) = false := by decide) (hcd : (x == ("__classdict__" : Str)) = false := by decide)
    (hbase : attributeBase (.Name x p) "append" X.env (eval (.Name x p) X.env) = eval (.Name x p) X.env := by rfl) (hfew : ((backTo cpos (starEach [a] X.env)).all (fun x => !x.1) && (backToKw cpos (keywordEach [] X.env)).all (fun x => x.1.isSome) && decide ([a].length + ([] : List Keyword).length + (if ([] : List Keyword).isEmpty then 0 else 1) < 30)) = true := by rfl)
    (hline : (p2.endLine == cpos.line) = true := by rfl) (hs : starEach [a] X.env = (false, eval a X.env) :: starEach [] X.env := by rfl) (hsw : swapsWith (.Call (.Attribute (.Name x p) "append" p2) [a] [] cpos) none pos.line X.env = pure false := by rfl) :
    DS X c (.Expr (.Call (.Attribute (.Name x p) "append" p2) [a] [] cpos) pos) (wsAppV i wa) :=
  PS.imp (ps_app (pos := pos) h hN hv hd hcd hbase hfew hline hs hsw) fun D σ H ⟨O, F0, H0, F, env, C, f, ⟨ds, hi, hz, hw⟩, hn, hr, he⟩ => by
  obtain ⟨fps, ow⟩ := f.ow
  obtain ⟨q, xs, z1, z2, r⟩ := f.own1 ow hi
  obtain ⟨v, sl, s, g⟩ := f.view ow
  refine ⟨.ref q, z1, .inl ⟨rfl, xs, SqL.of z2⟩, O, _, vwE env, _, C.ex, v, sl, hw, fun d hd F1 H1 u v1 s1 r1 => ?_, he.up s⟩
  obtain ⟨f1, ow1, hP, gb⟩ := f.back ow v1 s1
  obtain ⟨q', xs', y1, y2, r'⟩ := f1.own1 ow1 hi
  rw [z1] at y1
  cases y1
  exact ⟨q, xs', u, rfl, rfl, y2, by rw [r'.length]; exact hz, hn _ hd.2 _ _ σ (f1.upd1 ow1 hi z1 (r'.append (.one (Rp.unv hP r1 hd.1)))) gb⟩
/-- x[j] = e -/
@[simp] def wsPut (i : Nat) (wj w : WE) : WS := fun env C => ∃ ds, env[i]? = some (.own ds) ∧ w (vwE env) (fun d => nolist d = true ∧ wj (vwE env) (fun dj => ∃ k n, dj = .int k ∧ ixN ds.length k = some n ∧ C.nx (env.set i (.own (ds.set n d)))) C.ex) C.ex
theorem s_put {i : Nat} {x : Str} {p tp : Pos} {wj : WE} (h : DE X c e wa) (hj : DE X c b wj) (hN : X.N[i]? = some x := by rfl) (hv : Vis X.env.scope x := by first | exact Or.inl rfl | exact Or.inr (Or.inl rfl) | exact Or.inr (Or.inr rfl)) (hd : (x == ("__debug__" : Str)) = false := by decide) (hcd : (x == ("__classdict__" : Str)) = false := by decide)
    (ha : ∀ v, assign (.Subscript (.Name x p) b tp) X.env v = (do
      let ov ← holding [v] (eval (.Name x p) X.env)
      let iv ← holding [v, ov] (eval b X.env)
      standAt tp
      holding [v, ov, iv] (setItem ov iv v)
      release [v, ov, iv] []) := by intro _; rfl)
    (hs : swapsWithSole [.Subscript (.Name x p) b tp] e pos.line X.env = pure false := by rfl) (hw : swappedStores [.Subscript (.Name x p) b tp] e X.env = pure none := by rfl) (h1 : (assignEach [.Subscript (.Name x p) b tp] X.env).map (·.2) = [assign (.Subscript (.Name x p) b tp) X.env] := by rfl) :
    DS X c (.Assign [.Subscript (.Name x p) b tp] e pos) (wsPut i wj wa) :=
  PS.imp (ps_asg h (pg_sub (pe_var hN hv hd hcd) hj set_list ha) hs hw h1) fun D σ H ⟨O, F0, H0, F, env, C, f, ⟨ds, hi, hw⟩, hn, hr, he⟩ => by
  obtain ⟨fps, ow⟩ := f.ow
  obtain ⟨q, xs, z1, z2, r⟩ := f.own1 ow hi
  obtain ⟨v, sl, s, g⟩ := f.view ow
  refine ⟨O, _, vwE env, _, C.ex, v, sl, hw, fun d hd F1 H1 u v1 s1 r1 => ?_, he.up s⟩
  refine ⟨.ref q, z1, O, F1, vwE env, _, C.ex, v1, sl.up s1.grow, hd.2, fun dj hj F2 H2 u2 v2 s2 r2 => ?_, (he.up s).up s1⟩
  obtain ⟨k, n, rfl, hk, hC⟩ := hj
  cases r2
  obtain ⟨f1, ow1, hP, gb⟩ := f.back ow v2 (s1.trans s2 v2)
  obtain ⟨q', xs', y1, y2, r'⟩ := f1.own1 ow1 hi
  rw [z1] at y1
  cases y1
  exact ⟨q, xs', k, n, rfl, rfl, y2, by rw [r'.length]; exact hk, hn _ hC _ _ σ (f1.upd1 ow1 hi z1 (r'.set (Rp.unv hP (r1.up s2.grow) hd.1) n)) gb⟩
end
end SD

namespace SD
open PySem PySem.Spec PyProof.Rows L2
section
variable {X : Cx} {c : Ctx} {a b e : Expr} {wa wb : WE} {pos : Pos} {st : Stmt} {rest : List Stmt}
/-! ### for -/
def forL (g : WG) (body : WS) (C : DC) : List D → En → Prop
  | [], env => C.nx env
  | d :: ds, env => g d env fun env' => body env' { C with nx := fun env'' => forL g body C ds env'' }
@[simp] def wsFor (wi : WA) (g : WG) (body : WS) : WS := fun env C => wi env (fun ds => forL g body C ds env) C.ex
theorem s_for {tg iter : Expr} {body : List Stmt} {wi : WA} {g : TG} {wg : WG} {vs : List Nat} {wb : WS} (gd : Good X c) (hi : DI X c tg iter wi) (hg : PG X tg g) (ho : TgOk X.K g wg vs) (hb : DSs X c body wb) (hs : ∀ x, foldedSetIterable iter X.env x = pure x := by intro _; rfl) :
    DS X c (.For tg iter body [] pos) (wsFor wi wg wb) := PS.imp (ps_for gd.own gd.calm hi hg hb hs) fun D σ H ⟨O, F0, H0, F, env, C, f, hw, hn, hr, he⟩ => by
  refine ⟨O, F, env, _, C.ex, f.vw, f.sl, hw, fun ds hd F1 H1 J v1 s1 wk => ?_, he.up f.st⟩
  have f1 := f.step v1 s1
  refine ⟨fun i m σ2 H2 => ∃ F2 env2, i + m = ds.length ∧ Frm c O F0 H0 F2 H2 σ2 env2 ∧ Same F1 F2 ∧ forL wg wb C (ds.drop i) env2, ⟨ds.length, F1, env, by omega, f1, Same.refl _, hd⟩, ?_⟩
  rintro i m σ2 H2 ⟨F2, env2, em, f2, g2, h2⟩
  by_cases hi : i < ds.length
  · rw [List.drop_eq_getElem_cons hi] at h2
    obtain ⟨hgo, hy⟩ := (wk.up g2 H2 f2.vw.frz).1 i ds[i] (List.getElem?_eq_getElem hi)
    refine .inr ⟨hgo, fun σ3 H3 => ∃ F3 env3, Frm c O F0 H0 F3 H3 σ3 env3 ∧ Same F1 F3 ∧ forL wg wb C (ds.drop (i + 1)) env3, ?_, fun x H3 y => ?_⟩
    · rintro σ3 H3 ⟨F3, env3, a1, a2, a3⟩
      exact ⟨m - 1, by omega, F3, env3, by omega, a1, a2, a3⟩
    · have item : ∃ F3, Vw c.T O F3 H3 ∧ Stp O F2 H2 F3 H3 ∧ Rp F3 x ds[i] := by
        rcases hy x H3 y with ⟨e1, r⟩ | ⟨t, a, b, da, db, e1, e2, e3, ra, rb, e4⟩
        · rw [e1]
          exact ⟨F2, f2.vw, Stp.refl O F2 H2, r⟩
        · rw [e3, e1, e4]
          have hF := f2.vw.fF e2
          exact ⟨upd F2 t (.tup [a, b]), f2.vw.lay e2 (fun _ z => nomatch z), Stp.lay hF e2, .tup upd_same (.cons (ra.up (grow_upd hF)) (.cons (rb.up (grow_upd hF)) .nil))⟩
      obtain ⟨F3, v3, s3, r3⟩ := item
      have f3 := f2.step v3 s3
      refine ho.run c.T O F3 H3 σ2 env2 x ds[i] _ _ v3 f3.sl r3 h2 fun env4 σ4 k4 sl4 _ _ o4 => ?_
      have f4 := f3.tg sl4 o4
      exact ⟨O, F0, H0, F3, env4, _, f4, k4, fun env5 h5 F5 H5 σ5 f5 g5 => ⟨F5, env5, f5, g2.trans (s3.grow.trans g5), h5⟩, hr, he⟩
  · have e : i = ds.length := by omega
    subst e
    rw [List.drop_length] at h2
    exact .inl ⟨(wk.up g2 H2 f2.vw.frz).2, hn env2 h2 F2 H2 σ2 f2 (s1.grow.trans g2)⟩
/-! ### while -/
def whL (wt : WT) (body : WS) (C : DC) : Nat → En → Prop
  | 0, _ => False
  | n + 1, env => wt (vwE env) (fun k => if k = true then body env { C with nx := fun env' => whL wt body C n env' } else C.nx env) C.ex
def wsWhile (wt : WT) (body : WS) : WS := fun env C => ∃ n, whL wt body C n env
theorem s_while {t : Expr} {body : List Stmt} {wt : WT} {w : WS} (gd : Good X c) (ht : DT X c t wt) (hb : DSs X c body w) : DS X c (.While t body [] pos) (wsWhile wt w) := PS.imp (ps_while gd.own ht hb) fun D σ H ⟨O, F0, H0, F, env, C, f, ⟨n, hw⟩, hn, hr, he⟩ => by
  refine ⟨fun m σ2 H2 => ∃ F2 env2, Frm c O F0 H0 F2 H2 σ2 env2 ∧ Same F F2 ∧ whL wt w C m env2, ⟨n, F, env, f, Same.refl F, hw⟩, ?_⟩
  rintro m σ2 H2 ⟨F2, env2, f2, g2, h2⟩
  cases m with
  | zero => exact h2.elim
  | succ m =>
    obtain ⟨fps, ow⟩ := f2.ow
    obtain ⟨v, sl, s, g⟩ := f2.view ow
    refine ⟨O, _, vwE env2, _, C.ex, v, sl, h2, fun k hk F3 H3 v3 s3 => ?_, he.up s⟩
    obtain ⟨f3, _, _, gb⟩ := f2.back ow v3 s3
    cases k with
    | false => exact hn env2 hk _ H3 σ2 f3 (g2.trans gb)
    | true => exact ⟨fun σ4 H4 => ∃ F4 env4, Frm c O F0 H0 F4 H4 σ4 env4 ∧ Same F F4 ∧ whL wt w C m env4, fun σ4 H4 ⟨F4, env4, a1, a2, a3⟩ => ⟨m, Nat.lt_succ_self m, F4, env4, a1, a2, a3⟩, O, F0, H0, _, env2, _, f3, hk, fun env5 h5 F5 H5 σ5 f5 g5 => ⟨F5, env5, f5, g2.trans (gb.trans g5), h5⟩, hr, he⟩
/-! ### raise -/
structure ExcOk (K : PySem.W.Frag) (mg : Str → Option Value) (x : Str) : Prop where
  ex : ∃ C, mg x = some (.ref C) ∧ PySem.W.excIn K C [.type "ValueError", .type "Exception", .type "BaseException", .type "object"] "ValueError.__new__" = true ∧ PySem.W.keepIn K (.ref C) = true ∧
    PySem.W.subIn K (.ref C) (.type "BaseException") = some true ∧ PySem.W.typeIn K (.ref C) = some (.type "type")
@[simp] def wsRaise (x : Str) : WS := fun _ C => C.ex x
theorem s_raise {x m : Str} {j : Nat} {p p2 cpos : Pos} (gd : Good X c) (h : ExcOk X.K X.mg x) (hg : Gl X x := by rfl) (hdb : (x == ("__debug__" : Str)) = false := by decide) : DS X c (.Raise (some (.Call (.Name x p) [.Constant (.str m) j p2] [] cpos)) none pos) (wsRaise x) := by
  obtain ⟨C, h1, h2, h3, h4, h5⟩ := h.ex
  refine PS.imp (L2N.ps_raise gd.calm gd.tk (L2N.pmk_own PySem.F.excBase_ValueError h2 h1 h3 (raises_own h4 h5) hg hdb)) fun D σ H ⟨O, F0, H0, F, env, K, f, hw, hn, hr, he⟩ => ?_
  exact he x hw F H C f.vw f.st (by rw [gd.mg]; exact h1)
/-! ### pop -/
@[simp] def wsPop (i j : Nat) : WS := fun env C => ∃ ds d, env[j]? = some (.own (ds ++ [d])) ∧ C.nx ((env.set j (.own ds)).set i (.dat d))
theorem s_pop {i j : Nat} {x y : Str} {p p2 px cpos : Pos} (hN' : X.N.Nodup) (hi : X.N[i]? = some y := by rfl) (hy : Loc X.env.scope y := by first | exact Or.inl rfl | exact Or.inr rfl) (hf : X.fn y = true ∨ X.env.scope.names.lookup y = some .local := by first | exact .inl rfl | exact .inr rfl)
    (hN : X.N[j]? = some x := by rfl) (hv : Vis X.env.scope x := by first | exact Or.inl rfl | exact Or.inr (Or.inl rfl) | exact Or.inr (Or.inr rfl)) (hd : (x == ("__debug__" : Str)) = false := by decide) (hcd : (x == ("__classdict__" : Str)) = false := by decide)
    (hbase : attributeBase (.Name x p) "pop" X.env (eval (.Name x p) X.env) = eval (.Name x p) X.env := by rfl) (hline : (p2.endLine == cpos.line) = true := by rfl) (hs : swapsWith (.Call (.Attribute (.Name x p) "pop" p2) [] [] cpos) (some (.Name y px)) pos.line X.env = pure false := by rfl) :
    DS X c (.Assign [.Name y px] (.Call (.Attribute (.Name x p) "pop" p2) [] [] cpos) pos) (wsPop i j) :=
  PS.imp (ps_set hN' hi hy (pe_bm0 PySem.F.plainAttrs_list PySem.F.slot_list_pop PySem.F.type_list_pop mt_pop (pe_var hN hv hd hcd) hbase hline) hs hf) fun D σ H ⟨O, F0, H0, F, env, C, f, ⟨ds, d, hj, hw⟩, hn, hr, he⟩ => by
  obtain ⟨fps, ow⟩ := f.ow
  obtain ⟨q, xs, z1, z2, r⟩ := f.own1 ow hj
  have hl := r.length
  rw [List.length_append, List.length_singleton] at hl
  obtain ⟨v, e1, r1⟩ := r.get (i := xs.length - 1) (d := d) (by rw [List.getElem?_append_right (by omega), show xs.length - 1 - ds.length = 0 by omega] <;> rfl)
  refine ⟨.ref q, z1, .inl ⟨rfl, xs, SqL.of z2⟩, q, xs, v, rfl, rfl, z2, e1, ?_⟩
  have r2 : RpL F xs.dropLast ds := by
    have := r.take ds.length
    rw [List.take_left' rfl] at this
    rw [List.dropLast_eq_take, show xs.length - 1 = ds.length by omega]
    exact this
  exact hn _ hw F _ _ ((f.upd1 ow hj z1 r2).setD r1) (Same.refl F)
@[simp] def wsPop0 (i j : Nat) : WS := fun env C => ∃ ds d, env[j]? = some (.own (d :: ds)) ∧ C.nx ((env.set j (.own ds)).set i (.dat d))
theorem s_pop0 {i j k : Nat} {x y : Str} {p p2 p3 px cpos : Pos} (hN' : X.N.Nodup) (hi : X.N[i]? = some y := by rfl) (hy : Loc X.env.scope y := by first | exact Or.inl rfl | exact Or.inr rfl) (hf : X.fn y = true ∨ X.env.scope.names.lookup y = some .local := by first | exact .inl rfl | exact .inr rfl)
    (hN : X.N[j]? = some x := by rfl) (hv : Vis X.env.scope x := by first | exact Or.inl rfl | exact Or.inr (Or.inl rfl) | exact Or.inr (Or.inr rfl)) (hd : (x == ("__debug__" : Str)) = false := by decide) (hcd : (x == ("__classdict__" : Str)) = false := by decide)
    (hbase : attributeBase (.Name x p) "pop" X.env (eval (.Name x p) X.env) = eval (.Name x p) X.env := by rfl) (hline : (p2.endLine == cpos.line) = true := by rfl) (hs : swapsWith (.Call (.Attribute (.Name x p) "pop" p2) [.Constant (.int 0) k p3] [] cpos) (some (.Name y px)) pos.line X.env = pure false := by rfl) :
    DS X c (.Assign [.Name y px] (.Call (.Attribute (.Name x p) "pop" p2) [.Constant (.int 0) k p3] [] cpos) pos) (wsPop0 i j) :=
  PS.imp (ps_set hN' hi hy (pe_bm PySem.F.plainAttrs_list PySem.F.slot_list_pop PySem.F.type_list_pop mt_popAt (pe_var hN hv hd hcd) (pa_cons pe_int pa_nil) hbase (by rfl) hline) hs hf) fun D σ H ⟨O, F0, H0, F, env, C, f, ⟨ds, d, hj, hw⟩, hn, hr, he⟩ => by
  obtain ⟨fps, ow⟩ := f.ow
  obtain ⟨q, xs, z1, z2, r⟩ := f.own1 ow hj
  cases r with
  | @cons v vs _ _ r1 r2 =>
    refine ⟨.ref q, z1, .inl ⟨rfl, _, SqL.of z2⟩, q, v :: vs, 0, 0, v, rfl, rfl, z2, by decide, by decide, ?_, rfl, ?_⟩
    · unfold seqIndex?
      simp
    · exact hn _ hw F _ _ ((f.upd1 ow hj z1 r2).setD r1) (Same.refl F)
/-! ### a def by its body -/
@[simp] def startE (N : List Str) (as : List Sl) : En := as ++ List.replicate (N.length - as.length) .un
theorem ArgR.sls {O : List Addr} {F : Hp} : ∀ {vs : List V} {as : List Sl} (i : Nat), ArgR O F vs as → match as[i]? with
    | some (.dat d) => ∃ v, vs[i]? = some v ∧ Rp F v d
    | some .dice => ∃ p, p ∈ O ∧ vs[i]? = some (.ref p)
    | some (.own _) => False
    | some (.own2 _) => False
    | _ => True
  | [], [], i, _ => by simp
  | v :: vs, .dat d :: as, 0, h => ⟨v, rfl, h.1⟩
  | v :: vs, .dice :: as, 0, h => by
    obtain ⟨⟨p, h1, h2⟩, _⟩ := h
    exact ⟨p, h1, by rw [h2] <;> rfl⟩
  | v :: vs, .dat d :: as, i + 1, h => ArgR.sls i h.2
  | v :: vs, .dice :: as, i + 1, h => ArgR.sls i h.2
  | [], _ :: _, _, h => h.elim
  | _ :: _, [], _, h => h.elim
  | _ :: _, .un :: _, _, h => h.elim
  | _ :: _, .own _ :: _, _, h => h.elim
  | _ :: _, .own2 _ :: _, _, h => h.elim
theorem frm_start {c : Ctx} {O : List Addr} {F H : Hp} {N : List Str} {vs : List V} {as : List Sl} (v : Vw c.T O F H) (r : ArgR O F vs as) : Frm c O F H F H (start N vs) (startE N as) := by
  have hl := r.length
  have atE : ∀ (i : Nat) (s : Sl), (startE N as)[i]? = some s → as[i]? = some s ∨ (as.length ≤ i ∧ s = .un) := fun i s h => by
    unfold startE at h
    by_cases hi : i < as.length
    · rw [List.getElem?_append_left hi] at h
      exact .inl h
    · rw [List.getElem?_append_right (by omega), List.getElem?_replicate] at h
      split at h
      · exact .inr ⟨by omega, (Option.some.inj h).symm⟩
      · cases h
  refine ⟨v, ⟨?_, fun i => ?_⟩, ⟨fun _ => [], fun i s e ho => ?_, fun i s e ho a ha => (by cases ha), fun i j s t _ _ _ _ _ a ha => (by cases ha)⟩, Stp.refl O F H⟩
  · unfold startE L2.start
    rw [List.length_append, List.length_append, List.length_map, List.length_replicate, List.length_replicate, hl]
  · cases e : (startE N as)[i]? with
    | none => trivial
    | some s =>
      rcases atE i s e with h | ⟨_, rfl⟩
      · have q := r.sls i
        have hi : i < vs.length := by
          have := (List.getElem?_eq_some_iff.mp h).1
          omega
        have hs : (start N vs)[i]? = (vs[i]?).map some := by
          unfold L2.start
          rw [List.getElem?_append_left (by simpa using hi), List.getElem?_map]
        rw [h] at q
        cases s with
        | dat d =>
          obtain ⟨u, q1, q2⟩ := q
          exact ⟨u, by rw [hs, q1] <;> rfl, q2⟩
        | dice =>
          obtain ⟨p, q1, q2⟩ := q
          exact ⟨p, q1, by rw [hs, q2] <;> rfl⟩
        | _ => trivial
      · trivial
  · rcases atE i s e with h | ⟨_, rfl⟩
    · have q := r.sls i
      rw [h] at q
      cases s with
      | own _ => exact q.elim
      | own2 _ => exact q.elim
      | _ => cases ho
    · cases ho
end
/-- THE RULE for a def -/
theorem fn_data {P : Program} {w : World} {K : PySem.W.Frag} {mg : Str → Option Value} {base : Heap} {T : List (Addr × Str)} {k : Nat} {x qual : Str} {params : Arguments} {body : List Stmt} {scope : Scope} {kws : List (Str × V)} {f : Addr} {fd : FuncData} {N ps : List Str} {G : FS} {ws : WS}
    (F : FunD K x qual params body scope [] kws f fd) (S : FnScope N ps scope) (len : ∀ as Q E, G as Q E → as.length = ps.length)
    (hb : ∀ (cdv : Value) (A : Around) (outer : List Env) (s : Shared) (H : Hp) (E : XK), Good (cxOf (L2N.CX P w) P w K mg base N qual scope f cdv A outer s H E) ⟨T, mg, E⟩ → Room k (A.deeper (envOfC qual scope s.heap.objs.size f cdv)) → DSs (cxOf (L2N.CX P w) P w K mg base N qual scope f cdv A outer s H E) ⟨T, mg, E⟩ body ws)
    (hG : ∀ as Q E, G as Q E → ws (startE N as) ⟨fun _ => Q .none, Q, E⟩) : FnOk P w K mg base (L2N.CX P w) (k + 1) f fd ps (spP T mg G) := by
  refine F.ok S (fun vs H Q E ⟨O, F1, as, QD, QE, _, r, g, _⟩ => by rw [r.length]; exact len _ _ _ g) fun cdv A outer s H vs Q E hr h => ?_
  obtain ⟨O, F1, as, QD, QE, vw, r, g, hq, he⟩ := h
  refine ⟨_, hb cdv A outer s H E ⟨rfl, rfl, ?_, ?_, ?_⟩ hr, ?_⟩
  · exact L2N.passes_call (L2N.takes_of rfl rfl rfl rfl) fun _ _ _ _ h => h
  · exact L2N.takes_of rfl rfl rfl rfl
  · exact passes_of rfl
  · exact ⟨O, F1, H, F1, startE N as, ⟨fun _ => QD .none, QD, QE⟩, frm_start vw r, hG as QD QE g, fun env' hC F' H' σ' f' _ => hq _ hC F' H' _ f'.vw f'.st .non, hq, he⟩
end SD

namespace SD
open PySem PySem.Spec PyProof.Rows L2 PySem.W PySem.Calls
/-! ### sorted(xs) of alike data, empty tuples too -/
section
variable {prog : Program} {w : World} {A : Around} {E : Value → Shared → Prop} {s : Shared}
theorem oneLt_tups {xs ys : List PyData} {a b : Value} {as bs : List Addr} {Q : Bool → Shared → Prop} (ra : Reads s.heap a (.tuple xs) as) (rb : Reads s.heap b (.tuple ys) bs) (hal : alikeAll xs ys = true)
    (hu : A.units + min (PyData.tuple xs).depth (PyData.tuple ys).depth < cLine) (hq : Q (dataLt (.tuple xs) (.tuple ys)) s) : wpAny (model prog w) A (oneLt' true a b) Q E s := by
  cases ra with
  | @tuple l o vs n _ as₁ h1 h2 h3 h4 =>
    cases rb with
    | @tuple l' o' vs' n' _ bs₁ k1 k2 k3 k4 =>
      have n1 : vs.size = xs.length := by simpa using SeqAt.ReadsAll.length _ _ _ h4
      have n2 : vs'.size = ys.length := by simpa using SeqAt.ReadsAll.length _ _ _ k4
      rw [dataLt_tuple, ← firstLt_toks xs ys hal, ← n1, ← n2] at hq
      rw [oneLt'_eq]
      simp only [if_true]
      refine wpAny_bind (wpAny_cRoomFor (SeqAt.room_here hu) ?_)
      obtain ⟨cls, dd, data, sl⟩ := o
      obtain ⟨cls2, dd2, data2, sl2⟩ := o'
      simp only at h2 h3 k2 k3
      subst h2 h3 k2 k3
      refine wpAny_bind (wpAny_callSpecialIfBound?_slot (T := "tuple") ⟨_, h1, rfl⟩ F.slot_tuple_lt (call_meets F.slot_tuple_lt ⟨_, h1, rfl⟩ F.entry_tuple_lt (F.args_tuple_lt_2 _ _) (SeqAt.tuple_ltAt l l' vs vs' n n' dd dd2 sl sl2 (SeqAt.pairEq xs ys) (fun j => dataLt (xs.getD j .none) (ys.getD j .none))) ⟨h1, k1, fun j j1 j2 => ?_, fun j j1 j2 hj => ?_, ?_⟩))
      · have := eqAt_alikeAll xs ys A.in1 s vs.toList vs'.toList _ _ h4 k4 hal (SeqAt.room_in hu) j (by simpa using j1) (by simpa using j2)
        simpa using this
      · have := rcLt_alikeAll xs ys A.in1 s vs.toList vs'.toList _ _ h4 k4 hal (SeqAt.room_in hu) j (by simpa using j1) (by simpa using j2) hj
        simpa using this
      · exact wpAny_truthy_bool hq
def full : PyData → Bool
  | .tuple (_ :: _) => true
  | _ => false
theorem firsts_any : ∀ {vs : List Value} {ds : List PyData} {Q : List (Option Value) → Shared → Prop}, EachIs (fun v d => ∃ as, Reads s.heap v d as) vs ds → (∀ d ∈ ds, ∃ xs, d = .tuple xs) → (∀ fs : List (Option Value), fs.map (fun o => o.isSome) = ds.map full → Q fs s) → wpAny (model prog w) A (vs.mapM firstOfTuple') Q E s
  | _, _, Q, .nil, _, h => by
    rw [List.mapM_nil]
    exact wpAny_pure (h [] rfl)
  | _, _, Q, .cons (b := d) ⟨as, r⟩ t, ht, h => by
    obtain ⟨xs, rfl⟩ := ht d (List.mem_cons_self ..)
    rw [List.mapM_cons]
    refine wpAny_bind ?_
    rw [kas_first_eq]
    cases r with
    | @tuple a o vs n _ _ ho hc hd hr =>
      refine wpAny_bind (Looks.here (show Looks (model prog w) s.heap (typeOf (.ref a)) o.cls from (Looks.ld ho).andThen .now) ?_)
      rw [hc, if_neg (by first | decide | simp)]
      refine wpAny_bind (listItems_at ho hd (wpAny_pure ?_))
      refine wpAny_bind (firsts_any t (fun d hd => ht d (List.mem_cons_of_mem _ hd)) fun fs hf => wpAny_pure (h _ ?_))
      rw [List.map_cons, List.map_cons, hf]
      refine congrArg (· :: _) ?_
      have hz : vs[0]? = vs.toList[0]? := (Array.getElem?_toList ..).symm
      rw [hz]
      cases q : vs.toList with
      | nil =>
        rw [q] at hr
        cases hr
        rfl
      | cons f fr =>
        rw [q] at hr
        cases hr
        rfl
theorem kind_any {vs : List Value} {ds : List PyData} {Q : SortKind → Shared → Prop} (h2 : 2 ≤ vs.length) (e : EachIs (fun v d => ∃ as, Reads s.heap v d as) vs ds) (ht : ∀ d ∈ ds, ∃ xs, d = .tuple xs) (hn : ds.all full = false)
    (h : Q (if (ds.head?.map full).getD false then general' else oneType') s) : wpAny (model prog w) A (keyKind' vs.toArray) Q E s := by
  rw [keyKind'_eq, List.mapM_toArray, map_eq_pure_bind]
  refine wpAny_bind (wpAny_bind (firsts_any e ht fun fs hf => wpAny_pure ?_))
  have hall : (fs.toArray.all fun x => x.isSome) = false := by
    rw [List.all_toArray]
    have e1 : fs.all (fun x => x.isSome) = (fs.map fun o => o.isSome).all id := by rw [List.all_map]; rfl
    rw [e1, hf, List.all_map]
    exact hn
  rw [if_neg (by rw [hall]; exact Bool.false_ne_true)]
  have hhd : (fs.toArray[0]?.bind id).isSome = (ds.head?.map full).getD false := by
    rw [List.getElem?_toArray]
    cases fs with
    | nil => cases ds with
      | nil => rfl
      | cons d ds => cases hf
    | cons f fr => cases ds with
      | nil => cases hf
      | cons d ds =>
        have := (List.cons.inj hf).1
        simpa using this
  rw [hhd]
  cases hb : (ds.head?.map full).getD false with
  | true =>
    rw [hb] at h
    simp only [if_true] at h ⊢
    exact wpAny_pure h
  | false =>
    rw [hb] at h
    simp only [Bool.false_eq_true, if_false] at h ⊢
    rw [oneTypeOnly'_eq, List.mapM_toArray, map_eq_pure_bind]
    refine wpAny_bind (wpAny_bind (wpAny_bind (kas_mapM (r := Value.type "tuple") _ (fun v hv Q' hq => ?_) (wpAny_pure ?_))))
    · obtain ⟨d, hd, as, r⟩ := e.left v hv
      obtain ⟨xs, rfl⟩ := ht d hd
      exact (looks_reads r).here hq
    · obtain ⟨v₁, rest, rfl⟩ : ∃ v₁ rest, vs = v₁ :: rest := by
        cases vs with
        | nil => simp at h2
        | cons a b => exact ⟨a, b, rfl⟩
      have hall : ((List.map (fun _ => Value.type "tuple") (v₁ :: rest)).toArray.all fun x => x == Value.type "tuple") = true := by
        simp only [List.all_toArray, List.all_map, List.all_eq_true]
        intro _ _
        rfl
      have h0 : (List.map (fun _ => Value.type "tuple") (v₁ :: rest)).toArray[0]? = some (Value.type "tuple") := by simp
      rw [h0]
      simp only [hall, if_true]
      exact wpAny_pure (wpAny_pure h)
theorem sortsAt_any {vs : List Value} {ds : List PyData} (e : EachIs (fun v d => ∃ as, Reads s.heap v d as) vs ds) (hal : AllAlike ds) (hk : ∀ d ∈ ds, d ≠ .none) (hu : ∀ d, d ∈ ds → A.units + d.depth < cLine) : SortsAt prog w A s (dataKind s.heap ds) vs := by
  by_cases ht : ∃ d ∈ ds, ∃ xs, d = PyData.tuple xs
  · obtain ⟨d0, hd0, xs0, e0⟩ := ht
    have all : ∀ d ∈ ds, ∃ xs, d = .tuple xs := fun d hd => by
      have := hal d hd d0 hd0
      rw [e0] at this
      cases d <;> first | exact ⟨_, rfl⟩ | (simp [alike] at this)
    by_cases hf : ds.all full = true
    · refine SortsAt.data e hal (.inl fun d hd => ?_) hu
      have q := List.all_eq_true.mp hf d hd
      obtain ⟨xs, rfl⟩ := all d hd
      cases xs with
      | nil => cases q
      | cons x r => exact ⟨x, r, rfl⟩
    · have hf' : ds.all full = false := Bool.eq_false_iff.mpr hf
      have room : ∀ {d d' : PyData}, d ∈ ds → A.units + min d.depth d'.depth < cLine := fun {d d'} hd => Nat.lt_of_le_of_lt (Nat.add_le_add_left (Nat.min_le_left _ _) _) (hu d hd)
      refine ⟨fun v hv => ?_, (if (ds.head?.map full).getD false then general' else oneType'), ?_, fun h2 E Q hq => kind_any h2 e all hf' hq⟩
      · obtain ⟨d, hd, as, r⟩ := e.left v hv
        exact ⟨_, dataKind_some hal hd r⟩
      · intro E x y a b Q ha hb hq
        obtain ⟨d, as, hd, ra, rfl⟩ := dataKind_inv ha
        obtain ⟨d', as', hd', rb, rfl⟩ := dataKind_inv hb
        have hdd := hal d hd d' hd'
        have hroom := room (d' := d') hd
        split
        · show wpAny (model prog w) A (oneLt' false x y) Q E s
          exact oneLt_alike (fun z => nomatch z) ra rb hdd (hk d hd) hroom hq
        · rw [keyLt'_oneType]
          obtain ⟨xs, rfl⟩ := all d hd
          obtain ⟨ys, rfl⟩ := all d' hd'
          exact oneLt_tups ra rb (by simpa [alike] using hdd) hroom hq
  · exact SortsAt.data e hal (.inr fun d hd => ⟨hk d hd, fun xs z => ht ⟨d, hd, xs, z⟩⟩) hu
end
end SD

namespace SD
open PySem PySem.Spec PyProof.Rows L2
open PySem.W (AllAlike EachIs alike dataLe)
@[simp] abbrev gSub : D → D → (D → Prop) → Prop := gI0 fun i j => .int (i - j)
@[simp] abbrev gMod : D → D → (D → Prop) → Prop := gI (fun _ j => 0 < j) fun i j => .int (i % j)
@[simp] abbrev gDiv : D → D → (D → Prop) → Prop := gI CDiv fun i j => .int (i / j)
@[simp] abbrev gPow : D → D → (D → Prop) → Prop := gI CPow fun i j => .int (i ^ j.toNat)
@[simp] abbrev gMulI : D → D → (D → Prop) → Prop := gI CMul fun i j => .int (i * j)
section
variable {X : Cx} {c : Ctx} {a b e : Expr} {wa wb : WE} {pos : Pos}
/-- the built-ins that the program's names do not hide -/
structure BM (mg : Str → Option Value) : Prop where
  len : mg "len" = none
  range : mg "range" = none
  zip : mg "zip" = none
  enumerate : mg "enumerate" = none
  sum : mg "sum" = none
  all : mg "all" = none
  any : mg "any" = none
  max : mg "max" = none
  min : mg "min" = none
  abs : mg "abs" = none
  int : mg "int" = none
  bool : mg "bool" = none
  tuple : mg "tuple" = none
  list : mg "list" = none
  str : mg "str" = none
  isinstance : mg "isinstance" = none
  sorted : mg "sorted" = none
  set : mg "set" = none
theorem d_glob {x : Str} {i : Int} (hm : ∃ t, X.mg x = some (.int i t)) (hg : Gl X x := by rfl) (hd : (x == ("__debug__" : Str)) = false := by decide) : DE X c (.Name x pos) (wC (.int i)) := by
  obtain ⟨t, h⟩ := hm
  exact d_const (pe_glob hg h (show RelV (.int i) _ from ⟨t, rfl⟩) hd) fun _ => .int i
/-! ### sorted -/
def rSortD (K : PySem.W.Frag) : List V → Hp → VK → Prop := fun xs H Q => ∃ (a : Addr) (ys : List V) (ds : List D), xs = [.ref a] ∧ SqL K H a ys ∧ DpAll K H ys ds ∧ AllAlike ds ∧ (∀ d ∈ ds, d ≠ .none) ∧ (∀ d ∈ ds, d.depth ≤ 60) ∧
  ∀ p, H p = none → Q (.ref p) (upd H p (.lst (((ys.zip ds).mergeSort (dataLe false Prod.snd)).map Prod.fst)))
theorem each_vals {ds : List D} : ∀ {ys : List V} {us : List Value}, Vals ys us → ys.length = ds.length → EachIs (fun u (b : V × D) => RelV b.1 u) us (ys.zip ds) := by
  intro ys us r
  induction r generalizing ds with
  | nil => intro _; exact .nil
  | cons h t ih =>
    intro hl
    cases ds with
    | nil => cases hl
    | cons d ds => exact .cons h (ih (Nat.succ.inj hl))
theorem each_reads {h : Heap} : ∀ {us : List Value} {ds : List D} {as : List Addr} {ys : List V}, ReadsAll h us ds as → ys.length = ds.length → EachIs (fun u (b : V × D) => ∃ as, Reads h u b.2 as) us (ys.zip ds)
  | _, _, _, ys, .nil, hl => by
    cases ys with
    | nil => exact .nil
    | cons y ys => cases hl
  | _, _, _, ys, .cons h t, hl => by
    cases ys with
    | nil => cases hl
    | cons y ys => exact .cons ⟨_, h⟩ (each_reads t (Nat.succ.inj hl))
theorem vals_each : ∀ {us : List Value} {bs : List (V × D)}, EachIs (fun u (b : V × D) => RelV b.1 u) us bs → Vals (bs.map Prod.fst) us
  | _, _, .nil => .nil
  | _, _, .cons h t => .cons h (vals_each t)
theorem dpall_len {K : PySem.W.Frag} {H : Hp} : ∀ {ys : List V} {ds : List D}, DpAll K H ys ds → ys.length = ds.length
  | _, _, .nil => rfl
  | _, _, .cons _ t => congrArg Nat.succ (dpall_len t)
theorem cr_sortD {k : Nat} (hr : Room k X.A) : CallR X (.builtin "sorted") (rSortD X.K) := by
  intro pins s σ H vs us Q I r h
  obtain ⟨a, ys, ds, rfl, hs, hd, hal, hn, hdep, q⟩ := h
  obtain ⟨its, rv, hl, hz⟩ := I.list hs
  rw [Vals.ref1 r]
  have hlen := dpall_len hd
  obtain ⟨as, rd⟩ := Dp.readsAll I ds ys its hd rv
  have e1 := each_vals rv hlen
  have e2 := each_reads (ys := ys) rd hlen
  have hmap : (ys.zip ds).map Prod.snd = ds := List.map_snd_zip (by omega)
  have e2' : EachIs (fun u (b : V × D) => ∃ as, Reads (PySem.W.sortingHeap (PySem.W.copyHeap s.heap its) (s.heap.objs.size + 1) its) u b.2 as) its (ys.zip ds) := e2.mono fun _ _ ⟨as, r⟩ => ⟨as, PyProof.Rows.Reads.keeps (fun _ _ => PySem.W.sorting_copy_old) r⟩
  have hu := hr.units
  have A2 : (X.A.in1.in1).units = X.A.units + 2 := rfl
  refine PySem.W.sorted_vals hl.isList (sortsAt_any (s := { s with heap := PySem.W.sortingHeap (PySem.W.copyHeap s.heap its) (s.heap.objs.size + 1) its }) (ds := (ys.zip ds).map Prod.snd) (PySem.W.each_map (R := fun v d => ∃ as, Reads (PySem.W.sortingHeap (PySem.W.copyHeap s.heap its) (s.heap.objs.size + 1) its) v d as) Prod.snd e2') (by rw [hmap]; exact hal) (by rw [hmap]; exact hn) (by rw [hmap]; intro d hd; have := hdep d hd; omega)) (by rw [← rv.length]; exact hz) ?_
  have e3 := PySem.W.sortVals_data (R := fun u (b : V × D) => RelV b.1 u) (enc := Prod.snd) false e1 e2' (by rw [hmap]; exact hal)
  have hv := vals_each e3
  obtain ⟨ep, he'⟩ := PyProof.Rows.sortedAll_at s.heap its (PySem.W.sortVals (PySem.W.dataKind (PySem.W.sortingHeap (PySem.W.copyHeap s.heap its) (s.heap.objs.size + 1) its) ((ys.zip ds).map Prod.snd)) false its its).toArray
  refine ⟨.ref _, upd H (s.heap.objs.size + 1) (.lst (((ys.zip ds).mergeSort (dataLe false Prod.snd)).map Prod.fst)), I.laid (t' := s.toks) (fun _ _ => PyProof.Rows.sortedAll_old) (Nat.le_succ _) ⟨?_, _, ep, hv, he'⟩, rfl, q _ (I.hok.fresh (Nat.le_succ _))⟩
  rw [List.length_map, List.length_mergeSort, List.length_zip, hlen, Nat.min_self]
  omega
def sortD (ds : List D) : List D := ds.mergeSort (dataLe false id)
def gSorted : List D → (List D → Prop) → Prop
  | [.list ds], Q => AllAlike ds ∧ (∀ d ∈ ds, d ≠ .none) ∧ (∀ d ∈ ds, d.depth ≤ 60) ∧ Q (sortD ds)
  | _, _ => False
theorem rpl_zip {F : Hp} : ∀ {ys : List V} {ds : List D}, RpL F ys ds → ∀ p ∈ ys.zip ds, Rp F p.1 p.2
  | _, _, .nil, p, h => by cases h
  | _, _, .cons h t, p, hp => by
    rcases List.mem_cons.mp hp with rfl | hp
    · exact h
    · exact rpl_zip t p hp
theorem rpl_pairs {F : Hp} : ∀ {zs : List (V × D)}, (∀ p ∈ zs, Rp F p.1 p.2) → RpL F (zs.map Prod.fst) (zs.map Prod.snd)
  | [], _ => .nil
  | z :: zs, h => .cons (h z List.mem_cons_self) (rpl_pairs fun p hp => h p (List.mem_cons_of_mem _ hp))
theorem rpl_sort {F : Hp} {ys : List V} {ds : List D} (r : RpL F ys ds) : RpL F (((ys.zip ds).mergeSort (dataLe false Prod.snd)).map Prod.fst) (sortD ds) := by
  have e : sortD ds = ((ys.zip ds).mergeSort (dataLe false Prod.snd)).map Prod.snd := by
    unfold sortD
    have q := List.map_mergeSort (r := dataLe false Prod.snd) (s := dataLe false id) (f := Prod.snd) (l := ys.zip ds) (fun a _ b _ => rfl)
    rw [q, List.map_snd_zip (by have := r.length; omega)]
  rw [e]
  exact rpl_pairs fun p hp => rpl_zip r p ((List.mergeSort_perm _ _).mem_iff.mp hp)
theorem dc_sorted : DCallL (rSortD X.K) gSorted := by
  intro T O F H xs ds QD Q v r hg hq
  unfold gSorted at hg
  split at hg
  · obtain ⟨u, rfl, h⟩ := r.single
    cases h with
    | lst h1 h2 => exact ⟨_, _, _, rfl, SqL.of (v.frz _ _ h1), h2.dp v.frz, hg.1, hg.2.1, hg.2.2.1, fun p hp => lay_own v (rpl_sort h2) hg.2.2.2 hq hp⟩
  · exact hg.elim
theorem l_sorted {k : Nat} {p : Pos} (hr : Room k X.A) (hm : X.mg "sorted" = none) (ha : DE X c a wa) (hg : Gl X "sorted" := by rfl) (he : starEach [a] X.env = [(false, eval a X.env)] := by rfl) : DL X c (.Call (.Name "sorted" p) [a] [] pos) (wCL gSorted (waCons wa waNil)) :=
  l_callB (cr_sortD hr) dc_sorted hm bt_sorted (a_cons ha a_nil he) hg (he := he)
/-! ### (..) * n -/
theorem tuple_mul1 (l : Addr) (items : Array Value) (n : Nat) (dd : Option Addr) (sl : Array (Option Value)) (u : Tok) :
    Meets (Builtin.«tuple.__mul__» ⟨[.ref l, .int 1 u], []⟩) (fun _ R s => s.heap.get? l = some { cls := .type "tuple", dict := dd, data := .seq items n, slots := sl } ∧ R (.ok (.ret (Value.ref l))) s) :=
  .of_wp fun prog w A R s h => by
    obtain ⟨hp, g, d, tk, os⟩ := s
    obtain ⟨hl, h⟩ := h
    have f1 := AutoSeq1.idx_int
    wp_walk using AutoSeq1.wpAny_loadPart' hl
    have c1 : (items.isEmpty || (1 : Int) == 1) = true := by simp
    repeat (first
      | (refine wpAny_ite_true (decide_eq_true c1) ?_; wp_walk using AutoSeq1.wpAny_loadPart' hl)
      | (refine wpAny_ite_false (decide_eq_false (by decide)) ?_; wp_walk using AutoSeq1.wpAny_loadPart' hl))
    exact ⟨_, rfl, h⟩
def rRep1 (K : PySem.W.Frag) : R2 := fun x y H Q => ∃ l xs, x = .ref l ∧ y = .int 1 ∧ SqT K H l xs ∧ Q (.ref l) H
theorem op_rep1 : OpR X (binaryOp .Mult) (rRep1 X.K) := by
  intro pins s σ H x y v u Q I rx ry h
  obtain ⟨l, xs, rfl, rfl, hT, q⟩ := h
  cases rx
  obtain ⟨t, rfl⟩ := ry
  obtain ⟨its, r, ⟨⟨cls, dd, data, sl⟩, ho, hc, n, hd⟩, hs⟩ := I.tuple hT
  simp only at hc hd
  subst hc hd
  refine wpAny_binaryOp_repeat_ref (T := "tuple") (U := "int") (by decide) ⟨_, ho, rfl⟩ (fun s' => typeIs_int s' 1 t) noFill_tuple_mul F.fills_int_mul F.slot_int_rmul repeat_tuple F.slot_int_index.lookup
    (call_meets F.slot_int_rmul (typeIs_int s 1 t) F.entry_int_rmul (F.args_int_rmul_2 _ _) (int_rmul_tuple 1 t l its.toArray n dd sl)
      ⟨ho, rfl, ⟨_, ho, rfl⟩, call_meets F.slot_tuple_mul ⟨_, ho, rfl⟩ F.entry_tuple_mul (F.args_tuple_mul_2 _ _) (tuple_mul1 l its.toArray n dd sl t) ⟨ho, ?_⟩⟩)
  exact ⟨.ref l, H, I, rfl, q⟩
@[simp] def gRepT : D → D → (D → Prop) → Prop
  | .tuple x, .int n, Q => x ≠ [] ∧ 1 ≤ n ∧ n ≤ 1000 ∧ x.length ≤ 1000 ∧ Q (.tuple (List.replicate n.toNat x).flatten)
  | _, _, _ => False
theorem dop_repT : DOp (fun x y H Q => rRepT X.K x y H Q ∨ rRep1 X.K x y H Q) gRepT := by
  intro T O F H x y dx dy QD Q v rx ry hg hq
  cases rx with
  | @tup p xs ds h1 r1 => cases ry with
    | int n =>
      have l1 := r1.length
      obtain ⟨g1, g2, g3, g4, g5⟩ := hg
      by_cases h : n = 1
      · subst h
        refine .inr ⟨_, _, rfl, rfl, SqT.of (v.frz _ _ h1), hq _ g5 F H _ v (Stp.refl O F H) ?_⟩
        have e : (List.replicate (1 : Int).toNat ds).flatten = ds := by simp
        rw [e]
        exact .tup h1 r1
      · refine .inl ⟨p, n, xs, rfl, rfl, SqT.of (v.frz _ _ h1), ?_, by omega, g3, by omega, fun t ht => lay_tup v (rpl_rep r1 _) g5 hq ht⟩
        rintro rfl
        cases r1
        exact g1 rfl
    | _ => exact hg.elim
  | _ => cases ry <;> exact hg.elim
theorem d_repT (ha : DE X c a wa) (hb : DE X c b wb) : DE X c (.BinOp a .Mult b pos) (wOp gRepT wa wb) := d_op (OpR.or op_repT op_rep1) dop_repT ha hb
/-! ### tuple(range(..)) -/
@[simp] def gRgT (lo hi : Int) (Q : D → Prop) : Prop := RgOk lo hi ∧ Q (.tuple (rgD lo hi))
@[simp] def wtRng2 (w u : WE) : WE := fun env Q E => w env (fun d => u env (fun d' => ∃ i j, d = .int i ∧ d' = .int j ∧ gRgT i j Q) E) E
theorem d_tupRng2 {p p2 pos2 : Pos} (gd : Good X c) (hm : X.mg "tuple" = none) (hm2 : X.mg "range" = none) (h : DE X c a wa) (h' : DE X c b wb) (hg : Gl X "tuple" := by rfl) (hg2 : Gl X "range" := by rfl) (hs : starEach [a, b] X.env = (false, eval a X.env) :: starEach [b] X.env := by rfl) (hs1 : starEach [b] X.env = (false, eval b X.env) :: starEach [] X.env := by rfl)
    (hs2 : starEach [.Call (.Name "range" p2) [a, b] [] pos2] X.env = (false, eval (.Call (.Name "range" p2) [a, b] [] pos2) X.env) :: starEach [] X.env := by rfl) (hpl : (backTo pos2 (starEach [b] X.env)).any (·.1) = false := by rfl) : DE X c (.Call (.Name "tuple" p) [.Call (.Name "range" p2) [a, b] [] pos2] [] pos) (wtRng2 wa wb) := by
  refine PE.imp (pe_tupRg gd.calm hg hm (prg_2 hg2 hm2 h h' hs hs1 hpl) hs2) ?_
  rintro σ H Q ⟨O, F, env, QD, QE, vw, sl, hw, hq, he⟩
  refine ⟨O, F, env, _, QE, vw, sl, hw, fun d hd F1 H1 v v1 s1 r1 => ?_, he⟩
  refine ⟨O, F1, env, _, QE, v1, sl.up s1.grow, hd, fun d' hd' F2 H2 v' v2 s2 r2 => ?_, he.up s1⟩
  obtain ⟨i, j, rfl, rfl, h1, h2⟩ := hd'
  cases r1
  cases r2
  have s02 := s1.trans s2 v2
  exact ⟨i, j, rfl, rfl, h1, fun q hq' => lay_tup v2 (rpl_rg i j) h2 (fun d hd F3 H3 u v3 s3 r3 => hq d hd F3 H3 u v3 (s02.trans s3 v3) r3) hq'⟩
/-! ### xs.count(x) -/
def rCountD (K : PySem.W.Frag) : V → List V → Hp → VK → Prop := fun x xs H Q => ∃ (u : V) (ds : List D) (d : D), xs = [u] ∧ Dp K H x (.list ds) ∧ Dp K H u d ∧ PyData.plainAll ds = true ∧ d.plain = true ∧ d.depth ≤ 60 ∧ Q (.int ((ds.countP fun y => PyData.eqv y d : Nat) : Int)) H
end
end SD

namespace SD
open PySem PySem.Spec PyProof.Rows L2
/-! ### the script: read by hand -/
section
variable {P : Program} {w : World} {K : PySem.W.Frag} {mg : Str → Option Value} {base : Heap} {T : List (Addr × Str)}
/-- a def of the law that only reads the script -/
structure CallS (P : Program) (w : World) (K : PySem.W.Frag) (mg : Str → Option Value) (base : Heap) (k : Nat) (x : Str) (ps : List Str) (sp : Sp) : Prop where
  ex : ∃ f fd, mg x = some (.ref f) ∧ PySem.W.keepIn K (.ref f) = true ∧ Binds K fd ps [] ∧ FnOk P w K mg base (L2N.CX P w) k f fd ps sp
def spCell (K : PySem.W.Frag) : Sp := fun vs H Q _ => ∃ (l : Addr) (ns : List Int) (k : Nat), vs = [.ref l, .int (k : Nat)] ∧ k < 1000 ∧ ns.length < 1000 ∧ SqL K H l (ns.map V.int) ∧ ∀ (i : Int) (H' : Hp), Same H H' → Q (.int i) H'
def spRounds (K : PySem.W.Frag) : Sp := fun vs H Q _ => ∃ (l : Addr) (ns : List Int) (m : Nat), vs = [.ref l, .int (m : Nat)] ∧ m < 1000 ∧ ns.length < 1000 ∧ SqL K H l (ns.map V.int) ∧
  ∀ (p : Addr) (qs : List Addr) (H' : Hp), (p :: qs).Nodup → Same H H' → H p = none → (∀ q ∈ qs, H q = none) → H' p = some (.lst (qs.map V.ref)) → (∀ q ∈ qs, ∃ c n : Int, H' q = some (.lst [.int c, .int n])) → Q (.ref p) H'
def spScript (K : PySem.W.Frag) (T : List (Addr × Str)) : Sp := fun vs H Q _ => ∃ (a : Addr) (ns : List Int), vs = [.ref a] ∧ ns.length < 1000 ∧ LamX.Tabs T H ∧ SqL K H a (ns.map V.int) ∧ ∀ H', Q (.bl true) H'
theorem sqL_up {H H' : Hp} {a : Addr} {xs : List V} (s : Same H H') (h : SqL K H a xs) : SqL K H' a xs := by
  rcases h with (h | ⟨o, h⟩) | h
  · exact .inl (.inl (s _ _ h))
  · exact .inl (.inr ⟨o, s _ _ h⟩)
  · exact .inr h
theorem dp_ints {H : Hp} : ∀ ns : List Int, DpAll K H (ns.map V.int) (ns.map PyData.int)
  | [] => .nil
  | n :: ns => .cons (.int n) (dp_ints ns)
/-! ### what may be compared -/
def Shp (n : Nat) (d : D) : Prop := d.canLay0 = true ∧ d.depth ≤ n
theorem Shp.ok {n : Nat} {d : D} (h : Shp n d) (hn : n ≤ 64 := by decide) : SeqAt.shaped d = true := by
  unfold SeqAt.shaped
  rw [h.1, Bool.true_and]
  exact decide_eq_true (Nat.le_trans h.2 hn)
theorem Shp.mono {n m : Nat} {d : D} (h : Shp n d) (hn : n ≤ m) : Shp m d := ⟨h.1, Nat.le_trans h.2 hn⟩
theorem shp_int (n : Nat) (i : Int) : Shp n (.int i) := ⟨by simp [PyData.canLay0], by simp [PyData.depth]⟩
theorem shp_bool (n : Nat) (i : Bool) : Shp n (.bool i) := ⟨by simp [PyData.canLay0], by simp [PyData.depth]⟩
theorem shp_none (n : Nat) : Shp n .none := ⟨by simp [PyData.canLay0], by simp [PyData.depth]⟩
theorem shp_str (n : Nat) {x : Str} (h : PyData.strOk x = true) : Shp n (.str x) := ⟨by simp [PyData.canLay0, h], by simp [PyData.depth]⟩
theorem shp_all {n : Nat} : ∀ {ds : List D}, (∀ d ∈ ds, Shp n d) → PyData.canLayAll0 ds = true ∧ PyData.depthAll ds ≤ n
  | [], _ => ⟨by simp [PyData.canLayAll0], by simp [PyData.depthAll]⟩
  | d :: ds, h => by
    have h1 := h d List.mem_cons_self
    have h2 := shp_all fun d hd => h d (List.mem_cons_of_mem _ hd)
    exact ⟨by simp [PyData.canLayAll0, h1.1, h2.1], by rw [PyData.depthAll]; exact Nat.max_le.mpr ⟨h1.2, h2.2⟩⟩
theorem shp_list {n : Nat} {ds : List D} (h : ∀ d ∈ ds, Shp n d) : Shp (n + 1) (.list ds) := by
  have q := shp_all h
  exact ⟨by simp [PyData.canLay0, q.1], by rw [PyData.depth]; exact Nat.succ_le_succ q.2⟩
theorem shp_tup {n : Nat} {ds : List D} (h : ∀ d ∈ ds, Shp n d) : Shp (n + 1) (.tuple ds) := by
  have q := shp_all h
  exact ⟨by simp [PyData.canLay0, q.1], by rw [PyData.depth]; exact Nat.succ_le_succ q.2⟩
theorem shp_ints (n : Nat) (ns : List Int) : ∀ d ∈ ns.map PyData.int, Shp n d := fun d hd => by
  obtain ⟨i, _, rfl⟩ := List.mem_map.mp hd
  exact shp_int n i
theorem atI_at {α : Type} {xs : List α} {i : Int} (h0 : 0 ≤ i) (h1 : i < xs.length) : atI xs i = xs[i.toNat]? := by
  unfold atI ixN
  rw [if_pos h0, if_pos h1]
  rfl
/-! ### _law_cell -/
def tCell (K : PySem.W.Frag) : TS := tSeq (tIfS (tTest (tOp (rEqD K) (tVar 0) (tLst tNil))) (tRet (tOp (rI CMul fun i j => .int (i * j)) (tVar 1) (tC (.int 7919)))) tNext)
  (tRet (tOp (rI0 fun i j => V.int (i + j)) (tOp (rIx K) (tVar 0) (tOp (rI (fun _ j => 0 < j) fun i j => .int (i % j)) (tVar 1) (tCB (fun xs H Q => ∃ x n, xs = [x] ∧ LenV K x H n ∧ Q (.int n) H) (tCons (tVar 0) tNil))))
    (tOp (rI CMul fun i j => .int (i * j)) (tOp (rI CDiv fun i j => .int (i / j)) (tVar 1) (tCB (fun xs H Q => ∃ x n, xs = [x] ∧ LenV K x H n ∧ Q (.int n) H) (tCons (tVar 0) tNil))) (tC (.int 104729)))))
theorem cell_run {vs : List V} {H : Hp} {Q : VK} {E : XK} (h : spCell K vs H Q E) : tCell K { nx := fun _ H' => Q .non H', rt := Q } (start ["script", "k"] vs) H := by
  obtain ⟨l, ns, k, rfl, hk, hn, hs, q⟩ := h
  have s0 : (start ["script", "k"] [V.ref l, V.int (k : Nat)])[0]? = some (some (V.ref l)) := rfl
  have s1 : (start ["script", "k"] [V.ref l, V.int (k : Nat)])[1]? = some (some (V.int (k : Nat))) := rfl
  refine ⟨_, s0, by decide, fun p hp => ?_⟩
  have sm : Same H (upd H p (.lst [])) := fun b o h => by
    rw [upd_ne (ne_of_none h hp)]
    exact h
  have hs' := sqL_up sm hs
  refine ⟨.list (ns.map .int), .list [], .lst hs' (dp_ints ns), .lst (SqL.of upd_same) .nil, (shp_list (n := 0) (shp_ints 0 ns)).ok, rfl, _, rfl, ?_⟩
  dsimp only
  split
  · exact ⟨_, s1, (k : Int), 7919, rfl, rfl, .inr ⟨by decide, by decide⟩, q _ _ sm⟩
  · rename_i hne
    have hpos : 0 < ns.length := by
      cases ns with
      | nil => exact absurd rfl hne
      | cons _ _ => exact Nat.succ_pos _
    have hlen : (ns.map V.int).length = ns.length := List.length_map ..
    have hmod0 : (k : Int) % (ns.length : Nat) < ns.length := Int.emod_lt_of_pos _ (by omega)
    have hmod : ((k : Int) % ((ns.map V.int).length : Nat)).toNat < ns.length := by
      rw [hlen]
      omega
    obtain ⟨x, hx⟩ : ∃ x, atI (ns.map V.int) ((k : Int) % ((ns.map V.int).length : Nat)) = some (V.int x) := by
      refine ⟨ns[((k : Int) % ((ns.map V.int).length : Nat)).toNat], ?_⟩
      have h0 : 0 ≤ (k : Int) % ((ns.map V.int).length : Nat) := by
        rw [hlen]
        omega
      have h1 : (k : Int) % ((ns.map V.int).length : Nat) < (ns.map V.int).length := by
        rw [hlen]
        exact hmod0
      rw [atI_at h0 h1, List.getElem?_map, List.getElem?_eq_getElem hmod]
      rfl
    refine ⟨_, s0, _, s1, _, s0, _, _, rfl, .inl ⟨_, hs', rfl⟩, _, _, rfl, rfl, by rw [hlen]; omega, .inl ⟨_, _, _, _, rfl, rfl, hs', hx, _, s1, _, s0, _, _, rfl, .inl ⟨_, hs', rfl⟩, _, _, rfl, rfl, ⟨by rw [hlen]; omega, by rw [hlen]; omega⟩, _, _, rfl, rfl, .inr ⟨by decide, by decide⟩, _, _, rfl, rfl, q _ _ sm⟩⟩
/-! ### _law_rounds -/
abbrev rLenS (K : PySem.W.Frag) : List V → Hp → VK → Prop := fun xs H Q => ∃ x n, xs = [x] ∧ LenV K x H n ∧ Q (.int n) H
abbrev rMax2 : List V → Hp → VK → Prop := fun xs H Q => ∃ i j, xs = [.int i, .int j] ∧ Q (.int (if j > i then j else i)) H
abbrev rMin2 : List V → Hp → VK → Prop := fun xs H Q => ∃ i j, xs = [.int i, .int j] ∧ Q (.int (if j < i then j else i)) H
def tRounds (K : PySem.W.Frag) : TS := tRet (tLc (iRng1 (tCons (tCB rMax2 (tCons (tC (.int 1)) (tCons (tCB rMin2 (tCons (tVar 1) (tCons (tCB (rLenS K) (tCons (tVar 0) tNil)) tNil))) tNil))) tNil)) (gName 2) tYes
  (tLst (tCons (tCall (spCell K) [] E0 (tCons (tVar 0) (tCons (tVar 2) tNil))) (tCons (tC (.int 0)) tNil))) [2])
theorem rounds_run {vs : List V} {H : Hp} {Q : VK} {E : XK} (h : spRounds K vs H Q E) : tRounds K { nx := fun _ H' => Q .non H', rt := Q } (start ["script", "high", "k"] vs) H := by
  obtain ⟨l, ns, m, rfl, hm, hn, hs, q⟩ := h
  have hlen : (ns.map V.int).length = ns.length := List.length_map ..
  have hst : start ["script", "high", "k"] [V.ref l, V.int (m : Nat)] = [some (V.ref l), some (V.int (m : Nat)), none] := rfl
  rw [hst]
  refine ⟨_, rfl, _, rfl, _, _, rfl, .inl ⟨_, hs, rfl⟩, _, _, rfl, _, _, rfl, _, rfl, ?_, ?_, fun A hA => ?_⟩
  · rw [hlen]
    split <;> split <;> omega
  · rw [hlen]
    split <;> split <;> omega
  generalize hN : (if (if ((ns.map V.int).length : Int) < (m : Int) then ((ns.map V.int).length : Int) else (m : Int)) > 1 then (if ((ns.map V.int).length : Int) < (m : Int) then ((ns.map V.int).length : Int) else (m : Int)) else 1).toNat = N
  have hN1 : N < 1000 := by
    rw [← hN, hlen]
    split <;> split <;> omega
  refine ⟨fun i r H2 => ∃ qs : List Addr, i + r = N ∧ qs.length = i ∧ H2 A = some (.lst (qs.map V.ref)) ∧ (A :: qs).Nodup ∧ Same H H2 ∧ (∀ q ∈ qs, H q = none) ∧ ∀ q ∈ qs, ∃ c n : Int, H2 q = some (.lst [.int c, .int n]), ⟨N, [], by omega, rfl, upd_same, by simp, fun b o h => ?_, fun q hq => (by cases hq), fun q hq => (by cases hq)⟩, ?_⟩
  · rw [upd_ne (ne_of_none h hA)]
    exact h
  rintro i r H2 ⟨qs, e1, e2, e3, e4, e5, e6, e7⟩
  by_cases hi : i < N
  · refine .inr ⟨hi, fun H3 => ∃ qs : List Addr, qs.length = i + 1 ∧ H3 A = some (.lst (qs.map V.ref)) ∧ (A :: qs).Nodup ∧ Same H H3 ∧ (∀ q ∈ qs, H q = none) ∧ ∀ q ∈ qs, ∃ c n : Int, H3 q = some (.lst [.int c, .int n]), fun H3 ⟨qs', z1, z2⟩ => ⟨r - 1, by omega, qs', by omega, z1, z2⟩, ?_⟩
    rintro x H3 ⟨rfl, rfl⟩
    refine ⟨rfl, ?_⟩
    refine ⟨_, rfl, _, rfl, l, ns, i, by rw [Int.zero_add] <;> rfl, by omega, hn, sqL_up e5 hs, fun z H4 s4 => ⟨show 2 ≤ sizeLine by decide, fun p hp => ?_⟩⟩
    have hA4 : H4 A = some (.lst (qs.map V.ref)) := s4 _ _ e3
    have hpA : A ≠ p := ne_of_none hA4 hp
    have hq4 : ∀ q ∈ qs, q ≠ p := fun q hq => by
      obtain ⟨c, n, e⟩ := e7 q hq
      exact ne_of_none (s4 _ _ e) hp
    have hqA : ∀ q ∈ qs, q ≠ A := fun q hq z => by
      subst z
      exact (List.nodup_cons.mp e4).1 hq
    refine ⟨qs.map V.ref, by rw [upd_ne hpA]; exact hA4, by rw [List.length_map, e2, sizeLine_eq]; omega, qs ++ [p], by rw [List.length_append, e2]; rfl, ?_, ?_, fun b o h => ?_, fun q hq => ?_, fun q hq => ?_⟩
    · rw [upd_same, List.map_append]
      rfl
    · obtain ⟨n1, n2⟩ := List.nodup_cons.mp e4
      refine List.nodup_cons.mpr ⟨fun z => ?_, List.nodup_append.mpr ⟨n2, by simp, fun a ha b hb => ?_⟩⟩
      · rcases List.mem_append.mp z with z | z
        · exact n1 z
        · exact hpA (List.mem_singleton.mp z)
      · rw [List.mem_singleton.mp hb]
        exact hq4 a ha
    · have h4 := s4 _ _ (e5 _ _ h)
      have hbA : b ≠ A := fun z => by
        rw [z, hA] at h
        cases h
      rw [upd_ne hbA, upd_ne (ne_of_none h4 hp)]
      exact h4
    · rcases List.mem_append.mp hq with hq | hq
      · exact e6 q hq
      · rw [List.mem_singleton.mp hq]
        cases z : H p with
        | none => rfl
        | some o =>
          rw [s4 _ _ (e5 _ _ z)] at hp
          cases hp
    · rcases List.mem_append.mp hq with hq | hq
      · obtain ⟨c, n, e⟩ := e7 q hq
        exact ⟨c, n, by rw [upd_ne (hqA q hq), upd_ne (hq4 q hq)]; exact s4 _ _ e⟩
      · rw [List.mem_singleton.mp hq, upd_ne fun z => hpA z.symm, upd_same]
        exact ⟨_, _, rfl⟩
  · refine .inl ⟨Nat.not_lt.mp hi, q A qs H2 e4 e5 hA e6 e3 e7⟩
/-! ### law -/
theorem PSs.len {X : Cx} {b : List Stmt} {t : TS} (h : PSs X b t) : PSs X b (fun D σ H => t { D with nx := fun σ' H' => σ'.length = X.N.length → D.nx σ' H' } σ H) :=
  ⟨fun pins s σ H D I z => wpAny_mono (h.run pins s σ H _ I z) (fun r s' q => by
    cases r with
    | next =>
      obtain ⟨σ', H', I', q'⟩ := q
      exact ⟨σ', H', I', q' I'.len⟩
    | _ => exact q) fun _ _ z => z⟩
@[simp] def env0 (n : Nat) : En := (List.replicate n Sl.un).set 1 .dice
def tLaw (K : PySem.W.Frag) (m : Int) (tb : TS) (E : XK) : TS := tSeq (tFor (iList K (tCall (spRounds K) [] E (tCons (tVar 0) (tCons (tC (.int m)) tNil)))) (gName 1) tb) (tRet (tC (.bl true)))
theorem frm_top {c : Ctx} {O : List Addr} {F H : Hp} {σ : St} {q : Addr} (v : Vw c.T O F H) (hq : q ∈ O) (hl : 1 < σ.length) : Frm c O F H F H (σ.set 1 (some (.ref q))) (env0 σ.length) := by
  have at_ : ∀ i s, (env0 σ.length)[i]? = some s → (i = 1 ∧ s = .dice) ∨ s = .un := fun i s h => by
    unfold env0 at h
    by_cases hi : 1 = i
    · subst hi
      rw [List.getElem?_set_self (by rw [List.length_replicate]; exact hl)] at h
      exact .inl ⟨rfl, (Option.some.inj h).symm⟩
    · rw [List.getElem?_set_ne hi, List.getElem?_replicate] at h
      split at h
      · exact .inr (Option.some.inj h).symm
      · cases h
  have no : ∀ i s, (env0 σ.length)[i]? = some s → isOwn s = true → False := fun i s h ho => by
    rcases at_ i s h with ⟨_, rfl⟩ | rfl <;> cases ho
  refine ⟨v, ⟨by unfold env0; rw [List.length_set, List.length_set, List.length_replicate], fun i => ?_⟩, ⟨fun _ => [], fun i s h ho => (no i s h ho).elim, fun i s h ho => (no i s h ho).elim, fun i j s t h ho => (no i s h ho).elim⟩, Stp.refl O F H⟩
  cases e : (env0 σ.length)[i]? with
  | none => trivial
  | some s =>
    rcases at_ i s e with ⟨rfl, rfl⟩ | rfl
    · exact ⟨q, hq, by rw [List.getElem?_set_self hl]⟩
    · trivial
theorem law_run {c : Ctx} {N : List Str} {ws : WS} {vs : List V} {H : Hp} {Q : VK} {E : XK} {m : Nat} (hm : m < 1000) (hN : 1 < N.length) (hW : ws (env0 N.length) ⟨fun _ => True, fun _ => False, fun _ => False⟩) (h : spScript K c.T vs H Q E) :
    tLaw K (m : Nat) (fun D σ H => liftS c ws { D with nx := fun σ' H' => σ'.length = N.length → D.nx σ' H' } σ H) E0 { nx := fun _ H' => Q .non H', rt := Q } (start N vs) H := by
  obtain ⟨a, ns, rfl, hn, ht, hs, q⟩ := h
  have hN2 : (start N [V.ref a]).length = N.length := by
    unfold L2.start
    rw [List.length_append, List.length_map, List.length_replicate]
    show 1 + (N.length - 1) = _
    omega
  refine ⟨V.ref a, rfl, a, ns, m, rfl, hm, hn, hs, fun p qs H1 nd sm hp hqs h1 h2 => ⟨p, rfl, ⟨_, SqL.of h1⟩, ?_⟩⟩
  obtain ⟨np, nq⟩ := List.nodup_cons.mp nd
  have v1 : Vw c.T qs (fun _ => none) H1 := ⟨fun _ _ z => (by cases z), fun _ _ z => (by cases z), ht.ext fun b u hb => sm _ _ hb, fun q hq => ⟨rfl, h2 q hq⟩⟩
  refine ⟨fun i r σ2 H2 => i + r = qs.length ∧ σ2.length = N.length ∧ H2 p = some (.lst (qs.map V.ref)) ∧ ∃ F2, Vw c.T qs F2 H2, ⟨qs.length, by omega, hN2, h1, _, v1⟩, ?_⟩
  rintro i r σ2 H2 ⟨e1, e2, e3, F2, v2⟩
  by_cases hi : i < qs.length
  · refine .inr ⟨?_, fun σ3 H3 => σ3.length = N.length ∧ H3 p = some (.lst (qs.map V.ref)) ∧ ∃ F3, Vw c.T qs F3 H3, fun σ3 H3 z => ⟨r - 1, by omega, by omega, z⟩, ?_⟩
    · exact ⟨qs.map V.ref, V.ref qs[i], SqL.of e3, by rw [List.getElem?_map, List.getElem?_eq_getElem hi] <;> rfl⟩
    · rintro x H3 ⟨rfl, y⟩
      have hx := y _ (SqL.of e3)
      rw [List.getElem?_map, List.getElem?_eq_getElem hi] at hx
      cases hx
      have hl : 1 < σ2.length := by omega
      have f := frm_top (c := c) v2 (List.getElem_mem hi) hl
      rw [e2] at f
      refine ⟨qs, F2, H3, F2, _, ⟨fun _ => True, fun _ => False, fun _ => False⟩, f, hW, fun env' _ F' H' σ' f' _ hl' => ⟨hl', ?_, F', f'.vw⟩, fun _ z => z.elim, fun _ z => z.elim⟩
      exact f'.st.same p _ e3 (fun _ z => nomatch z) np
  · exact .inl ⟨⟨_, SqL.of e3, by rw [List.length_map]; omega⟩, q H2⟩
end
end SD

namespace SD
open PySem PySem.Spec PyProof.Rows L2
section
variable {X : Cx} {c : Ctx} {a b e : Expr} {wa wb : WE} {pos : Pos}
/-! ### dice[0], dice[1] -/
@[simp] def wDie (i : Nat) : WE := fun env Q _ => env[i]? = some .dice ∧ ∀ n : Int, Q (.int n)
theorem d_die (i : Nat) {x : Str} {k : Int} {j : Nat} {p p2 : Pos} (hk : k = 0 ∨ k = 1 := by decide) (hN : X.N[i]? = some x := by rfl) (hv : Vis X.env.scope x := by first | exact Or.inl rfl | exact Or.inr (Or.inl rfl) | exact Or.inr (Or.inr rfl)) (hd : (x == ("__debug__" : Str)) = false := by decide)
    (hcd : (x == ("__classdict__" : Str)) = false := by decide) : DE X c (.Subscript (.Name x p) (.Constant (.int k) j p2) pos) (wDie i) := PE.imp (pe_ix ix_seq (pe_var hN hv hd hcd) pe_int (fun _ _ => rfl)) fun σ H Q ⟨O, F, env, QD, QE, vw, sl, ⟨e1, hw⟩, hq, he⟩ => by
  obtain ⟨q, hq1, hq2⟩ := sl.dice e1
  obtain ⟨_, z, n, hz⟩ := vw.dic q hq1
  refine ⟨_, hq2, ?_⟩
  rcases hk with rfl | rfl
  · exact .inl ⟨q, [.int z, .int n], 0, .int z, rfl, rfl, SqL.of hz, rfl, hq _ (hw z) F H _ vw (Stp.refl O F H) (.int z)⟩
  · exact .inl ⟨q, [.int z, .int n], 1, .int n, rfl, rfl, SqL.of hz, rfl, hq _ (hw n) F H _ vw (Stp.refl O F H) (.int n)⟩
theorem Vw.setDie {T : List (Addr × Str)} {O : List Addr} {F H : Hp} (v : Vw T O F H) {q : Addr} (hq : q ∈ O) (z n : Int) : Vw T O F (upd H q (.lst [.int z, .int n])) := by
  obtain ⟨hF, z0, n0, h0⟩ := v.dic q hq
  refine ⟨fun b o h => ?_, v.ntb, fun t ht => ?_, fun r hr => ?_⟩
  · rw [upd_ne fun z => by rw [z, hF] at h; cases h]
    exact v.frz b o h
  · obtain ⟨ps, w1, w2, w3⟩ := v.tab t ht
    refine ⟨ps, by rw [upd_ne fun z => by rw [z, h0] at w1; cases w1]; exact w1, w2, fun ps' cv hc => ?_⟩
    obtain ⟨k, w4, w5⟩ := w3 ps' cv hc
    exact ⟨k, w4, by rw [upd_ne fun z => by rw [z, h0] at w5; exact nomatch w5]; exact w5⟩
  · obtain ⟨w1, k, m, w2⟩ := v.dic r hr
    by_cases h : r = q
    · subst h
      exact ⟨w1, z, n, upd_same⟩
    · exact ⟨w1, k, m, by rw [upd_ne h]; exact w2⟩
theorem Stp.setDie {T : List (Addr × Str)} {O : List Addr} {F H : Hp} (v : Vw T O F H) {q : Addr} (hq : q ∈ O) (o : HO) : Stp O F H F (upd H q o) := by
  obtain ⟨hF, z0, n0, h0⟩ := v.dic q hq
  refine ⟨fun b u h ht ho => ?_, Same.refl F, fun b u h => .inl h, fun b ps h => ⟨ps, ?_⟩, fun b hb h z => ?_⟩
  · rw [upd_ne fun z => ho (by rw [z]; exact hq)]
    exact h
  · rw [upd_ne fun z => by rw [z, h0] at h; cases h]
    exact h
  · by_cases hbq : b = q
    · rw [hbq, upd_same] at z
      cases z
    · rw [upd_ne hbq] at z
      exact h z
/-- dice[k] = e -/
@[simp] def wsDie (i : Nat) (w : WE) : WS := fun env C => env[i]? = some .dice ∧ w env (fun d => ∃ n, d = .int n ∧ C.nx env) C.ex
theorem s_die {i j : Nat} {x : Str} {k : Int} {p p2 tp : Pos} (h : DE X c e wa) (hk : k = 0 ∨ k = 1 := by decide) (hN : X.N[i]? = some x := by rfl) (hv : Vis X.env.scope x := by first | exact Or.inl rfl | exact Or.inr (Or.inl rfl) | exact Or.inr (Or.inr rfl)) (hd : (x == ("__debug__" : Str)) = false := by decide) (hcd : (x == ("__classdict__" : Str)) = false := by decide)
    (ha : ∀ v, assign (.Subscript (.Name x p) (.Constant (.int k) j p2) tp) X.env v = (do
      let ov ← holding [v] (eval (.Name x p) X.env)
      let iv ← holding [v, ov] (eval (.Constant (.int k) j p2) X.env)
      standAt tp
      holding [v, ov, iv] (setItem ov iv v)
      release [v, ov, iv] []) := by intro _; rfl)
    (hs : swapsWithSole [.Subscript (.Name x p) (.Constant (.int k) j p2) tp] e pos.line X.env = pure false := by rfl) (hw : swappedStores [.Subscript (.Name x p) (.Constant (.int k) j p2) tp] e X.env = pure none := by rfl) (h1 : (assignEach [.Subscript (.Name x p) (.Constant (.int k) j p2) tp] X.env).map (·.2) = [assign (.Subscript (.Name x p) (.Constant (.int k) j p2) tp) X.env] := by rfl) :
    DS X c (.Assign [.Subscript (.Name x p) (.Constant (.int k) j p2) tp] e pos) (wsDie i wa) :=
  PS.imp (ps_asg h (pg_sub (pe_var hN hv hd hcd) pe_int set_list ha) hs hw h1) fun D σ H ⟨O, F0, H0, F, env, C, f, ⟨hi, hw⟩, hn, hr, he⟩ => by
  refine ⟨O, F, env, _, C.ex, f.vw, f.sl, hw, fun d hd F1 H1 u v1 s1 r1 => ?_, he.up f.st⟩
  obtain ⟨m, rfl, hC⟩ := hd
  cases r1
  have f1 := f.step v1 s1
  obtain ⟨q, hq1, hq2⟩ := f1.sl.dice hi
  obtain ⟨hF, z, n, hz⟩ := v1.dic q hq1
  refine ⟨.ref q, hq2, ?_⟩
  have go : ∀ z' n' : Int, D.nx σ (upd H1 q (.lst [.int z', .int n'])) := fun z' n' => hn env hC F1 _ σ (f1.step (v1.setDie hq1 z' n') (Stp.setDie v1 hq1 _)) s1.grow
  rcases hk with rfl | rfl
  · exact ⟨q, [.int z, .int n], 0, 0, rfl, rfl, hz, rfl, go m n⟩
  · exact ⟨q, [.int z, .int n], 1, 1, rfl, rfl, hz, rfl, go z m⟩
/-! ### * and // , wide too -/
abbrev CMulA (i j : Int) : Prop := CMul i j ∨ CMulW i j
abbrev CDivA (i j : Int) : Prop := CDiv i j ∨ CDivW i j
@[simp] abbrev gMulA : D → D → (D → Prop) → Prop := gI CMulA fun i j => .int (i * j)
@[simp] abbrev gDivA : D → D → (D → Prop) → Prop := gI CDivA fun i j => .int (i / j)
theorem op_mulA : OpR X (binaryOp .Mult) (rI CMulA fun i j => .int (i * j)) := by
  intro pins s σ H x y v u Q I rx ry ⟨i, j, e1, e2, hc, q⟩
  rcases hc with hc | hc
  · exact op_mul pins s σ H x y v u Q I rx ry ⟨i, j, e1, e2, hc, q⟩
  · exact op_mulW pins s σ H x y v u Q I rx ry ⟨i, j, e1, e2, hc, q⟩
theorem op_divA : OpR X (binaryOp .FloorDiv) (rI CDivA fun i j => .int (i / j)) := by
  intro pins s σ H x y v u Q I rx ry ⟨i, j, e1, e2, hc, q⟩
  rcases hc with hc | hc
  · exact op_fdiv pins s σ H x y v u Q I rx ry ⟨i, j, e1, e2, hc, q⟩
  · exact op_fdivW pins s σ H x y v u Q I rx ry ⟨i, j, e1, e2, hc, q⟩
theorem d_mulA (ha : DE X c a wa) (hb : DE X c b wb) : DE X c (.BinOp a .Mult b pos) (wOp gMulA wa wb) := d_op op_mulA (dop_I fun _ _ _ => .int _) ha hb
theorem d_divA (ha : DE X c a wa) (hb : DE X c b wb) : DE X c (.BinOp a .FloorDiv b pos) (wOp gDivA wa wb) := d_op op_divA (dop_I fun _ _ _ => .int _) ha hb
end
end SD

namespace SD
open PySem PySem.Spec PyProof.Rows L2
section
variable {X : Cx} {c : Ctx} {a b e : Expr} {wa wb : WE} {pos : Pos}
/-! ### [[] for x in range(e)] -/
abbrev WN := En → (Nat → Prop) → (Str → Prop) → Prop
def lift2 (c : Ctx) (w : WN) : TE := fun σ H Q => ∃ O F env QD QE, Vw c.T O F H ∧ Sls O F σ env ∧ w env QD QE ∧
  (∀ n, QD n → ∀ F' H' p ps, Vw c.T O F' H' → Stp O F H F' H' → (p :: ps).Nodup → (∀ a ∈ p :: ps, H a = none ∧ F' a = none) → H' p = some (.lst (ps.map V.ref)) → (∀ q ∈ ps, H' q = some (.lst [])) → ps.length = n → Q (.ref p) H') ∧ c.exc O F H QE
abbrev D2 (X : Cx) (c : Ctx) (e : Expr) (w : WN) : Prop := PE X e (lift2 c w)
@[simp] def wEmp (w : WE) : WN := fun env Q E => w env (fun d => ∃ j : Int, d = .int j ∧ 0 ≤ j ∧ j ≤ 1000 ∧ Q j.toNat) E
theorem l_emp {scope : Scope} {own : List (Str × Nat)} {x : Str} {i : Nat} {p p2 pl px : Pos} (gd : Good X c) (hN : X.N.Nodup) (hm : X.mg "range" = none) (h : DE X c e wa) (ok : BlkOk X.N X.env.scope scope own)
    (hg : ∀ (s : Shared) (H : Hp) (C : Addr) (cl : List (Str × Addr)) (fp : List Addr), PG (X.blk s H scope (compEnvC scope cl C X.env) fp) (.Name x px) (gName i)) (ho : own.map (·.2) = [i]) (hg' : Gl X "range" := by rfl) (hst : starEach [e] X.env = [(false, eval e X.env)] := by rfl) (hs : ∀ x, foldedSetIterable (.Call (.Name "range" p) [e] [] p2) X.env x = pure x := by intro _; rfl) :
    D2 X c (.ListComp (.List [] pl) [⟨.Name x px, .Call (.Name "range" p) [e] [] p2, [], 0⟩] scope pos) (wEmp wa) := by
  refine PE.imp (pe_lc gd.calm hN (pi_range1 hg' hm (pa_cons h pa_nil hst) hst) ok hg (fun s H C cl fp => pts_nil) (fun s H C cl fp => pe_lst pa_nil) hs) ?_
  rw [ho]
  rintro σ H Q ⟨O, F, env, QD, QE, vw, sl, hw, hq, he⟩
  refine ⟨O, F, env, _, QE, vw, sl, hw, fun d hd F1 H1 v v1 s1 r1 => ?_, he⟩
  obtain ⟨j, rfl, j0, j1, hn⟩ := hd
  cases r1
  refine ⟨j, rfl, by omega, by omega, fun A hA => ?_⟩
  refine ⟨fun k r H2 => ∃ qs : List Addr, k + r = j.toNat ∧ qs.length = k ∧ H2 A = some (.lst (qs.map V.ref)) ∧ (A :: qs).Nodup ∧ (∀ q ∈ qs, H1 q = none ∧ F1 q = none) ∧ (∀ q ∈ qs, H2 q = some (.lst [])) ∧ Vw c.T O F1 H2 ∧ Stp O F1 H1 F1 H2, ⟨j.toNat, [], by omega, rfl, upd_same, by simp, fun q hq => (by cases hq), fun q hq => (by cases hq), v1.layO hA, Stp.layO hA⟩, ?_⟩
  rintro k r H2 ⟨qs, e1, e2, e3, e4, e5, e6, v2, s2⟩
  by_cases hk : k < j.toNat
  · refine .inr ⟨hk, fun H3 => ∃ qs : List Addr, qs.length = k + 1 ∧ H3 A = some (.lst (qs.map V.ref)) ∧ (A :: qs).Nodup ∧ (∀ q ∈ qs, H1 q = none ∧ F1 q = none) ∧ (∀ q ∈ qs, H3 q = some (.lst [])) ∧ Vw c.T O F1 H3 ∧ Stp O F1 H1 F1 H3, fun H3 ⟨qs', z1, z2⟩ => ⟨r - 1, by omega, qs', by omega, z1, z2⟩, ?_⟩
    rintro y H3 ⟨rfl, rfl⟩
    refine ⟨?_, show 0 ≤ sizeLine from Nat.zero_le _, fun q hq0 => ?_⟩
    · show (List.set (List.set σ i none) i _).set i none = List.set σ i none
      rw [List.set_set, List.set_set]
    have hqA : A ≠ q := ne_of_none e3 hq0
    have hq1 : H1 q = none := s2.back hq0
    have hqF : F1 q = none := v1.fF hq1
    have v3 := v2.layO (o := .lst []) hq0
    have s3 := s2.trans (Stp.layO (o := .lst []) hq0) v3
    have hA3 : upd H3 q (.lst []) A = some (.lst (qs.map V.ref)) := by
      rw [upd_ne hqA]
      exact e3
    have hAO : A ∉ O := v1.out hA
    refine ⟨qs.map V.ref, hA3, by rw [List.length_map, e2, sizeLine_eq]; omega, qs ++ [q], by rw [List.length_append, e2]; rfl, ?_, ?_, fun u hu => ?_, fun u hu => ?_, ?_, ?_⟩
    · rw [upd_same, List.map_append]
      rfl
    · obtain ⟨n1, n2⟩ := List.nodup_cons.mp e4
      refine List.nodup_cons.mpr ⟨fun z => ?_, List.nodup_append.mpr ⟨n2, by simp, fun a ha b hb => ?_⟩⟩
      · rcases List.mem_append.mp z with z | z
        · exact n1 z
        · exact hqA (List.mem_singleton.mp z)
      · rw [List.mem_singleton.mp hb]
        exact ne_of_none (e6 a ha) hq0
    · rcases List.mem_append.mp hu with hu | hu
      · exact e5 u hu
      · rw [List.mem_singleton.mp hu]
        exact ⟨hq1, hqF⟩
    · have huA : u ≠ A := fun z => by
        rcases List.mem_append.mp hu with hu | hu
        · exact (List.nodup_cons.mp e4).1 (by rw [← z]; exact hu)
        · exact hqA (by rw [← z, List.mem_singleton.mp hu])
      rw [upd_ne huA]
      rcases List.mem_append.mp hu with hu | hu
      · rw [upd_ne (ne_of_none (e6 u hu) hq0)]
        exact e6 u hu
      · rw [List.mem_singleton.mp hu, upd_same]
    · have hAF : F1 A = none := v1.fF hA
      refine ⟨fun b o h => ?_, v3.ntb, fun t ht => ?_, fun u hu => ?_⟩
      · rw [upd_ne fun z => by rw [z, hAF] at h; cases h]
        exact v3.frz b o h
      · obtain ⟨ps, w1, w2, w3⟩ := v3.tab t ht
        refine ⟨ps, by rw [upd_ne fun z => by rw [z, hA3] at w1; cases w1]; exact w1, w2, fun ps' cv hc => ?_⟩
        obtain ⟨m, w4, w5⟩ := w3 ps' cv hc
        exact ⟨m, w4, by rw [upd_ne fun z => by rw [z, hA3] at w5; exact nomatch w5]; exact w5⟩
      · obtain ⟨w1, m, n, w2⟩ := v3.dic u hu
        exact ⟨w1, m, n, by rw [upd_ne fun z => hAO (by rw [← z]; exact hu)]; exact w2⟩
    · refine ⟨fun b o h ht ho => ?_, s3.grow, s3.new, fun b ps h => ?_, fun b hb h z => ?_⟩
      · rw [upd_ne fun z => by rw [z, hA] at h; cases h]
        exact s3.same b o h ht ho
      · obtain ⟨ps', h'⟩ := s3.tbs b ps h
        exact ⟨ps', by rw [upd_ne fun z => by rw [z, hA3] at h'; cases h']; exact h'⟩
      · by_cases hbA : b = A
        · exact hAO (by rw [← hbA]; exact hb)
        · rw [upd_ne hbA] at z
          exact s3.dcs b hb h z
  · refine .inl ⟨Nat.not_lt.mp hk, hq _ hn F1 H2 A qs v2 (s1.trans s2 v2) e4 (fun a ha => ?_) e3 e6 (by omega)⟩
    rcases List.mem_cons.mp ha with rfl | ha
    · exact ⟨s1.back hA, v1.fF hA⟩
    · exact ⟨s1.back (e5 a ha).1, (e5 a ha).2⟩
/-- x, y = a, [[] for ..] -/
@[simp] def wsPar2 (i j : Nat) (w : WV) (u : WN) : WS := fun env C => w env (fun s => u env (fun n => C.nx ((env.set i s).set j (.own2 (List.replicate n [])))) C.ex) C.ex
theorem fa_rep {F H : Hp} : ∀ {ps : List Addr}, (∀ q ∈ ps, H q = some (.lst [])) → FA (fun q ds => ∃ xs, H q = some (.lst xs) ∧ RpL F xs ds) ps (List.replicate ps.length [])
  | [], _ => trivial
  | q :: ps, h => ⟨⟨[], h q List.mem_cons_self, .nil⟩, fa_rep fun u hu => h u (List.mem_cons_of_mem _ hu)⟩
theorem s_par2 {i j : Nat} {x y : Str} {w : WV} {u : WN} {px py pt : Pos} {kt k2 pt2} (gd : Good X c) (hN : X.N.Nodup) (ha : DV X c a w) (hb : D2 X c b u) (hi : X.N[i]? = some x := by rfl) (hj : X.N[j]? = some y := by rfl) (hij : i ≠ j := by decide)
    (hx : X.env.scope.names.lookup x = some .local := by rfl) (hy : X.env.scope.names.lookup y = some .local := by rfl) (hw : swappedStores [.Tuple [.Name x px, .Name y py] kt pt] (.Tuple [a, b] k2 pt2) X.env = pure (some [x, y]) := by rfl)
    (hs : swapsWithSole [.Tuple [.Name x px, .Name y py] kt pt] (.Tuple [a, b] k2 pt2) pos.line X.env = pure false := by rfl) (h1 : starEach [a, b] X.env = (false, eval a X.env) :: starEach [b] X.env := by rfl) (h2 : starEach [b] X.env = (false, eval b X.env) :: starEach [] X.env := by rfl) :
    DS X c (.Assign [.Tuple [.Name x px, .Name y py] kt pt] (.Tuple [a, b] k2 pt2) pos) (wsPar2 i j w u) :=
  PS.imp (ps_par gd.calm hN hi hj hij hx hy (pa_cons ha (pa_cons hb pa_nil h2) h1) hw hs) fun D σ H ⟨O, F0, H0, F, env, C, f, hw, hn, hr, he⟩ => by
  refine ⟨O, F, env, _, C.ex, f.vw, f.sl, hw, fun s hs F1 H1 v v1 s1 r1 => ?_, he.up f.st⟩
  refine ⟨O, F1, env, _, C.ex, v1, f.sl.up s1.grow, hs, fun n ht F2 H2 p ps v2 s2 nd nw hp hps hl => ?_, (he.up f.st).up s1⟩
  refine ⟨v, .ref p, rfl, hn _ ht F2 H2 _ ?_ (s1.grow.trans s2.grow)⟩
  have f1 : Frm c O F0 H0 F1 H1 (σ.set i (some v)) (env.set i s) := f.setV v1 s1 r1
  have f2 := f1.step v2 s2
  obtain ⟨fps, ow⟩ := f1.ow
  have ow2 := ow.step v2 s2
  subst hl
  refine f2.setO ow2 (A := p :: ps) rfl ⟨p, ps, rfl, rfl, nd, hp, fa_rep hps⟩ (fun a ha => ?_) fun k s' hk ho _ a ha hb => ?_
  · obtain ⟨z1, z2⟩ := nw a ha
    exact ⟨z2, v1.out z1, f1.st.back z1⟩
  · obtain ⟨_, _, _, xs, z⟩ := ow.fr k s' hk ho a hb
    rw [(nw a ha).1] at z
    cases z
theorem FA.get {α β : Type} {R : α → β → Prop} : ∀ {as : List α} {bs : List β}, FA R as bs → as.length = bs.length ∧ ∀ (i : Nat) (b : β), bs[i]? = some b → ∃ a, as[i]? = some a ∧ R a b
  | [], [], _ => ⟨rfl, fun i b e => by simp at e⟩
  | a :: as, b :: bs, h => by
    obtain ⟨h1, h2⟩ := FA.get h.2
    refine ⟨congrArg Nat.succ h1, fun i b' e => ?_⟩
    cases i with
    | zero =>
      simp at e
      subst e
      exact ⟨a, rfl, h.1⟩
    | succ i =>
      obtain ⟨a', e1, e2⟩ := h2 i b' (by simpa using e)
      exact ⟨a', by simpa using e1, e2⟩
  | [], _ :: _, h => h.elim
  | _ :: _, [], h => h.elim
abbrev AtL (F H : Hp) (q : Addr) (ds : List D) : Prop := ∃ xs, H q = some (.lst xs) ∧ RpL F xs ds
theorem fa_keep {F H : Hp} {q : Addr} {ys : List V} : ∀ {ps : List Addr} {dss : List (List D)}, q ∉ ps → FA (AtL F H) ps dss → FA (AtL F (upd H q (.lst ys))) ps dss
  | [], [], _, _ => trivial
  | u :: ps, d :: dss, hn, h => by
    rw [List.mem_cons, not_or] at hn
    obtain ⟨xs, e, r⟩ := h.1
    exact ⟨⟨xs, by rw [upd_ne fun z => hn.1 z.symm]; exact e, r⟩, fa_keep hn.2 h.2⟩
  | [], _ :: _, _, h => h.elim
  | _ :: _, [], _, h => h.elim
theorem fa_set {F H : Hp} {q : Addr} {ys : List V} {es : List D} (r : RpL F ys es) : ∀ {ps : List Addr} {dss : List (List D)} (n : Nat), ps.Nodup → ps[n]? = some q → FA (AtL F H) ps dss → FA (AtL F (upd H q (.lst ys))) ps (dss.set n es)
  | [], [], n, _, h, _ => by simp at h
  | u :: ps, d :: dss, 0, nd, h, k => by
    simp at h
    subst h
    exact ⟨⟨ys, upd_same, r⟩, fa_keep (List.nodup_cons.mp nd).1 k.2⟩
  | u :: ps, d :: dss, n + 1, nd, h, k => by
    have h' : ps[n]? = some q := by simpa using h
    obtain ⟨xs, e, r'⟩ := k.1
    obtain ⟨n1, n2⟩ := List.nodup_cons.mp nd
    exact ⟨⟨xs, by rw [upd_ne fun z => n1 (by rw [z]; exact List.mem_of_getElem? h')]; exact e, r'⟩, fa_set r n n2 h' k.2⟩
  | [], _ :: _, _, _, _, h => h.elim
  | _ :: _, [], _, _, _, h => h.elim
theorem Frm.upd2 {O : List Addr} {F0 H0 F H : Hp} {σ : St} {env : En} {fps : Nat → List Addr} (f : Frm c O F0 H0 F H σ env) (ow : Own O F H H0 σ env fps) {i : Nat} {dss : List (List D)} {es : List D} (hi : env[i]? = some (.own2 dss)) {p q : Addr} {ps : List Addr} {n : Nat} (hp : σ[i]? = some (some (.ref p))) (hH : H p = some (.lst (ps.map V.ref))) (hq : ps[n]? = some q) {ys : List V} (r : RpL F ys es) :
    Frm c O F0 H0 F (upd H q (.lst ys)) σ (env.set i (.own2 (dss.set n es))) := by
  obtain ⟨v, h1, p', ps', e1, e2, e3, e4, e5⟩ := ow.at_ i _ hi rfl
  rw [hp] at h1
  cases h1
  cases e1
  have eps : ps' = ps := by
    rw [hH] at e4
    have z := HO.lst.inj (Option.some.inj e4)
    have inj : ∀ (l m : List Addr), l.map V.ref = m.map V.ref → l = m := fun l => by
      induction l with
      | nil => intro m h; cases m with
        | nil => rfl
        | cons _ _ => cases h
      | cons a l ih => intro m h; cases m with
        | nil => cases h
        | cons b m =>
          have := List.cons.inj h
          rw [ih m this.2, V.ref.inj this.1]
    exact (inj _ _ z).symm
  subst eps
  have hil := (List.getElem?_eq_some_iff.mp hi).1
  obtain ⟨np, nq⟩ := List.nodup_cons.mp e3
  have hqm : q ∈ ps' := List.mem_of_getElem? hq
  have hqf : q ∈ fps i := by
    rw [e2]
    exact List.mem_cons_of_mem _ hqm
  obtain ⟨z1, z2, z3, xs0, e30⟩ := ow.fr i _ hi rfl q hqf
  have hpq : p ≠ q := fun z => np (by rw [z]; exact hqm)
  have key : ∀ (j : Nat) (s : Sl), (env.set i (.own2 (dss.set n es)))[j]? = some s → (j = i ∧ s = .own2 (dss.set n es)) ∨ (j ≠ i ∧ env[j]? = some s) := fun j s hj => by
    by_cases hji : i = j
    · subst hji
      rw [List.getElem?_set_self hil] at hj
      exact .inl ⟨rfl, (Option.some.inj hj).symm⟩
    · rw [List.getElem?_set_ne hji] at hj
      exact .inr ⟨fun z => hji z.symm, hj⟩
  have sl' : Sls O F σ (env.set i (.own2 (dss.set n es))) := ⟨by rw [List.length_set]; exact f.sl.1, fun j => by
    by_cases hji : i = j
    · subst hji
      rw [List.getElem?_set_self hil]
      trivial
    · rw [List.getElem?_set_ne hji]
      exact f.sl.2 j⟩
  have nO : ∀ (j : Nat) (s : Sl), env[j]? = some s → isOwn s = true → j ≠ i → q ∉ fps j := fun j s e ho hji hb => ow.dis i j _ s hi rfl e ho (Ne.symm hji) q hqf hb
  refine ⟨⟨fun b o h => ?_, f.vw.ntb, fun t ht => ?_, fun u hu => ?_⟩, sl', ⟨fps, fun j s e ho => ?_, fun j s e ho a ha => ?_, fun j k s t a1 o1 a2 o2 hjk => ?_⟩, ⟨fun b o h ht ho => ?_, f.st.grow, f.st.new, fun b ps h => ?_, fun b hb h z => ?_⟩⟩
  · rw [upd_ne fun z => by rw [z, z1] at h; cases h]
    exact f.vw.frz b o h
  · obtain ⟨ps, w1, w2, w3⟩ := f.vw.tab t ht
    refine ⟨ps, by rw [upd_ne fun z => by rw [z, e30] at w1; cases w1]; exact w1, w2, fun ps' cv hc => ?_⟩
    obtain ⟨k, w4, w5⟩ := w3 ps' cv hc
    exact ⟨k, w4, by rw [upd_ne fun z => by rw [z, e30] at w5; exact nomatch w5]; exact w5⟩
  · obtain ⟨w1, k, n, w2⟩ := f.vw.dic u hu
    exact ⟨w1, k, n, by rw [upd_ne fun z => z2 (by rw [← z]; exact hu)]; exact w2⟩
  · rcases key j s e with ⟨rfl, rfl⟩ | ⟨hji, e'⟩
    · exact ⟨.ref p, hp, p, ps', rfl, e2, e3, by rw [upd_ne hpq]; exact hH, fa_set r n nq hq e5⟩
    · obtain ⟨v, w1, w2⟩ := ow.at_ j s e' ho
      exact ⟨v, w1, w2.up (Same.refl F) fun a ha => upd_ne fun z => nO j s e' ho hji (by rw [← z]; exact ha)⟩
  · rcases key j s e with ⟨rfl, rfl⟩ | ⟨hji, e'⟩
    · obtain ⟨w1, w2, w3, zs, w4⟩ := ow.fr j _ hi rfl a ha
      by_cases haq : a = q
      · subst haq
        exact ⟨w1, w2, w3, ys, upd_same⟩
      · exact ⟨w1, w2, w3, zs, by rw [upd_ne haq]; exact w4⟩
    · obtain ⟨w1, w2, w3, zs, w4⟩ := ow.fr j s e' ho a ha
      exact ⟨w1, w2, w3, zs, by rw [upd_ne fun z => nO j s e' ho hji (by rw [← z]; exact ha)]; exact w4⟩
  · rcases key j s a1 with ⟨rfl, rfl⟩ | ⟨hj, b1⟩
    · rcases key k t a2 with ⟨rfl, rfl⟩ | ⟨hk, b2⟩
      · exact absurd rfl hjk
      · exact ow.dis j k _ t hi rfl b2 o2 hjk
    · rcases key k t a2 with ⟨rfl, rfl⟩ | ⟨hk, b2⟩
      · exact ow.dis j k s _ b1 o1 hi rfl hjk
      · exact ow.dis j k s t b1 o1 b2 o2 hjk
  · by_cases hb : b = q
    · rw [hb, z3] at h
      cases h
    · rw [upd_ne hb]
      exact f.st.same b o h ht ho
  · obtain ⟨ps', h'⟩ := f.st.tbs b ps h
    exact ⟨ps', by rw [upd_ne fun z => by rw [z, e30] at h'; cases h']; exact h'⟩
  · by_cases hbp : b = q
    · rw [hbp, upd_same] at z
      cases z
    · rw [upd_ne hbp] at z
      exact f.st.dcs b hb h z
/-- x[j].append(e) -/
@[simp] def wsApp2 (i : Nat) (wj w : WE) : WS := fun env C => ∃ dss, env[i]? = some (.own2 dss) ∧ wj env (fun dj => ∃ k n ds, dj = .int k ∧ ixN dss.length k = some n ∧ dss[n]? = some ds ∧ ds.length < sizeLine ∧ w env (fun d => C.nx (env.set i (.own2 (dss.set n (ds ++ [d]))))) C.ex) C.ex
theorem s_app2 {i : Nat} {x : Str} {p p0 p2 cpos : Pos} {wj : WE} (hj : DE X c b wj) (h : DE X c a wa) (hN : X.N[i]? = some x := by rfl) (hv : Vis X.env.scope x := by first | exact Or.inl rfl | exact Or.inr (Or.inl rfl) | exact Or.inr (Or.inr rfl)) (hd : (x == ("__debug__" : Str)) = false := by decide) (hcd : (x == ("__classdict__" : Str)) = false := by decide) (hix : PlainIx b := by exact fun _ _ => rfl)
    (hbase : attributeBase (.Subscript (.Name x p) b p0) "append" X.env (eval (.Subscript (.Name x p) b p0) X.env) = eval (.Subscript (.Name x p) b p0) X.env := by rfl) (hfew : ((backTo cpos (starEach [a] X.env)).all (fun x => !x.1) && (backToKw cpos (keywordEach [] X.env)).all (fun x => x.1.isSome) && decide ([a].length + ([] : List Keyword).length + (if ([] : List Keyword).isEmpty then 0 else 1) < 30)) = true := by rfl)
    (hline : (p2.endLine == cpos.line) = true := by rfl) (hs : starEach [a] X.env = (false, eval a X.env) :: starEach [] X.env := by rfl) (hsw : swapsWith (.Call (.Attribute (.Subscript (.Name x p) b p0) "append" p2) [a] [] cpos) none pos.line X.env = pure false := by rfl) :
    DS X c (.Expr (.Call (.Attribute (.Subscript (.Name x p) b p0) "append" p2) [a] [] cpos) pos) (wsApp2 i wj wa) :=
  PS.imp (ps_expr (pe_bm PySem.F.plainAttrs_list PySem.F.slot_list_append PySem.F.type_list_append mt_append (pe_ix ix_seq (pe_var hN hv hd hcd) hj hix) (pa_cons h pa_nil hs) hbase hfew hline hs rfl) hsw) fun D σ H ⟨O, F0, H0, F, env, C, f, ⟨dss, hi, hw⟩, hn, hr, he⟩ => by
  obtain ⟨fps, ow⟩ := f.ow
  obtain ⟨v, h1, q, ps, e1, e2, e3, e4, e5⟩ := ow.at_ i _ hi rfl
  subst e1
  refine ⟨.ref q, h1, O, F, env, _, C.ex, f.vw, f.sl, hw, fun dj hdj F1 H1 v v1 s1 r1 => ?_, he.up f.st⟩
  obtain ⟨k, n, ds, rfl, hk, hds, hz, hw2⟩ := hdj
  cases r1
  have ow1 := ow.step v1 s1
  have f1 := f.step v1 s1
  obtain ⟨v', h1', q', ps', e1', e2', e3', e4', e5'⟩ := ow1.at_ i _ hi rfl
  rw [h1] at h1'
  cases h1'
  cases e1'
  obtain ⟨l5, g5⟩ := e5'.get
  obtain ⟨u, hu, xs, hxs, rx⟩ := g5 n ds hds
  refine .inl ⟨q, ps'.map V.ref, k, .ref u, rfl, rfl, SqL.of e4', ?_, .inl ⟨rfl, xs, SqL.of hxs⟩, O, F1, env, _, C.ex, v1, f1.sl, hw2, fun d hd F2 H2 v2 w2 s2 r2 => ?_, (he.up f.st).up s1⟩
  · unfold atI
    rw [List.length_map, l5, hk]
    show (ps'.map V.ref)[n]? = _
    rw [List.getElem?_map, hu]
    rfl
  have ow2 := ow1.step w2 s2
  have f2 := f1.step w2 s2
  have hq2 : H2 q = some (.lst (ps'.map V.ref)) := by
    obtain ⟨_, z2, _, _⟩ := ow1.fr i _ hi rfl q (by rw [e2']; exact List.mem_cons_self)
    exact s2.same q _ e4' (fun _ z => nomatch z) z2
  have hu2 : H2 u = some (.lst xs) := by
    obtain ⟨_, z2, _, _⟩ := ow1.fr i _ hi rfl u (by rw [e2']; exact List.mem_cons_of_mem _ (List.mem_of_getElem? hu))
    exact s2.same u _ hxs (fun _ z => nomatch z) z2
  exact ⟨u, xs, v2, rfl, rfl, hu2, by rw [rx.length]; exact hz, hn _ hd F2 _ σ (f2.upd2 ow2 hi h1 hq2 hu ((rx.up s2.grow).append (.one r2))) (s1.grow.trans s2.grow)⟩
end
end SD

namespace SD
open PySem PySem.Spec PyProof.Rows L2
/-! ### shapes of promises -/
def fs1 (f : D → (D → Prop) → (Str → Prop) → Prop) : FS := fun as Q E => ∃ a, as = [.dat a] ∧ f a Q E
def fs2 (f : D → D → (D → Prop) → (Str → Prop) → Prop) : FS := fun as Q E => ∃ a b, as = [.dat a, .dat b] ∧ f a b Q E
def fs3 (f : D → D → D → (D → Prop) → (Str → Prop) → Prop) : FS := fun as Q E => ∃ a b c, as = [.dat a, .dat b, .dat c] ∧ f a b c Q E
def fs4 (f : D → D → D → D → (D → Prop) → (Str → Prop) → Prop) : FS := fun as Q E => ∃ a b c d, as = [.dat a, .dat b, .dat c, .dat d] ∧ f a b c d Q E
def fs5 (f : D → D → D → D → D → (D → Prop) → (Str → Prop) → Prop) : FS := fun as Q E => ∃ a b c d e, as = [.dat a, .dat b, .dat c, .dat d, .dat e] ∧ f a b c d e Q E
def fd1 (f : D → (D → Prop) → (Str → Prop) → Prop) : FS := fun as Q E => ∃ a, as = [.dice, .dat a] ∧ f a Q E
def fd2 (f : D → D → (D → Prop) → (Str → Prop) → Prop) : FS := fun as Q E => ∃ a b, as = [.dice, .dat a, .dat b] ∧ f a b Q E
def fd3 (f : D → D → D → (D → Prop) → (Str → Prop) → Prop) : FS := fun as Q E => ∃ a b c, as = [.dice, .dat a, .dat b, .dat c] ∧ f a b c Q E
theorem len_fs1 {f ps} (h : ps.length = 1) : ∀ as Q E, fs1 f as Q E → as.length = (ps : List Str).length := fun as Q E ⟨_, e, _⟩ => by rw [e, h] <;> rfl
theorem len_fs2 {f ps} (h : ps.length = 2) : ∀ as Q E, fs2 f as Q E → as.length = (ps : List Str).length := fun as Q E ⟨_, _, e, _⟩ => by rw [e, h] <;> rfl
theorem len_fs3 {f ps} (h : ps.length = 3) : ∀ as Q E, fs3 f as Q E → as.length = (ps : List Str).length := fun as Q E ⟨_, _, _, e, _⟩ => by rw [e, h] <;> rfl
theorem len_fs4 {f ps} (h : ps.length = 4) : ∀ as Q E, fs4 f as Q E → as.length = (ps : List Str).length := fun as Q E ⟨_, _, _, _, e, _⟩ => by rw [e, h] <;> rfl
theorem len_fs5 {f ps} (h : ps.length = 5) : ∀ as Q E, fs5 f as Q E → as.length = (ps : List Str).length := fun as Q E ⟨_, _, _, _, _, e, _⟩ => by rw [e, h] <;> rfl
theorem len_fd1 {f ps} (h : ps.length = 2) : ∀ as Q E, fd1 f as Q E → as.length = (ps : List Str).length := fun as Q E ⟨_, e, _⟩ => by rw [e, h] <;> rfl
theorem len_fd2 {f ps} (h : ps.length = 3) : ∀ as Q E, fd2 f as Q E → as.length = (ps : List Str).length := fun as Q E ⟨_, _, e, _⟩ => by rw [e, h] <;> rfl
theorem len_fd3 {f ps} (h : ps.length = 4) : ∀ as Q E, fd3 f as Q E → as.length = (ps : List Str).length := fun as Q E ⟨_, _, _, e, _⟩ => by rw [e, h] <;> rfl
theorem fs1_at {f a Q E} : fs1 f [.dat a] Q E ↔ f a Q E := ⟨fun ⟨_, e, h⟩ => by cases e; exact h, fun h => ⟨_, rfl, h⟩⟩
theorem fs2_at {f a b Q E} : fs2 f [.dat a, .dat b] Q E ↔ f a b Q E := ⟨fun ⟨_, _, e, h⟩ => by cases e; exact h, fun h => ⟨_, _, rfl, h⟩⟩
theorem fs3_at {f a b c Q E} : fs3 f [.dat a, .dat b, .dat c] Q E ↔ f a b c Q E := ⟨fun ⟨_, _, _, e, h⟩ => by cases e; exact h, fun h => ⟨_, _, _, rfl, h⟩⟩
theorem fs4_at {f a b c d Q E} : fs4 f [.dat a, .dat b, .dat c, .dat d] Q E ↔ f a b c d Q E := ⟨fun ⟨_, _, _, _, e, h⟩ => by cases e; exact h, fun h => ⟨_, _, _, _, rfl, h⟩⟩
theorem fs5_at {f a b c d e Q E} : fs5 f [.dat a, .dat b, .dat c, .dat d, .dat e] Q E ↔ f a b c d e Q E := ⟨fun ⟨_, _, _, _, _, e, h⟩ => by cases e; exact h, fun h => ⟨_, _, _, _, _, rfl, h⟩⟩
theorem fd1_at {f a Q E} : fd1 f [.dice, .dat a] Q E ↔ f a Q E := ⟨fun ⟨_, e, h⟩ => by cases e; exact h, fun h => ⟨_, rfl, h⟩⟩
theorem fd2_at {f a b Q E} : fd2 f [.dice, .dat a, .dat b] Q E ↔ f a b Q E := ⟨fun ⟨_, _, e, h⟩ => by cases e; exact h, fun h => ⟨_, _, rfl, h⟩⟩
theorem fd3_at {f a b c Q E} : fd3 f [.dice, .dat a, .dat b, .dat c] Q E ↔ f a b c Q E := ⟨fun ⟨_, _, _, e, h⟩ => by cases e; exact h, fun h => ⟨_, _, _, rfl, h⟩⟩
theorem ex_bool {b : Bool} {R : Bool → Prop} : (∃ k, PyData.bool b = .bool k ∧ R k) ↔ R b := ⟨fun ⟨k, e, h⟩ => by cases e; exact h, fun h => ⟨b, rfl, h⟩⟩
theorem ex_dat {a : D} {R : D → Prop} : (∃ k, some (Sl.dat a) = some (.dat k) ∧ R k) ↔ R a := ⟨fun ⟨k, e, h⟩ => by cases e; exact h, fun h => ⟨a, rfl, h⟩⟩
theorem ex_own {a : List D} {R : List D → Prop} : (∃ k, some (Sl.own a) = some (.own k) ∧ R k) ↔ R a := ⟨fun ⟨k, e, h⟩ => by cases e; exact h, fun h => ⟨a, rfl, h⟩⟩
theorem ex_own2 {a : List (List D)} {R : List (List D) → Prop} : (∃ k, some (Sl.own2 a) = some (.own2 k) ∧ R k) ↔ R a := ⟨fun ⟨k, e, h⟩ => by cases e; exact h, fun h => ⟨a, rfl, h⟩⟩
theorem ex_int {a : Int} {R : Int → Prop} : (∃ k, PyData.int a = .int k ∧ R k) ↔ R a := ⟨fun ⟨k, e, h⟩ => by cases e; exact h, fun h => ⟨a, rfl, h⟩⟩
theorem ex_int2 {a b : Int} {R : Int → Int → Prop} : (∃ i j, PyData.int a = .int i ∧ PyData.int b = .int j ∧ R i j) ↔ R a b := ⟨fun ⟨i, j, e, e', h⟩ => by cases e; cases e'; exact h, fun h => ⟨a, b, rfl, rfl, h⟩⟩
theorem ex_pair {a b : D} {R : D → D → Prop} : (∃ x y, PyData.tuple [a, b] = .tuple [x, y] ∧ R x y) ↔ R a b := ⟨fun ⟨i, j, e, h⟩ => by cases e; exact h, fun h => ⟨a, b, rfl, h⟩⟩
theorem ex_three {a b c : D} {R : D → D → D → Prop} : (∃ x y z, PyData.tuple [a, b, c] = .tuple [x, y, z] ∧ R x y z) ↔ R a b c := ⟨fun ⟨i, j, k, e, h⟩ => by cases e; exact h, fun h => ⟨a, b, c, rfl, h⟩⟩
theorem ex_boolE {b : Bool} {R : Bool → Prop} : (∃ k, b = k ∧ R k) ↔ R b := ⟨fun ⟨k, e, h⟩ => by cases e; exact h, fun h => ⟨b, rfl, h⟩⟩
/-! ### loops -/
theorem forL_ind {g : WG} {body : WS} {C : DC} (P : List D → En → Prop) (h0 : ∀ env, P [] env → C.nx env) (hs : ∀ d ds env, P (d :: ds) env → ∀ nx : En → Prop, (∀ env', P ds env' → nx env') → g d env fun env' => body env' { C with nx := nx }) : ∀ ds env, P ds env → forL g body C ds env
  | [], env, h => h0 env h
  | d :: ds, env, h => hs d ds env h _ fun env' h' => forL_ind P h0 hs ds env' h'
theorem lcL_map {g : WG} {we : WE} {env : En} {α : Type} (enc : α → D) (out : α → D) : ∀ (xs : List α) (acc : List D) (Q : List D → Prop), (∀ x ∈ xs, ∀ K : D → Prop, K (out x) → g (enc x) env fun env' => we env' K noEx) → acc.length + xs.length ≤ sizeLine → Q (acc ++ xs.map out) → lcL g wtYes we env (xs.map enc) acc Q
  | [], acc, Q, _, _, h => by simpa [lcL] using h
  | x :: xs, acc, Q, hx, hl, h => by
    rw [List.length_cons] at hl
    show g (enc x) env fun env' => we env' (fun y => acc.length < sizeLine ∧ lcL g wtYes we env (xs.map enc) (acc ++ [y]) Q) noEx
    refine hx x List.mem_cons_self _ ⟨by omega, lcL_map enc out xs _ Q (fun z hz => hx z (List.mem_cons_of_mem _ hz)) (by rw [List.length_append, List.length_singleton]; omega) ?_⟩
    simpa using h
theorem lcL_fm {g : WG} {wt : WT} {we : WE} {env : En} {α : Type} (enc : α → D) (p : α → Bool) (out : α → D) : ∀ (xs : List α) (acc : List D) (Q : List D → Prop),
    (∀ x ∈ xs, ∀ (K : D → Prop) (K' : Prop), (p x = true → K (out x)) → (p x = false → K') → g (enc x) env fun env' => wt env' (fun k => if k = true then we env' K noEx else K') noEx) → acc.length + xs.length ≤ sizeLine → Q (acc ++ (xs.filter p).map out) → lcL g wt we env (xs.map enc) acc Q
  | [], acc, Q, _, _, h => by simpa [lcL] using h
  | x :: xs, acc, Q, hx, hl, h => by
    rw [List.length_cons] at hl
    refine hx x List.mem_cons_self _ _ (fun hp => ⟨by omega, lcL_fm enc p out xs _ Q (fun z hz => hx z (List.mem_cons_of_mem _ hz)) (by rw [List.length_append, List.length_singleton]; omega) ?_⟩) fun hp => lcL_fm enc p out xs _ Q (fun z hz => hx z (List.mem_cons_of_mem _ hz)) (by omega) ?_
    · simpa [List.filter_cons, hp] using h
    · simpa [List.filter_cons, hp] using h
/-- each turn gives any value with a property -/
theorem lcL_any {g : WG} {we : WE} {env : En} (R : D → Prop) : ∀ (ds : List D) (acc : List D) (Q : List D → Prop), (∀ d ∈ ds, ∀ K : D → Prop, (∀ y, R y → K y) → g d env fun env' => we env' K noEx) → acc.length + ds.length ≤ sizeLine → (∀ ys : List D, ys.length = ds.length → (∀ y ∈ ys, R y) → Q (acc ++ ys)) → lcL g wtYes we env ds acc Q
  | [], acc, Q, _, _, h => by
    have := h [] rfl (fun _ h => by cases h)
    simpa [lcL] using this
  | x :: xs, acc, Q, hx, hl, h => by
    rw [List.length_cons] at hl
    show g x env fun env' => we env' (fun y => acc.length < sizeLine ∧ lcL g wtYes we env xs (acc ++ [y]) Q) noEx
    refine hx x List.mem_cons_self _ fun y hy => ⟨by omega, lcL_any R xs _ Q (fun z hz => hx z (List.mem_cons_of_mem _ hz)) (by rw [List.length_append, List.length_singleton]; omega) fun ys h1 h2 => ?_⟩
    rw [List.append_assoc]
    refine h ([y] ++ ys) (by rw [List.length_append, h1]; simp [Nat.add_comm]) fun z hz => ?_
    rcases List.mem_append.mp hz with hz | hz
    · rw [List.mem_singleton.mp hz]
      exact hy
    · exact h2 z hz
/-! ### encodings -/
abbrev tI (ns : List Int) : D := .tuple (ns.map .int)
abbrev lI (ns : List Int) : D := .list (ns.map .int)
abbrev lW (ws : List (List Int)) : D := .list (ws.map tI)
abbrev p2 (a b : Int) : D := .tuple [.int a, .int b]
theorem rgD_eq (lo hi : Int) : rgD lo hi = ((List.range (hi - lo).toNat).map fun i : Nat => (lo + i : Int)).map .int := by
  unfold rgD
  rw [List.map_map]
  rfl
def rgI (lo hi : Int) : List Int := (List.range (hi - lo).toNat).map fun i : Nat => (lo + i : Int)
theorem rgD_I (lo hi : Int) : rgD lo hi = (rgI lo hi).map .int := rgD_eq lo hi
theorem mem_rgI {lo hi i : Int} : i ∈ rgI lo hi ↔ lo ≤ i ∧ i < hi := by
  unfold rgI
  rw [List.mem_map]
  constructor
  · rintro ⟨k, hk, rfl⟩
    rw [List.mem_range] at hk
    omega
  · rintro ⟨h1, h2⟩
    exact ⟨(i - lo).toNat, by rw [List.mem_range]; omega, by omega⟩
theorem rgI_len (lo hi : Int) : (rgI lo hi).length = (hi - lo).toNat := by
  unfold rgI
  rw [List.length_map, List.length_range]
/-! ### the built-ins at encoded data -/
theorem map_int_inj {xs ys : List Int} (h : xs.map PyData.int = ys.map PyData.int) : xs = ys := by
  have := congrArg (List.map fun | PyData.int i => i | _ => 0) h
  simpa [List.map_map, Function.comp_def] using this
theorem map_bool_inj {xs ys : List Bool} (h : xs.map PyData.bool = ys.map PyData.bool) : xs = ys := by
  have := congrArg (List.map fun | PyData.bool i => i | _ => false) h
  simpa [List.map_map, Function.comp_def] using this
section
variable {Q : D → Prop} {R : List D → Prop}
theorem ex_seqL {es : List D} : (∃ ds, seqOf (.list es) = some ds ∧ R ds) ↔ R es := ⟨fun ⟨_, e, h⟩ => by cases e; exact h, fun h => ⟨_, rfl, h⟩⟩
theorem ex_seqT {es : List D} : (∃ ds, seqOf (.tuple es) = some ds ∧ R ds) ↔ R es := ⟨fun ⟨_, e, h⟩ => by cases e; exact h, fun h => ⟨_, rfl, h⟩⟩
theorem gSum_l {ns : List Int} : gSum [.list (ns.map .int)] Q ↔ Q (.int ns.sum) := ⟨fun ⟨d, ms, e, e', h⟩ => by cases e; rw [map_int_inj (Option.some.inj e')]; exact h, fun h => ⟨_, ns, rfl, rfl, h⟩⟩
theorem gSum_t {ns : List Int} : gSum [.tuple (ns.map .int)] Q ↔ Q (.int ns.sum) := ⟨fun ⟨d, ms, e, e', h⟩ => by cases e; rw [map_int_inj (Option.some.inj e')]; exact h, fun h => ⟨_, ns, rfl, rfl, h⟩⟩
theorem gAll_l {bs : List Bool} : gAll [.list (bs.map .bool)] Q ↔ Q (.bool (bs.all id)) := ⟨fun ⟨d, e, h⟩ => by rw [map_bool_inj (PyData.list.inj (List.cons.inj e).1)]; exact h, fun h => ⟨bs, rfl, h⟩⟩
theorem gAny_l {bs : List Bool} : gAny [.list (bs.map .bool)] Q ↔ Q (.bool (bs.any id)) := ⟨fun ⟨d, e, h⟩ => by rw [map_bool_inj (PyData.list.inj (List.cons.inj e).1)]; exact h, fun h => ⟨bs, rfl, h⟩⟩
theorem gMax_l {n : Int} {ns : List Int} : gMax [.list ((n :: ns).map .int)] Q ↔ Q (.int (ns.foldl max n)) := ⟨fun ⟨d, m, ms, e, e', h⟩ => by
  cases e
  have z := map_int_inj (Option.some.inj e')
  cases z
  exact h, fun h => ⟨_, n, ns, rfl, rfl, h⟩⟩
theorem gMax_t {n : Int} {ns : List Int} : gMax [.tuple ((n :: ns).map .int)] Q ↔ Q (.int (ns.foldl max n)) := ⟨fun ⟨d, m, ms, e, e', h⟩ => by
  cases e
  have z := map_int_inj (Option.some.inj e')
  cases z
  exact h, fun h => ⟨_, n, ns, rfl, rfl, h⟩⟩
theorem gMin_l {n : Int} {ns : List Int} : gMin [.list ((n :: ns).map .int)] Q ↔ Q (.int (ns.foldl min n)) := ⟨fun ⟨d, m, ms, e, e', h⟩ => by
  cases e
  have z := map_int_inj (Option.some.inj e')
  cases z
  exact h, fun h => ⟨_, n, ns, rfl, rfl, h⟩⟩
theorem gMin_t {n : Int} {ns : List Int} : gMin [.tuple ((n :: ns).map .int)] Q ↔ Q (.int (ns.foldl min n)) := ⟨fun ⟨d, m, ms, e, e', h⟩ => by
  cases e
  have z := map_int_inj (Option.some.inj e')
  cases z
  exact h, fun h => ⟨_, n, ns, rfl, rfl, h⟩⟩
theorem gTuple_l {es : List D} : gTuple [.list es] Q ↔ Q (.tuple es) := ⟨fun ⟨d, ms, e, e', h⟩ => by cases e; cases e'; exact h, fun h => ⟨_, es, rfl, rfl, h⟩⟩
theorem gTuple_t {es : List D} : gTuple [.tuple es] Q ↔ Q (.tuple es) := ⟨fun ⟨d, ms, e, e', h⟩ => by cases e; cases e'; exact h, fun h => ⟨_, es, rfl, rfl, h⟩⟩
theorem gList_l {es : List D} : gList [.list es] R ↔ R es := ⟨fun ⟨d, ms, e, e', h⟩ => by cases e; cases e'; exact h, fun h => ⟨_, es, rfl, rfl, h⟩⟩
theorem gList_t {es : List D} : gList [.tuple es] R ↔ R es := ⟨fun ⟨d, ms, e, e', h⟩ => by cases e; cases e'; exact h, fun h => ⟨_, es, rfl, rfl, h⟩⟩
theorem gIx_l {es : List D} {i : Int} : gIx (.list es) (.int i) Q ↔ ∃ d, atI es i = some d ∧ Q d := ⟨fun ⟨_, _, d, e, e', h⟩ => by cases e; cases e'; exact ⟨d, h⟩, fun ⟨d, h⟩ => ⟨es, i, d, rfl, rfl, h⟩⟩
theorem gIx_t {es : List D} {i : Int} : gIx (.tuple es) (.int i) Q ↔ ∃ d, atI es i = some d ∧ Q d := ⟨fun ⟨_, _, d, e, e', h⟩ => by cases e; cases e'; exact ⟨d, h⟩, fun ⟨d, h⟩ => ⟨es, i, d, rfl, rfl, h⟩⟩
theorem gZip_t {xs ys : List D} : gZip (.tuple xs) (.tuple ys) R ↔ R (zipD xs ys) := ⟨fun h => by
  rcases h with ⟨_, _, e, e', h⟩ | ⟨_, _, e, e', h⟩
  · cases e; cases e'; exact h
  · exact (nomatch e), fun h => .inl ⟨_, _, rfl, rfl, h⟩⟩
theorem gZip_l {xs ys : List D} : gZip (.list xs) (.list ys) R ↔ R (zipD xs ys) := ⟨fun h => by
  rcases h with ⟨_, _, e, e', h⟩ | ⟨_, _, e, e', h⟩
  · exact (nomatch e)
  · cases e; cases e'; exact h, fun h => .inr ⟨_, _, rfl, rfl, h⟩⟩
theorem gIn_t {i : Int} {ns : List Int} : gIn (.int i) (.tuple (ns.map .int)) Q ↔ Q (.bool (decide (i ∈ ns))) := ⟨fun h => by
  rcases h with ⟨_, e, _⟩ | ⟨_, ms, e, e', h⟩
  · cases e
  · cases e
    rw [map_int_inj (PyData.tuple.inj e')]
    exact h, fun h => .inr ⟨i, ns, rfl, rfl, h⟩⟩
theorem gNotIn_t {i : Int} {ns : List Int} : gNotIn (.int i) (.tuple (ns.map .int)) Q ↔ Q (.bool (!decide (i ∈ ns))) := ⟨fun h => by
  rcases h with ⟨_, e, _⟩ | ⟨_, ms, e, e', h⟩
  · cases e
  · cases e
    rw [map_int_inj (PyData.tuple.inj e')]
    exact h, fun h => .inr ⟨i, ns, rfl, rfl, h⟩⟩
theorem gIn_l {x : D} {ds : List D} : gIn x (.list ds) Q ↔ SeqAt.shaped x = true ∧ SeqAt.shaped (.list ds) = true ∧ Q (.bool (ds.any fun z => PyData.eqv z x)) := ⟨fun h => by
  rcases h with ⟨_, e, h⟩ | ⟨_, ms, _, e', h⟩
  · cases e; exact h
  · exact (nomatch e'), fun h => .inl ⟨ds, rfl, h⟩⟩
theorem gNotIn_l {x : D} {ds : List D} : gNotIn x (.list ds) Q ↔ SeqAt.shaped x = true ∧ SeqAt.shaped (.list ds) = true ∧ Q (.bool (!ds.any fun z => PyData.eqv z x)) := ⟨fun h => by
  rcases h with ⟨_, e, h⟩ | ⟨_, ms, _, e', h⟩
  · cases e; exact h
  · exact (nomatch e'), fun h => .inl ⟨ds, rfl, h⟩⟩
end
end SD

namespace SD
open PySem PySem.Spec PyProof.Rows L2
/-! ### plain mirrors -/
def isWhole : D → Int → Int → Bool
  | .int i, lo, hi => decide (lo ≤ i ∧ i ≤ hi)
  | _, _, _ => false
def isFlight : D → Bool
  | .tuple [x, y] => isWhole x 1 8 && isWhole y 1 5
  | _ => false
def intsOf (ds : List D) : List Int := ds.map fun | .int i => i | _ => 0
def diffs (ns : List Int) : List Int := (ns.zip ns.tail).map fun p => p.2 - p.1
def stridesI (s : Int) (walk : List Int) : List Int := diffs (0 :: (walk ++ [s + 1]))
def goodWalk (s l : Int) (w : List Int) : Bool := w.all (fun x => decide (1 ≤ x ∧ x ≤ s)) && (stridesI s w).all fun x => decide (1 ≤ x ∧ x ≤ l)
def isGoodWalk (s l : Int) : D → Bool
  | .tuple ds => ds.all (fun x => isWhole x 1 s) && (stridesI s (intsOf ds)).all fun x => decide (1 ≤ x ∧ x ≤ l)
  | _ => false
/-- long tuples and lists are not met -/
def short : D → Prop
  | .tuple ds => ds.length ≤ 1000
  | .list ds => ds.length ≤ 1000
  | _ => True
theorem szl : sizeLine = 2 ^ 24 := by decide
theorem isWhole_int {d : D} {lo hi : Int} (h : isWhole d lo hi = true) : ∃ i, d = .int i ∧ lo ≤ i ∧ i ≤ hi := by
  cases d <;> simp [isWhole] at h
  exact ⟨_, rfl, h⟩
theorem intsOf_int (ns : List Int) : intsOf (ns.map .int) = ns := by
  unfold intsOf
  rw [List.map_map]
  exact List.map_id'' (fun _ => rfl) ns
theorem ints_of_whole {lo hi : Int} : ∀ {ds : List D}, (ds.all fun x => isWhole x lo hi) = true → ds = (intsOf ds).map .int
  | [], _ => rfl
  | d :: ds, h => by
    simp only [List.all_cons, Bool.and_eq_true] at h
    obtain ⟨i, rfl, _⟩ := isWhole_int h.1
    show _ = PyData.int i :: (intsOf ds).map .int
    rw [← ints_of_whole h.2]
theorem isGoodWalk_int (s l : Int) (w : List Int) : isGoodWalk s l (tI w) = goodWalk s l w := by
  unfold isGoodWalk goodWalk
  simp only [intsOf_int, List.all_map]
  rfl
theorem zipD_I (xs ys : List Int) : zipD (xs.map .int) (ys.map .int) = (xs.zip ys).map fun p => p2 p.1 p.2 := by
  unfold zipD
  rw [List.zipWith_map, List.zip, List.map_zipWith]
@[simp] theorem cutD_I (xs : List Int) (lo hi : Option Int) : cutD (xs.map .int) lo hi = ((xs.drop (HT.sIx xs.length 0 lo)).take (HT.sIx xs.length xs.length hi - HT.sIx xs.length 0 lo)).map .int := by
  unfold cutD
  rw [List.map_take, List.map_drop, List.length_map]
def cutI {α : Type} (xs : List α) (lo hi : Option Int) : List α := (xs.drop (HT.sIx xs.length 0 lo)).take (HT.sIx xs.length xs.length hi - HT.sIx xs.length 0 lo)
theorem cutI_from {α : Type} (xs : List α) {i : Int} (h : 0 ≤ i) : cutI xs (some i) none = xs.drop i.toNat := by
  unfold cutI HT.sIx
  simp only [if_neg (Int.not_lt.mpr h)]
  by_cases hi : i.toNat ≤ xs.length
  · rw [Nat.min_eq_left hi, List.take_of_length_le (by rw [List.length_drop]; omega)]
  · rw [Nat.min_eq_right (by omega), List.drop_of_length_le (Nat.le_refl _), List.drop_of_length_le (by omega), List.take_nil]
theorem cutI_to {α : Type} (xs : List α) {i : Int} (h : 0 ≤ i) : cutI xs none (some i) = xs.take i.toNat := by
  unfold cutI HT.sIx
  simp only [if_neg (Int.not_lt.mpr h), List.drop_zero, Nat.sub_zero]
  rw [← List.take_take, List.take_of_length_le (Nat.le_refl xs.length)]
theorem cutI_both {α : Type} (xs : List α) {i j : Int} (h : 0 ≤ i) (h' : i ≤ j) : cutI xs (some i) (some j) = (xs.drop i.toNat).take (j.toNat - i.toNat) := by
  unfold cutI HT.sIx
  simp only [if_neg (Int.not_lt.mpr h), if_neg (show ¬ j < 0 by omega)]
  by_cases hi : i.toNat ≤ xs.length
  · rw [Nat.min_eq_left hi]
    by_cases hj : j.toNat ≤ xs.length
    · rw [Nat.min_eq_left hj]
    · rw [Nat.min_eq_right (by omega), List.take_of_length_le (by rw [List.length_drop]; omega), List.take_of_length_le (by rw [List.length_drop]; omega)]
  · rw [Nat.min_eq_right (by omega : xs.length ≤ i.toNat), List.drop_of_length_le (Nat.le_refl _), List.drop_of_length_le (by omega), List.take_nil, List.take_nil]
end SD
namespace SD
open PySem PySem.Spec PyProof.Rows L2
/-! ### == at encoded data -/
theorem eqvAll_I : ∀ xs ys : List Int, PyData.eqvAll (xs.map .int) (ys.map .int) = decide (xs = ys)
  | [], [] => by simp [PyData.eqvAll]
  | [], _ :: _ => by simp [PyData.eqvAll]
  | _ :: _, [] => by simp [PyData.eqvAll]
  | x :: xs, y :: ys => by
    have := eqvAll_I xs ys
    by_cases h : x = y <;> simp_all [PyData.eqvAll, PyData.eqv]
theorem eqvAll_W : ∀ xs ys : List (List Int), PyData.eqvAll (xs.map tI) (ys.map tI) = decide (xs = ys)
  | [], [] => by simp [PyData.eqvAll]
  | [], _ :: _ => by simp [PyData.eqvAll]
  | _ :: _, [] => by simp [PyData.eqvAll]
  | x :: xs, y :: ys => by
    have h1 := eqvAll_W xs ys
    have h2 := eqvAll_I x y
    by_cases h : x = y <;> simp_all [PyData.eqvAll, PyData.eqv]
theorem shp_tI (n : Nat) (ns : List Int) : Shp (n + 1) (tI ns) := shp_tup (shp_ints n ns)
theorem shp_lI (n : Nat) (ns : List Int) : Shp (n + 1) (lI ns) := shp_list (shp_ints n ns)
theorem shp_lW (n : Nat) (ws : List (List Int)) : Shp (n + 2) (lW ws) := shp_list fun d hd => by
  obtain ⟨w, _, rfl⟩ := List.mem_map.mp hd
  exact shp_tI n w
section
variable {Q : D → Prop}
theorem gEq_ii {i j : Int} : gEq (.int i) (.int j) Q ↔ Q (.bool (decide (i = j))) := by
  have e : PyData.eqv (.int i) (.int j) = decide (i = j) := by
    by_cases h : i = j <;> simp [PyData.eqv, h]
  unfold gEq
  rw [e]
  exact ⟨fun h => h.2.2, fun h => ⟨(shp_int 0 i).ok, (shp_int 0 j).ok, h⟩⟩
theorem gNe_ii {i j : Int} : gNe (.int i) (.int j) Q ↔ Q (.bool (!decide (i = j))) := by
  have e : PyData.eqv (.int i) (.int j) = decide (i = j) := by
    by_cases h : i = j <;> simp [PyData.eqv, h]
  unfold gNe
  rw [e]
  exact ⟨fun h => h.2.2, fun h => ⟨(shp_int 0 i).ok, (shp_int 0 j).ok, h⟩⟩
theorem gEq_tt {i j : List Int} : gEq (.tuple (i.map .int)) (.tuple (j.map .int)) Q ↔ Q (.bool (decide (i = j))) := by
  unfold gEq
  rw [PyData.eqv, eqvAll_I]
  exact ⟨fun h => h.2.2, fun h => ⟨(shp_tI 0 i).ok, (shp_tI 0 j).ok, h⟩⟩
theorem gNe_tt {i j : List Int} : gNe (.tuple (i.map .int)) (.tuple (j.map .int)) Q ↔ Q (.bool (!decide (i = j))) := by
  unfold gNe
  rw [PyData.eqv, eqvAll_I]
  exact ⟨fun h => h.2.2, fun h => ⟨(shp_tI 0 i).ok, (shp_tI 0 j).ok, h⟩⟩
theorem gEq_ll {i j : List Int} : gEq (.list (i.map .int)) (.list (j.map .int)) Q ↔ Q (.bool (decide (i = j))) := by
  unfold gEq
  rw [PyData.eqv, eqvAll_I]
  exact ⟨fun h => h.2.2, fun h => ⟨(shp_lI 0 i).ok, (shp_lI 0 j).ok, h⟩⟩
theorem gNe_l0 {i : List Int} : gNe (.list (i.map .int)) (.list []) Q ↔ Q (.bool (!decide (i = []))) := by
  unfold gNe
  have := eqvAll_I i []
  rw [PyData.eqv, show ([] : List D) = List.map .int [] from rfl, this]
  exact ⟨fun h => h.2.2, fun h => ⟨(shp_lI 0 i).ok, (shp_lI 0 []).ok, h⟩⟩
theorem gEq_l0 {i : List Int} : gEq (.list (i.map .int)) (.list []) Q ↔ Q (.bool (decide (i = []))) := by
  unfold gEq
  have := eqvAll_I i []
  rw [PyData.eqv, show ([] : List D) = List.map .int [] from rfl, this]
  exact ⟨fun h => h.2.2, fun h => ⟨(shp_lI 0 i).ok, (shp_lI 0 []).ok, h⟩⟩
theorem gEq_ww {i j : List (List Int)} : gEq (.list (i.map tI)) (.list (j.map tI)) Q ↔ Q (.bool (decide (i = j))) := by
  unfold gEq
  rw [PyData.eqv, eqvAll_W]
  exact ⟨fun h => h.2.2, fun h => ⟨(shp_lW 0 i).ok, (shp_lW 0 j).ok, h⟩⟩
theorem gNe_ww {i j : List (List Int)} : gNe (.list (i.map tI)) (.list (j.map tI)) Q ↔ Q (.bool (!decide (i = j))) := by
  unfold gNe
  rw [PyData.eqv, eqvAll_W]
  exact ⟨fun h => h.2.2, fun h => ⟨(shp_lW 0 i).ok, (shp_lW 0 j).ok, h⟩⟩
theorem gNe_bb {i j : Bool} : gNe (.bool i) (.bool j) Q ↔ Q (.bool (!decide (i = j))) := by
  have e : PyData.eqv (.bool i) (.bool j) = decide (i = j) := by cases i <;> cases j <;> simp [PyData.eqv]
  unfold gNe
  rw [e]
  exact ⟨fun h => h.2.2, fun h => ⟨(shp_bool 0 i).ok, (shp_bool 0 j).ok, h⟩⟩
theorem gEq_bb {i j : Bool} : gEq (.bool i) (.bool j) Q ↔ Q (.bool (decide (i = j))) := by
  have e : PyData.eqv (.bool i) (.bool j) = decide (i = j) := by cases i <;> cases j <;> simp [PyData.eqv]
  unfold gEq
  rw [e]
  exact ⟨fun h => h.2.2, fun h => ⟨(shp_bool 0 i).ok, (shp_bool 0 j).ok, h⟩⟩
end
theorem nolist_tI (ns : List Int) : nolist (tI ns) = true := by
  unfold nolist
  induction ns with
  | nil => rfl
  | cons n ns ih => simpa [nolists, nolist] using ih
theorem nolists_W (ws : List (List Int)) : nolists (ws.map tI) = true := by
  induction ws with
  | nil => rfl
  | cons n ns ih =>
    rw [List.map_cons, nolists, nolist_tI, ih]
    rfl
theorem nolists_I (ns : List Int) : nolists (ns.map .int) = true := by
  induction ns with
  | nil => rfl
  | cons n ns ih => simpa [nolists, nolist] using ih
theorem atI_map {α : Type} (enc : α → D) {xs : List α} {i : Int} (h0 : 0 ≤ i) (h1 : i < xs.length) : atI (xs.map enc) i = (xs[i.toNat]?).map enc := by
  rw [atI_at h0 (by rw [List.length_map]; exact h1), List.getElem?_map]
theorem enumD_I (ns : List Int) : enumD (ns.map .int) = (ns.zipIdx).map fun p => p2 (p.2 : Nat) p.1 := by
  unfold enumD
  apply List.ext_getElem?
  intro i
  simp only [List.getElem?_mapIdx, List.getElem?_map, List.getElem?_zipIdx, Option.map_map]
  cases ns[i]? <;> simp
/-- a flight -/
def FlOk (s l : Int) : Prop := 1 ≤ s ∧ s ≤ 8 ∧ 1 ≤ l ∧ l ≤ 5
theorem FlOk.is {s l : Int} (h : FlOk s l) : isFlight (p2 s l) = true := by
  obtain ⟨h1, h2, h3, h4⟩ := h
  simp [isFlight, isWhole, h1, h2, h3, h4]
def goodWear (s : Int) : D → Bool
  | .tuple ds => decide ((ds.length : Int) = s) && ds.all fun x => isWhole x 0 9
  | _ => false
def WrOk (s : Int) (wear : List Int) : Prop := (wear.length : Int) = s ∧ ∀ x ∈ wear, 0 ≤ x ∧ x ≤ 9
theorem WrOk.is {s : Int} {wear : List Int} (h : WrOk s wear) : goodWear s (tI wear) = true := by
  simp only [goodWear, List.length_map, h.1, decide_true, Bool.true_and, List.all_map, List.all_eq_true]
  intro x hx
  simp [isWhole, h.2 x hx]
def sumOf (s : Int) (walks : List (List Int)) : List Int := (rgI 1 (s + 1)).map fun st => ((walks.filter fun w => decide (st ∈ w)).length : Int)
def rowsI (s l : Int) : List Int := rgI 1 (s - l + 2)
def withinI (row : List Int) (l f : Int) : Int := (cutI row (some (f - 1)) (some (f - 1 + l))).sum
def aboveI (s : Int) (lows : List Int) (many : Int) : List Int := (rgI 1 (s + 1)).filter fun st => decide (many < lows.getD (st - 1).toNat 0)
def topsI (highs : List Int) (many : Int) : List Int := highs.map fun one => if many < one then many else one
def lackI (s l : Int) (tops : List Int) (many : Int) : List Int := (rowsI s l).filter fun f => decide (withinI tops l f < many)
def barD (s l : Int) (lows highs : List Int) (many : Int) : D := match aboveI s lows many with
  | a :: _ => .tuple [.str "step", .int a]
  | [] => match lackI s l (topsI highs many) many with
    | f :: _ => .tuple [.str "row", .int f]
    | [] => .none
def doMake (s l : Int) (wear : List Int) (many : Int) : Bool := isNone (barD s l wear wear many)
def turnStep (st : List Int × List (List Int)) (p : Int × Nat) : List Int × List (List Int) :=
  (st.1.drop p.1.toNat ++ st.1.take p.1.toNat, (st.1.take p.1.toNat).foldl (fun f w => f.set w.toNat (f.getD w.toNat [] ++ [(p.2 : Int) + 1])) st.2)
def turnsI (wear : List Int) (many : Int) : List (List Int) := (wear.zipIdx.foldl turnStep (rgI 0 many, List.replicate many.toNat [])).2
end SD
namespace SD
open PySem PySem.Spec PyProof.Rows L2
theorem atI_zero {α : Type} {x : α} {xs : List α} : atI (x :: xs) 0 = some x := by
  rw [atI_at (by decide) (by rw [List.length_cons]; omega)]
  rfl
theorem ixN_at {n : Nat} {i : Int} (h0 : 0 ≤ i) (h1 : i < n) : ixN n i = some i.toNat := by
  unfold ixN
  rw [if_pos h0, if_pos h1]
theorem map_const_rep {α : Type} (x : α) (lo hi : Int) : (rgI lo hi).map (fun _ => x) = List.replicate (hi - lo).toNat x := by
  rw [List.map_const', rgI_len]
def putW (k : Nat) (f : List (List Int)) (w : Int) : List (List Int) := f.set w.toNat (f.getD w.toNat [] ++ [(k : Int) + 1])
theorem putW_len (k : Nat) (f : List (List Int)) (w : Int) : (putW k f w).length = f.length := by simp [putW]
theorem putW_bound {k B : Nat} {f : List (List Int)} {w : Int} (h : ∀ x ∈ f, x.length ≤ B) : ∀ x ∈ putW k f w, x.length ≤ B + 1 := by
  intro x hx
  unfold putW at hx
  rcases List.mem_or_eq_of_mem_set hx with hx | rfl
  · have := h x hx
    omega
  · rw [List.length_append, List.getD_eq_getElem?_getD]
    cases e : f[w.toNat]? with
    | none => simp
    | some y =>
      have := h y (List.mem_of_getElem? e)
      simpa using this
theorem foldl_putW_len (k : Nat) : ∀ (ws : List Int) (f : List (List Int)), (ws.foldl (putW k) f).length = f.length
  | [], f => rfl
  | w :: ws, f => by rw [List.foldl_cons, foldl_putW_len k ws, putW_len]
theorem foldl_putW_bound (k : Nat) : ∀ (ws : List Int) (B : Nat) (f : List (List Int)), (∀ x ∈ f, x.length ≤ B) → ∀ x ∈ ws.foldl (putW k) f, x.length ≤ B + ws.length
  | [], B, f, h => h
  | w :: ws, B, f, h => fun x hx => by
    have := foldl_putW_bound k ws (B + 1) (putW k f w) (putW_bound h) x hx
    rw [List.length_cons]
    omega
theorem turnStep_eq (st : List Int × List (List Int)) (p : Int × Nat) : turnStep st p = (st.1.drop p.1.toNat ++ st.1.take p.1.toNat, (st.1.take p.1.toNat).foldl (putW p.2) st.2) := rfl
end SD
namespace SD
open PySem PySem.Spec PyProof.Rows L2
/-! ### the law's own walks -/
def allRows (s : Int) : List (List Int) := (rgI 1 (s + 1)).foldl (fun rows st => rows ++ rows.map fun r => r ++ [st]) [[]]
def maxStride (s : Int) (r : List Int) : Int := (stridesI s r).tail.foldl max ((stridesI s r).headD 0)
def leW (a b : List Int) : Bool := PySem.W.dataLe false id (tI a) (tI b)
def sortW (ws : List (List Int)) : List (List Int) := ws.mergeSort leW
def walksI (s l : Int) : List (List Int) := sortW ((allRows s).filter fun r => decide (maxStride s r ≤ l))
theorem sortD_W (ws : List (List Int)) : sortD (ws.map tI) = (sortW ws).map tI := by
  have q := List.map_mergeSort (r := leW) (s := PySem.W.dataLe false id) (f := tI) (l := ws) (fun a _ b _ => rfl)
  unfold sortD sortW
  rw [q]
theorem sort_ok (ws : List (List Int)) : PySem.W.AllAlike (ws.map tI) ∧ (∀ d ∈ ws.map tI, d ≠ .none) ∧ ∀ d ∈ ws.map tI, d.depth ≤ 60 := by
  refine ⟨PySem.W.AllAlike.of fun a b => ?_, fun d hd => ?_, fun d hd => ?_⟩
  · show PySem.W.alike (.tuple (a.map .int)) (.tuple (b.map .int)) = true
    rw [PySem.W.alike]
    exact PySem.W.alike_ints a b
  · obtain ⟨w, _, rfl⟩ := List.mem_map.mp hd
    exact fun z => nomatch z
  · obtain ⟨w, _, rfl⟩ := List.mem_map.mp hd
    exact Nat.le_trans (shp_tI 0 w).2 (by decide)
theorem strides_len (s : Int) (r : List Int) : (stridesI s r).length = r.length + 1 := by
  simp [stridesI, diffs]
theorem strides_cons (s : Int) (r : List Int) : ∃ n ns, stridesI s r = n :: ns := by
  have := strides_len s r
  cases h : stridesI s r with
  | nil => rw [h] at this; simp at this
  | cons n ns => exact ⟨n, ns, rfl⟩
theorem rows_len (st : List Int) : ∀ rows : List (List Int), (st.foldl (fun rows st => rows ++ rows.map fun r => r ++ [st]) rows).length = rows.length * 2 ^ st.length := by
  induction st with
  | nil => simp
  | cons a st ih =>
    intro rows
    rw [List.foldl_cons, ih, List.length_append, List.length_map, List.length_cons, Nat.pow_succ]
    rw [show rows.length + rows.length = rows.length * 2 by omega, Nat.mul_assoc, Nat.mul_comm 2]
theorem rows_in (P : List Int → Prop) (st : List Int) : ∀ rows : List (List Int), (∀ r ∈ rows, P r) → (∀ r a, P r → a ∈ st → P (r ++ [a])) → ∀ r ∈ st.foldl (fun rows st => rows ++ rows.map fun r => r ++ [st]) rows, P r := by
  induction st with
  | nil => intro rows h _; exact h
  | cons a st ih =>
    intro rows h hs
    rw [List.foldl_cons]
    refine ih _ (fun r hr => ?_) fun r b hr hb => hs r b hr (List.mem_cons_of_mem _ hb)
    rcases List.mem_append.mp hr with hr | hr
    · exact h r hr
    · obtain ⟨r', hr', rfl⟩ := List.mem_map.mp hr
      exact hs r' a (h r' hr') List.mem_cons_self
theorem rows_full : ∀ (st : List Int) (rows : List (List Int)) (r : List Int), r ∈ rows → r ++ st ∈ st.foldl (fun rows st => rows ++ rows.map fun r => r ++ [st]) rows
  | [], rows, r, h => by simpa using h
  | a :: st, rows, r, h => by
    rw [List.foldl_cons, show r ++ a :: st = (r ++ [a]) ++ st by simp]
    exact rows_full st _ _ (List.mem_append.mpr (.inr (List.mem_map.mpr ⟨r, h, rfl⟩)))
theorem mem_walksI {s l : Int} {w : List Int} : w ∈ walksI s l ↔ w ∈ allRows s ∧ maxStride s w ≤ l := by
  unfold walksI sortW
  rw [(List.mergeSort_perm _ _).mem_iff, List.mem_filter]
  simp
theorem unmap {P : List Int → Prop} : ∀ {ys : List D}, (∀ y ∈ ys, ∃ w, P w ∧ y = tI w) → ∃ ws : List (List Int), ys = ws.map tI ∧ ∀ w ∈ ws, P w
  | [], _ => ⟨[], rfl, fun w h => by cases h⟩
  | y :: ys, h => by
    obtain ⟨w, hw, rfl⟩ := h y List.mem_cons_self
    obtain ⟨ws, rfl, hws⟩ := unmap fun y hy => h y (List.mem_cons_of_mem _ hy)
    refine ⟨w :: ws, rfl, fun u hu => ?_⟩
    rcases List.mem_cons.mp hu with rfl | hu
    · exact hw
    · exact hws u hu
def madeI (s l : Int) (wear : List Int) (many : Int) : Bool := decide (wear.tail.foldl max (wear.headD 0) ≤ many) && decide (((rgI 0 (s - l + 1)).map (fun f => (cutI wear (some f) (some (f + l))).sum)).filter (fun x => decide (x < many)) = [])
end SD
namespace SD
open PySem PySem.Spec PyProof.Rows L2
theorem allRows_len {s : Int} (h : s ≤ 8) : (allRows s).length ≤ 256 := by
  unfold allRows
  rw [rows_len, rgI_len]
  have : (s + 1 - 1).toNat ≤ 8 := by omega
  have := Nat.pow_le_pow_right (n := 2) (by decide) this
  simpa using this
theorem walks_len {s l : Int} (h : FlOk s l) : (walksI s l).length ≤ 256 := by
  unfold walksI sortW
  rw [List.length_mergeSort]
  exact Nat.le_trans (List.length_filter_le _ _) (allRows_len h.2.1)
theorem diffs_cons (a b : Int) (ns : List Int) : diffs (a :: b :: ns) = (b - a) :: diffs (b :: ns) := rfl
theorem diffs_one (a : Int) : diffs [a] = [] := rfl
theorem foldl_max_le {n m : Int} : ∀ {ns : List Int}, n ≤ m → (∀ x ∈ ns, x ≤ m) → ns.foldl max n ≤ m
  | [], h, _ => h
  | x :: ns, h, hs => by
    rw [List.foldl_cons]
    exact foldl_max_le (Int.max_le.mpr ⟨h, hs x List.mem_cons_self⟩) fun y hy => hs y (List.mem_cons_of_mem _ hy)
theorem foldl_max_ge {n : Int} : ∀ {ns : List Int}, n ≤ ns.foldl max n ∧ ∀ x ∈ ns, x ≤ ns.foldl max n
  | [] => ⟨Int.le_refl _, fun x h => by cases h⟩
  | y :: ns => by
    rw [List.foldl_cons]
    obtain ⟨h1, h2⟩ := foldl_max_ge (n := max n y) (ns := ns)
    refine ⟨Int.le_trans (Int.le_max_left ..) h1, fun x hx => ?_⟩
    rcases List.mem_cons.mp hx with rfl | hx
    · exact Int.le_trans (Int.le_max_right ..) h1
    · exact h2 x hx
theorem maxStride_le {s l : Int} {r : List Int} : maxStride s r ≤ l ↔ ∀ x ∈ stridesI s r, x ≤ l := by
  unfold maxStride
  obtain ⟨n, ns, e⟩ := strides_cons s r
  rw [e]
  constructor
  · intro h x hx
    obtain ⟨h1, h2⟩ := foldl_max_ge (n := n) (ns := ns)
    rcases List.mem_cons.mp hx with rfl | hx
    · exact Int.le_trans h1 h
    · exact Int.le_trans (h2 x hx) h
  · intro h
    exact foldl_max_le (h n List.mem_cons_self) fun x hx => h x (List.mem_cons_of_mem _ hx)
/-- consecutive numbers go by ones -/
theorem diffs_run : ∀ (n : Nat) (a : Int), ∀ x ∈ diffs ((List.range (n + 1)).map fun i : Nat => a + i), x = 1
  | 0, a, x, h => by simp [diffs] at h
  | n + 1, a, x, h => by
    have e : ((List.range (n + 2)).map fun i : Nat => a + i) = a :: (a + 1) :: ((List.range n).map fun i : Nat => (a + 2) + i) := by
      rw [List.range_succ_eq_map, List.range_succ_eq_map]
      simp only [List.map_cons, List.map_map]
      refine congr (congrArg List.cons (by simp)) (congr (congrArg List.cons (by simp)) ?_)
      apply List.map_congr_left
      intro i _
      simp
      omega
    have e' : ((List.range (n + 1)).map fun i : Nat => (a + 1) + i) = (a + 1) :: ((List.range n).map fun i : Nat => (a + 2) + i) := by
      rw [List.range_succ_eq_map]
      simp only [List.map_cons, List.map_map]
      refine congr (congrArg List.cons (by simp)) ?_
      apply List.map_congr_left
      intro i _
      simp
      omega
    rw [e, diffs_cons, ← e'] at h
    rcases List.mem_cons.mp h with rfl | h
    · omega
    · exact diffs_run n (a + 1) x h
theorem full_strides {s : Int} (h : 0 ≤ s) : ∀ x ∈ stridesI s (rgI 1 (s + 1)), x = 1 := by
  unfold stridesI
  have e : (0 : Int) :: (rgI 1 (s + 1) ++ [s + 1]) = (List.range (s.toNat + 1 + 1)).map fun i : Nat => (0 : Int) + i := by
    unfold rgI
    rw [List.range_succ_eq_map, List.map_cons, List.map_map, List.range_succ, List.map_append, show (s + 1 - 1).toNat = s.toNat by omega]
    refine congr (congrArg List.cons (by simp)) (congr (congrArg _ ?_) ?_)
    · apply List.map_congr_left
      intro i _
      simp
      omega
    · simp
      omega
  rw [e]
  exact diffs_run _ 0
theorem full_mem {s l : Int} (h : FlOk s l) : rgI 1 (s + 1) ∈ walksI s l := by
  obtain ⟨f1, f2, f3, f4⟩ := h
  refine mem_walksI.mpr ⟨?_, maxStride_le.mpr fun x hx => ?_⟩
  · have := rows_full (rgI 1 (s + 1)) [[]] [] List.mem_cons_self
    rw [List.nil_append] at this
    exact this
  · rw [full_strides (by omega) x hx]
    exact f3
theorem walks_pos {s l : Int} (h : FlOk s l) : 0 < (walksI s l).length := List.length_pos_of_mem (full_mem h)
end SD

namespace SD
open PySem PySem.Spec PyProof.Rows L2
/-! ### by turns, in closed form -/
def nAt (wear : List Int) (i : Nat) : Nat := (wear.getD i 0).toNat
def pre (wear : List Int) : Nat → Nat
  | 0 => 0
  | j + 1 => pre wear j + nAt wear j
def hitB (m T n w : Nat) : Bool := (List.range n).any fun i => (T + i) % m == w
def hits (wear : List Int) (m w i : Nat) : Bool := hitB m (pre wear i) (nAt wear i) w
def walkH (h : Nat → Bool) (j : Nat) : List Int := ((List.range j).filter h).map fun i : Nat => (i : Int) + 1
def rot (m T : Nat) : List Int := (List.range m).map fun i => (((T + i) % m : Nat) : Int)
theorem walkH_succ (h : Nat → Bool) (j : Nat) : walkH h (j + 1) = if h j = true then walkH h j ++ [(j : Int) + 1] else walkH h j := by
  unfold walkH
  rw [List.range_succ, List.filter_append]
  by_cases hj : h j = true
  · rw [if_pos hj, List.filter_cons_of_pos hj, List.map_append]
    rfl
  · rw [if_neg hj, List.filter_cons_of_neg hj]
    simp
theorem mem_walkH {h : Nat → Bool} {j : Nat} {x : Int} : x ∈ walkH h j ↔ ∃ i, i < j ∧ h i = true ∧ x = (i : Int) + 1 := by
  unfold walkH
  rw [List.mem_map]
  constructor
  · rintro ⟨i, hi, rfl⟩
    rw [List.mem_filter, List.mem_range] at hi
    exact ⟨i, hi.1, hi.2, rfl⟩
  · rintro ⟨i, h1, h2, rfl⟩
    exact ⟨i, List.mem_filter.mpr ⟨List.mem_range.mpr h1, h2⟩, rfl⟩
theorem hitB_iff {m T n w : Nat} : hitB m T n w = true ↔ ∃ i, i < n ∧ (T + i) % m = w := by
  unfold hitB
  rw [List.any_eq_true]
  constructor
  · rintro ⟨i, h1, h2⟩
    exact ⟨i, List.mem_range.mp h1, by simpa using h2⟩
  · rintro ⟨i, h1, h2⟩
    exact ⟨i, List.mem_range.mpr h1, by simpa using h2⟩
theorem rot_len (m T : Nat) : (rot m T).length = m := by simp [rot]
theorem rot_take {m T n : Nat} (h : n ≤ m) : (rot m T).take n = (List.range n).map fun i => (((T + i) % m : Nat) : Int) := by
  unfold rot
  rw [← List.map_take, List.take_range, Nat.min_eq_left h]
theorem mod_inj {m T i j : Nat} (hi : i < m) (hj : j < m) (h : (T + i) % m = (T + j) % m) : i = j := by
  have h1 := Nat.div_add_mod (T + i) m
  have h2 := Nat.div_add_mod (T + j) m
  rw [h] at h1
  rcases Nat.lt_trichotomy ((T + i) / m) ((T + j) / m) with q | q | q
  · have : m * ((T + i) / m) + m ≤ m * ((T + j) / m) := by
      rw [← Nat.mul_succ]
      exact Nat.mul_le_mul_left _ q
    omega
  · rw [q] at h1
    omega
  · have : m * ((T + j) / m) + m ≤ m * ((T + i) / m) := by
      rw [← Nat.mul_succ]
      exact Nat.mul_le_mul_left _ q
    omega
theorem nodup_map_range {α : Type} {f : Nat → α} : ∀ {n : Nat}, (∀ i j, i < n → j < n → f i = f j → i = j) → ((List.range n).map f).Nodup
  | 0, _ => List.nodup_nil
  | n + 1, h => by
    rw [List.range_succ, List.map_append]
    refine List.nodup_append.mpr ⟨nodup_map_range fun i j hi hj => h i j (by omega) (by omega), by simp, fun a ha b hb e => ?_⟩
    obtain ⟨i, hi, rfl⟩ := List.mem_map.mp ha
    rw [List.map_cons, List.map_nil, List.mem_singleton] at hb
    subst hb
    have hi' := List.mem_range.mp hi
    have := h i n (by omega) (by omega) e
    omega
theorem rot_take_nodup {m T n : Nat} (h : n ≤ m) : ((rot m T).take n).Nodup := by
  rw [rot_take h]
  exact nodup_map_range fun i j hi hj e => mod_inj (T := T) (m := m) (by omega) (by omega) (by exact_mod_cast e)
theorem rot_turn {m T n : Nat} (h : n ≤ m) : (rot m T).drop n ++ (rot m T).take n = rot m (T + n) := by
  apply List.ext_getElem
  · simp [rot]
    omega
  · intro i h1 h2
    rw [rot_len] at h2
    rw [List.getElem_append]
    split
    · rename_i hi
      rw [List.getElem_drop]
      simp only [rot, List.getElem_map, List.getElem_range]
      rw [show T + (n + i) = T + n + i by omega]
    · rename_i hi
      rw [List.length_drop, rot_len] at hi
      rw [List.getElem_take]
      simp only [rot, List.getElem_map, List.getElem_range, List.length_drop, List.length_map, List.length_range]
      rw [show T + n + i = T + (i - (m - n)) + m by omega, Nat.add_mod_right]
theorem foldl_put (k : Nat) : ∀ (front : List Int) (fd : List (List Int)), front.Nodup → (∀ v ∈ front, 0 ≤ v) → front.foldl (putW k) fd = fd.mapIdx fun w f => if (w : Int) ∈ front then f ++ [(k : Int) + 1] else f
  | [], fd, _, _ => by
    simp only [List.foldl_nil, List.not_mem_nil, if_false]
    exact (List.ext_getElem (by simp) (by simp)).symm
  | v :: front, fd, nd, h0 => by
    obtain ⟨n1, n2⟩ := List.nodup_cons.mp nd
    rw [List.foldl_cons, foldl_put k front _ n2 fun u hu => h0 u (List.mem_cons_of_mem _ hu)]
    have v0 := h0 v List.mem_cons_self
    apply List.ext_getElem
    · simp [putW_len]
    · intro i h1 h2
      simp only [List.getElem_mapIdx]
      have hi : i < fd.length := by simpa using h2
      by_cases hiv : (i : Int) = v
      · have e : v.toNat = i := by omega
        have ev : (putW k fd v)[i]'(by rw [putW_len]; exact hi) = fd[i] ++ [(k : Int) + 1] := by
          unfold putW
          simp only [e, List.getElem_set_self, List.getD_eq_getElem?_getD, List.getElem?_eq_getElem hi, Option.getD_some]
        rw [ev, if_neg (by rw [hiv]; exact n1), if_pos (by rw [hiv]; exact List.mem_cons_self)]
      · have e : v.toNat ≠ i := by omega
        have ev : (putW k fd v)[i]'(by rw [putW_len]; exact hi) = fd[i] := by
          unfold putW
          rw [List.getElem_set_ne e]
        rw [ev]
        by_cases hm : (i : Int) ∈ front
        · rw [if_pos hm, if_pos (List.mem_cons_of_mem _ hm)]
        · rw [if_neg hm, if_neg fun z => by
            rcases List.mem_cons.mp z with z | z
            · exact hiv z
            · exact hm z]
theorem turns_at {wear : List Int} {m : Nat} (h0 : ∀ x ∈ wear, 0 ≤ x ∧ x ≤ m) : ∀ j, j ≤ wear.length → (wear.zipIdx.take j).foldl turnStep (rgI 0 m, List.replicate m []) = (rot m (pre wear j), (List.range m).map fun w => walkH (hits wear m w) j)
  | 0, _ => by
    simp only [List.take_zero, List.foldl_nil, pre]
    refine Prod.ext ?_ ?_
    · show rgI 0 m = rot m 0
      unfold rgI rot
      rw [Int.sub_zero, Int.toNat_natCast]
      apply List.map_congr_left
      intro i hi
      rw [Nat.zero_add, Nat.mod_eq_of_lt (List.mem_range.mp hi), Int.zero_add]
    · show List.replicate m [] = _
      apply List.ext_getElem
      · simp
      · intro i _ _
        simp [walkH]
  | j + 1, hj => by
    have hz : j < wear.zipIdx.length := by rw [List.length_zipIdx]; omega
    rw [List.take_succ_eq_append_getElem hz, List.foldl_append, turns_at h0 j (by omega), List.foldl_cons, List.foldl_nil, List.getElem_zipIdx, turnStep_eq]
    have hjl : j < wear.length := by omega
    have hb := h0 wear[j] (List.getElem_mem hjl)
    have en : nAt wear j = wear[j].toNat := by
      unfold nAt
      rw [List.getD_eq_getElem?_getD, List.getElem?_eq_getElem hjl]
      rfl
    have hle : wear[j].toNat ≤ m := by omega
    simp only [Nat.zero_add]
    refine Prod.ext ?_ ?_
    · show _ = rot m (pre wear j + nAt wear j)
      rw [en]
      exact rot_turn hle
    · show ((rot m (pre wear j)).take wear[j].toNat).foldl (putW j) _ = _
      rw [foldl_put j _ _ (rot_take_nodup hle) fun v hv => by
        rw [rot_take hle] at hv
        obtain ⟨i, _, rfl⟩ := List.mem_map.mp hv
        exact Int.natCast_nonneg _]
      apply List.ext_getElem
      · simp
      · intro w h1 h2
        have hw : w < m := by simpa using h2
        simp only [List.getElem_mapIdx, List.getElem_map, List.getElem_range, walkH_succ]
        have : (w : Int) ∈ (rot m (pre wear j)).take wear[j].toNat ↔ hits wear m w j = true := by
          rw [rot_take hle]
          unfold hits
          rw [en, hitB_iff, List.mem_map]
          constructor
          · rintro ⟨i, h1, h2⟩
            exact ⟨i, List.mem_range.mp h1, by exact_mod_cast h2⟩
          · rintro ⟨i, h1, h2⟩
            exact ⟨i, List.mem_range.mpr h1, by exact_mod_cast h2⟩
        by_cases hh : hits wear m w j = true
        · rw [if_pos (this.mpr hh), if_pos hh]
        · rw [if_neg fun z => hh (this.mp z), if_neg hh]
theorem turns_eq {wear : List Int} {m : Nat} (h0 : ∀ x ∈ wear, 0 ≤ x ∧ x ≤ m) : turnsI wear m = (List.range m).map fun w => walkH (hits wear m w) wear.length := by
  have := turns_at h0 wear.length (Nat.le_refl _)
  rw [List.take_of_length_le (by rw [List.length_zipIdx]; exact Nat.le_refl _)] at this
  unfold turnsI
  rw [Int.toNat_natCast, this]
end SD
namespace SD
open PySem PySem.Spec PyProof.Rows L2
/-! ### strides of such a walk -/
theorem diffs_snoc : ∀ (L : List Int) (p x : Int), diffs (L ++ [p] ++ [x]) = diffs (L ++ [p]) ++ [x - p]
  | [], p, x => rfl
  | [a], p, x => rfl
  | a :: b :: L, p, x => by
    have := diffs_snoc (b :: L) p x
    simp only [List.cons_append, diffs_cons] at this ⊢
    rw [this]
theorem walkH_strides {h : Nat → Bool} {s l : Nat} (hw : ∀ a, a + l ≤ s → ∃ i, a ≤ i ∧ i < a + l ∧ h i = true) : ∀ j, j ≤ s → ∃ (p : Nat) (L : List Int), 0 :: walkH h j = L ++ [(p : Int)] ∧ p ≤ j ∧ (∀ i, p ≤ i → i < j → h i = false) ∧ ∀ x ∈ diffs (0 :: walkH h j), 1 ≤ x ∧ x ≤ l
  | 0, _ => ⟨0, [], rfl, Nat.le_refl _, fun i h1 h2 => by omega, fun x hx => by simp [walkH, diffs] at hx⟩
  | j + 1, hj => by
    obtain ⟨p, L, e, h1, h2, h3⟩ := walkH_strides hw j (by omega)
    rw [walkH_succ]
    by_cases hh : h j = true
    · rw [if_pos hh]
      refine ⟨j + 1, 0 :: walkH h j, by simp, Nat.le_refl _, fun i a1 a2 => by omega, fun x hx => ?_⟩
      rw [show (0 : Int) :: (walkH h j ++ [(j : Int) + 1]) = L ++ [(p : Int)] ++ [(j : Int) + 1] by rw [← e]; rfl, diffs_snoc, ← e] at hx
      rcases List.mem_append.mp hx with hx | hx
      · exact h3 x hx
      · rw [List.mem_singleton.mp hx]
        refine ⟨by omega, ?_⟩
        apply Int.not_lt.mp
        intro hlt
        obtain ⟨i, i1, i2, i3⟩ := hw p (by omega)
        rw [h2 i i1 (by omega)] at i3
        cases i3
    · rw [if_neg hh]
      refine ⟨p, L, e, by omega, fun i a1 a2 => ?_, h3⟩
      by_cases hij : i = j
      · rw [hij]
        exact Bool.eq_false_iff.mpr hh
      · exact h2 i a1 (by omega)
theorem walkH_good {h : Nat → Bool} {s l : Nat} (hw : ∀ a, a + l ≤ s → ∃ i, a ≤ i ∧ i < a + l ∧ h i = true) : goodWalk s l (walkH h s) = true := by
  unfold goodWalk
  rw [Bool.and_eq_true]
  constructor
  · rw [List.all_eq_true]
    intro x hx
    obtain ⟨i, h1, _, rfl⟩ := mem_walkH.mp hx
    simp
    omega
  · obtain ⟨p, L, e, h1, h2, h3⟩ := walkH_strides hw s (Nat.le_refl _)
    rw [List.all_eq_true]
    intro x hx
    unfold stridesI at hx
    rw [show (0 : Int) :: (walkH h s ++ [(s : Int) + 1]) = L ++ [(p : Int)] ++ [(s : Int) + 1] by rw [← e]; rfl, diffs_snoc, ← e] at hx
    rcases List.mem_append.mp hx with hx | hx
    · simpa using h3 x hx
    · rw [List.mem_singleton.mp hx]
      have : ¬ p + l ≤ s := fun z => by
        obtain ⟨i, i1, i2, i3⟩ := hw p z
        rw [h2 i i1 (by omega)] at i3
        cases i3
      simp
      omega
/-! ### each walker treads in a row that is worn enough -/
theorem pre_mono {wear : List Int} (a : Nat) : ∀ n, pre wear a ≤ pre wear (a + n)
  | 0 => Nat.le_refl _
  | n + 1 => Nat.le_trans (pre_mono a n) (Nat.le_add_right _ _)
theorem find_step {wear : List Int} {t : Nat} (a : Nat) : ∀ n, pre wear a ≤ t → t < pre wear (a + n) → ∃ i, a ≤ i ∧ i < a + n ∧ pre wear i ≤ t ∧ t < pre wear (i + 1)
  | 0, h1, h2 => by rw [Nat.add_zero] at h2; omega
  | n + 1, h1, h2 => by
    by_cases h : t < pre wear (a + n)
    · obtain ⟨i, i1, i2, i3⟩ := find_step a n h1 h
      exact ⟨i, i1, by omega, i3⟩
    · exact ⟨a + n, by omega, by omega, by omega, h2⟩
theorem mod_meet {m w T S : Nat} (hw : w < m) (hS : m ≤ S) : ∃ t, T ≤ t ∧ t < T + S ∧ t % m = w := by
  have hm : 0 < m := by omega
  by_cases h : T % m ≤ w
  · refine ⟨T + (w - T % m), by omega, by omega, ?_⟩
    have := Nat.div_add_mod T m
    rw [show T + (w - T % m) = w + m * (T / m) by omega, Nat.add_mul_mod_self_left, Nat.mod_eq_of_lt hw]
  · refine ⟨T + (w + m - T % m), by omega, by have := Nat.mod_lt T hm; omega, ?_⟩
    have := Nat.div_add_mod T m
    have hlt := Nat.mod_lt T hm
    rw [show T + (w + m - T % m) = w + m * (T / m + 1) by rw [Nat.mul_add]; omega, Nat.add_mul_mod_self_left, Nat.mod_eq_of_lt hw]
theorem row_hit {wear : List Int} {m w a n : Nat} (hw : w < m) (h : pre wear a + m ≤ pre wear (a + n)) : ∃ i, a ≤ i ∧ i < a + n ∧ hits wear m w i = true := by
  obtain ⟨t, t1, t2, t3⟩ := mod_meet (T := pre wear a) (S := pre wear (a + n) - pre wear a) hw (by omega)
  obtain ⟨i, i1, i2, i3, i4⟩ := find_step a n t1 (by omega)
  refine ⟨i, i1, i2, hitB_iff.mpr ⟨t - pre wear i, ?_, ?_⟩⟩
  · have : pre wear (i + 1) = pre wear i + nAt wear i := rfl
    omega
  · rw [show pre wear i + (t - pre wear i) = t by omega]
    exact t3
/-! ### how many tread a step -/
theorem hit_count {m T n : Nat} (h : n ≤ m) : ((List.range m).filter fun w => hitB m T n w).length = n := by
  have p : ((List.range m).filter fun w => hitB m T n w).Perm ((List.range n).map fun i => (T + i) % m) := by
    refine (List.perm_ext_iff_of_nodup (List.nodup_range.filter _) (nodup_map_range fun i j hi hj e => mod_inj (by omega) (by omega) e)).mpr fun w => ?_
    rw [List.mem_filter, hitB_iff, List.mem_range, List.mem_map]
    constructor
    · rintro ⟨_, i, h1, h2⟩
      exact ⟨i, List.mem_range.mpr h1, h2⟩
    · rintro ⟨i, h1, h2⟩
      have h1' := List.mem_range.mp h1
      refine ⟨?_, i, h1', h2⟩
      rw [← h2]
      exact Nat.mod_lt _ (by omega)
  rw [p.length_eq, List.length_map, List.length_range]
theorem sum_turns {wear : List Int} {m : Nat} (h0 : ∀ x ∈ wear, 0 ≤ x ∧ x ≤ m) : sumOf wear.length (turnsI wear m) = wear := by
  rw [turns_eq h0]
  unfold sumOf
  apply List.ext_getElem
  · rw [List.length_map, rgI_len]
    omega
  · intro i h1 h2
    simp only [List.getElem_map, rgI, List.getElem_range]
    rw [List.filter_map, List.length_map]
    have e : (fun w : Nat => decide (((1 : Int) + i) ∈ walkH (hits wear m w) wear.length)) = fun w => hitB m (pre wear i) (nAt wear i) w := by
      funext w
      have : (((1 : Int) + i) ∈ walkH (hits wear m w) wear.length) ↔ hitB m (pre wear i) (nAt wear i) w = true := by
        rw [mem_walkH]
        constructor
        · rintro ⟨k, k1, k2, k3⟩
          have : k = i := by omega
          subst this
          exact k2
        · intro h
          exact ⟨i, h2, h, by omega⟩
      by_cases hh : hitB m (pre wear i) (nAt wear i) w = true
      · rw [hh, decide_eq_true (this.mpr hh)]
      · rw [Bool.eq_false_iff.mpr hh, decide_eq_false fun z => hh (this.mp z)]
    show (((List.range m).filter (fun w : Nat => decide (((1 : Int) + i) ∈ walkH (hits wear m w) wear.length))).length : Int) = wear[i]
    rw [e]
    have en : nAt wear i = wear[i].toNat := by
      unfold nAt
      rw [List.getD_eq_getElem?_getD, List.getElem?_eq_getElem h2]
      rfl
    have hb := h0 wear[i] (List.getElem_mem h2)
    rw [hit_count (by omega), en]
    omega
/-- all treads together -/
theorem len_sum (h : Nat → Nat → Bool) (m : Nat) : ∀ j, (((List.range m).map fun w => ((walkH (h w) j).length : Int)).sum) = ((List.range j).map fun i => (((List.range m).filter fun w => h w i).length : Int)).sum
  | 0 => by
    simp only [walkH, List.range_zero, List.filter_nil, List.map_nil, List.length_nil, List.sum_nil]
    have : ∀ l : List Nat, (l.map fun _ : Nat => ((0 : Nat) : Int)).sum = 0 := fun l => by
      induction l with
      | nil => rfl
      | cons a l ih => rw [List.map_cons, List.sum_cons, ih]; rfl
    exact this _
  | j + 1 => by
    rw [List.range_succ (n := j), List.map_append, List.sum_append, ← len_sum h m j]
    have gen : ∀ l : List Nat, (l.map fun w => ((walkH (h w) (j + 1)).length : Int)).sum = (l.map fun w => ((walkH (h w) j).length : Int)).sum + ((l.filter fun w => h w j).length : Int) := fun l => by
      induction l with
      | nil => rfl
      | cons a l ih =>
        rw [List.map_cons, List.sum_cons, ih, List.map_cons, List.sum_cons, walkH_succ]
        by_cases ha : h a j = true
        · rw [if_pos ha, List.filter_cons_of_pos (p := fun w => h w j) ha, List.length_append, List.length_cons]
          simp
          omega
        · rw [if_neg ha, List.filter_cons_of_neg (p := fun w => h w j) ha]
          omega
    rw [gen]
    simp
theorem len_turns {wear : List Int} {m : Nat} (h0 : ∀ x ∈ wear, 0 ≤ x ∧ x ≤ m) : ((turnsI wear m).map fun w => (w.length : Int)).sum = wear.sum := by
  rw [turns_eq h0, List.map_map]
  show ((List.range m).map fun w => ((walkH (hits wear m w) wear.length).length : Int)).sum = _
  rw [len_sum (fun w => hits wear m w)]
  congr 1
  apply List.ext_getElem
  · simp
  · intro i h1 h2
    simp only [List.getElem_map, List.getElem_range]
    have en : nAt wear i = wear[i].toNat := by
      unfold nAt
      rw [List.getD_eq_getElem?_getD, List.getElem?_eq_getElem h2]
      rfl
    have hb := h0 wear[i] (List.getElem_mem h2)
    show (((List.range m).filter fun w => hitB m (pre wear i) (nAt wear i) w).length : Int) = _
    rw [hit_count (by omega), en]
    omega
/-! ### the order of walks -/
theorem leW_le (a b : List Int) : leW a b = decide (a ≤ b) := by
  unfold leW
  rw [PySem.W.dataLe_eq]
  show (!PySem.W.dataLt (.tuple (b.map .int)) (.tuple (a.map .int))) = _
  rw [PySem.W.dataLt_tuple]
  show (!PySem.W.rowLt (b.map .int) (a.map .int)) = _
  rw [PySem.W.dataLt_ints]
  by_cases h : b < a
  · have h' : ¬ a ≤ b := fun r => List.not_lt.mpr r h
    simp [h, h']
  · have h' : a ≤ b := List.not_lt.mp h
    simp [h, h']
theorem sortW_pairwise (ws : List (List Int)) : (sortW ws).Pairwise fun a b => leW a b = true := by
  refine List.pairwise_mergeSort (fun a b c h1 h2 => ?_) (fun a b => ?_) ws
  · rw [leW_le, decide_eq_true_eq] at h1 h2 ⊢
    exact List.le_trans h1 h2
  · rw [leW_le, leW_le, Bool.or_eq_true, decide_eq_true_eq, decide_eq_true_eq]
    exact List.le_total a b
theorem sortW_sortW (ws : List (List Int)) : sortW (sortW ws) = sortW ws := List.mergeSort_of_pairwise (sortW_pairwise ws)
theorem sortW_perm (ws : List (List Int)) : (sortW ws).Perm ws := List.mergeSort_perm _ _
theorem sumOf_perm {s : Int} {ws us : List (List Int)} (h : ws.Perm us) : sumOf s ws = sumOf s us := by
  unfold sumOf
  apply List.map_congr_left
  intro st _
  rw [(h.filter _).length_eq]
end SD
namespace SD
open PySem PySem.Spec PyProof.Rows L2
/-! ### can they make it -/
def Mk (s l : Int) (wear : List Int) (many : Int) : Prop := (∀ x ∈ wear, x ≤ many) ∧ ∀ f ∈ rgI 0 (s - l + 1), many ≤ (cutI wear (some f) (some (f + l))).sum
theorem above_nil {s : Int} {lows : List Int} {many : Int} (h : (lows.length : Int) = s) : aboveI s lows many = [] ↔ ∀ x ∈ lows, x ≤ many := by
  unfold aboveI
  rw [List.filter_eq_nil_iff]
  constructor
  · intro q x hx
    obtain ⟨i, hi, rfl⟩ := List.getElem_of_mem hx
    have := q ((i : Int) + 1) (mem_rgI.mpr ⟨by omega, by omega⟩)
    rw [show ((i : Int) + 1 - 1).toNat = i by omega, List.getD_eq_getElem?_getD, List.getElem?_eq_getElem hi] at this
    simpa using this
  · intro q st hst
    obtain ⟨h1, h2⟩ := mem_rgI.mp hst
    have hi : (st - 1).toNat < lows.length := by omega
    rw [List.getD_eq_getElem?_getD, List.getElem?_eq_getElem hi]
    simpa using q _ (List.getElem_mem hi)
theorem tops_id {highs : List Int} {many : Int} (h : ∀ x ∈ highs, x ≤ many) : topsI highs many = highs := by
  unfold topsI
  conv => rhs; rw [← List.map_id highs]
  apply List.map_congr_left
  intro x hx
  have := h x hx
  rw [if_neg (by omega)]
  rfl
theorem lack_nil {s l : Int} {tops : List Int} {many : Int} : lackI s l tops many = [] ↔ ∀ f ∈ rgI 0 (s - l + 1), many ≤ (cutI tops (some f) (some (f + l))).sum := by
  unfold lackI rowsI withinI
  rw [List.filter_eq_nil_iff]
  constructor
  · intro q f hf
    obtain ⟨h1, h2⟩ := mem_rgI.mp hf
    have := q (f + 1) (mem_rgI.mpr ⟨by omega, by omega⟩)
    rw [show f + 1 - 1 = f by omega] at this
    simpa using this
  · intro q f hf
    obtain ⟨h1, h2⟩ := mem_rgI.mp hf
    have := q (f - 1) (mem_rgI.mpr ⟨by omega, by omega⟩)
    simpa using this
theorem doMake_iff {s l : Int} {wear : List Int} {many : Int} (h : (wear.length : Int) = s) : doMake s l wear many = true ↔ Mk s l wear many := by
  unfold doMake barD
  constructor
  · intro q
    cases ha : aboveI s wear many with
    | cons a as => rw [ha] at q; cases q
    | nil =>
      rw [ha] at q
      have h1 := (above_nil h).mp ha
      cases hb : lackI s l (topsI wear many) many with
      | cons a as => rw [hb] at q; cases q
      | nil =>
        rw [tops_id h1] at hb
        exact ⟨h1, lack_nil.mp hb⟩
  · rintro ⟨h1, h2⟩
    rw [(above_nil h).mpr h1]
    simp only
    rw [tops_id h1, lack_nil.mpr h2]
    rfl
theorem madeI_iff {s l : Int} {wear : List Int} {many : Int} (hw : wear ≠ []) : madeI s l wear many = true ↔ Mk s l wear many := by
  unfold madeI Mk
  rw [Bool.and_eq_true, decide_eq_true_eq, decide_eq_true_eq, List.filter_eq_nil_iff]
  cases wear with
  | nil => exact absurd rfl hw
  | cons n ns =>
    show (ns.foldl max n ≤ many) ∧ _ ↔ _
    refine and_congr ⟨fun q x hx => ?_, fun q => foldl_max_le (q n List.mem_cons_self) fun x hx => q x (List.mem_cons_of_mem _ hx)⟩ ⟨fun q f hf => ?_, fun q x hx => ?_⟩
    · obtain ⟨h1, h2⟩ := foldl_max_ge (n := n) (ns := ns)
      rcases List.mem_cons.mp hx with rfl | hx
      · exact Int.le_trans h1 q
      · exact Int.le_trans (h2 x hx) q
    · have := q _ (List.mem_map.mpr ⟨f, hf, rfl⟩)
      simpa using this
    · obtain ⟨f, hf, rfl⟩ := List.mem_map.mp hx
      simpa using q f hf
theorem made_same {s l : Int} {wear : List Int} {many : Int} (hf : FlOk s l) (h : (wear.length : Int) = s) : madeI s l wear many = doMake s l wear many := by
  have hne : wear ≠ [] := fun z => by
    rw [z] at h
    have := hf.1
    simp at h
    omega
  by_cases hm : Mk s l wear many
  · rw [(madeI_iff hne).mpr hm, (doMake_iff h).mpr hm]
  · rw [Bool.eq_false_iff.mpr fun z => hm ((madeI_iff hne).mp z), Bool.eq_false_iff.mpr fun z => hm ((doMake_iff h).mp z)]
theorem sum_pre {wear : List Int} (h0 : ∀ x ∈ wear, 0 ≤ x) (a : Nat) : ∀ n, a + n ≤ wear.length → ((wear.drop a).take n).sum = (pre wear (a + n) : Int) - pre wear a
  | 0, _ => by simp
  | n + 1, h => by
    have hn : n < (wear.drop a).length := by
      rw [List.length_drop]
      omega
    rw [List.take_succ_eq_append_getElem hn, List.sum_append, sum_pre h0 a n (by omega), List.getElem_drop]
    have en : nAt wear (a + n) = wear[a + n].toNat := by
      unfold nAt
      rw [List.getD_eq_getElem?_getD, List.getElem?_eq_getElem (by omega)]
      rfl
    have := h0 wear[a + n] (List.getElem_mem _)
    show _ = ((pre wear (a + n) + nAt wear (a + n) : Nat) : Int) - _
    rw [en]
    simp
    omega
theorem Mk.rows {s l : Int} {wear : List Int} {m : Nat} (hf : FlOk s l) (hs : (wear.length : Int) = s) (h0 : ∀ x ∈ wear, 0 ≤ x) (h : Mk s l wear m) : ∀ a, a + l.toNat ≤ wear.length → pre wear a + m ≤ pre wear (a + l.toNat) := by
  intro a ha
  obtain ⟨f1, f2, f3, f4⟩ := hf
  have := h.2 a (mem_rgI.mpr ⟨by omega, by omega⟩)
  rw [cutI_both wear (by omega) (by omega), show ((a : Int) + l).toNat - (a : Int).toNat = l.toNat by omega, Int.toNat_natCast, sum_pre h0 a _ ha] at this
  omega
theorem good_turns {s l : Int} {wear : List Int} {m : Nat} (hf : FlOk s l) (hs : (wear.length : Int) = s) (h0 : ∀ x ∈ wear, 0 ≤ x) (h : Mk s l wear m) : ∀ w ∈ turnsI wear m, goodWalk s l w = true := by
  intro w hw
  rw [turns_eq fun x hx => ⟨h0 x hx, h.1 x hx⟩] at hw
  obtain ⟨i, hi, rfl⟩ := List.mem_map.mp hw
  have hi' := List.mem_range.mp hi
  have := walkH_good (h := hits wear m i) (s := wear.length) (l := l.toNat) fun a ha => row_hit hi' (h.rows hf hs h0 a ha)
  rw [hs, show ((l.toNat : Nat) : Int) = l by have := hf.2.2.1; omega] at this
  exact this
theorem turns_len (wear : List Int) (m : Nat) (h0 : ∀ x ∈ wear, 0 ≤ x ∧ x ≤ m) : (turnsI wear m).length = m := by
  rw [turns_eq h0, List.length_map, List.length_range]
theorem turns_short {wear : List Int} {m : Nat} (h0 : ∀ x ∈ wear, 0 ≤ x ∧ x ≤ m) : ∀ w ∈ turnsI wear m, w.length ≤ wear.length := by
  intro w hw
  rw [turns_eq h0] at hw
  obtain ⟨i, _, rfl⟩ := List.mem_map.mp hw
  unfold walkH
  rw [List.length_map]
  exact Nat.le_trans (List.length_filter_le _ _) (by rw [List.length_range]; exact Nat.le_refl _)
/-! ### all tread all -/
theorem even_mk {s l many : Int} (hf : FlOk s l) (h0 : 0 ≤ many) : Mk s l (List.replicate s.toNat many) many := by
  obtain ⟨f1, f2, f3, f4⟩ := hf
  refine ⟨fun x hx => ?_, fun f hf => ?_⟩
  · rw [List.eq_of_mem_replicate hx]
    exact Int.le_refl _
  · obtain ⟨h1, h2⟩ := mem_rgI.mp hf
    rw [cutI_both _ h1 (by omega), List.drop_replicate, List.take_replicate]
    have hk : 1 ≤ min ((f + l).toNat - f.toNat) (s.toNat - f.toNat) := by omega
    generalize min ((f + l).toNat - f.toNat) (s.toNat - f.toNat) = k at hk
    have gen : ∀ k : Nat, 0 ≤ (List.replicate k many).sum := fun k => by
      induction k with
      | zero => simp
      | succ k ih => rw [List.replicate_succ, List.sum_cons]; omega
    cases k with
    | zero => omega
    | succ k =>
      rw [List.replicate_succ, List.sum_cons]
      have := gen k
      omega
theorem even_turns {s : Int} {m : Nat} (h0 : 0 ≤ s) : turnsI (List.replicate s.toNat (m : Int)) m = List.replicate m (rgI 1 (s + 1)) := by
  rw [turns_eq fun x hx => by rw [List.eq_of_mem_replicate hx]; exact ⟨by omega, Int.le_refl _⟩]
  apply List.ext_getElem
  · simp
  · intro w h1 h2
    have hw : w < m := by simpa using h2
    rw [List.getElem_map, List.getElem_range, List.getElem_replicate, List.length_replicate]
    unfold walkH rgI
    have e : (List.range s.toNat).filter (hits (List.replicate s.toNat (m : Int)) m w) = List.range s.toNat := by
      rw [List.filter_eq_self]
      intro i hi
      have hi' := List.mem_range.mp hi
      have en : nAt (List.replicate s.toNat (m : Int)) i = m := by
        unfold nAt
        rw [List.getD_eq_getElem?_getD, List.getElem?_replicate, if_pos hi']
        simp
      unfold hits
      rw [en]
      obtain ⟨t, t1, t2, t3⟩ := mod_meet (T := pre (List.replicate s.toNat (m : Int)) i) (S := m) hw (Nat.le_refl _)
      exact hitB_iff.mpr ⟨t - pre (List.replicate s.toNat (m : Int)) i, by omega, by rw [show pre (List.replicate s.toNat (m : Int)) i + (t - pre (List.replicate s.toNat (m : Int)) i) = t by omega]; exact t3⟩
    rw [e, show (s + 1 - 1).toNat = s.toNat by omega]
    apply List.map_congr_left
    intro i _
    omega
end SD
namespace SD
open PySem PySem.Spec PyProof.Rows L2
theorem putW_map {k : Nat} {F : List (List Int)} {v : Int} (hv : v.toNat < F.length) : (putW k F v).map (fun w => w.map PyData.int) = (F.map fun w => w.map PyData.int).set v.toNat ((F[v.toNat]).map PyData.int ++ [PyData.int ((k : Int) + 1)]) := by
  unfold putW
  rw [List.map_set, List.getD_eq_getElem?_getD, List.getElem?_eq_getElem hv]
  simp
end SD
namespace SD
open PySem PySem.Spec PyProof.Rows L2
/-! ### what is asked of flight, wear and number, refusals too -/
theorem isFlight_inv {a : D} (h : isFlight a = true) : ∃ s l, a = p2 s l ∧ FlOk s l := by
  unfold isFlight at h
  split at h
  · rename_i x y
    rw [Bool.and_eq_true] at h
    obtain ⟨i, rfl, i1, i2⟩ := isWhole_int h.1
    obtain ⟨j, rfl, j1, j2⟩ := isWhole_int h.2
    exact ⟨i, j, rfl, i1, i2, j1, j2⟩
  · cases h
theorem goodWear_inv {s : Int} {b : D} (h : goodWear s b = true) : ∃ wear, b = tI wear ∧ WrOk s wear := by
  unfold goodWear at h
  split at h
  · rename_i ds
    rw [Bool.and_eq_true, decide_eq_true_eq] at h
    have e := ints_of_whole h.2
    refine ⟨intsOf ds, by rw [tI, ← e], by unfold intsOf; rw [List.length_map]; exact h.1, fun x hx => ?_⟩
    have : PyData.int x ∈ ds := by rw [e]; exact List.mem_map.mpr ⟨x, hx, rfl⟩
    obtain ⟨i, ei, i1, i2⟩ := isWhole_int (List.all_eq_true.mp h.2 _ this)
    cases ei
    exact ⟨i1, i2⟩
  · cases h
/-- flight, then wear -/
def need2 (a b : D) (E : Str → Prop) (K : Int → Int → List Int → Prop) : Prop := short b ∧ (isFlight a = false → E "BadFlight") ∧ (∀ s l, a = p2 s l → FlOk s l → goodWear s b = false → E "BadWear") ∧ ∀ s l wear, a = p2 s l → FlOk s l → b = tI wear → WrOk s wear → K s l wear
def need3 (a b c : D) (E : Str → Prop) (K : Int → Int → List Int → Int → Prop) : Prop := need2 a b E fun s l wear => (isWhole c 0 9 = false → E "BadNumber") ∧ ∀ many, c = .int many → 0 ≤ many → many ≤ 9 → K s l wear many
theorem p2_inj {a b c d : Int} (h : p2 a b = p2 c d) : a = c ∧ b = d := by
  cases h
  exact ⟨rfl, rfl⟩
theorem tI_inj {xs ys : List Int} (h : tI xs = tI ys) : xs = ys := map_int_inj (PyData.tuple.inj h)
theorem WrOk.short {s l : Int} {wear : List Int} (hf : FlOk s l) (h : WrOk s wear) : short (tI wear) := by
  show (wear.map PyData.int).length ≤ 1000
  have := h.1
  have := hf.2.1
  rw [List.length_map]
  omega
theorem need2_ok {s l : Int} {wear : List Int} {E : Str → Prop} {K : Int → Int → List Int → Prop} (hf : FlOk s l) (hw : WrOk s wear) (h : K s l wear) : need2 (p2 s l) (tI wear) E K := by
  refine ⟨hw.short hf, fun z => ?_, fun s' l' e _ z => ?_, fun s' l' w' e _ e2 _ => ?_⟩
  · rw [hf.is] at z
    cases z
  · obtain ⟨rfl, rfl⟩ := p2_inj e
    rw [hw.is] at z
    cases z
  · obtain ⟨rfl, rfl⟩ := p2_inj e
    rw [← tI_inj e2]
    exact h
theorem need3_ok {s l : Int} {wear : List Int} {many : Int} {E : Str → Prop} {K : Int → Int → List Int → Int → Prop} (hf : FlOk s l) (hw : WrOk s wear) (h0 : 0 ≤ many) (h9 : many ≤ 9) (h : K s l wear many) : need3 (p2 s l) (tI wear) (.int many) E K :=
  need2_ok hf hw ⟨fun z => by simp [isWhole, h0, h9] at z, fun m e _ _ => by cases e; exact h⟩
theorem need3_num {s l : Int} {wear : List Int} {c : D} {E : Str → Prop} {K : Int → Int → List Int → Int → Prop} (hf : FlOk s l) (hw : WrOk s wear) (hc : isWhole c 0 9 = false) (h : E "BadNumber") : need3 (p2 s l) (tI wear) c E K :=
  need2_ok hf hw ⟨fun _ => h, fun m e h0 h9 => by
    subst e
    simp [isWhole, h0, h9] at hc⟩
end SD

namespace SD
open PySem PySem.Spec PyProof.Rows L2
/-! ### the law's own bags -/
def hasI (walk : List Int) (at_ : Nat) : Int := if decide ((at_ : Int) + 1 ∈ walk) = true then 1 else 0
def subW (left : List Int) (walk : List Int) : List Int := left.zipIdx.map fun p => p.1 - hasI walk p.2
def nonneg (ns : List Int) : Bool := ns.all fun x => decide (0 ≤ x)
def fits (bag : List (List Int)) (walk : List Int) : Bool := match bag.getLast? with
  | none => true
  | some b => decide (b ≤ walk)
abbrev Wk2 := List (List Int) × List Int
def stepB (some : List (List Int)) (work : List Wk2) : List Wk2 := work.flatMap fun p => (some.filter fun walk => nonneg (subW p.2 walk) && fits p.1 walk).map fun walk => (p.1 ++ [walk], subW p.2 walk)
def workB (some : List (List Int)) (wear : List Int) : Nat → List Wk2
  | 0 => [([], wear)]
  | n + 1 => stepB some (workB some wear n)
theorem subW_len (left walk : List Int) : (subW left walk).length = left.length := by simp [subW]
theorem subW_get {left walk : List Int} {i : Nat} (h : i < left.length) : (subW left walk)[i]? = some (left[i] - hasI walk i) := by
  unfold subW
  rw [List.getElem?_map, List.getElem?_zipIdx, List.getElem?_eq_getElem h]
  simp
/-- how often a step is trodden -/
def trod (bag : List (List Int)) (i : Nat) : Int := ((bag.filter fun w => decide ((i : Int) + 1 ∈ w)).length : Int)
theorem trod_nil (i : Nat) : trod [] i = 0 := rfl
theorem trod_snoc (bag : List (List Int)) (w : List Int) (i : Nat) : trod (bag ++ [w]) i = trod bag i + hasI w i := by
  unfold trod hasI
  rw [List.filter_append, List.length_append]
  by_cases h : (i : Int) + 1 ∈ w
  · simp [h]
  · simp [h]
theorem trod_nonneg (bag : List (List Int)) (i : Nat) : 0 ≤ trod bag i := Int.natCast_nonneg _
/-- what a place of the work is -/
def InW (ws : List (List Int)) (wear : List Int) (n : Nat) (p : Wk2) : Prop := p.1.length = n ∧ (∀ w ∈ p.1, w ∈ ws) ∧ p.1.Pairwise (fun a b => a ≤ b) ∧ p.2.length = wear.length ∧ ∀ i (h : i < wear.length), p.2[i]? = some (wear[i] - trod p.1 i) ∧ trod p.1 i ≤ wear[i]
theorem fits_iff {bag : List (List Int)} {walk : List Int} (hs : bag.Pairwise (fun a b => a ≤ b)) : fits bag walk = true ↔ (bag ++ [walk]).Pairwise (fun a b => a ≤ b) := by
  rw [List.pairwise_append]
  unfold fits
  cases h : bag.getLast? with
  | none =>
    rw [List.getLast?_eq_none_iff] at h
    subst h
    simp
  | some b =>
    simp only [decide_eq_true_eq]
    obtain ⟨l, rfl⟩ := List.getLast?_eq_some_iff.mp h
    constructor
    · intro hb
      refine ⟨hs, by simp, fun x hx y hy => ?_⟩
      rw [List.mem_singleton.mp hy]
      rcases List.mem_append.mp hx with hx | hx
      · exact List.le_trans ((List.pairwise_append.mp hs).2.2 x hx b (List.mem_singleton.mpr rfl)) hb
      · rw [List.mem_singleton.mp hx]
        exact hb
    · rintro ⟨_, _, h3⟩
      exact h3 b (List.mem_append_right _ (List.mem_singleton.mpr rfl)) walk (List.mem_singleton.mpr rfl)
theorem nonneg_iff {ns : List Int} : nonneg ns = true ↔ ∀ x ∈ ns, 0 ≤ x := by
  unfold nonneg
  rw [List.all_eq_true]
  simp
theorem mem_workB {ws : List (List Int)} {wear : List Int} (h0 : ∀ x ∈ wear, 0 ≤ x) : ∀ (n : Nat) (p : Wk2), p ∈ workB ws wear n ↔ InW ws wear n p
  | 0, p => by
    show p ∈ [([], wear)] ↔ _
    rw [List.mem_singleton]
    constructor
    · rintro rfl
      refine ⟨rfl, fun w h => (by cases h), .nil, rfl, fun i h => ⟨?_, ?_⟩⟩
      · rw [List.getElem?_eq_getElem h, trod_nil, Int.sub_zero]
      · rw [trod_nil]
        exact h0 _ (List.getElem_mem h)
    · rintro ⟨h1, -, -, h4, h5⟩
      obtain ⟨bag, left⟩ := p
      have e : bag = [] := List.eq_nil_of_length_eq_zero h1
      subst e
      refine congrArg (Prod.mk []) (List.ext_getElem? fun i => ?_)
      by_cases hi : i < wear.length
      · rw [(h5 i hi).1, trod_nil, Int.sub_zero, List.getElem?_eq_getElem hi]
      · have h4' : left.length = wear.length := h4
        rw [List.getElem?_eq_none (by omega), List.getElem?_eq_none (by omega)]
  | n + 1, p => by
    show p ∈ stepB ws (workB ws wear n) ↔ _
    unfold stepB
    rw [List.mem_flatMap]
    constructor
    · rintro ⟨q, hq, hp⟩
      obtain ⟨walk, hw, rfl⟩ := List.mem_map.mp hp
      rw [List.mem_filter, Bool.and_eq_true] at hw
      obtain ⟨hw1, hw2, hw3⟩ := hw
      obtain ⟨a1, a2, a3, a4, a5⟩ := (mem_workB h0 n q).mp hq
      refine ⟨by simp [a1], fun w h => ?_, (fits_iff a3).mp hw3, by rw [subW_len]; exact a4, fun i hi => ?_⟩
      · rcases List.mem_append.mp h with h | h
        · exact a2 w h
        · rw [List.mem_singleton.mp h]
          exact hw1
      · have hi' : i < q.2.length := by omega
        have e := (a5 i hi).1
        rw [List.getElem?_eq_getElem hi'] at e
        have e' := Option.some.inj e
        rw [subW_get hi', trod_snoc, e']
        refine ⟨by congr 1; omega, ?_⟩
        have := nonneg_iff.mp hw2 _ (List.mem_of_getElem? (subW_get hi'))
        rw [e'] at this
        omega
    · rintro ⟨h1, h2, h3, h4, h5⟩
      obtain ⟨bag, left⟩ := p
      have hne : bag ≠ [] := fun z => by
        rw [z] at h1
        simp at h1
      obtain ⟨pre, walk, rfl⟩ : ∃ pre walk, bag = pre ++ [walk] := ⟨bag.dropLast, bag.getLast hne, (List.dropLast_concat_getLast hne).symm⟩
      simp only [List.length_append, List.length_singleton, Nat.add_right_cancel_iff] at h1
      have hs := (List.pairwise_append.mp h3).1
      have hsh : ∀ i, hasI walk i = 0 ∨ hasI walk i = 1 := fun i => by
        unfold hasI
        split
        · exact .inr rfl
        · exact .inl rfl
      let lp : List Int := (List.range wear.length).map fun i => wear.getD i 0 - trod pre i
      have lpl : lp.length = wear.length := by simp [lp]
      have lpg : ∀ i (h : i < wear.length), lp[i]? = some (wear[i] - trod pre i) := fun i h => by
        simp only [lp]
        rw [List.getElem?_map, List.getElem?_range h]
        simp [List.getD_eq_getElem?_getD, List.getElem?_eq_getElem h]
      refine ⟨(pre, lp), (mem_workB h0 n _).mpr ⟨h1, fun w h => h2 w (List.mem_append_left _ h), hs, lpl, fun i hi => ⟨lpg i hi, ?_⟩⟩, List.mem_map.mpr ⟨walk, List.mem_filter.mpr ⟨h2 walk (List.mem_append_right _ (List.mem_singleton.mpr rfl)), ?_⟩, ?_⟩⟩
      · have := (h5 i hi).2
        rw [trod_snoc] at this
        show trod pre i ≤ _
        rcases hsh i with z | z <;> omega
      · rw [Bool.and_eq_true]
        refine ⟨nonneg_iff.mpr fun x hx => ?_, (fits_iff hs).mpr h3⟩
        obtain ⟨i, hi, rfl⟩ := List.getElem_of_mem hx
        rw [subW_len, lpl] at hi
        have e := subW_get (walk := walk) (show i < lp.length by omega)
        have e2 := lpg i hi
        rw [List.getElem?_eq_getElem (by omega)] at e2
        rw [List.getElem?_eq_getElem (by rw [subW_len]; omega)] at e
        have e3 := Option.some.inj e
        rw [Option.some.inj e2] at e3
        rw [e3]
        have := (h5 i hi).2
        rw [trod_snoc] at this
        omega
      · refine congrArg (Prod.mk (pre ++ [walk])) (List.ext_getElem? fun i => ?_)
        show (subW lp walk)[i]? = left[i]?
        by_cases hi : i < wear.length
        · have e5 : left[i]? = _ := (h5 i hi).1
          rw [e5, subW_get (by omega)]
          have e2 := lpg i hi
          rw [List.getElem?_eq_getElem (by omega)] at e2
          rw [Option.some.inj e2, trod_snoc]
          congr 1
          omega
        · have h4' : left.length = wear.length := h4
          rw [List.getElem?_eq_none (by rw [subW_len]; omega), List.getElem?_eq_none (by omega)]
end SD
namespace SD
open PySem PySem.Spec PyProof.Rows L2
/-- all sorted bags of n walks with just this wear -/
def foundB (ws : List (List Int)) (wear : List Int) (n : Nat) : List (List (List Int)) := ((workB ws wear n).filter fun p => decide (p.2.tail.foldl max (p.2.headD 0) = 0)).map (·.1)
theorem sumOf_trod (bag : List (List Int)) (n : Nat) : sumOf n bag = (List.range n).map fun i => trod bag i := by
  unfold sumOf rgI trod
  rw [List.map_map, show ((n : Int) + 1 - 1).toNat = n by omega]
  apply List.map_congr_left
  intro i _
  have e : (fun w : List Int => decide ((1 : Int) + (i : Int) ∈ w)) = fun w => decide ((i : Int) + 1 ∈ w) := by
    funext w
    rw [Int.add_comm]
  exact congrArg (fun f : List Int → Bool => ((bag.filter f).length : Int)) e
theorem maxZ {n : Int} {ns : List Int} (h : ∀ x ∈ n :: ns, 0 ≤ x) : ns.foldl max n = 0 ↔ ∀ x ∈ n :: ns, x = 0 := by
  obtain ⟨h1, h2⟩ := foldl_max_ge (n := n) (ns := ns)
  constructor
  · intro e x hx
    have := h x hx
    rcases List.mem_cons.mp hx with rfl | hx
    · omega
    · have := h2 x hx
      omega
  · intro e
    have q := foldl_max_le (n := n) (m := 0) (ns := ns) (by rw [e n List.mem_cons_self]; exact Int.le_refl _) fun x hx => by rw [e x (List.mem_cons_of_mem _ hx)]; exact Int.le_refl _
    have := h n List.mem_cons_self
    omega
theorem mem_foundB {ws : List (List Int)} {wear : List Int} (hne : wear ≠ []) (h0 : ∀ x ∈ wear, 0 ≤ x) {n : Nat} {bag : List (List Int)} : bag ∈ foundB ws wear n ↔ bag.length = n ∧ (∀ w ∈ bag, w ∈ ws) ∧ bag.Pairwise (fun a b => a ≤ b) ∧ sumOf wear.length bag = wear := by
  unfold foundB
  rw [List.mem_map]
  have sw : sumOf wear.length bag = wear ↔ ∀ i (h : i < wear.length), trod bag i = wear[i] := by
    rw [sumOf_trod]
    constructor
    · intro e i h
      have := congrArg (fun l : List Int => l[i]?) e
      simp only [List.getElem?_map, List.getElem?_range h, List.getElem?_eq_getElem h] at this
      exact Option.some.inj this
    · intro e
      apply List.ext_getElem
      · simp
      · intro i h1 h2
        simp only [List.getElem_map, List.getElem_range]
        exact e i h2
  constructor
  · rintro ⟨⟨b, left⟩, hp, rfl⟩
    rw [List.mem_filter, decide_eq_true_eq] at hp
    obtain ⟨a1, a2, a3, a4, a5⟩ := (mem_workB h0 n _).mp hp.1
    refine ⟨a1, a2, a3, sw.mpr fun i hi => ?_⟩
    have a4' : left.length = wear.length := a4
    have nn : ∀ x ∈ left, 0 ≤ x := fun x hx => by
      obtain ⟨j, hj, rfl⟩ := List.getElem_of_mem hx
      obtain ⟨b1, b2⟩ := a5 j (by omega)
      have b1' : left[j]? = _ := b1
      rw [List.getElem?_eq_getElem hj] at b1'
      rw [Option.some.inj b1']
      have b2' : trod b j ≤ _ := b2
      show 0 ≤ _ - trod b j
      omega
    obtain ⟨b1, b2⟩ := a5 i hi
    have b1' : left[i]? = _ := b1
    have hz : ∀ x ∈ left, x = 0 := by
      cases left with
      | nil => intro x hx; cases hx
      | cons y ys => exact (maxZ nn).mp hp.2
    have := hz _ (List.mem_of_getElem? b1')
    show trod b i = _
    have this' : wear[i] - trod b i = 0 := this
    omega
  · rintro ⟨h1, h2, h3, h4⟩
    have h4' := sw.mp h4
    refine ⟨(bag, List.replicate wear.length 0), List.mem_filter.mpr ⟨(mem_workB h0 n _).mpr ⟨h1, h2, h3, by simp, fun i hi => ⟨?_, ?_⟩⟩, ?_⟩, rfl⟩
    · show (List.replicate wear.length (0 : Int))[i]? = some (wear[i] - trod bag i)
      rw [h4' i hi, Int.sub_self, List.getElem?_replicate, if_pos hi]
    · show trod bag i ≤ _
      rw [h4' i hi]
      exact Int.le_refl _
    · rw [decide_eq_true_eq]
      cases wear with
      | nil => exact absurd rfl hne
      | cons y ys =>
        show (List.replicate ys.length (0 : Int)).foldl max 0 = 0
        have gen : ∀ k : Nat, (List.replicate k (0 : Int)).foldl max 0 = 0 := fun k => by
          induction k with
          | zero => rfl
          | succ k ih => rw [List.replicate_succ, List.foldl_cons]; exact ih
        exact gen _
end SD
namespace SD
open PySem PySem.Spec PyProof.Rows L2
/-! ### a bag's wear can be made -/
theorem gap_hit {a l : Int} : ∀ (rest : List Int) (x z : Int), x ≤ a → a < z → (∀ d ∈ diffs (x :: (rest ++ [z])), d ≤ l) → ∃ q ∈ rest ++ [z], a < q ∧ q ≤ a + l
  | [], x, z, hx, hz, h => by
    have := h (z - x) (by simp [diffs])
    exact ⟨z, by simp, hz, by omega⟩
  | y :: rest, x, z, hx, hz, h => by
    have h1 := h (y - x) (by rw [List.cons_append, diffs_cons]; exact List.mem_cons_self)
    by_cases hy : a < y
    · exact ⟨y, by simp, hy, by omega⟩
    · obtain ⟨q, hq, q1, q2⟩ := gap_hit rest y z (by omega) hz fun d hd => h d (by rw [List.cons_append, diffs_cons]; exact List.mem_cons_of_mem _ hd)
      exact ⟨q, by rw [List.cons_append]; exact List.mem_cons_of_mem _ hq, q1, q2⟩
theorem walk_row {s l : Int} {w : List Int} (h : ∀ d ∈ stridesI s w, d ≤ l) {a : Nat} (ha : (a : Int) + l ≤ s) (hl : 1 ≤ l) : ∃ q ∈ w, (a : Int) < q ∧ q ≤ a + l := by
  obtain ⟨q, hq, q1, q2⟩ := gap_hit (a := a) (l := l) w 0 (s + 1) (by omega) (by omega) h
  rcases List.mem_append.mp hq with hq | hq
  · exact ⟨q, hq, q1, q2⟩
  · rw [List.mem_singleton.mp hq] at q2
    omega
end SD
namespace SD
open PySem PySem.Spec PyProof.Rows L2
theorem trod_cons (w : List Int) (bag : List (List Int)) (i : Nat) : trod (w :: bag) i = hasI w i + trod bag i := by
  unfold trod hasI
  by_cases h : (i : Int) + 1 ∈ w
  · simp [h]
    omega
  · simp [h]
theorem hasI_nonneg (w : List Int) (i : Nat) : 0 ≤ hasI w i := by
  unfold hasI
  split <;> omega
theorem sum_map_add {α : Type} (f g : α → Int) : ∀ l : List α, (l.map fun x => f x + g x).sum = (l.map f).sum + (l.map g).sum
  | [] => rfl
  | x :: l => by
    rw [List.map_cons, List.sum_cons, sum_map_add f g l, List.map_cons, List.sum_cons, List.map_cons, List.sum_cons]
    omega
theorem sum_map_nonneg {α : Type} {f : α → Int} : ∀ {l : List α}, (∀ x ∈ l, 0 ≤ f x) → 0 ≤ (l.map f).sum
  | [], _ => Int.le_refl _
  | x :: l, h => by
    rw [List.map_cons, List.sum_cons]
    have := h x List.mem_cons_self
    have := sum_map_nonneg fun y hy => h y (List.mem_cons_of_mem _ hy)
    omega
theorem sum_map_ge {α : Type} {f : α → Int} {x : α} : ∀ {l : List α}, (∀ x ∈ l, 0 ≤ f x) → x ∈ l → f x ≤ (l.map f).sum
  | y :: l, h, hx => by
    rw [List.map_cons, List.sum_cons]
    have h1 := h y List.mem_cons_self
    have h2 := sum_map_nonneg fun y hy => h y (List.mem_cons_of_mem _ hy)
    rcases List.mem_cons.mp hx with rfl | hx
    · omega
    · have := sum_map_ge (fun y hy => h y (List.mem_cons_of_mem _ hy)) hx
      omega
theorem row_sum {s l : Int} (hl : 1 ≤ l) {f : Nat} (hf : (f : Int) + l ≤ s) : ∀ bag : List (List Int), (∀ w ∈ bag, ∀ d ∈ stridesI s w, d ≤ l) → (bag.length : Int) ≤ ((List.range l.toNat).map fun j => trod bag (f + j)).sum
  | [], _ => sum_map_nonneg fun j _ => Int.le_refl _
  | w :: bag, h => by
    have ih := row_sum hl hf bag fun u hu => h u (List.mem_cons_of_mem _ hu)
    have e : ((List.range l.toNat).map fun j => trod (w :: bag) (f + j)) = (List.range l.toNat).map fun j => hasI w (f + j) + trod bag (f + j) := List.map_congr_left fun j _ => trod_cons w bag (f + j)
    rw [e, sum_map_add, List.length_cons]
    obtain ⟨q, hq, q1, q2⟩ := walk_row (h w List.mem_cons_self) hf hl
    have hj : (q - 1 - f).toNat ∈ List.range l.toNat := List.mem_range.mpr (by omega)
    have := sum_map_ge (f := fun j => hasI w (f + j)) (fun j _ => hasI_nonneg w (f + j)) hj
    have e1 : hasI w (f + (q - 1 - f).toNat) = 1 := by
      unfold hasI
      rw [if_pos (decide_eq_true (by rw [show ((f + (q - 1 - f).toNat : Nat) : Int) + 1 = q by omega]; exact hq))]
    rw [e1] at this
    omega
theorem bag_mk {s l : Int} {bag : List (List Int)} (hf : FlOk s l) (h : ∀ w ∈ bag, ∀ d ∈ stridesI s w, d ≤ l) : Mk s l (sumOf s bag) bag.length := by
  obtain ⟨f1, f2, f3, f4⟩ := id hf
  have es : sumOf s bag = (List.range s.toNat).map fun i => trod bag i := by
    have := sumOf_trod bag s.toNat
    rw [show ((s.toNat : Nat) : Int) = s by omega] at this
    exact this
  refine ⟨fun x hx => ?_, fun f hf => ?_⟩
  · rw [es] at hx
    obtain ⟨i, _, rfl⟩ := List.mem_map.mp hx
    unfold trod
    have := List.length_filter_le (fun w : List Int => decide ((i : Int) + 1 ∈ w)) bag
    omega
  · obtain ⟨g1, g2⟩ := mem_rgI.mp hf
    rw [cutI_both _ g1 (by omega), es]
    have := row_sum f3 (f := f.toNat) (s := s) (by omega) bag h
    have e : (((List.range s.toNat).map fun i => trod bag i).drop f.toNat).take ((f + l).toNat - f.toNat) = (List.range l.toNat).map fun j => trod bag (f.toNat + j) := by
      apply List.ext_getElem
      · simp
        omega
      · intro i h1 h2
        simp
    rw [e]
    exact this
end SD
namespace SD
open PySem PySem.Spec PyProof.Rows L2
theorem rows_filter (p : Int → Bool) : ∀ (st : List Int) (rows : List (List Int)) (r : List Int), r ∈ rows → r ++ st.filter p ∈ st.foldl (fun rows st => rows ++ rows.map fun r => r ++ [st]) rows
  | [], rows, r, h => by simpa using h
  | a :: st, rows, r, h => by
    rw [List.foldl_cons]
    by_cases ha : p a = true
    · rw [List.filter_cons_of_pos ha, show r ++ a :: st.filter p = (r ++ [a]) ++ st.filter p by simp]
      exact rows_filter p st _ _ (List.mem_append.mpr (.inr (List.mem_map.mpr ⟨r, h, rfl⟩)))
    · rw [List.filter_cons_of_neg ha]
      exact rows_filter p st _ _ (List.mem_append.mpr (.inl h))
theorem walkH_rows (h : Nat → Bool) (n : Nat) : walkH h n ∈ allRows n := by
  have e : walkH h n = (rgI 1 ((n : Int) + 1)).filter fun x => h (x - 1).toNat := by
    unfold walkH rgI
    rw [show ((n : Int) + 1 - 1).toNat = n by omega, List.filter_map]
    have e1 : ((fun x : Int => h (x - 1).toNat) ∘ fun i : Nat => (1 : Int) + i) = h := by
      funext i
      show h ((1 : Int) + i - 1).toNat = h i
      rw [show ((1 : Int) + i - 1).toNat = i by omega]
    rw [e1]
    apply List.map_congr_left
    intro i _
    omega
  rw [e]
  have := rows_filter (fun x => h (x - 1).toNat) (rgI 1 ((n : Int) + 1)) [[]] [] List.mem_cons_self
  rw [List.nil_append] at this
  exact this
theorem turns_walks {s l : Int} {wear : List Int} {m : Nat} (hf : FlOk s l) (hs : (wear.length : Int) = s) (h0 : ∀ x ∈ wear, 0 ≤ x) (h : Mk s l wear m) : ∀ w ∈ turnsI wear m, w ∈ walksI s l := by
  intro w hw
  have hg := good_turns hf hs h0 h w hw
  rw [turns_eq fun x hx => ⟨h0 x hx, h.1 x hx⟩] at hw
  obtain ⟨i, _, rfl⟩ := List.mem_map.mp hw
  refine mem_walksI.mpr ⟨?_, maxStride_le.mpr fun x hx => ?_⟩
  · have := walkH_rows (hits wear m i) wear.length
    rw [hs] at this
    exact this
  · unfold goodWalk at hg
    rw [Bool.and_eq_true] at hg
    have := List.all_eq_true.mp hg.2 x hx
    simp at this
    exact this.2
theorem found_iff {s l : Int} {wear : List Int} {m : Nat} (hf : FlOk s l) (hs : (wear.length : Int) = s) (h0 : ∀ x ∈ wear, 0 ≤ x) : foundB (walksI s l) wear m ≠ [] ↔ Mk s l wear m := by
  have hne : wear ≠ [] := fun z => by
    rw [z] at hs
    have := hf.1
    simp at hs
    omega
  constructor
  · intro h
    obtain ⟨bag, hb⟩ := List.exists_mem_of_ne_nil _ h
    obtain ⟨b1, b2, b3, b4⟩ := (mem_foundB hne h0).mp hb
    have := bag_mk (bag := bag) hf fun w hw => maxStride_le.mp (mem_walksI.mp (b2 w hw)).2
    rw [hs] at b4
    rw [b4, b1] at this
    exact this
  · intro h
    have hp := sortW_perm (turnsI wear m)
    refine List.ne_nil_of_mem ((mem_foundB hne h0 (bag := sortW (turnsI wear m))).mpr ⟨?_, fun w hw => ?_, ?_, ?_⟩)
    · rw [hp.length_eq, turns_len wear m fun x hx => ⟨h0 x hx, h.1 x hx⟩]
    · exact turns_walks hf hs h0 h w (hp.mem_iff.mp hw)
    · refine (sortW_pairwise _).imp fun {a b} z => ?_
      rw [leW_le, decide_eq_true_eq] at z
      exact z
    · rw [sumOf_perm hp]
      exact sum_turns fun x hx => ⟨h0 x hx, h.1 x hx⟩
end SD

namespace SD
open PySem PySem.Spec PyProof.Rows L2
theorem good_cx {P : Program} {w : World} {K : PySem.W.Frag} {mg : Str → Option Value} {base : Heap} {T : List (Addr × Str)} {N : List Str} {qual : Str} {scope : Scope} {f : Addr} {cdv : Value} {A : Around} {outer : List Env} {s : Shared} {H : Hp} {E : XK} :
    Good (cxOf (L2N.CX P w) P w K mg base N qual scope f cdv A outer s H E) ⟨T, mg, E⟩ :=
  ⟨rfl, rfl, L2N.passes_call (L2N.takes_of rfl rfl rfl rfl) fun _ _ _ _ h => h, L2N.takes_of rfl rfl rfl rfl, passes_of rfl⟩
theorem binds_of {K : PySem.W.Frag} {x qual : Str} {params : Arguments} {body : List Stmt} {scope : Scope} {kws : List (Str × V)} {f : Addr} {fd : FuncData} {ps : List Str} (F : FunD K x qual params body scope [] kws f fd)
    (h : ∀ (kV doc pm : Value) (an : Option Addr) (cdv ct : Value) (us : List Value), us.length = ps.length → bindArgs (PySem.W.fnOf x qual params body scope .none kV doc pm an cdv ct) ⟨us, []⟩ = pure (ps.zip us)) : Binds K fd ps [] := fun s us _ hl => by
  rw [List.append_nil] at hl ⊢
  exact F.bindsA h s us hl
theorem cx_none {P : Program} {w : World} (H : Hp) (s : Shared) (e : Value) (s' : Shared) (h : L2N.CX P w [] H s (fun _ _ _ => False) e s') : False := by
  obtain ⟨_, _, _, _, _, _, _, _, _, _, _, _, z⟩ := h
  exact z
theorem exc_of {K : PySem.W.Frag} {mg : Str → Option Value} {x : Str} {C : Addr} (hm : mg x = some (.ref C)) (h : PySem.W.excIn K C He.veBase "ValueError.__new__" = true ∧ PySem.W.keepIn K (.ref C) = true ∧ PySem.W.subIn K (.ref C) (.type "BaseException") = some true ∧ PySem.W.typeIn K (.ref C) = some (.type "type")) : ExcOk K mg x := ⟨C, hm, h.1, h.2.1, h.2.2.1, h.2.2.2⟩
/-- the law at the heap behind the top; the exceptions' air may hang on the world -/
theorem walk_ofW {l : PySem.W.OpenLaw} {n k : Nat} {q : Program} {loose : List Str} {XP : (Str → Option Value) → Heap → Prop} {YP : World → Heap → Prop} {d : DefRec} {CX : World → CXT} {x : Str} (hn : l.most = some n) (hn2 : n ≤ sizeLine) (hdf : d.params.defaults = []) (hr : Room k callerA)
    (F : ∀ (w : World) (mg : Str → Option Value) (fa : Addr) (h : Heap), YP w h → h.Ns mainGlobals mg → mg d.name = some (.ref fa) → ∃ (K : PySem.W.Frag) (fd : FuncData) (sp : Sp), K.In h ∧ (∀ (s : Shared) (u : Value), BindsTo s fd ⟨[u], []⟩ [(x, u)]) ∧
      (∀ (H : Hp) (a : Addr) (ns : List Int), ns.length ≤ n → Only H → SqL K H a (ns.map V.int) → sp [.ref a] H (fun v _ => v = .bl true) fun _ _ _ => False) ∧ ∀ base : Heap, K.In base → base.Ns mainGlobals mg → FnOk l.prog w K mg base (CX w) k fa fd [x] sp)
    (hC : ∀ (w : World) (H : Hp) (s : Shared) (e : Value) (s' : Shared), CX w [] H s (fun _ _ _ => False) e s' → False) : PySem.W.WalkO q loose XP YP l.row.toRowW d [] (fun f vs => PySem.call f vs) :=
  Att.attach_call hn hdf fun w s₀ s₁ mg mb fa o pm cd doc a vs ns G Y ho hd hcd hmg hobj hints hlen hg => by
    obtain ⟨K, fd, sp, k1, k2, k3, k4⟩ := F w mg fa _ Y G.T.g hmg
    exact L2.law_call k1 G.T.g G.T.b G.T.builtins G.T.nolimit hg hobj hints (Nat.le_trans hlen hn2) hr k4 k2 (fun H z1 z2 => k3 H a ns hlen z1 z2) fun H e s' => hC w H s₁ e s'
end SD

namespace SD
open PySem PySem.Spec PyProof.Rows L2 LamX
/-! ### lambdas: the tables grow, all else stays -/
structure ExtT (H H1 : Hp) : Prop where
  keep : ∀ b o, H b = some o → (∀ ps, o ≠ .tbl ps) → H1 b = some o
  tab : ∀ b ps, H b = some (.tbl ps) → ∃ ps', H1 b = some (.tbl ps')
theorem ExtT.refl (H : Hp) : ExtT H H := ⟨fun _ _ h _ => h, fun _ ps h => ⟨ps, h⟩⟩
theorem Vw.ext {T : List (Addr × Str)} {O : List Addr} {F H H1 : Hp} (v : Vw T O F H) (e : ExtT H H1) (t : Tabs T H1) : Vw T O F H1 :=
  ⟨fun b o h => e.keep b o (v.frz b o h) fun ps z => v.ntb b ps (by rw [← z]; exact h), v.ntb, t, fun p hp => by
    obtain ⟨h1, c, n, h2⟩ := v.dic p hp
    exact ⟨h1, c, n, e.keep p _ h2 fun _ z => nomatch z⟩⟩
theorem Stp.ext {T : List (Addr × Str)} {O : List Addr} {F H H1 : Hp} (v : Vw T O F H) (e : ExtT H H1) : Stp O F H F H1 :=
  ⟨fun b o h n _ => e.keep b o h n, Same.refl F, fun _ _ h => .inl h, e.tab, fun b hb _ z => by
    obtain ⟨_, c, n, h2⟩ := v.dic b hb
    rw [e.keep b _ h2 fun _ z => nomatch z] at z
    cases z⟩
section
variable {X : Cx} {pins : List (Addr × Obj)} {σ : L2.St} {H : Hp} {s : Shared}
/-- the lambda is made -/
theorem lam_make3 {T : List (Addr × Str)} {cc P : Addr} {pr : Arguments} {bd : Expr} {sc : Scope} {pos : Pos} {E Q : Value → Shared → Prop} (J : Inv X pins σ H s) (B : TabB X.base X.mg cc P) (hcc : X.env.code = .ref cc) (mT : (P, X.env.qual ++ "<lambda>") ∈ T)
    (uT : ∀ p ∈ T, p.1 = P → p.2 = X.env.qual ++ "<lambda>") (tT : Tabs T H) (hdf : defaultsOf pr X.env = ([], [])) (hfr : ∀ y ∈ sc.names, y.2 = .free → ∃ c, X.env.cells.lookup y.1 = some c)
    (k : ∀ (f c' : Addr) (pm ct : Value) (H1 : Hp) (s' : Shared), Inv X pins σ H1 s' → ExtT H H1 → Tabs T H1 → s'.heap.get? f = some (PySem.W.kla_obj "<lambda>" (X.env.qual ++ "<lambda>") pr bd sc (cloFrom X.env.cells sc.names []) pm c' ct) → H1 f = none → f ∉ frs X.stack →
      H1 c' = some (CodeO c' (X.env.qual ++ "<lambda>")) → Q (.ref f) s') : wpAny (model X.prog X.w) X.A (eval (.Lambda pr bd sc pos) X.env) Q E s := by
  obtain ⟨tb, t1, t2, t3⟩ := tT _ mT
  refine PySem.W.kla_eval hdf ?_
  have g1 : s.heap.BuiltinsAt X.mg P := B.bm.keeps J.bk
  have g2 : s.heap.get? P = some { cls := .none, data := .fields tb } := J.hok P _ t1
  have far : ∀ f, s.heap.objs.size ≤ f → f ∉ frs X.stack := fun f hf z =>
    (List.mem_cons.mp (J.stkSub _ z)).elim (fun e => by
      have q := J.lt
      rw [← e] at q
      exact absurd (Nat.lt_of_lt_of_le q hf) (Nat.lt_irrefl _)) fun e => J.nofs hf e
  cases hit : codeAmong pos tb.toList with
  | some cv =>
    obtain ⟨c', rfl, hco⟩ := t3 pos cv hit
    refine PySem.W.kla_makeFunctionHit (mg := X.mg) (c := cc) (P := P) (ps := tb) (closure_ok hfr) J.ok.glob (J.mod.glob.keeps J.bk) hcc (B.code.keeps J.bk) g2 t2 hit g1 fun ct h' tk kp sz => ?_
    refine k h'.objs.size c' _ ct H _ (J.kept (t' := tk) fun b o e => Heap.get?_push_of_some _ (kp b o e)) (ExtT.refl H) tT (Heap.get?_push_size _ rfl) (J.hok.fresh sz) (far _ sz) hco
  | none =>
    refine PySem.W.kla_makeFunction (mg := X.mg) (c := cc) (P := P) (ps := tb) (closure_ok hfr) J.ok.glob (J.mod.glob.keeps J.bk) hcc (B.code.keeps J.bk) g2 t2 hit B.gP g1 fun c' ct h' tk kp ge lt rc tbl => ?_
    obtain ⟨c2, oc, vs, tt, e2, q1, q2, q3⟩ := rc
    cases e2
    have sz : s.heap.objs.size ≤ h'.objs.size := Nat.le_trans ge (Nat.le_of_lt lt)
    have nw : H c' = none := J.hok.fresh ge
    have pc : P ≠ c' := ne_of_none t1 nw
    have lst : (tb ++ #[rawInt pos.line, rawInt pos.col, .ref c']).toList = tb.toList ++ [rawInt pos.line, rawInt pos.col, .ref c'] := by simp
    let H1 : Hp := upd (upd H P (.tbl (tb ++ #[rawInt pos.line, rawInt pos.col, .ref c']))) c' (CodeO c' (X.env.qual ++ "<lambda>"))
    have ext : ExtT H H1 := by
      refine ⟨fun b o e n => ?_, fun b ps e => ?_⟩
      · show upd (upd H P _) c' _ b = _
        rw [upd_ne (ne_of_none e nw), upd_ne fun z => n tb (Option.some.inj (e.symm.trans (by rw [z]; exact t1)))]
        exact e
      · show ∃ ps', upd (upd H P _) c' _ b = _
        rw [upd_ne (ne_of_none e nw)]
        by_cases hb : b = P
        · rw [hb, upd_same]
          exact ⟨_, rfl⟩
        · rw [upd_ne hb]
          exact ⟨ps, e⟩
    have J1 := inv_table (t' := tk) (more := #[rawInt pos.line, rawInt pos.col, .ref c']) (h' := h'.push (PySem.W.kla_obj "<lambda>" (X.env.qual ++ "<lambda>") pr bd sc (cloFrom X.env.cells sc.names []) ((X.mg "__name__").getD .none) c' ct)) J t1 (fun b o hb e => Heap.get?_push_of_some _ (kp b o hb e))
      (Heap.get?_push_of_some _ tbl) ge ⟨oc, vs, tt, Heap.get?_push_of_some _ q1, q2, q3⟩
    refine k h'.objs.size c' ((X.mg "__name__").getD .none) ct H1 _ J1 ext (fun p hp => ?_) (Heap.get?_push_size _ rfl) ?_ (far _ sz) upd_same
    · by_cases hb : p.1 = P
      · rw [uT p hp hb, hb]
        refine ⟨tb ++ #[rawInt pos.line, rawInt pos.col, .ref c'], ?_, by rw [lst]; exact PySem.TriplesOk_snoc _ _ _ _ t2, fun p' cv hcv => ?_⟩
        · show upd (upd H P _) c' _ P = _
          rw [upd_ne pc, upd_same]
        · rw [lst] at hcv
          rcases among_app _ t2 hcv with z | z
          · obtain ⟨c0, e1, e2⟩ := t3 p' cv z
            exact ⟨c0, e1, ext.keep _ _ e2 codeO_ne⟩
          · exact ⟨c', z, upd_same⟩
      · obtain ⟨ps', a1, a2, a3⟩ := tT p hp
        refine ⟨ps', ?_, a2, fun p' cv hcv => ?_⟩
        · show upd (upd H P _) c' _ p.1 = _
          rw [upd_ne (ne_of_none a1 nw), upd_ne hb]
          exact a1
        · obtain ⟨c0, e1, e2⟩ := a3 p' cv hcv
          exact ⟨c0, e1, ext.keep _ _ e2 codeO_ne⟩
    · have n1 : h'.objs.size ≠ c' := Nat.ne_of_gt lt
      have n2 : h'.objs.size ≠ P := Nat.ne_of_gt (Nat.lt_of_lt_of_le (Heap.lt_size g2) sz)
      show upd (upd H P _) c' _ _ = none
      rw [upd_ne n1, upd_ne n2]
      exact J.hok.fresh sz
/-- another wish about exceptions -/
def Cx.wx (X : Cx) (y : Value → Shared → Prop) : Cx := { X with xe := y }
theorem inv_wx {X : Cx} {y : Value → Shared → Prop} (J : Inv X pins σ H s) : Inv (Cx.wx X y) pins σ H s := by
  obtain ⟨ok, a1, a2, a3, a4, a5, a6, a7, a8, a9, a10⟩ := J
  obtain ⟨b1, b2, b3, b4, b5, b6, b7, b8, b9, b10, b11, b12, b13, b14, b15, b16, b17, b18⟩ := ok
  exact ⟨⟨b1, b2, b3, b4, b5, b6, b7, b8, b9, b10, b11, b12, b13, b14, b15, b16, b17, b18⟩, a1, a2, a3, a4, a5, a6, a7, a8, a9, a10⟩
/-- the context of the lambda's body -/
def lamX (X : Cx) (A : Around) (outer : List Env) (s : Shared) (H : Hp) (E : XK) (sc : Scope) (f c' : Addr) : Cx := Cx.wx (lamCx X A outer s H E sc f c') fun e s' =>
  wpAny (model X.prog X.w) (A.deeper (lamEnv X sc s.heap.objs.size f c')) (leaving (lamEnv X sc s.heap.objs.size f c') e) (fun _ s2 => L2N.CX X.prog X.w outer H s E e s2) (fun e' s2 => L2N.CX X.prog X.w outer H s E e' s2) s'
/-- deed(): the lambda that the def got is run. Z: that def's context, within its try -/
theorem pe_deed {CXg : CXT} {Eg : XK} {Ng : List Str} {qg : Str} {sg : Scope} {g f c' : Addr} {cdg pm ct : Value} {pr : Arguments} {bd : Expr} {sc : Scope} {k i : Nat} {a : Str} {pn : List (Addr × Obj)} {xe : Value → Shared → Prop} {W : WX} {E : XK} {tb : TE} {p1 p2 : Pos}
    (J : Inv X pins σ H s) (L : LamS X.env.scope sc) (hf : s.heap.get? f = some (PySem.W.kla_obj "<lambda>" (X.env.qual ++ "<lambda>") pr bd sc (cloFrom X.env.cells sc.names []) pm c' ct)) (nf : H f = none) (ff : f ∉ frs X.stack)
    (hbd : bindArgs (PySem.W.kla_fn "<lambda>" (X.env.qual ++ "<lambda>") pr bd sc (cloFrom X.env.cells sc.names []) pm (.ref c') ct) ⟨[], []⟩ = pure []) (tk : L2N.Takes ((cxOf CXg X.prog X.w X.K X.mg X.base Ng qg sg g cdg X.A X.stack s H Eg).tr pn xe) W)
    (hW : ∀ cls d τ H', E cls d H' → W cls d τ H') (hr : Room (k + 1) (X.A.deeper (envOfC qg sg s.heap.objs.size g cdg))) (hb : ∀ (A : Around) (outer : List Env) (s : Shared) (H : Hp), Room k (A.deeper (lamEnv X sc s.heap.objs.size f c')) → PE (lamX X A outer s H E sc f c') bd tb)
    (hN : Ng[i]? = some a) (hv : Vis sg a) (hd : (a == ("__debug__" : Str)) = false := by decide) (hcd : (a == ("__classdict__" : Str)) = false := by decide) :
    PE ((cxOf CXg X.prog X.w X.K X.mg X.base Ng qg sg g cdg X.A X.stack s H Eg).tr pn xe) (.Call (.Name a p1) [] [] p2) (fun τ HZ Q => τ[i]? = some (some (.ref f)) ∧ HZ c' = some (CodeO c' (X.env.qual ++ "<lambda>")) ∧ tb σ HZ Q) :=
  ⟨fun pZ sZ τ HZ Q JZ ⟨h1, h2, h3⟩ => by
    refine wpAny_Call_Name_kw (thn ((pe_var (pos := p1) (i := i) hN hv hd hcd).run pZ sZ τ HZ (fun v H1 => v = .ref f ∧ H1 = HZ) JZ ⟨.ref f, h1, rfl, rfl⟩) fun u s1 ⟨v, H1, J1, r1, q1, q2⟩ => ?_)
    subst q1
    rw [q2] at J1
    obtain rfl : u = Value.ref f := r1
    have of1 := J1.base.keep f _ hf nf ff (fun z => nomatch (show f ∈ ([] : List Addr) from z))
    refine PySem.W.callWith_F0 ⟨_, _, _, _, of1⟩ ?_
    obtain ⟨⟨oc, vs, t, hoc, hdc, hvc⟩, _, _⟩ := J1.hok c' _ h2
    have rc : codeAny (model X.prog X.w) (X.A.deeper (envOfC qg sg s.heap.objs.size g cdg)) (.call (.ref f) ⟨[], []⟩) (CR (L2N.CX X.prog X.w) (envOfC qg sg s.heap.objs.size g cdg :: X.stack) X.prog X.w HZ s1 Q E) s1 := by
      refine PySem.W.kla_callFunE hr.depth of1 rfl L.co L.gen rfl ⟨c', oc, vs, t, rfl, hoc, hdc, hvc⟩ ?_
      rw [hbd]
      refine wpAny_pure (wpAny_newFunctionEnv (fun y hy => (L.own y hy).2) (fun y hy => absurd hy (by simp)) (fun h2 n2 b2 => ⟨J1.nolimit.fresh _ b2, ?_⟩) L.kind)
      have kp : ∀ b o, s1.heap.get? b = some o → h2.get? b = some o := fun b o e => b2.extBut b o (Nat.ne_of_lt (Heap.lt_size e)) (Heap.get?_push_of_some _ e)
      have J2 := lam_start2 (X := X) (E := E) (f := f) (c' := c') (tk := s1.toks + ([] : List (Str × Value)).length) J L J1.env0 hr.hd (show Un (frs X.stack) [] H HZ s.heap s1.heap from J1.base) n2 kp
      refine PySem.W.kla_codeExpr (wpAny_mono ((hb _ _ s1 HZ (hr.deeper _)).run [] _ _ HZ Q (inv_wx J2) h3) (fun v s' hq => ?_) fun e s' hq => hq)
      obtain ⟨w', H', J', rv, q⟩ := hq
      exact ⟨w', H', J'.os, J'.bare, J'.base, J'.hok, rv, q⟩
    refine wpAny_call (codeAny_mono rc fun r s' hq => ?_)
    match r, hq with
    | .error e, hq => exact L2N.passes_call tk hW pZ τ HZ s1 e s' J1 hq
    | .ok (.ret u), hq => exact J1.after hq
    | .ok .next, hq => exact False.elim hq
    | .ok .brk, hq => exact False.elim hq
    | .ok .cont, hq => exact False.elim hq⟩
end
end SD

namespace SD
open PySem PySem.Spec PyProof.Rows L2 HotX L2H
/-! ### where an exception is handled: lists walked to their end -/
section
variable {prog : Program} {w : World} {A : Around} {E : Value → Shared → Prop} {s : Shared}
theorem next_end_hot {it l x1 : Addr} {i : Nat} {items : Array Value} {Q : Option Value → Shared → Prop} (hot : HotAt A x1 s.heap) (hxi : x1 ≠ it) (hit : s.heap.IsListIter it l i) (hl : s.heap.IsList l items) (hx : items[i]? = none)
    (hQ : ∀ h', (∀ b o, b ≠ it → s.heap.get? b = some o → h'.get? b = some o) → Q none { s with heap := h' }) : wpAny (model prog w) A (pyNext (.ref it)) Q E s := by
  obtain ⟨o, ho, hc, hd⟩ := id hit
  obtain ⟨ol, hol, _, nl, hdl⟩ := hl
  obtain ⟨hh, o1, vs1, h1, d1, c1⟩ := hot
  unfold pyNext
  refine wpAny_bind (wpAny_attempt (wpAny_callSpecial?_slot (name := Str.ofString "__next__") hit.typeIs slot_listiter_next (wpAny_call_entry slot_listiter_next hit.typeIs entry_listiter_next ?_ (args_listiter_next _))))
  show wpAny _ _ (field (.ref it) 0 >>= _) _ _ s
  refine wpAny_bind (wpAny_field ho hd (x := .ref l) rfl ?_)
  show wpAny _ _ (if (Value.ref l == Value.none) = true then _ else _) _ _ s
  rw [if_neg (show ¬ ((Value.ref l == Value.none) = true) from Bool.false_ne_true)]
  show wpAny _ _ (field (.ref it) 1 >>= _) _ _ s
  refine wpAny_bind (wpAny_field ho hd (x := .int i 0) rfl ?_)
  show wpAny _ _ (seqItems? (.ref l) >>= _) _ _ s
  refine wpAny_bind (wpAny_seqItems hol hdl ?_)
  simp only [Int.toNat_natCast, hx]
  refine wpAny_bind (wpAny_rule (wpAny_bind (wpAny_setField ho hd (by simp) ?_)))
  show wpAny _ _ (newExc (.type "StopIteration") [] >>= _) _ _ _
  refine wpAny_bind ?_
  simp only [newExc, newTuple]
  refine wpAny_bind (wpAny_newObj_type ?_ (by size_fits))
  refine wpAny_bind (m := firstArgMember _ _) (wpAny_of_eq (a := Value.none) (by first | rfl | (simp only [firstArgMember]; rfl)) ?_)
  refine wpAny_newObj_type ?_ (by size_fits)
  have u1 : (s.heap.update it (Obj.mapFields (·.setIfInBounds 0 .none))).get? x1 = some o1 := by
    rw [Heap.get?_update_other _ _ fun z => hxi z.symm]
    exact h1
  refine raiseNew_hot (x1 := x1) ⟨hh, o1, vs1, Heap.get?_push_of_some _ (Heap.get?_push_of_some _ u1), d1, c1⟩ (Nat.ne_of_lt (Heap.lt_size (Heap.get?_push_of_some _ u1))) (Heap.get?_push_size _ rfl) rfl (by first | (simp; done) | (simp; omega) | (simp only [Array.size_append]; simp; omega)) ?_
  refine wpAny_bind (wpAny_isInstance (T := "StopIteration") (b := true) ⟨_, Heap.get?_update_self _ (Heap.get?_push_size _ rfl) rfl, rfl⟩ isSubtype_stop ?_)
  refine wpAny_pure (hQ _ fun b u hb e => ?_)
  have e2 : (s.heap.update it (Obj.mapFields (·.setIfInBounds 0 .none))).get? b = some u := by
    rw [Heap.get?_update_other _ _ fun z => hb z.symm]
    exact e
  rw [Heap.get?_update_other _ _ (Nat.ne_of_gt (Heap.lt_size (Heap.get?_push_of_some _ e2)))]
  exact Heap.get?_push_of_some _ (Heap.get?_push_of_some _ e2)
theorem walks_hot {x1 : Addr} {o1 : Obj} {vs1 : Array Value} (hh : A.handled = some (.ref x1)) (d1 : o1.data = .fields vs1) (c1 : vs1[2]? = some .none) (it ax : Addr) (hne : ax ≠ it) (hxi : x1 ≠ it) (items : Array Value) :
    Walks prog w A it [it, ax, x1] [it] items.size (fun i v => items[i]? = some v) (fun i h => h.IsListIter it ax i ∧ h.IsList ax items ∧ h.get? x1 = some o1) where
  sub := fun b hb => by simp at hb; simp [hb]
  frame := fun _ _ _ st hk => ⟨st.1.at fun o e => hk it (by simp) o e, st.2.1.at fun o e => hk ax (by simp) o e, hk x1 (by simp) _ st.2.2⟩
  item := fun i s Q E hi st hQ => by
    refine wpAny_pyNext_list_item st.1 st.2.1 (x := items[i]) (by simp [hi]) fun h' z1 z2 => ?_
    exact hQ _ h' s.toks (by simp [hi]) ⟨z1, st.2.1.extBut z2.extBut hne, z2.extBut _ _ hxi st.2.2⟩ fun b o hb e => z2.extBut b o (fun h => hb (by simp [h])) e
  done := fun s Q E st hQ => next_end_hot ⟨hh, o1, vs1, st.2.2, d1, c1⟩ hxi st.1 st.2.1 (by simp) fun h' z => hQ h' s.toks fun b o hb e => z b o (fun h => hb (by simp [h])) e
  self := fun _ _ _ _ st hQ => wpAny_pyIter_listiter st.1 hQ
theorem sum_hot {l x1 : Addr} {its : List Value} {ns : List Int} {Q : Value → Shared → Prop} (hot : HotAt A x1 s.heap) (hl : s.heap.IsList l its.toArray) (hi : IntsAre its ns)
    (h : ∀ h' tk t', (∀ b o, s.heap.get? b = some o → h'.get? b = some o) → Q (.int ns.sum t') { s with heap := h', toks := tk }) : wpAny (model prog w) A (call (.builtin "sum") [.ref l]) Q E s := by
  obtain ⟨hh, o1, vs1, h1, d1, c1⟩ := hot
  obtain ⟨xs, e⟩ := hi.allInts.items
  have hn : numsOf (intItems xs).toList = ns := by rw [← e]; exact hi.numsOf
  rw [nums_intItems] at hn
  rw [e] at hl
  have hlt : l < s.heap.objs.size := by obtain ⟨_, e, _⟩ := hl; exact Heap.lt_size e
  have hxt : x1 < s.heap.objs.size := Heap.lt_size h1
  refine call_sum_walkG (wpAny_pyIter_list hl ?_)
  refine ⟨_, [s.heap.objs.size, l, x1], [s.heap.objs.size], _, _, _, numAt xs, rfl, walks_hot (A := A.in1) (show A.in1.handled = _ from hh) d1 c1 _ l (Nat.ne_of_lt hlt) (Nat.ne_of_lt hxt) (intItems xs), ⟨⟨_, Heap.get?_push_size _ rfl, rfl, rfl⟩, hl.push _, Heap.get?_push_of_some _ h1⟩, fun b hb => ?_, (fun _ _ => intItems_at), fun h' tk t' hk => ?_⟩
  · show b < (s.heap.push _).objs.size
    rw [Heap.size_push]
    simp only [List.mem_cons, List.not_mem_nil, or_false] at hb
    rcases hb with rfl | rfl | rfl
    · exact Nat.lt_succ_self _
    · exact Nat.lt_succ_of_lt hlt
    · exact Nat.lt_succ_of_lt hxt
  · have := h h' tk t' fun b o eo => hk b o (fun hm => by
      rcases List.mem_cons.mp hm with e1 | hm
      · exact absurd (e1 ▸ Heap.lt_size eo) (Nat.lt_irrefl _)
      · cases hm) (Heap.get?_push_of_some _ eo)
    rw [preSum_eq, List.take_of_length_le (by simp [intItems]), hn]
    exact this
end
section
variable {X : Cx}
theorem cr_sumH (hc : HotC X) : CallR X (.builtin "sum") (fun vs H Q => ∃ (a : Addr) (ns : List Int), vs = [V.ref a] ∧ SqL X.K H a (ns.map V.int) ∧ Q (.int ns.sum) H) := by
  intro pins s σ H vs us Q I r h
  obtain ⟨a, ns, rfl, hs, q⟩ := h
  obtain ⟨its, rv, hl, _⟩ := I.list hs
  obtain ⟨x1, hot⟩ := hc.at I
  rw [Vals.ref1 r]
  exact sum_hot hot hl.isList rv.ints fun h' tk t' hk => ⟨.int _, H, I.kept hk, ⟨_, rfl⟩, q⟩
/-- one more pin -/
theorem inv_pin {pins : List (Addr × Obj)} {σ : L2.St} {H : Hp} {s : Shared} {p : Addr × Obj} (J : Inv X pins σ H s) (h1 : s.heap.get? p.1 = some p.2) (h2 : H p.1 = none) (h3 : p.1 ≠ X.env.locals) (h4 : p.1 ∉ X.fs) (h5 : ∀ v, p.2.data ≠ .cell v) : Inv X (p :: pins) σ H s :=
  ⟨J.ok, J.os, J.bare, J.base, J.loc, J.cell, J.free, J.freeC, fun q hq => by
    rcases List.mem_append.mp hq with z | z
    · exact J.pin q (List.mem_append_left _ z)
    · rcases List.mem_cons.mp z with rfl | z
      · exact ⟨h1, h2, h3, h4, h5⟩
      · exact J.pin q (List.mem_append_right _ z), J.hok, J.len⟩
/-- [elt for x in xs], xs a list, where the exception p is handled -/
theorem pe_lcH {elt iter : Expr} {x : Str} {px : Pos} {scope : Scope} {own : List (Str × Nat)} {pos : Pos} {i0 : Nat} {tl te : TE} {p : Addr × Obj} (hot : Hot1 X.A p) (hp : p ∈ X.pn) (hN : X.N.Nodup) (hi : PE X iter tl) (ok : BlkOk X.N X.env.scope scope own) (hown : own.map (·.2) = [i0])
    (hg : ∀ (s : Shared) (H : Hp) (C : Addr) (cl : List (Str × Addr)) (fp : List Addr), PG (X.blk s H scope (compEnvC scope cl C X.env) fp) (.Name x px) (gName i0)) (he : ∀ (s : Shared) (H : Hp) (C : Addr) (cl : List (Str × Addr)) (fp : List Addr), PE (X.blk s H scope (compEnvC scope cl C X.env) fp) elt te)
    (hs : ∀ x, foldedSetIterable iter X.env x = pure x := by intro _; rfl) :
    PE X (.ListComp elt [⟨.Name x px, iter, [], 0⟩] scope pos) (tLc (iList X.K tl) (gName i0) tYes te [i0]) := by
  refine ⟨fun pins s σ H Q I h => ?_⟩
  rw [eval_ListComp]
  have hfree : ∀ y ∈ scope.names, y.2 = .free → ∃ c, X.env.cells.lookup y.1 = some c := fun y hy e => (ok.free y hy e).elim (fun k => I.ok.has _ (.inl k)) fun k => I.ok.has _ (.inr k)
  have pin0 := I.pin p (List.mem_append_left _ hp)
  refine wpAny_comprehension_free (use := none) rfl hs (closure_ok hfree) ok.kind (fun y hy e => by rw [ok.uniq y hy, e]) (thn (hi.run pins s σ H _ I h) fun xv s1 ⟨v1, H1, I1, r1, l, ev, ⟨xs, hxs⟩, q⟩ => ?_)
  subst ev
  cases r1
  obtain ⟨its, rv, pl, hz⟩ := I1.list hxs
  refine wpAny_pyIter_list pl.isList ?_
  generalize hit : s1.heap.objs.size = it
  have fr1 : H1 it = none := I1.hok.fresh (Nat.le_of_eq hit)
  have fi : FpOk X pins H1 it := I1.fpOk (Nat.le_of_eq hit) fr1
  obtain ⟨oi, hoi⟩ : ∃ oi : Obj, oi = { cls := .type "list_iterator", data := .fields #[.ref l, .int 0 0] } := ⟨_, rfl⟩
  have I2 : Inv X pins σ H1 { s1 with heap := s1.heap.push oi } := I1.kept (t' := s1.toks) fun b o e => Heap.get?_push_of_some _ e
  have st2 : (s1.heap.push oi).IsListIter it l 0 := by
    rw [← hit, hoi]
    exact ⟨_, Heap.get?_push_size _ rfl, rfl, rfl⟩
  rw [← hoi]
  generalize hs2 : ({ s1 with heap := s1.heap.push oi } : Shared) = s2 at I2
  have hh2 : s2.heap = s1.heap.push oi := by rw [← hs2]
  rw [← hh2] at st2
  refine wpAny_newObj_type (newEnv_comp ?_) (by show 0 ≤ sizeLine; decide)
  generalize hD : s2.heap.objs.size = A0
  have hDn : H1 A0 = none := I2.hok.fresh (Nat.le_of_eq hD)
  obtain ⟨W, ⟨m0, w0⟩, turn⟩ := q A0 hDn
  generalize hs3 : ({ s2 with heap := s2.heap.push { cls := .type "list", data := .seq ([] : List Value).toArray } } : Shared) = s3
  have h3 : s3.heap = s2.heap.push { cls := .type "list", data := .seq ([] : List Value).toArray } := by rw [← hs3]
  have I3 : Inv X pins σ (upd H1 A0 (.lst [])) s3 := by
    rw [← hs3]
    refine I2.laid (t' := s2.toks) (fun b o e => Heap.get?_push_of_some _ e) (Nat.le_of_eq hD) ⟨Nat.zero_le _, [], 0, .nil, ?_⟩
    rw [← hD]
    exact Heap.get?_push_size _ rfl
  have itlt : it < s2.heap.objs.size := by
    obtain ⟨o, e, _⟩ := st2
    exact Heap.lt_size e
  have f3 : ∀ b ∈ [it], FpOk X pins (upd H1 A0 (.lst [])) b ∧ b < s3.heap.objs.size := fun b hb => by
    rw [List.mem_singleton.mp hb]
    refine ⟨⟨?_, fi.2⟩, by rw [h3, Heap.size_push]; exact Nat.lt_succ_of_lt itlt⟩
    rw [upd_ne (by rw [← hD]; exact Nat.ne_of_lt itlt)]
    exact fr1
  have keep : ∀ {h h' : Heap} {i : Nat}, h.IsListIter it l i → (∀ o, h.get? it = some o → h'.get? it = some o) → h'.IsListIter it l i := fun {h h' i} st k => st.at fun o e => k o e
  have st3 : s3.heap.IsListIter it l 0 := keep st2 fun o e => by rw [h3]; exact Heap.get?_push_of_some _ e
  have I4 := block_start I3 ok hN f3
  have pg := hg s3 (upd H1 A0 (.lst [])) s3.heap.objs.size (cellsFrom (s3.heap.objs.size + 1) scope.names (cloFrom X.env.cells scope.names [])) [it]
  have pe := he s3 (upd H1 A0 (.lst [])) s3.heap.objs.size (cellsFrom (s3.heap.objs.size + 1) scope.names (cloFrom X.env.cells scope.names [])) [it]
  rw [hown] at I4
  show codeAny _ _ (.compStart (.ListComp elt [⟨.Name x px, iter, [], 0⟩] scope pos) 0 (.ref it) (.ref A0) (compEnvC scope (cellsFrom (s3.heap.objs.size + 1) scope.names (cloFrom X.env.cells scope.names [])) s3.heap.objs.size X.env)) (compPost (model X.prog X.w) X.A X.xe none _ (.ref A0) s3.heap.objs.size)
    { s3 with heap := pushCells (s3.heap.push { cls := .type "dict", data := .dict #[] }) scope.names }
  generalize hce : compEnvC scope (cellsFrom (s3.heap.objs.size + 1) scope.names (cloFrom X.env.cells scope.names [])) s3.heap.objs.size X.env = ce at I4 pg pe ⊢
  have cL : ce.locals = s3.heap.objs.size := by subst hce; rfl
  have hpIt : p.1 ≠ it := fi.2.2.2.2.2 p (List.mem_append_left _ hp)
  have pin3 := I3.pin p (List.mem_append_left _ hp)
  generalize hH3 : upd H1 A0 (.lst []) = H3 at I3 I4 pg pe w0 f3 pin3
  have nit : H3 it = none := (f3 it (List.mem_singleton.mpr rfl)).1.1
  generalize hs4 : ({ s3 with heap := pushCells (s3.heap.push { cls := .type "dict", data := .dict #[] }) scope.names } : Shared) = s4 at I4 ⊢
  have up34 : ∀ b o, s3.heap.get? b = some o → s4.heap.get? b = some o := fun b o e => by rw [← hs4]; exact pushCells_keeps _ _ _ _ (Heap.get?_push_of_some _ e)
  have st4 : s4.heap.IsListIter it l 0 := keep st3 fun o e => up34 it o e
  have I4p : Inv (X.blk s3 H3 scope ce [it]) [p] (wipe σ [i0]) H3 s4 := by
    refine inv_pin I4 (up34 _ _ pin3.1) pin3.2.1 (fun z => ?_) (fun z => ?_) pin3.2.2.2.2
    · have z1 : p.1 = ce.locals := z
      rw [cL] at z1
      have z2 := Heap.lt_size pin3.1
      rw [z1] at z2
      exact Nat.lt_irrefl _ z2
    · rcases List.mem_cons.mp (I3.stkSub _ z) with e | e
      · exact pin3.2.2.1 e
      · exact pin3.2.2.2.1 e
  have stat : ∀ {σ' : L2.St} {H' : Hp} {s' : Shared}, Inv (X.blk s3 H3 scope ce [it]) [p] σ' H' s' → H' it = none → FpOk (X.blk s3 H3 scope ce [it]) [p] H' it := fun {σ' H' s'} I' hn =>
    ⟨hn, (I'.ok.exf it (List.mem_singleton.mpr rfl)).1, I'.ok.exfs it (List.mem_singleton.mpr rfl), .inl (List.mem_singleton.mpr rfl), fun y c e => (I'.ok.exf it (List.mem_singleton.mpr rfl)).2 y c e, fun q hq => by
      have hq' : q ∈ ([] : List (Addr × Obj)) ++ [p] := hq
      rw [List.mem_singleton.mp hq']
      exact hpIt⟩
  have hotAt : ∀ {σ' : L2.St} {H' : Hp} {s' : Shared}, Inv (X.blk s3 H3 scope ce [it]) [p] σ' H' s' → HotAt X.A p.1 s'.heap := fun {σ' H' s'} I' => by
    obtain ⟨hh, vs, e1, e2⟩ := hot
    exact ⟨hh, p.2, vs, (I'.pin p (List.mem_append_right _ (List.mem_singleton.mpr rfl))).1, e1, e2⟩
  have loop : codeAny (model X.prog X.w) X.A (.compLoop (.ListComp elt [⟨.Name x px, iter, [], 0⟩] scope pos) 0 (.ref it) (.ref A0) ce) (compPost (model X.prog X.w) X.A X.xe none (EP X pins σ Q) (.ref A0) s3.heap.objs.size) s4 := by
    refine compLoop_any (fun n s' => ∃ i H', Inv (X.blk s3 H3 scope ce [it]) [p] (wipe σ [i0]) H' s' ∧ s'.heap.IsListIter it l i ∧ H' it = none ∧ W i n H') ?_ m0 ⟨0, H3, I4p, st4, nit, w0⟩
    rintro n s5 ⟨i, H5, I5, st5, n5, w5⟩
    obtain ⟨f0, f1, f2, f4, f5, f6⟩ := stat I5 n5
    rcases turn i n H5 w5 with ⟨⟨ys, hys, hle⟩, qq⟩ | ⟨⟨ys, y, hys, hy⟩, Nx, hNx, step⟩
    · obtain ⟨jts, jv, jl, _⟩ := I5.list hys
      have jlen := jv.length
      refine thnF (next_end_hot (Q := fun r s6 => r = none ∧ Inv (X.blk s3 H3 scope ce [it]) [p] (wipe σ [i0]) H5 s6) (hotAt I5) hpIt st5 jl.isList (by simp; omega) fun h' eb => ⟨rfl, I5.turned (t' := s5.toks) (fun b o hb e => eb b o hb e) f0 f1 f4 f5 f6⟩) fun r s6 ⟨hr, I6⟩ => ?_
      subst hr
      have I7 : Inv X pins σ H5 s6 := I3.call' (ch := [it]) I6.os I6.base I6.hok I6.bare fun b hb => ⟨(f3 b hb).1.2.2.2.1, (f3 b hb).1.2.1, (f3 b hb).1.2.2.2.2.1, (f3 b hb).1.2.2.2.2.2⟩
      have nC : H5 s3.heap.objs.size = none := by
        have z : H5 ce.locals = none := I6.free
        rw [cL] at z
        exact z
      obtain ⟨m, hn, _⟩ := I6.loc
      have hn : s6.heap.Ns ce.locals m := hn
      rw [cL] at hn
      obtain ⟨k0, k1, k2, k3, k4, k5⟩ := I3.fpOk (Nat.le_refl _) nC
      have k0' : H5 s3.heap.objs.size = none := nC
      exact ⟨m, hn, fun h2 sb => ⟨.ref A0, H5, I7.turned (t' := s6.toks) (fun b o hb e => (sb.2 b hb).trans e) k0' k1 k3 k4 k5, rfl, qq⟩⟩
    · obtain ⟨jts, jv, jl, _⟩ := I5.list hys
      obtain ⟨u, hu, ru⟩ := jv.get hy
      have ti : wpAny (model X.prog X.w) X.A (pyNext (.ref it)) (fun r s6 => ∃ u, r = some u ∧ wpAny (model X.prog X.w) X.A (letOwnedTupleGo (.Name x px) (.ref it) u) (fun _ s7 => Inv (X.blk s3 H3 scope ce [it]) [p] (wipe σ [i0]) H5 s7 ∧ RelV y u ∧ s7.heap.IsListIter it l (i + 1)) (fun _ _ => False) s6) (fun _ _ => False) s5 := by
        refine wpAny_pyNext_list_item st5 jl.isList (x := u) (by simpa using hu) fun h' z1 z2 => ?_
        have I6 : Inv (X.blk s3 H3 scope ce [it]) [p] (wipe σ [i0]) H5 { s5 with heap := h' } := I5.turned (t' := s5.toks) (fun b o hb e => (z2.2 b hb).trans e) f0 f1 f4 f5 f6
        obtain ⟨o, e, c, d⟩ := id z1
        exact ⟨u, rfl, go_of (s := { s5 with heap := h' }) e c d (by decide) ⟨I6, ru, z1⟩⟩
      refine thnF ti fun r s6 ⟨u', hr, h6⟩ => ?_
      subst hr
      refine thnF h6 fun _ s7 ⟨I7, r7, st7⟩ => ?_
      have ob7 : ∀ b ∈ [it], ∃ o, s7.heap.get? b = some o ∧ ∀ v, o.data ≠ .cell v := fun b hb => by
        rw [List.mem_singleton.mp hb]
        obtain ⟨o, e, c, d⟩ := id st7
        exact ⟨o, e, fun v z => by rw [d] at z; cases z⟩
      have I7' := I7.pinned (fp := [it]) (fun b hb => by rw [List.mem_singleton.mp hb]; exact stat I7 n5) ob7
      refine thnF (pg.run _ s7 _ H5 y u' _ I7' r7 (step y H5 ⟨rfl, fun zs hz => by rw [I5.list_inj hz hys]; exact hy⟩)) fun _ s8 ⟨σ8, H8, I8, hw8, q8⟩ => ?_
      refine thnF ((pts_nil (X := X.blk s3 H3 scope ce [it])).run _ s8 σ8 H8 _ I8 q8) fun b s9 ⟨H9, I9, q9⟩ => ?_
      have fin : ∀ {s' : Shared} {H' : Hp}, Inv (X.blk s3 H3 scope ce [it]) ([p] ++ pinsAt [it] s7.heap) σ8 H' s' → Nx H' → ∃ m, m < n ∧ ∃ i H', Inv (X.blk s3 H3 scope ce [it]) [p] (wipe σ [i0]) H' s' ∧ s'.heap.IsListIter it l i ∧ H' it = none ∧ W i m H' := fun {s' H'} I' nx => by
        obtain ⟨m', hm, w'⟩ := hNx H' nx
        obtain ⟨o, e, _⟩ := ob7 it (List.mem_singleton.mpr rfl)
        have z := I'.pin (it, o) (List.mem_append_right _ (List.mem_append_right _ (mem_pinsAt (List.mem_singleton.mpr rfl) e)))
        have hl : (wipe σ [i0]).length = σ8.length := by rw [← hw8, wipe_length]
        refine ⟨m', hm, i + 1, H', (I'.unpinned (pins := [p])).weak hl (fun j v e => ?_), keep st7 fun o' e' => ?_, z.2.1, w'⟩
        · rw [← hw8] at e
          exact (wipe_some e).1
        · rw [e] at e'
          cases e'
          exact z.1
      cases b with
      | false =>
        simp only [Bool.false_eq_true, if_false] at q9 ⊢
        exact fin I9 q9
      | true =>
        simp only [if_true] at q9 ⊢
        refine thnF (pe.run _ s9 σ8 H9 _ I9 q9) fun z s10 ⟨yv, H10, I10, r10, acc, a1, a2, nx⟩ => ?_
        exact app_ok (X := X.blk s3 H3 scope ce [it]) I10 a1 a2 r10 fun s11 I11 => fin I11 nx
  exact codeAny_compStart_list loop (wpAny_pyIter_listiter st4 loop)
end
end SD

namespace SD
open PySem PySem.Spec PyProof.Rows L2 HotX L2H
/-! ### _law_term: an exception's own name -/
def kindL : List String := ["BadFlight", "BadWalk", "BadBag", "BadWear", "BadNumber", "BadStep", "BadRows", "BadKinds", "BadShares", "Nothing", "Full", "BadText"]
def kindS (i : Nat) : Str := Str.ofString (kindL.getD i "")
/-- isinstance(e, c), e the exception that is pinned -/
theorem call_isP {X : Cx} {a D : Addr} {oe : Obj} (hp : (a, oe) ∈ X.pn) (C : ExcC X.K D) (hz : Zc (.ref D) none oe) (hf : ∃ vs, oe.data = .fields vs) : CallR X (.builtin "isinstance") (rIsE X.K D a) := fun pins s σ H xs us Q I r ⟨c, cv, b, exs, hcv, e, q⟩ => by
  subst exs
  obtain ⟨u1, u2, rfl, rx, rt⟩ := vals2 r
  cases rx
  cases hcv _ rt
  have hget := (I.pin (a, oe) (List.mem_append_left _ hp)).1
  obtain ⟨vs, hv⟩ := hf
  have J : PySem.W.InstAt s.heap a oe D none := by
    obtain ⟨oc, od, oda, osl⟩ := oe
    obtain ⟨h1, h2⟩ := hz
    dsimp only at h1 h2 hv
    subst h1 h2 hv
    exact ⟨hget, rfl, rfl, trivial⟩
  refine PySem.W.kia_one (PySem.W.handS_kitx_exc C.hg C.hk C.hs C.hd C.ha C.hn C.ht C.hm) I.kIn J e (fun z => nomatch z) fun tk => ?_
  exact ⟨.bl b, H, I.kept (t' := tk) fun _ _ z => z, rfl, q⟩
def tIs (K : PySem.W.Frag) (D a : Addr) (v : V) : TE := tCB (rIsE K D a) (tCons (tVar 0) (tCons (tC v) tNil))
abbrev rSumI (K : PySem.W.Frag) : List V → Hp → VK → Prop := fun vs H Q => ∃ (a : Addr) (ns : List Int), vs = [V.ref a] ∧ SqL K H a (ns.map V.int) ∧ Q (.int ns.sum) H
abbrev rInt1 : List V → Hp → VK → Prop := fun xs H Q => (∃ i, xs = [.int i] ∧ Q (.int i) H) ∨ ∃ k, xs = [.bl k] ∧ Q (.int (if k then 1 else 0)) H
def tL : List TE → TA
  | [] => tNil
  | t :: ts => tCons t (tL ts)
def tTerm (K : PySem.W.Frag) (D a : Addr) (C : Nat → Addr) : TS :=
  tSeq (tAsg (tLst (tCons (tIs K D a (.ref (C 0))) (tCons (tIs K D a (.ref (C 1))) (tCons (tIs K D a (.ref (C 2))) (tCons (tIs K D a (.ref (C 3))) tNil))))) (gName 1))
  (tSeq (tAsg (tOp rCat (tVar 1) (tLst (tCons (tIs K D a (.ref (C 4))) (tCons (tIs K D a (.ref (C 5))) (tCons (tIs K D a (.ref (C 6))) tNil))))) (gName 1))
  (tSeq (tAsg (tOp rCat (tVar 1) (tLst (tCons (tIs K D a (.ref (C 7))) (tCons (tIs K D a (.ref (C 8))) (tCons (tIs K D a (.ref (C 9))) tNil))))) (gName 1))
  (tSeq (tAsg (tOp rCat (tVar 1) (tLst (tCons (tIs K D a (.ref (C 10))) (tCons (tIs K D a (.ref (C 11))) tNil)))) (gName 1))
  (tSeq (tAsg (tLst (tL (((List.range 8).map kindS).map fun x => tC (.str x)))) (gName 2))
  (tSeq (tAsg (tOp rCat (tVar 2) (tLst (tL ((([8, 9, 10, 11] : List Nat).map kindS).map fun x => tC (.str x))))) (gName 2))
  (tSeq (tIfS (tOr (tTest (tOp (rNeD K) (tCB (rSumI K) (tCons (tLc (iList K (tVar 1)) (gName 3) tYes (tCB rInt1 (tCons (tVar 3) tNil)) [3]) tNil)) (tC (.int 1)))) (tNot (tTest (tIs K D a (.ty "ValueError"))))) (tRet (tTup (tCons (tC (.str "refused")) (tCons (tC (.str "other")) tNil)))) tNext)
    (tRet (tTup (tCons (tC (.str "refused")) (tCons (tOp (rIx K) (tVar 2) (tBM K "list" (rIndex K) (tVar 1) (tCons (tC (.bl true)) tNil))) tNil))))))))))
/-- what the written part says of the classes -/
structure KindF (K : PySem.W.Frag) (C : Nat → Addr) : Prop where
  exc : ∀ i, i < 12 → ExcC K (C i)
  one : ∀ i j, i < 12 → j < 12 → PySem.W.kitOne K (.ref (C i)) (.ref (C j)) = some (decide (i = j))
  val : ∀ i, i < 12 → PySem.W.kitOne K (.ref (C i)) (.type "ValueError") = some true
def flagL (i : Nat) (js : List Nat) : List V := js.map fun j => V.bl (decide (i = j))
theorem is_run {K : PySem.W.Frag} {C : Nat → Addr} (kf : KindF K C) {a : Addr} {σ : L2.St} {H : Hp} {Q : VK} {i j : Nat} (hi : i < 12) (hj : j < 12) (h0 : σ[0]? = some (some (.ref a))) (q : Q (.bl (decide (i = j))) H) : tIs K (C i) a (.ref (C j)) σ H Q :=
  ⟨_, h0, _, _, _, rfl, fun u hu => hu, kf.one i j hi hj, q⟩
theorem same_upd {H H' : Hp} {p : Addr} {o : HO} (s : Same H H') (hp : H' p = none) : Same H (upd H' p o) := fun b u h => by
  rw [upd_ne (ne_of_none (s b u h) hp)]
  exact s b u h
theorem tL_strs {σ : L2.St} {H : Hp} : ∀ (xs : List Str) (Q : List V → Hp → Prop), Q (xs.map V.str) H → tL (xs.map fun x => tC (.str x)) σ H Q
  | [], Q, h => h
  | x :: xs, Q, h => tL_strs xs _ h
theorem term_run {K : PySem.W.Frag} {C : Nat → Addr} (kf : KindF K C) {a : Addr} {H : Hp} {D : Ends} {i : Nat} (hi : i < 12)
    (h : ∀ (t : Addr) (H' : Hp), Same H H' → H' t = some (.tup [.str "refused", .str (kindS i)]) → H t = none → D.rt (.ref t) H') : tTerm K (C i) a C D [some (.ref a), none, none, none] H := by
  have z0 : ([some (V.ref a), none, none, none] : L2.St)[0]? = some (some (.ref a)) := rfl
  refine is_run kf hi (by decide) z0 (is_run kf hi (by decide) z0 (is_run kf hi (by decide) z0 (is_run kf hi (by decide) z0 ⟨by show 4 ≤ sizeLine; decide, fun p1 n1 => ?_⟩)))
  have s1 : Same H (upd H p1 (.lst (flagL i [0, 1, 2, 3]))) := same_upd (Same.refl H) n1
  show tSeq _ _ D [some (.ref a), some (.ref p1), none, none] (upd H p1 (.lst (flagL i [0, 1, 2, 3])))
  generalize e1 : upd H p1 (.lst (flagL i [0, 1, 2, 3])) = H1 at s1
  have g1 : H1 p1 = some (.lst (flagL i [0, 1, 2, 3])) := by rw [← e1]; exact upd_same
  have z1 : ([some (V.ref a), some (.ref p1), none, none] : L2.St)[0]? = some (some (.ref a)) := rfl
  refine ⟨_, rfl, is_run kf hi (by decide) z1 (is_run kf hi (by decide) z1 (is_run kf hi (by decide) z1 ⟨by show 3 ≤ sizeLine; decide, fun p2 n2 => ?_⟩))⟩
  have s2 : Same H1 (upd H1 p2 (.lst (flagL i [4, 5, 6]))) := same_upd (Same.refl H1) n2
  refine ⟨p1, p2, flagL i [0, 1, 2, 3], flagL i [4, 5, 6], rfl, rfl, s2 _ _ g1, upd_same, by show 7 ≤ sizeLine; decide, fun p3 n3 => ?_⟩
  show tSeq _ _ D [some (.ref a), some (.ref p3), none, none] (upd (upd H1 p2 (.lst (flagL i [4, 5, 6]))) p3 (.lst (flagL i [0, 1, 2, 3, 4, 5, 6])))
  have s3 := same_upd (o := .lst (flagL i [0, 1, 2, 3, 4, 5, 6])) (s1.trans s2) n3
  generalize e3 : upd (upd H1 p2 (.lst (flagL i [4, 5, 6]))) p3 (.lst (flagL i [0, 1, 2, 3, 4, 5, 6])) = H3 at s3
  have g3 : H3 p3 = some (.lst (flagL i [0, 1, 2, 3, 4, 5, 6])) := by rw [← e3]; exact upd_same
  have z3 : ([some (V.ref a), some (.ref p3), none, none] : L2.St)[0]? = some (some (.ref a)) := rfl
  refine ⟨_, rfl, is_run kf hi (by decide) z3 (is_run kf hi (by decide) z3 (is_run kf hi (by decide) z3 ⟨by show 3 ≤ sizeLine; decide, fun p4 n4 => ?_⟩))⟩
  have s4 : Same H3 (upd H3 p4 (.lst (flagL i [7, 8, 9]))) := same_upd (Same.refl H3) n4
  refine ⟨p3, p4, flagL i [0, 1, 2, 3, 4, 5, 6], flagL i [7, 8, 9], rfl, rfl, s4 _ _ g3, upd_same, by show 10 ≤ sizeLine; decide, fun p5 n5 => ?_⟩
  show tSeq _ _ D [some (.ref a), some (.ref p5), none, none] (upd (upd H3 p4 (.lst (flagL i [7, 8, 9]))) p5 (.lst (flagL i (List.range 10))))
  have s5 := same_upd (o := .lst (flagL i (List.range 10))) (s3.trans s4) n5
  generalize e5 : upd (upd H3 p4 (.lst (flagL i [7, 8, 9]))) p5 (.lst (flagL i (List.range 10))) = H5 at s5
  have g5 : H5 p5 = some (.lst (flagL i (List.range 10))) := by rw [← e5]; exact upd_same
  have z5 : ([some (V.ref a), some (.ref p5), none, none] : L2.St)[0]? = some (some (.ref a)) := rfl
  refine ⟨_, rfl, is_run kf hi (by decide) z5 (is_run kf hi (by decide) z5 ⟨by show 2 ≤ sizeLine; decide, fun p6 n6 => ?_⟩)⟩
  have s6 : Same H5 (upd H5 p6 (.lst (flagL i [10, 11]))) := same_upd (Same.refl H5) n6
  refine ⟨p5, p6, flagL i (List.range 10), flagL i [10, 11], rfl, rfl, s6 _ _ g5, upd_same, by show 12 ≤ sizeLine; decide, fun p7 n7 => ?_⟩
  show tSeq _ _ D [some (.ref a), some (.ref p7), none, none] (upd (upd H5 p6 (.lst (flagL i [10, 11]))) p7 (.lst (flagL i (List.range 12))))
  have s7 := same_upd (o := .lst (flagL i (List.range 12))) (s5.trans s6) n7
  generalize e7 : upd (upd H5 p6 (.lst (flagL i [10, 11]))) p7 (.lst (flagL i (List.range 12))) = H7 at s7
  have g7 : H7 p7 = some (.lst (flagL i (List.range 12))) := by rw [← e7]; exact upd_same
  refine tL_strs _ _ ⟨by show 8 ≤ sizeLine; decide, fun p8 n8 => ?_⟩
  have s8 : Same H7 (upd H7 p8 (.lst (((List.range 8).map kindS).map V.str))) := same_upd (Same.refl H7) n8
  refine ⟨.ref p8, rfl, tL_strs _ _ ⟨by show 4 ≤ sizeLine; decide, fun p9 n9 => ?_⟩⟩
  have s9 := same_upd (o := .lst (((([8, 9, 10, 11] : List Nat).map kindS)).map V.str)) s8 n9
  refine ⟨p8, p9, ((List.range 8).map kindS).map V.str, ((([8, 9, 10, 11] : List Nat).map kindS)).map V.str, rfl, rfl, by rw [upd_ne (ne_of_none upd_same n9)]; exact upd_same, upd_same, by show 12 ≤ sizeLine; decide, fun pa na => ?_⟩
  have sa := same_upd (o := .lst (((List.range 12).map kindS).map V.str)) s9 na
  show tSeq _ _ D [some (.ref a), some (.ref p7), some (.ref pa), none] (upd (upd (upd H7 p8 (.lst (((List.range 8).map kindS).map V.str))) p9 (.lst (((([8, 9, 10, 11] : List Nat).map kindS)).map V.str))) pa (.lst (((List.range 12).map kindS).map V.str)))
  generalize ea : upd (upd (upd H7 p8 (.lst (((List.range 8).map kindS).map V.str))) p9 (.lst (((([8, 9, 10, 11] : List Nat).map kindS)).map V.str))) pa (.lst (((List.range 12).map kindS).map V.str)) = Ha at sa
  have ga : Ha pa = some (.lst (((List.range 12).map kindS).map V.str)) := by rw [← ea]; exact upd_same
  have ga7 := sa _ _ g7
  have sHa := s7.trans sa
  have fin : ∀ H2, Same Ha H2 → tRet (tTup (tCons (tC (.str "refused")) (tCons (tOp (rIx K) (tVar 2) (tBM K "list" (rIndex K) (tVar 1) (tCons (tC (.bl true)) tNil))) tNil))) D [some (.ref a), some (.ref p7), some (.ref pa), none] H2 := fun H2 sm => by
    refine ⟨.ref pa, rfl, .ref p7, rfl, .inl ⟨rfl, _, SqL.of (sm _ _ ga7)⟩, p7, flagL i (List.range 12), .bl true, i, .bl true, rfl, rfl, SqL.of (sm _ _ ga7), rfl, ?_, ?_, rfl, ?_, ?_⟩
    · unfold flagL
      rw [List.all_map]
      exact List.all_eq_true.mpr fun _ _ => rfl
    · unfold flagL
      rw [List.getElem?_map, List.getElem?_range hi]
      simp
    · intro m z' hm hz'
      unfold flagL at hz'
      rw [List.getElem?_map, List.getElem?_range (by omega)] at hz'
      have e : z' = V.bl (decide (i = m)) := (Option.some.inj hz').symm
      rw [e, decide_eq_false (by omega)]
      rfl
    · refine .inl ⟨pa, _, (i : Nat), .str (kindS i), rfl, rfl, SqL.of (sm _ _ ga), ?_, by show 2 ≤ sizeLine; decide, fun t nt => ?_⟩
      · have hl : ((((List.range 12).map kindS).map V.str)).length = 12 := by simp
        unfold atI ixN
        rw [hl, if_pos (Int.natCast_nonneg i), if_pos (by omega)]
        show (((List.range 12).map kindS).map V.str)[((i : Nat) : Int).toNat]? = _
        rw [Int.toNat_natCast, List.getElem?_map, List.getElem?_map, List.getElem?_range hi]
        rfl
      · refine h t _ (same_upd (sHa.trans sm) nt) upd_same ?_
        cases z : H t with
        | none => rfl
        | some o =>
          rw [sm _ _ (sHa _ _ z)] at nt
          cases nt
  let fl : Nat → Int := fun j => if decide (i = j) = true then 1 else 0
  refine ⟨.ref p7, rfl, p7, rfl, ⟨_, SqL.of ga7⟩, fun q nq => ?_⟩
  refine ⟨fun n m H2 => n + m = 12 ∧ Same Ha H2 ∧ H2 q = some (.lst (((List.range n).map fl).map V.int)), ⟨12, rfl, same_upd (Same.refl Ha) nq, upd_same⟩, ?_⟩
  rintro n m H2 ⟨en, sm, hq⟩
  by_cases hn : n < 12
  · refine .inr ⟨⟨_, V.bl (decide (i = n)), SqL.of (sm _ _ ga7), by unfold flagL; rw [List.getElem?_map, List.getElem?_range hn] <;> rfl⟩, fun H3 => Same Ha H3 ∧ H3 q = some (.lst (((List.range (n + 1)).map fl).map V.int)), fun H3 ⟨w1, w2⟩ => ⟨m - 1, by omega, by omega, w1, w2⟩, ?_⟩
    rintro y H3 ⟨rfl, hy⟩
    have ey := hy _ (SqL.of (sm _ _ ga7))
    unfold flagL at ey
    rw [List.getElem?_map, List.getElem?_range hn] at ey
    cases ey
    refine ⟨rfl, _, rfl, .inr ⟨_, rfl, ((List.range n).map fl).map V.int, hq, by rw [List.length_map, List.length_map, List.length_range]; exact Nat.lt_trans hn (by decide), fun b u hb => ?_, ?_⟩⟩
    · rw [upd_ne fun z => by rw [z, nq] at hb; cases hb]
      exact sm b u hb
    · rw [upd_same, List.range_succ, List.map_append, List.map_append]
      rfl
  · have e12 : n = 12 := by omega
    subst e12
    refine .inl ⟨⟨_, SqL.of (sm _ _ ga7), by unfold flagL; simp⟩, q, (List.range 12).map fl, rfl, SqL.of hq, ?_⟩
    have hsum : ((List.range 12).map fl).sum = 1 := by
      have : i = 0 ∨ i = 1 ∨ i = 2 ∨ i = 3 ∨ i = 4 ∨ i = 5 ∨ i = 6 ∨ i = 7 ∨ i = 8 ∨ i = 9 ∨ i = 10 ∨ i = 11 := by omega
      rcases this with rfl | rfl | rfl | rfl | rfl | rfl | rfl | rfl | rfl | rfl | rfl | rfl <;> rfl
    rw [hsum]
    refine ⟨.int 1, .int 1, .int 1, .int 1, rfl, rfl, _, rfl, ?_⟩
    refine ⟨.ref a, rfl, .ty "ValueError", .type "ValueError", true, rfl, fun u hu => hu, kf.val i hi, ?_⟩
    exact ⟨true, rfl, fin H2 sm⟩
end SD

namespace SD
open PySem PySem.Spec PyProof.Rows L2 HotX L2H LamX
/-! ### _law_term(e) in the except suite -/
def N_t : List Str := [("e" : Str), "flags", "kinds", "flag"]
structure TermD (P : Program) (w : World) (K : PySem.W.Frag) (mg : Str → Option Value) (base : Heap) (C : Nat → Addr) : Prop where
  ex : ∃ (f : Addr) (fd : FuncData) (pr : Arguments) (bd : List Stmt) (sc : Scope) (kws : List (Str × V)), FunD K "_law_term" "_law_term" pr bd sc [] kws f fd ∧ mg "_law_term" = some (.ref f) ∧ Binds K fd [("e" : Str)] [] ∧ FnScope N_t [("e" : Str)] sc ∧
    ∀ (i : Nat), i < 12 → ∀ (cdv : Value) (A : Around) (outer : List Env) (s : Shared) (H : Hp) (a : Addr) (oe : Obj), Zc (.ref (C i)) none oe → (∃ vs, oe.data = .fields vs) → Hot1 A (a, oe) → RoomH 0 (A.deeper (envOfC "_law_term" sc s.heap.objs.size f cdv)) →
      PSs (cxH C8.CX0 P w K mg base N_t "_law_term" sc f cdv A outer s H C8.E0 (a, oe)) bd (tTerm K (C i) a C)
  kf : KindF K C
  nm : ∀ i, i < 12 → mg (kindS i) = some (.ref (C i))
theorem pe_term {X : Cx} {C : Nat → Addr} {a : Addr} {oe : Obj} {pn : List (Addr × Obj)} {i j : Nat} {q p1 pos : Pos} (T : TermD X.prog X.w X.K X.mg X.base C) (hi : i < 12) (hz : L2N.Zn (.ref (C i)) none oe) (hf : ∃ vs, oe.data = .fields vs) (hr : RoomH 1 X.A)
    (hN : X.N[j]? = some ("e" : Str)) (hv : Vis X.env.scope ("e" : Str)) (hg : Gl X "_law_term") :
    PE (X.suite a ((a, oe) :: pn)) (.Call (.Name "_law_term" q) [.Name "e" p1] [] pos) (fun σ H Q => σ[j]? = some (some (.ref a)) ∧ ∀ (t : Addr) (H' : Hp), Same H H' → H' t = some (.tup [.str "refused", .str (kindS i)]) → H t = none → Q (.ref t) H') :=
  ⟨fun pins s σ H Q I ⟨h1, h2⟩ => by
    obtain ⟨f, fd, pr, bd, sc, kws, F, hm, hb, S, hd⟩ := T.ex
    have hot : Hot1 (X.suite a ((a, oe) :: pn)).A (a, oe) := by
      obtain ⟨vs, e⟩ := hf
      exact ⟨rfl, vs, e, hz.2.2 vs e⟩
    refine wpAny_Call_Name_kw (ld_glob (X := X.suite a ((a, oe) :: pn)) I hg hm ?_ (by decide))
    refine PySem.W.callWith_K (h₀ := X.base) I.ok.mod.kin F.kp (thn ((pa_cons (X := X.suite a ((a, oe) :: pn)) (pe_var (i := j) hN hv) pa_nil).run pos pins s σ H (fun vs H1 => vs = [.ref a] ∧ H1 = H) I ⟨.ref a, h1, rfl, rfl⟩) fun us s1 ⟨vs, H1, I1, r, e1, e2⟩ => ⟨I1.kIn, ?_⟩) rfl rfl
    subst e1 e2
    have eus := Vals.ref1 r
    subst eus
    have P1 := I1.pin (a, oe) (List.mem_append_left _ List.mem_cons_self)
    have hpin : PinOk X.stack H1 s1 (a, oe) := ⟨P1.1, P1.2.1, fun z => (List.mem_cons.mp (I1.stkSub a z)).elim P1.2.2.1 P1.2.2.2.1, P1.2.2.2.2⟩
    have e0 := I1.env0
    have rc : codeAny (model X.prog X.w) (X.suite a ((a, oe) :: pn)).A (.call (.ref f) ⟨[.ref a], []⟩) (CR C8.CX0 X.stack X.prog X.w H1 s1 Q C8.E0) s1 := by
      obtain ⟨oc, od, dV, kV, doc, pm, an, cdv, ct, osl, rfl, lk, hcd, _, _⟩ := F.ex
      have KX : X.K.In s1.heap := e0.mod.kin.keeps fun b o e => (e0.bs b o e).1
      have hkind : ∀ y ∈ [("e" : Str)].zip [Value.ref a], sc.names.lookup y.1 = some .local ∨ (sc.names.lookup y.1 = some .cell ∧ ((cellsFrom (s1.heap.objs.size + 1) sc.names []).lookup y.1).isSome = true) := fun ⟨n, v⟩ hy =>
        (S.par n (List.of_mem_zip hy).1).elim .inl fun z => .inr ⟨z, PySem.W.cellsFrom_some _ _ _ (.inl z)⟩
      have bt := hb s1 [.ref a] I1.kIn rfl
      refine codeAny_call_function hr.depth (KX _ _ lk) rfl S.co S.gen rfl (PySem.W.codeRec_of KX hcd) (bt _ _ _ _ ?_)
      refine wpAny_newFunctionEnv_cells S.kind hkind fun env hen s2 x => ?_
      subst hen
      refine ⟨(e0.mod.nolimit.keeps fun b o e => (e0.bs b o e).1).keeps x.toInCall.keep, codeAny_func ?_⟩
      have dv := hd i hi cdv (X.suite a ((a, oe) :: pn)).A X.stack s1 H1 a oe hz.zc hf hot (RoomH.deeper (k := 0) (show RoomH 1 (X.suite a ((a, oe) :: pn)).A from ⟨hr.dp, hr.un⟩) _)
      have I2 : Inv (cxH C8.CX0 X.prog X.w X.K X.mg X.base N_t "_law_term" sc f cdv (X.suite a ((a, oe) :: pn)).A X.stack s1 H1 C8.E0 (a, oe)) [] (L2.start N_t [.ref a]) H1 s2 := inv_startH S hpin e0 rfl r x
      refine wpAny_mono (dv.run [] s2 _ H1 { nx := fun _ H' => Q .non H', rt := Q } I2 (term_run T.kf hi fun t H' z1 z2 z3 => h2 t H' z1 z2 z3)) (fun fl s3 hs => ?_) fun e s3 hs => hs
      match fl, hs with
      | .ret u, ⟨v, σ', H', J, rv, q⟩ => exact ⟨v, H', J.os, J.bare, J.base, J.hok, rv, q⟩
      | .next, ⟨σ', H', J, q⟩ => exact ⟨V.non, H', J.os, J.bare, J.base, J.hok, rfl, q⟩
      | .brk, ⟨_, _, _, q⟩ => exact False.elim q
      | .cont, ⟨_, _, _, q⟩ => exact False.elim q
    refine wpAny_call (codeAny_mono rc fun r s' hq => ?_)
    match r, hq with
    | .error e, hq => exact False.elim hq
    | .ok (.ret u), hq => exact I1.after hq
    | .ok .next, hq => exact False.elim hq
    | .ok .brk, hq => exact False.elim hq
    | .ok .cont, hq => exact False.elim hq⟩
end SD

namespace SD
open PySem PySem.Spec PyProof.Rows L2 HotX L2H LamX
/-! ### _law_told(lambda: ..) -/
def N_told : List Str := [("deed" : Str), "e"]
structure ToldD (K : PySem.W.Frag) (mg : Str → Option Value) (C : Nat → Addr) : Prop where
  ex : ∃ (g : Addr) (fd : FuncData) (pr : Arguments) (sg : Scope) (kws : List (Str × V)) (CS : Addr) (p1 p2 p3 p4 p5 p6 p7 p8 p9 p10 : Pos), FunD K "_law_told" "_law_told" pr [.Try [.Return (some (.Call (.Name "deed" p1) [] [] p2)) p3] [.ExceptHandler (some (.Name "StrideError" p4)) (some "e") [.Return (some (.Call (.Name "_law_term" p5) [.Name "e" p6] [] p7)) p8] p9] [] [] p10] sg [] kws g fd ∧
    mg "_law_told" = some (.ref g) ∧ Binds K fd [("deed" : Str)] [] ∧ FnScope N_told [("deed" : Str)] sg ∧ sg.names.lookup ("StrideError" : Str) = some .globalImplicit ∧ sg.names.lookup ("_law_term" : Str) = some .globalImplicit ∧ sg.names.lookup ("e" : Str) = some .local ∧ sg.names.lookup ("deed" : Str) = some .local ∧
    mg "StrideError" = some (.ref CS) ∧ ∀ i, i < 12 → PySem.W.exmOne K (.ref (C i)) (.ref CS) = some true
def refD (i : Nat) : D := .tuple [.str "refused", .str (kindS i)]
@[simp] def wTold (wb : WE) : WE := fun env Q _ => wb env Q fun x => ∃ i, i < 12 ∧ x = kindS i ∧ Q (refD i)
theorem good_lam {X : Cx} {A : Around} {outer : List Env} {s : Shared} {H : Hp} {E : XK} {sc : Scope} {f c' : Addr} {T : List (Addr × Str)} {mg : Str → Option Value} (h : mg = X.mg) : Good (lamX X A outer s H E sc f c') ⟨T, mg, E⟩ :=
  ⟨h, rfl, L2N.passes_call (L2N.takes_of rfl rfl rfl rfl) fun _ _ _ _ h => h, L2N.takes_of rfl rfl rfl rfl, passes_of rfl⟩
/-- a new tuple of texts is data -/
theorem ref_new {T : List (Addr × Str)} {O : List Addr} {F H H' : Hp} {t : Addr} {i : Nat} (v : Vw T O F H) (sm : Same H H') (ht : H' t = some (.tup [.str "refused", .str (kindS i)])) (nt : H t = none) :
    Vw T O (upd F t (.tup [.str "refused", .str (kindS i)])) H' ∧ Stp O F H (upd F t (.tup [.str "refused", .str (kindS i)])) H' ∧ Rp (upd F t (.tup [.str "refused", .str (kindS i)])) (.ref t) (refD i) := by
  have nF := v.fF nt
  refine ⟨⟨fun b o h => ?_, fun b ps h => ?_, v.tab.ext fun b o h => sm b o h, fun q hq => ?_⟩, ⟨fun b o h _ _ => sm b o h, grow_upd nF, fun b o h => ?_, fun b ps h => ⟨ps, sm _ _ h⟩, fun b _ h z => ?_⟩, .tup upd_same (.cons (.str _) (.cons (.str _) .nil))⟩
  · by_cases hb : b = t
    · rw [hb, upd_same] at h
      rw [hb, ht]
      exact h
    · rw [upd_ne hb] at h
      exact sm b o (v.frz b o h)
  · by_cases hb : b = t
    · rw [hb, upd_same] at h
      cases h
    · rw [upd_ne hb] at h
      exact v.ntb b ps h
  · obtain ⟨h1, c, n, h2⟩ := v.dic q hq
    exact ⟨by rw [upd_ne (ne_of_none h2 nt)]; exact h1, c, n, sm _ _ h2⟩
  · by_cases hb : b = t
    · rw [hb]
      exact .inr nt
    · rw [upd_ne hb] at h
      exact .inl h
  · cases q : H b with
    | none => exact h q
    | some o =>
      rw [sm _ _ q] at z
      cases z
theorem d_told {X : Cx} {c : Ctx} {C : Nat → Addr} {cc Pt : Addr} {k : Nat} {pr : Arguments} {bd : Expr} {sc : Scope} {wb : WE} {p lpos pos : Pos} (gd : Good X c) (hr : Room (k + 2) X.A) (TD : ToldD X.K X.mg C) (TT : TermD X.prog X.w X.K X.mg X.base C) (TB : TabB X.base X.mg cc Pt) (hcc : X.env.code = .ref cc)
    (mT : (Pt, X.env.qual ++ "<lambda>") ∈ c.T) (uT : ∀ p ∈ c.T, p.1 = Pt → p.2 = X.env.qual ++ "<lambda>") (L : LamS X.env.scope sc) (hdf : defaultsOf pr X.env = ([], [])) (hbi : ∀ (q : Str) (cl : List (Str × Addr)) (pm cv ct : Value), bindArgs (PySem.W.kla_fn "<lambda>" q pr bd sc cl pm cv ct) ⟨[], []⟩ = pure [])
    (hb : ∀ (A : Around) (outer : List Env) (s : Shared) (H : Hp) (E : XK) (f c' : Addr), Room k (A.deeper (lamEnv X sc s.heap.objs.size f c')) → Good (lamX X A outer s H E sc f c') ⟨c.T, c.mg, E⟩ → DE (lamX X A outer s H E sc f c') ⟨c.T, c.mg, E⟩ bd wb) (hg : Gl X "_law_told" := by rfl) :
    DE X c (.Call (.Name "_law_told" p) [.Lambda pr bd sc lpos] [] pos) (wTold wb) :=
  ⟨fun pins s σ H Q I ⟨O, F, env, QD, QE, vw, sl, hw, hq, he⟩ => by
    obtain ⟨g, fd, pg, sg, kws, CS, p1, p2, p3, p4, p5, p6, p7, p8, p9, p10, FD, hm, hbn, S, gS, gT, le, ld, mS, ex⟩ := TD.ex
    refine wpAny_Call_Name_kw (ld_glob I hg hm ?_ (by decide))
    refine PySem.W.callWith_K (h₀ := X.base) I.ok.mod.kin FD.kp ?_ (by rfl) (by rfl)
    show wpAny _ _ (spliced ((false, eval (.Lambda pr bd sc lpos) X.env) :: backTo pos (starEach [] X.env))) _ _ s
    refine Calls.spliced_cons (lam_make3 I TB hcc mT uT vw.tab hdf (L.has I.ok) fun f c' pm ct H1 s1 I1 eT T1 hf nf ff hco => ?_)
    refine Calls.spliced_nil ⟨I1.kIn, ?_⟩
    have v1 := vw.ext eT T1
    have st1 := Stp.ext vw eT
    have rc : codeAny (model X.prog X.w) X.A (.call (.ref g) ⟨[.ref f], []⟩) (CR C8.CX0 X.stack X.prog X.w H1 s1 Q C8.E0) s1 := by
      obtain ⟨oc, od, dV, kV, doc, pm', an, cdv, ct', osl, rfl, lk, hcd, _, _⟩ := FD.ex
      refine run_ofS (N := N_told) (ps := [("deed" : Str)]) (us := [.ref f]) (vs := [.ref f]) lk hcd S hr I1.env0 (hbn s1 [.ref f] I1.kIn rfl) (.cons rfl .nil) rfl fun hr2 => ?_
      let ts : Addr → Value → Option Addr → TS := fun a cls d D τ HZ => ∃ i, i < 12 ∧ cls = .ref (C i) ∧ d = none ∧ (1 < τ.length → τ[1]? = some (some (.ref a))) ∧ ∀ (t : Addr) (H' : Hp), Same HZ H' → H' t = some (.tup [.str "refused", .str (kindS i)]) → HZ t = none → D.rt (.ref t) H'
      refine ⟨_, PSs.nox (pss_one (L2N.ps_try_as (X := (cxOf C8.CX0 X.prog X.w X.K X.mg X.base N_told "_law_told" sg g cdv X.A X.stack s1 H1 C8.E0).nox) (x := "StrideError") (n := "e") (c := .ref CS) (i := 1) (Wout := fun _ _ _ _ => False)
        (tb := fun W D τ HZ => ∃ Ech : XK, (∀ cls d τ' H', Ech cls d H' → W cls d τ' H') ∧ τ[0]? = some (some (.ref f)) ∧ HZ c' = some (CodeO c' (X.env.qual ++ "<lambda>")) ∧ liftE ⟨c.T, c.mg, Ech⟩ wb σ HZ D.rt) (ts := ts) rfl rfl S.nd rfl le ⟨gS, by decide, .inl mS⟩ takesN (fun W pn xe tk _ => ?_) fun a oe cls d pn hz hfl => ?_)), ?_⟩
      · refine ⟨fun pZ sZ τ HZ D JZ ⟨Ech, hW, z1, z2, z3⟩ => ?_⟩
        exact (pss_one (ps_ret (pos := p3) (pe_deed (CXg := C8.CX0) (Eg := C8.E0) (E := Ech) (W := W) (p1 := p1) (p2 := p2) I1 L hf nf ff (hbi _ _ _ _ _) tk hW hr2 (fun A outer s H hr3 => hb A outer s H Ech f c' hr3 (good_lam gd.mg)) rfl (.inl ld)))).run pZ sZ τ HZ D JZ ⟨z1, z2, z3⟩
      · refine ⟨fun pZ sZ τ HZ D JZ ⟨i, hi, e1, e2, z1, z2⟩ => ?_⟩
        subst e1 e2
        have hl : τ.length = 2 := JZ.len
        exact (pss_one (ps_ret (pos := p8) (pe_term (X := (cxOf C8.CX0 X.prog X.w X.K X.mg X.base N_told "_law_told" sg g cdv X.A X.stack s1 H1 C8.E0).nox) (j := 1) (q := p5) (p1 := p6) (pos := p7) TT hi hz hfl (roomH_of (hr2.mono (by omega))) rfl (.inl le) gT))).run pZ sZ τ HZ D JZ ⟨z1 (by omega), z2⟩
      · refine ⟨fun cls d H' => ∃ i, i < 12 ∧ cls = .ref (C i) ∧ d = none ∧ ∃ F', Vw c.T O F' H' ∧ Stp O F H F' H' ∧ QD (refD i), fun cls d τ' H' ⟨i, hi, e1, e2, F', v', st', hQ⟩ => ?_, rfl, hco, O, F, env, QD, _, v1, sl, hw, fun d hd F' H' v v' st' r => hq d hd F' H' v v' (st1.trans st' v') r, fun x ⟨i, hi, ex', hQ⟩ F' H' C0 v' st' hmx => ?_⟩
        · subst e1 e2
          refine ⟨true, ex i hi, fun _ a na => ⟨i, hi, rfl, rfl, fun hl => ?_, fun t H2 sm ht nt => ?_⟩, fun z => nomatch z⟩
          · rw [List.length_set] at hl
            rw [List.getElem?_set_self hl]
          · obtain ⟨a1, a2, a3⟩ := ref_new v' sm ht nt
            exact hq _ hQ _ H2 _ a1 (st'.trans a2 a1) a3
        · rw [ex', gd.mg, TT.nm i hi] at hmx
          cases hmx
          exact ⟨i, hi, rfl, rfl, F', v', st1.trans st' v', hQ⟩
    refine wpAny_call (codeAny_mono rc fun r s' hq' => ?_)
    match r, hq' with
    | .error e, hq' => exact False.elim hq'
    | .ok (.ret u), hq' => exact I1.after hq'
    | .ok .next, hq' => exact False.elim hq'
    | .ok .brk, hq' => exact False.elim hq'
    | .ok .cont, hq' => exact False.elim hq'⟩
end SD

namespace SD
open PySem PySem.Spec PyProof.Rows L2 LamX
/-- THE RULE for a def that makes lambdas: its code object is known -/
theorem fn_dataC {P : Program} {w : World} {K : PySem.W.Frag} {mg : Str → Option Value} {base : Heap} {T : List (Addr × Str)} {k : Nat} {x qual : Str} {params : Arguments} {body : List Stmt} {scope : Scope} {kws : List (Str × V)} {p : He.Defn} {fd : FuncData} {N ps : List Str} {G : FS} {ws : WS}
    (F : FunD K x qual params body scope [] kws (He.fAd K p) fd) (S : FnScope N ps scope) (len : ∀ as Q E, G as Q E → as.length = ps.length)
    (hb : ∀ (A : Around) (outer : List Env) (s : Shared) (H : Hp) (E : XK), Good (cxOf (L2N.CX P w) P w K mg base N qual scope (He.fAd K p) (.ref (He.codeOf K p)) A outer s H E) ⟨T, mg, E⟩ → Room k (A.deeper (envOfC qual scope s.heap.objs.size (He.fAd K p) (.ref (He.codeOf K p)))) →
      DSs (cxOf (L2N.CX P w) P w K mg base N qual scope (He.fAd K p) (.ref (He.codeOf K p)) A outer s H E) ⟨T, mg, E⟩ body ws)
    (hG : ∀ as Q E, G as Q E → ws (startE N as) ⟨fun _ => Q .none, Q, E⟩) : FnOk P w K mg base (L2N.CX P w) (k + 1) (He.fAd K p) fd ps (spP T mg G) := by
  obtain ⟨oc, od, dV, kV, doc, pm, an, cdv, ct, osl, rfl, lk, hcd, _, _⟩ := F.ex
  obtain ⟨c, rfl⟩ := He.codeIn_ref hcd
  have ec : He.codeOf K p = c := He.codeOf_eq lk rfl
  rw [ec] at hb
  refine fn_of lk hcd S (fun vs H Q E ⟨O, F1, as, QD, QE, _, r, g, _⟩ => by rw [r.length]; exact len _ _ _ g) fun A outer s H vs Q E hr h => ?_
  obtain ⟨O, F1, as, QD, QE, vw, r, g, hq, he⟩ := h
  exact ⟨_, hb A outer s H E good_cx hr, O, F1, H, F1, startE N as, ⟨fun _ => QD .none, QD, QE⟩, frm_start vw r, hG as QD QE g, fun env' hC F' H' σ' f' _ => hq _ hC F' H' _ f'.vw f'.st .non, hq, he⟩
/-- the same for law -/
theorem fn_lawC {P : Program} {w : World} {K : PySem.W.Frag} {mg : Str → Option Value} {base : Heap} {k : Nat} {x qual : Str} {params : Arguments} {body : List Stmt} {scope : Scope} {kws : List (Str × V)} {p : He.Defn} {fd : FuncData} {N ps : List Str} {sp : Sp}
    (F : FunD K x qual params body scope [] kws (He.fAd K p) fd) (S : FnScope N ps scope) (len : ∀ vs H Q E, sp vs H Q E → vs.length = ps.length)
    (hb : ∀ (A : Around) (outer : List Env) (s : Shared) (H : Hp) (vs : List V) (Q : VK) (E : XK), Room k (A.deeper (envOfC qual scope s.heap.objs.size (He.fAd K p) (.ref (He.codeOf K p)))) → sp vs H Q E →
      ∃ t, PSs (cxOf (L2N.CX P w) P w K mg base N qual scope (He.fAd K p) (.ref (He.codeOf K p)) A outer s H E) body t ∧ t { nx := fun _ H' => Q .non H', rt := Q } (L2.start N vs) H) : FnOk P w K mg base (L2N.CX P w) (k + 1) (He.fAd K p) fd ps sp := by
  obtain ⟨oc, od, dV, kV, doc, pm, an, cdv, ct, osl, rfl, lk, hcd, _, _⟩ := F.ex
  obtain ⟨c, rfl⟩ := He.codeIn_ref hcd
  have ec : He.codeOf K p = c := He.codeOf_eq lk rfl
  rw [ec] at hb
  exact fn_of lk hcd S len hb
end SD

namespace SD
open PySem PySem.Spec PyProof.Rows L2
section
variable {X : Cx} {c : Ctx} {tg a b e : Expr} {wa wb : WE} {pos : Pos}
/-! ### range(i, j, -1) -/
def rdI (i j : Int) : List Int := (List.range (i - j).toNat).map fun k : Nat => i + (k : Int) * (-1)
@[simp] def wiDn (w u : WE) : WA := fun env Q E => w env (fun d => u env (fun d' => ∃ i j, d = .int i ∧ d' = .int j ∧ rgOk i ∧ rgOk j ∧ Q ((rdI i j).map .int)) E) E
theorem i_dn {p p2 p3 : Pos} {k : Nat} (hm : X.mg "range" = none) (h : DE X c a wa) (h' : DE X c b wb) (hg : Gl X "range" := by rfl) (hs : starEach [a, b, .UnaryOp .USub (.Constant (.int 1) k p3) p2] X.env = (false, eval a X.env) :: starEach [b, .UnaryOp .USub (.Constant (.int 1) k p3) p2] X.env := by rfl)
    (hs2 : starEach [b, .UnaryOp .USub (.Constant (.int 1) k p3) p2] X.env = (false, eval b X.env) :: starEach [.UnaryOp .USub (.Constant (.int 1) k p3) p2] X.env := by rfl) (hs3 : starEach [.UnaryOp .USub (.Constant (.int 1) k p3) p2] X.env = (false, eval (.UnaryOp .USub (.Constant (.int 1) k p3) p2) X.env) :: starEach [] X.env := by rfl)
    (hpl : (backTo pos (starEach [b, .UnaryOp .USub (.Constant (.int 1) k p3) p2] X.env)).any (·.1) = false := by rfl) : DI X c tg (.Call (.Name "range" p) [a, b, .UnaryOp .USub (.Constant (.int 1) k p3) p2] [] pos) (wiDn wa wb) := by
  refine PI.imp (pi_range3 hg hm (pa_cons h (pa_cons h' (pa_cons (pe_un un_neg pe_int) pa_nil hs3) hs2) hs) hs hpl) ?_
  rintro σ H R ⟨O, F, env, QD, QE, vw, sl, hw, hq, he⟩
  refine ⟨O, F, env, _, QE, vw, sl, hw, fun d hd F1 H1 v v1 s1 r1 => ?_, he⟩
  refine ⟨O, F1, env, _, QE, v1, sl.up s1.grow, hd, fun d' hd' F2 H2 v' v2 s2 r2 => ?_, he.up s1⟩
  obtain ⟨i, j, rfl, rfl, h1, h2, h3⟩ := hd'
  cases r1
  cases r2
  refine ⟨1, rfl, i, j, -1, (i - j).toNat, rfl, RgC.neg h1.1 h1.2 h2.1 h2.2, hq _ h3 F2 H2 _ v2 (s1.trans s2 v2) fun H' _ => ⟨fun n d e => ?_, ?_⟩⟩
  · rw [List.getElem?_map] at e
    unfold rdI at e
    rw [List.getElem?_map] at e
    by_cases hn : n < (i - j).toNat
    · rw [List.getElem?_range hn] at e
      cases e
      exact ⟨hn, fun x H' ⟨e2, y⟩ => .inl ⟨e2, by rw [y]; exact .int _⟩⟩
    · rw [List.getElem?_eq_none (by rw [List.length_range]; omega)] at e
      cases e
  · show _ ≤ _
    unfold rdI
    simp
/-! ### <= of tuples of whole numbers -/
theorem lexAt_le {ns ms : List Int} : ∀ (k i : Nat), k = min (ns.length - i) (ms.length - i) → i ≤ ns.length → i ≤ ms.length →
    Ob.lexAt (fun j => decide (ns.getD j 0 = ms.getD j 0)) (fun j => decide (ns.getD j 0 ≤ ms.getD j 0)) (decide (ns.length ≤ ms.length)) i k = decide (ns.drop i ≤ ms.drop i)
  | 0, i, hk, h1, h2 => by
    rw [Ob.lexAt_zero]
    by_cases hn : ns.length = i
    · rw [List.drop_of_length_le (by omega), decide_eq_true (by omega)]
      exact (decide_eq_true (List.nil_le _)).symm
    · have hm : ms.length = i := by omega
      rw [List.drop_of_length_le (l := ms) (by omega), decide_eq_false (by omega)]
      refine (decide_eq_false fun z => ?_).symm
      have hi : i < ns.length := by omega
      rw [List.drop_eq_getElem_cons hi] at z
      exact List.not_lt.mpr z (List.nil_lt_cons _ _)
  | k + 1, i, hk, h1, h2 => by
    have hi : i < ns.length := by omega
    have hj : i < ms.length := by omega
    rw [Ob.lexAt_succ, lexAt_le k (i + 1) (by omega) (by omega) (by omega), List.drop_eq_getElem_cons hi, List.drop_eq_getElem_cons hj]
    have e1 : ns.getD i 0 = ns[i] := by rw [List.getD_eq_getElem?_getD, List.getElem?_eq_getElem hi]; rfl
    have e2 : ms.getD i 0 = ms[i] := by rw [List.getD_eq_getElem?_getD, List.getElem?_eq_getElem hj]; rfl
    rw [e1, e2]
    have key : ns[i] :: ns.drop (i + 1) ≤ ms[i] :: ms.drop (i + 1) ↔ ns[i] < ms[i] ∨ (ns[i] = ms[i] ∧ ns.drop (i + 1) ≤ ms.drop (i + 1)) := by
      rw [← List.not_lt, List.cons_lt_cons_iff, ← List.not_lt]
      constructor
      · intro z
        by_cases he : ns[i] = ms[i]
        · exact .inr ⟨he, fun w => z (.inr ⟨he.symm, w⟩)⟩
        · exact .inl (by
            have : ¬ ms[i] < ns[i] := fun w => z (.inl w)
            omega)
      · rintro (z | ⟨z1, z2⟩) (w | ⟨w1, w2⟩)
        · omega
        · omega
        · omega
        · exact z2 w2
    by_cases he : ns[i] = ms[i]
    · rw [if_pos (decide_eq_true he)]
      by_cases hr : ns.drop (i + 1) ≤ ms.drop (i + 1)
      · rw [decide_eq_true hr, decide_eq_true (key.mpr (.inr ⟨he, hr⟩))]
      · rw [decide_eq_false hr, decide_eq_false fun z => hr ((key.mp z).elim (fun w => by omega) fun w => w.2)]
    · rw [if_neg (by simpa using he)]
      by_cases hr : ns[i] ≤ ms[i]
      · rw [decide_eq_true hr, decide_eq_true (key.mpr (.inl (by omega)))]
      · rw [decide_eq_false hr, decide_eq_false fun z => (key.mp z).elim (fun w => by omega) fun w => he w.1]
def gLeT (x y : D) (Q : D → Prop) : Prop := ∃ ns ms : List Int, x = .tuple (ns.map .int) ∧ y = .tuple (ms.map .int) ∧ Q (.bool (decide (ns ≤ ms)))
theorem dop_leT : DOp (rLeT X.K) gLeT := by
  intro T O F H x y dx dy QD Q v rx ry hg hq
  obtain ⟨ns, ms, rfl, rfl, hQ⟩ := hg
  cases rx with
  | tup h1 r1 => cases ry with
    | tup h2 r2 =>
      have e1 := r1.ints
      have e2 := r2.ints
      subst e1 e2
      refine ⟨_, _, ns, ms, rfl, rfl, SqT.of (v.frz _ _ h1), SqT.of (v.frz _ _ h2), ?_⟩
      have := lexAt_le (ns := ns) (ms := ms) (min ns.length ms.length) 0 (by simp) (Nat.zero_le _) (Nat.zero_le _)
      rw [this, List.drop_zero, List.drop_zero]
      exact hq _ hQ F H _ v (Stp.refl O F H) (.bl _)
theorem t_leT {k : Nat} (hr : Room k X.A) (ha : DE X c a wa) (hb : DE X c b wb) : DT X c (.Compare a [.LtE] [b] pos) (wB (wOp gLeT wa wb)) := t_cmp (op_leT hr.units0) dop_leT ha hb (nomark _)
theorem d_leT {k : Nat} (hr : Room k X.A) (ha : DE X c a wa) (hb : DE X c b wb) : DE X c (.Compare a [.LtE] [b] pos) (wOp gLeT wa wb) := d_cmp (op_leT hr.units0) dop_leT ha hb (nomark _)
theorem gLeT_t {ns ms : List Int} {Q : D → Prop} : gLeT (.tuple (ns.map .int)) (.tuple (ms.map .int)) Q ↔ Q (.bool (decide (ns ≤ ms))) := ⟨fun ⟨as, bs, e1, e2, h⟩ => by
  rw [map_int_inj (PyData.tuple.inj e1), map_int_inj (PyData.tuple.inj e2)]
  exact h, fun h => ⟨ns, ms, rfl, rfl, h⟩⟩
end
end SD
namespace SD
open PySem
/-- the name that a def's lambdas bear -/
abbrev lamQ (x : Str) : Str := x ++ ".<locals>." ++ "<lambda>"
end SD

namespace SD
open PySem PySem.Spec PyProof.Rows L2
/-! ### a list of the frame's own becomes data -/
@[simp] def wsFrz (j : Nat) (w : WS) : WS := fun env C => ∃ ds, env[j]? = some (.own ds) ∧ w (env.set j (.dat (.list ds))) C
theorem Frm.frz {c : Ctx} {O : List Addr} {F0 H0 F H : Hp} {σ : St} {env : En} {j : Nat} {ds : List D} (f : Frm c O F0 H0 F H σ env) (hj : env[j]? = some (.own ds)) : ∃ F', Same F F' ∧ Frm c O F0 H0 F' H σ (env.set j (.dat (.list ds))) := by
  obtain ⟨fps, ow⟩ := f.ow
  obtain ⟨v, h1, p, xs, e1, e2, e3, r⟩ := ow.at_ j _ hj rfl
  subst e1
  obtain ⟨z1, z2, z3, _⟩ := ow.fr j _ hj rfl p (by rw [e2]; exact List.mem_singleton.mpr rfl)
  have hjl := (List.getElem?_eq_some_iff.mp hj).1
  have g := grow_upd (o := .lst xs) z1
  have key : ∀ (i : Nat) (s : Sl), (env.set j (.dat (.list ds)))[i]? = some s → isOwn s = true → j ≠ i ∧ env[i]? = some s := fun i s e ho => by
    by_cases hi : j = i
    · subst hi
      rw [List.getElem?_set_self hjl] at e
      cases e
      cases ho
    · rw [List.getElem?_set_ne hi] at e
      exact ⟨hi, e⟩
  refine ⟨upd F p (.lst xs), g, f.vw.freeze z1 e3 (fun _ z => nomatch z) z2, ⟨by rw [List.length_set]; exact f.sl.1, fun i => ?_⟩, ⟨fps, fun i s e ho => ?_, fun i s e ho a ha => ?_, fun i k s t a1 o1 a2 o2 => ow.dis i k s t (key i s a1 o1).2 o1 (key k t a2 o2).2 o2⟩, ⟨f.st.same, f.st.grow.trans g, fun b o h => ?_, f.st.tbs, f.st.dcs⟩⟩
  · by_cases hi : j = i
    · subst hi
      rw [List.getElem?_set_self hjl]
      exact ⟨_, h1, .lst upd_same (r.up g)⟩
    · rw [List.getElem?_set_ne hi]
      exact (f.sl.up g).2 i
  · obtain ⟨hi, e'⟩ := key i s e ho
    obtain ⟨v, w1, w2⟩ := ow.at_ i s e' ho
    exact ⟨v, w1, w2.up g fun a _ => rfl⟩
  · obtain ⟨hi, e'⟩ := key i s e ho
    obtain ⟨w1, w2, w3, w4⟩ := ow.fr i s e' ho a ha
    refine ⟨?_, w2, w3, w4⟩
    rw [upd_ne fun z => ow.dis j i _ s hj rfl e' ho hi p (by rw [e2]; exact List.mem_singleton.mpr rfl) (by rw [← z]; exact ha)]
    exact w1
  · by_cases hb : b = p
    · rw [hb]
      exact .inr z3
    · rw [upd_ne hb] at h
      exact f.st.new b o h
theorem lift_frz {c : Ctx} {j : Nat} {w : WS} : ∀ D σ H, liftS c (wsFrz j w) D σ H → liftS c w D σ H := by
  rintro D σ H ⟨O, F0, H0, F, env, C, f, ⟨ds, hj, hw⟩, hn, hr, he⟩
  obtain ⟨F', g, f'⟩ := f.frz hj
  exact ⟨O, F0, H0, F', _, C, f', hw, fun env2 h2 F2 H2 σ2 f2 g2 => hn env2 h2 F2 H2 σ2 f2 (g.trans g2), hr, he⟩
theorem s_frz {X : Cx} {c : Ctx} {st : Stmt} {j : Nat} {w : WS} (h : DS X c st w) : DS X c st (wsFrz j w) := PS.imp h lift_frz
theorem ss_frz {X : Cx} {c : Ctx} {st : List Stmt} {j : Nat} {w : WS} (h : DSs X c st w) : DSs X c st (wsFrz j w) := PSs.imp h lift_frz
theorem isNone_n : isNone .none = true := rfl
theorem isNone_l {ds : List D} : isNone (.list ds) = false := rfl
theorem isNone_t {ds : List D} : isNone (.tuple ds) = false := rfl
theorem isNone_i {i : Int} : isNone (.int i) = false := rfl
theorem isNone_b {b : Bool} : isNone (.bool b) = false := rfl
end SD

namespace SD
open PySem PySem.Spec PyProof.Rows L2
/-! ### small words about lists -/
abbrev encW (p : Wk2) : D := .tuple [lW p.1, tI p.2]
theorem workB_len {ws : List (List Int)} {wear : List Int} : ∀ n, (workB ws wear n).length ≤ ws.length ^ n
  | 0 => by simp [workB]
  | n + 1 => by
    show (stepB ws (workB ws wear n)).length ≤ _
    have gen : ∀ work : List Wk2, (stepB ws work).length ≤ work.length * ws.length := fun work => by
      induction work with
      | nil => simp [stepB]
      | cons p work ih =>
        have : stepB ws (p :: work) = (ws.filter fun walk => nonneg (subW p.2 walk) && fits p.1 walk).map (fun walk => (p.1 ++ [walk], subW p.2 walk)) ++ stepB ws work := rfl
        rw [this, List.length_append, List.length_map, List.length_cons, Nat.add_mul, Nat.one_mul]
        have := List.length_filter_le (fun walk => nonneg (subW p.2 walk) && fits p.1 walk) ws
        omega
    exact Nat.le_trans (gen _) (by rw [Nat.pow_succ]; exact Nat.mul_le_mul_right _ (workB_len n))
theorem walks_len5 {s l : Int} (h : s ≤ 5) : (walksI s l).length ≤ 32 := by
  unfold walksI
  rw [(sortW_perm _).length_eq]
  refine Nat.le_trans (List.length_filter_le _ _) ?_
  unfold allRows
  rw [rows_len, rgI_len]
  have : (s + 1 - 1).toNat ≤ 5 := by omega
  have := Nat.pow_le_pow_right (n := 2) (by decide) this
  simpa using this
theorem foldl_min_ge {n m : Int} : ∀ {ns : List Int}, m ≤ ns.foldl min n ↔ m ≤ n ∧ ∀ x ∈ ns, m ≤ x := by
  intro ns
  induction ns generalizing n with
  | nil => simp
  | cons a ns ih =>
    rw [List.foldl_cons, ih]
    simp only [List.mem_cons, forall_eq_or_imp, Int.le_min, and_assoc]
theorem min_nonneg (n : Int) (ns : List Int) : decide (0 ≤ ns.foldl min n) = nonneg (n :: ns) := by
  rw [Bool.eq_iff_iff, decide_eq_true_eq, nonneg_iff, foldl_min_ge]
  simp
theorem gEq_w0 {ws : List (List Int)} {Q : D → Prop} : gEq (.list (ws.map tI)) (.list []) Q ↔ Q (.bool (decide (ws = []))) := by
  have := gEq_ww (i := ws) (j := []) (Q := Q)
  exact this
theorem gNe_w0 {ws : List (List Int)} {Q : D → Prop} : gNe (.list (ws.map tI)) (.list []) Q ↔ Q (.bool (!decide (ws = []))) := by
  have := gNe_ww (i := ws) (j := []) (Q := Q)
  exact this
theorem fits_cat (bag : List (List Int)) (b walk : List Int) : fits (bag ++ [b]) walk = decide (b ≤ walk) := by
  unfold fits
  rw [List.getLast?_concat]
theorem alikeAll_W : ∀ xs ys : List (List Int), PySem.W.alikeAll (xs.map tI) (ys.map tI) = true
  | [], _ => by simp [PySem.W.alikeAll]
  | _ :: _, [] => by simp [PySem.W.alikeAll]
  | x :: xs, y :: ys => by
    rw [List.map_cons, List.map_cons, PySem.W.alikeAll, alikeAll_W xs ys, PySem.W.alike, PySem.W.alike_ints]
    rfl
theorem sort_okB (bs : List (List (List Int))) : PySem.W.AllAlike (bs.map lW) ∧ (∀ d ∈ bs.map lW, d ≠ .none) ∧ ∀ d ∈ bs.map lW, d.depth ≤ 60 := by
  refine ⟨PySem.W.AllAlike.of fun a b => ?_, fun d hd => ?_, fun d hd => ?_⟩
  · show PySem.W.alike (.list (a.map tI)) (.list (b.map tI)) = true
    rw [PySem.W.alike]
    exact alikeAll_W a b
  · obtain ⟨w, _, rfl⟩ := List.mem_map.mp hd
    exact fun z => nomatch z
  · obtain ⟨w, _, rfl⟩ := List.mem_map.mp hd
    exact Nat.le_trans (shp_lW 0 w).2 (by decide)
theorem sortD_perm (ds : List D) : (sortD ds).Perm ds := List.mergeSort_perm _ _
/-- lists of bags against the empty list -/
theorem gNe_any0 {ds : List D} {n : Nat} {Q : D → Prop} (hs : Shp n (.list ds)) (hn : n ≤ 60) (h : Q (.bool (!decide (ds = [])))) : gNe (.list ds) (.list []) Q := by
  refine ⟨?_, (shp_lI 0 []).ok, ?_⟩
  · exact hs.ok (hn := by omega)
  · rw [PyData.eqv]
    cases ds with
    | nil => simpa [PyData.eqvAll] using h
    | cons d ds => simpa [PyData.eqvAll] using h
theorem shp_bags (bs : List (List (List Int))) {ds : List D} (h : ds.Perm (bs.map lW)) : Shp 3 (.list ds) := shp_list fun d hd => by
  obtain ⟨b, _, rfl⟩ := List.mem_map.mp (h.mem_iff.mp hd)
  exact shp_lW 0 b
theorem cutD_C (xs : List Int) (lo hi : Option Int) : cutD (xs.map .int) lo hi = (cutI xs lo hi).map .int := cutD_I xs lo hi
theorem gNe_same {d : D} {n : Nat} {Q : D → Prop} (hs : Shp n d) (hn : n ≤ 64) (h : Q (.bool false)) : gNe d d Q := by
  refine ⟨hs.ok (hn := hn), hs.ok (hn := hn), ?_⟩
  rw [PySem.SeqAt.eqv_refl d hs.1]
  exact h
theorem gEq_same {d : D} {n : Nat} {Q : D → Prop} (hs : Shp n d) (hn : n ≤ 64) (h : Q (.bool true)) : gEq d d Q := by
  refine ⟨hs.ok (hn := hn), hs.ok (hn := hn), ?_⟩
  rw [PySem.SeqAt.eqv_refl d hs.1]
  exact h
theorem any_I (i : Int) (ns : List Int) : ((ns.map PyData.int).any fun z => PyData.eqv z (.int i)) = decide (i ∈ ns) := by
  rw [List.any_map, Bool.eq_iff_iff, List.any_eq_true, decide_eq_true_eq]
  constructor
  · rintro ⟨x, hx, e⟩
    have e' : PyData.eqv (.int x) (.int i) = true := e
    simp [PyData.eqv] at e'
    exact e' ▸ hx
  · intro h
    exact ⟨i, h, by simp [PyData.eqv]⟩
theorem gIn_lI {i : Int} {ns : List Int} {Q : D → Prop} : gIn (.int i) (.list (ns.map .int)) Q ↔ Q (.bool (decide (i ∈ ns))) := by
  rw [gIn_l, any_I]
  exact ⟨fun h => h.2.2, fun h => ⟨(shp_int 0 i).ok, (shp_lI 0 ns).ok, h⟩⟩
theorem gNe_ll {i j : List Int} {Q : D → Prop} : gNe (.list (i.map .int)) (.list (j.map .int)) Q ↔ Q (.bool (!decide (i = j))) := by
  unfold gNe
  rw [PyData.eqv, eqvAll_I]
  exact ⟨fun h => h.2.2, fun h => ⟨(shp_lI 0 i).ok, (shp_lI 0 j).ok, h⟩⟩
/-! ### ranges -/
theorem rgI_cat {a b c : Int} (h1 : a ≤ b) (h2 : b ≤ c) : rgI a c = rgI a b ++ rgI b c := by
  unfold rgI
  rw [show (c - a).toNat = (b - a).toNat + (c - b).toNat by omega, List.range_add, List.map_append, List.map_map]
  congr 1
  apply List.map_congr_left
  intro i _
  show a + (((b - a).toNat + i : Nat) : Int) = b + i
  omega
theorem rgI_nil {a b : Int} (h : b ≤ a) : rgI a b = [] := by
  unfold rgI
  rw [show (b - a).toNat = 0 by omega]
  rfl
theorem rgI_one (a : Int) : rgI a (a + 1) = [a] := by
  unfold rgI
  rw [show (a + 1 - a).toNat = 1 by omega]
  simp
theorem rgI_snoc {a b : Int} (h : a ≤ b) : rgI a (b + 1) = rgI a b ++ [b] := by
  rw [rgI_cat h (by omega), rgI_one]
theorem rgI_cons {a b : Int} (h : a < b) : rgI a b = a :: rgI (a + 1) b := by
  rw [rgI_cat (b := a + 1) (by omega) (by omega), rgI_one]
  rfl
theorem rgI_head {a b : Int} (h : a < b) : ∃ r, rgI a b = a :: r := ⟨_, rgI_cons h⟩
/-- what a convex word keeps of a range is a range -/
theorem conv_rg {p : Int → Bool} {a : Int} (hc : ∀ x y z, x ≤ y → y ≤ z → p x = true → p z = true → p y = true) : ∀ n : Nat, ∃ lo hi, lo ≤ hi ∧ hi ≤ a + n ∧ (rgI a (a + n)).filter p = rgI lo hi
  | 0 => ⟨a, a, Int.le_refl _, by omega, by rw [rgI_nil (by omega), rgI_nil (by omega)]; rfl⟩
  | n + 1 => by
    obtain ⟨lo, hi, h1, h2, e⟩ := conv_rg hc n
    rw [show a + ((n + 1 : Nat) : Int) = (a + n) + 1 by omega, rgI_snoc (by omega), List.filter_append, e]
    cases hp : p (a + n) with
    | false => exact ⟨lo, hi, h1, by omega, by simp [hp]⟩
    | true =>
      by_cases hne : lo = hi
      · refine ⟨a + n, a + n + 1, by omega, by omega, ?_⟩
        rw [rgI_nil (by omega), rgI_one]
        simp [hp]
      · have hm : hi - 1 ∈ (rgI a (a + n)).filter p := by
          rw [e, mem_rgI]
          omega
        rw [List.mem_filter, mem_rgI] at hm
        have he : hi = a + n := by
          by_cases hlt : hi < a + n
          · have : hi ∈ rgI lo hi := by
              rw [← e, List.mem_filter, mem_rgI]
              exact ⟨by omega, hc (hi - 1) hi (a + n) (by omega) (by omega) hm.2 hp⟩
            rw [mem_rgI] at this
            omega
          · omega
        refine ⟨lo, hi + 1, by omega, by omega, ?_⟩
        rw [rgI_snoc (by omega), he]
        simp [hp]
theorem filter_ge {a b t : Int} (h1 : a ≤ t) (h2 : t ≤ b) : (rgI a b).filter (fun m => decide (t ≤ m)) = rgI t b := by
  rw [rgI_cat h1 h2, List.filter_append, List.filter_eq_nil_iff.mpr, List.nil_append, List.filter_eq_self.mpr]
  · intro x hx
    rw [mem_rgI] at hx
    simp
    omega
  · intro x hx
    rw [mem_rgI] at hx
    simp
    omega
theorem rdI_rev (i j : Int) : rdI i j = (rgI (j + 1) (i + 1)).reverse := by
  apply List.ext_getElem
  · rw [List.length_reverse, rgI_len]
    simp [rdI]
    omega
  · intro k h1 h2
    have hk : k < (i - j).toNat := by simpa [rdI] using h1
    rw [List.getElem_reverse]
    simp only [rdI, rgI, List.getElem_map, List.getElem_range, List.length_map, List.length_range]
    omega
/-- the last of a row from its end that answers a test: the first -/
theorem foldl_rev {α β : Type} (p : α → Bool) (g : α → β) (b : β) (xs : List α) : xs.reverse.foldl (fun b x => if p x = true then g x else b) b = match xs.filter p with
    | a :: _ => g a
    | [] => b := by
  induction xs with
  | nil => rfl
  | cons x xs ih =>
    rw [List.reverse_cons, List.foldl_append, ih, List.foldl_cons, List.foldl_nil]
    cases h : p x with
    | true => simp [h]
    | false => simp [h]
/-! ### what bars, by the law's own look -/
def rowD (f : Int) : D := .tuple [.str "row", .int (f + 1)]
def stepD (f : Int) : D := .tuple [.str "step", .int f]
def lawBar (s l : Int) (lows tops : List Int) (many : Int) : D :=
  (rdI s 0).foldl (fun b st => if decide (many < lows.getD (st - 1).toNat 0) = true then stepD st else b)
    ((rdI (s - l) (-1)).foldl (fun b f => if decide ((cutI tops (some f) (some (f + l))).sum < many) = true then rowD f else b) .none)
theorem rgI_shift (a b k : Int) : (rgI a b).map (fun x => x + k) = rgI (a + k) (b + k) := by
  unfold rgI
  rw [List.map_map, show b + k - (a + k) = b - a by omega]
  apply List.map_congr_left
  intro x _
  show a + (x : Int) + k = a + k + x
  omega
theorem lawBar_eq (s l : Int) (lows highs : List Int) (many : Int) : lawBar s l lows (topsI highs many) many = barD s l lows highs many := by
  unfold lawBar
  rw [rdI_rev, rdI_rev, foldl_rev, foldl_rev, show (0 : Int) + 1 = 1 from rfl, show (-1 : Int) + 1 = 0 from rfl]
  unfold barD
  rw [show (rgI 1 (s + 1)).filter (fun st => decide (many < lows.getD (st - 1).toNat 0)) = aboveI s lows many from rfl]
  cases aboveI s lows many with
  | cons a as => rfl
  | nil =>
    have e : lackI s l (topsI highs many) many = ((rgI 0 (s - l + 1)).filter fun f => decide ((cutI (topsI highs many) (some f) (some (f + l))).sum < many)).map fun f => f + 1 := by
      unfold lackI rowsI
      have : rgI 1 (s - l + 2) = (rgI 0 (s - l + 1)).map fun x => x + 1 := by
        rw [rgI_shift, show (0 : Int) + 1 = 1 from rfl, show s - l + 1 + 1 = s - l + 2 by omega]
      rw [this, List.filter_map]
      congr 1
      apply List.filter_congr
      intro f _
      show decide ((cutI _ (some (f + 1 - 1)) (some (f + 1 - 1 + l))).sum < many) = _
      rw [show f + 1 - 1 = f by omega]
    dsimp only
    rw [e]
    cases (rgI 0 (s - l + 1)).filter (fun f => decide ((cutI (topsI highs many) (some f) (some (f + l))).sum < many)) with
    | nil => rfl
    | cons a as => rfl
theorem lawBar_made {s l : Int} {wear : List Int} {many : Int} (hs : (wear.length : Int) = s) : lawBar s l wear wear many = barD s l wear wear many := by
  by_cases h : aboveI s wear many = []
  · have e := lawBar_eq s l wear wear many
    rw [tops_id ((above_nil hs).mp h)] at e
    exact e
  · unfold lawBar
    rw [rdI_rev, rdI_rev, foldl_rev, foldl_rev, show (0 : Int) + 1 = 1 from rfl]
    unfold barD
    rw [show (rgI 1 (s + 1)).filter (fun st => decide (many < wear.getD (st - 1).toNat 0)) = aboveI s wear many from rfl]
    cases e : aboveI s wear many with
    | nil => exact absurd e h
    | cons a as => rfl
/-! ### numbers -/
def numsI (s l : Int) (wear : List Int) : List Int := (rgI 0 10).filter fun m => doMake s l wear m
theorem Mk.conv {s l : Int} {wear : List Int} {x y z : Int} (h1 : x ≤ y) (h2 : y ≤ z) (hx : Mk s l wear x) (hz : Mk s l wear z) : Mk s l wear y :=
  ⟨fun w hw => Int.le_trans (hx.1 w hw) h1, fun f hf => Int.le_trans h2 (hz.2 f hf)⟩
theorem nums_row {s l : Int} {wear : List Int} (hs : (wear.length : Int) = s) : ∃ lo hi, lo ≤ hi ∧ numsI s l wear = rgI lo hi := by
  obtain ⟨lo, hi, h1, _, e⟩ := conv_rg (p := fun m => doMake s l wear m) (a := 0) (fun x y z a b hx hz => (doMake_iff hs).mpr (Mk.conv a b ((doMake_iff hs).mp hx) ((doMake_iff hs).mp hz))) 10
  exact ⟨lo, hi, h1, e⟩
theorem nums_short {s l : Int} {n : Int} {ns : List Int} (hs : (((n :: ns).length : Nat) : Int) = s) (hl : s < l) (h0 : ∀ x ∈ n :: ns, 0 ≤ x ∧ x ≤ 9) : numsI s l (n :: ns) = rgI (ns.foldl max n) 10 := by
  obtain ⟨g1, g2⟩ := foldl_max_ge (n := n) (ns := ns)
  have hb : ns.foldl max n ≤ 9 := foldl_max_le (h0 n List.mem_cons_self).2 fun x hx => (h0 x (List.mem_cons_of_mem _ hx)).2
  have := (h0 n List.mem_cons_self).1
  rw [← filter_ge (a := 0) (b := 10) (t := ns.foldl max n) (by omega) (by omega)]
  unfold numsI
  apply List.filter_congr
  intro m _
  rw [Bool.eq_iff_iff, doMake_iff hs, decide_eq_true_eq]
  unfold Mk
  rw [rgI_nil (by omega)]
  constructor
  · intro h
    exact foldl_max_le (h.1 n List.mem_cons_self) fun x hx => h.1 x (List.mem_cons_of_mem _ hx)
  · intro h
    refine ⟨fun x hx => ?_, fun f hf => by cases hf⟩
    rcases List.mem_cons.mp hx with rfl | hx
    · omega
    · have := g2 x hx
      omega
theorem rg_ends {lo hi : Int} (h : lo < hi) : ∃ r, rgI lo hi = lo :: r ∧ ∃ q, rgI lo hi = q ++ [hi - 1] := by
  refine ⟨_, rgI_cons h, rgI lo (hi - 1), ?_⟩
  have := rgI_snoc (a := lo) (b := hi - 1) (by omega)
  rw [show hi - 1 + 1 = hi by omega] at this
  exact this
theorem isNone_bar {s l : Int} {wear : List Int} {many : Int} : isNone (barD s l wear wear many) = doMake s l wear many := rfl
theorem shp_bar (s l : Int) (lows highs : List Int) (many : Int) : Shp 1 (barD s l lows highs many) := by
  unfold barD
  split
  · exact shp_tup fun d hd => by
      rcases List.mem_cons.mp hd with rfl | hd
      · exact shp_str 0 (by decide +kernel)
      · rw [List.mem_singleton.mp hd]
        exact shp_int 0 _
  · split
    · exact shp_tup fun d hd => by
        rcases List.mem_cons.mp hd with rfl | hd
        · exact shp_str 0 (by decide +kernel)
        · rw [List.mem_singleton.mp hd]
          exact shp_int 0 _
    · exact shp_none 1
theorem shp_ref (i : Nat) (hi : i < 12) : Shp 1 (refD i) := shp_tup fun d hd => by
  rcases List.mem_cons.mp hd with rfl | hd
  · exact shp_str 0 (by decide +kernel)
  · rw [List.mem_singleton.mp hd]
    refine shp_str 0 ?_
    have : i = 0 ∨ i = 1 ∨ i = 2 ∨ i = 3 ∨ i = 4 ∨ i = 5 ∨ i = 6 ∨ i = 7 ∨ i = 8 ∨ i = 9 ∨ i = 10 ∨ i = 11 := by omega
    rcases this with rfl | rfl | rfl | rfl | rfl | rfl | rfl | rfl | rfl | rfl | rfl | rfl <;> decide +kernel
theorem shp_refs (i n : Nat) (hi : i < 12) : Shp 2 (.list (List.replicate n (refD i))) := shp_list fun d hd => by
  rw [List.eq_of_mem_replicate hd]
  exact shp_ref i hi
theorem unmapI {P : Int → Prop} : ∀ {ys : List D}, (∀ y ∈ ys, ∃ w, P w ∧ y = .int w) → ∃ ws : List Int, ys = ws.map .int ∧ ∀ w ∈ ws, P w
  | [], _ => ⟨[], rfl, fun w h => by cases h⟩
  | y :: ys, h => by
    obtain ⟨w, hw, rfl⟩ := h y List.mem_cons_self
    obtain ⟨ws, rfl, hws⟩ := unmapI fun z hz => h z (List.mem_cons_of_mem _ hz)
    exact ⟨w :: ws, rfl, fun u hu => by
      rcases List.mem_cons.mp hu with rfl | hu
      · exact hw
      · exact hws u hu⟩
end SD

namespace SD
open PySem PySem.Spec PyProof.Rows L2 HotX L2H LamX
/-! ### the head's facts about the kinds -/
def kC (K : PySem.W.Frag) (i : Nat) : Addr := He.ga K (kindS i)
def excCB (K : PySem.W.Frag) (D : Addr) : Bool :=
  He.eqO (PySem.W.findIn K (.ref D) "__getattribute__") (some (some (.builtin "BaseException.__getattribute__"))) && (He.eqO (PySem.W.findIn K (.ref D) "__getattr__") (some none) && (decide (PySem.W.subIn K (.ref D) (.type "BaseException") = some true) &&
    (PySem.W.hasDictIn K D && (He.eqO (PySem.W.findIn K (.ref D) "__class__") (some (some (.builtin "object.__class__"))) && (He.eqO (PySem.W.specialIn K (.builtin "object.__class__") "__get__") (some (some (.builtin "getset_descriptor.__get__"))) &&
      (decide (PySem.W.takesIn K (.builtin "object.__class__") = some true) && decide (PySem.W.mroIn K D (.type "object") = some true)))))))
theorem excCB_ok {K : PySem.W.Frag} {D : Addr} (h : excCB K D = true) : ExcC K D := by
  unfold excCB at h
  simp only [Bool.and_eq_true] at h
  obtain ⟨h1, h2, h3, h4, h5, h6, h7, h8⟩ := h
  exact ⟨He.eqO_ok h1, He.eqO_ok h2, of_decide_eq_true h3, h4, He.eqO_ok h5, He.eqO_ok h6, of_decide_eq_true h7, of_decide_eq_true h8⟩
def kindB1 (K : PySem.W.Frag) (i : Nat) : Bool := excCB K (kC K i) && ((List.range 12).all (fun j => decide (PySem.W.kitOne K (.ref (kC K i)) (.ref (kC K j)) = some (decide (i = j)))) && (decide (PySem.W.kitOne K (.ref (kC K i)) (.type "ValueError") = some true) &&
  decide (PySem.W.exmOne K (.ref (kC K i)) (.ref (He.ga K "StrideError")) = some true)))
def kindB (K : PySem.W.Frag) : Bool := (List.range 12).all (kindB1 K)
theorem kindB_ok {K : PySem.W.Frag} (h : kindB K = true) : KindF K (kC K) ∧ ∀ i, i < 12 → PySem.W.exmOne K (.ref (kC K i)) (.ref (He.ga K "StrideError")) = some true := by
  have key : ∀ i, i < 12 → excCB K (kC K i) = true ∧ (∀ j, j < 12 → PySem.W.kitOne K (.ref (kC K i)) (.ref (kC K j)) = some (decide (i = j))) ∧ PySem.W.kitOne K (.ref (kC K i)) (.type "ValueError") = some true ∧ PySem.W.exmOne K (.ref (kC K i)) (.ref (He.ga K "StrideError")) = some true := fun i hi => by
    have := List.all_eq_true.mp h i (List.mem_range.mpr hi)
    unfold kindB1 at this
    simp only [Bool.and_eq_true] at this
    obtain ⟨h1, h2, h3, h4⟩ := this
    exact ⟨h1, fun j hj => of_decide_eq_true (List.all_eq_true.mp h2 j (List.mem_range.mpr hj)), of_decide_eq_true h3, of_decide_eq_true h4⟩
  exact ⟨⟨fun i hi => excCB_ok (key i hi).1, fun i j hi hj => (key i hi).2.1 j hj, fun i hi => (key i hi).2.2.1⟩, fun i hi => (key i hi).2.2.2⟩
theorem bt_ValueError : bootBuiltins "ValueError" = some (.type "ValueError") := by decide +kernel
theorem fn_dead {P : Program} {w : World} {K : PySem.W.Frag} {mg : Str → Option Value} {base : Heap} {T : List (Addr × Str)} {CX : CXT} {k : Nat} {f : Addr} {fd : FuncData} {ps : List Str} : FnOk P w K mg base CX k f fd ps (spP T mg fun _ _ _ => False) :=
  ⟨fun _ _ _ _ ⟨_, _, _, _, _, _, _, z, _⟩ => z.elim, fun _ _ _ _ _ _ _ _ _ _ _ _ _ ⟨_, _, _, _, _, _, _, z, _⟩ => z.elim⟩
/-! ### the tables of the defs that make lambdas -/
def tabT (K : PySem.W.Frag) (tf : List He.Defn) : List (Addr × Str) := tf.map fun p => ((He.cT K p).2, lamQ p.1)
def tabsN (K : PySem.W.Frag) (tf : List He.Defn) : Bool := decide ((tf.map fun p => (He.cT K p).2).Nodup)
theorem tab_mem {K : PySem.W.Frag} {tf : List He.Defn} {x : Str} (h : ((x, none) : He.Defn) ∈ tf) : (He.tabOf K (He.codeOf K (x, none)), lamQ x) ∈ tabT K tf := List.mem_map.mpr ⟨_, h, rfl⟩
theorem nodup_map_inj {α β : Type} {f : α → β} : ∀ {l : List α}, (l.map f).Nodup → ∀ {a b : α}, a ∈ l → b ∈ l → f a = f b → a = b
  | x :: l, h, a, b, ha, hb, e => by
    rw [List.map_cons, List.nodup_cons] at h
    rcases List.mem_cons.mp ha with h1 | h1 <;> rcases List.mem_cons.mp hb with h2 | h2
    · rw [h1, h2]
    · rw [h1] at e
      exact absurd ((List.mem_map (f := f) (l := l)).mpr ⟨b, h2, e.symm⟩) h.1
    · rw [h2] at e
      exact absurd ((List.mem_map (f := f) (l := l)).mpr ⟨a, h1, e⟩) h.1
    · exact nodup_map_inj h.2 h1 h2 e
theorem tab_one {K : PySem.W.Frag} {tf : List He.Defn} (hn : tabsN K tf = true) {x : Str} (h : ((x, none) : He.Defn) ∈ tf) : ∀ p ∈ tabT K tf, p.1 = He.tabOf K (He.codeOf K (x, none)) → p.2 = lamQ x := by
  intro p hp e
  obtain ⟨q, hq, rfl⟩ := List.mem_map.mp hp
  have := nodup_map_inj (of_decide_eq_true hn) hq h e
  rw [this]
theorem tabs_nil {K : PySem.W.Frag} {tf : List He.Defn} {H : Hp} (h : ∀ p ∈ tf.map (He.cT K), H p.2 = some (.tbl #[])) : Tabs (tabT K tf) H := fun p hp => by
  obtain ⟨q, hq, rfl⟩ := List.mem_map.mp hp
  refine ⟨#[], h (He.cT K q) (List.mem_map.mpr ⟨q, hq, rfl⟩), trivial, fun pos cv hc => ?_⟩
  have z : codeAmong pos [] = some cv := hc
  cases z
end SD

namespace SD
open PySem PySem.Spec PyProof.Rows L2
theorem fn_dead0 {P : Program} {w : World} {K : PySem.W.Frag} {mg : Str → Option Value} {base : Heap} {T : List (Addr × Str)} {CX : CXT} {k : Nat} {f : Addr} {fd : FuncData} {ps : List Str} {G : FS} (z : ∀ as Q E, G as Q E → False) : FnOk P w K mg base CX k f fd ps (spP T mg G) :=
  ⟨fun _ _ _ _ ⟨_, _, _, _, _, _, _, h, _⟩ => (z _ _ _ h).elim, fun _ _ _ _ _ _ _ _ _ _ _ _ _ ⟨_, _, _, _, _, _, _, h, _⟩ => (z _ _ _ h).elim⟩
/-! ### min(xs) of a list of alike data -/
theorem min_at {prog : Program} {w : World} {A : Around} {E : Value → Shared → Prop} {s : Shared} {l : Addr} {vs : Array Value} {x : PyData} {xs : List PyData} {as : List Addr} {Q : Value → Shared → Prop} (hh : A.handled = none) (hl : s.heap.IsList l vs) (hr : ReadsAll s.heap vs.toList (x :: xs) as) (ha : PySem.W.AlikeAll (x :: xs)) (hu : A.units + 1 + PyData.depthAll (x :: xs) < cLine)
    (h : ∀ (i : Nat) v h' tk, vs[i]? = some v → (x :: xs).getD i .none = PySem.W.minD x xs → (∀ b o, s.heap.get? b = some o → h'.get? b = some o) → Q v { s with heap := h', toks := tk }) :
    wpAny (model prog w) A (call (.builtin "min") [.ref l]) Q E s := by
  have hn : vs.size = xs.length + 1 := PySem.W.readsAll_len hr
  refine call_min_walkH (PySem.W.iter_listW (A := A.in1) hh hl fun s₂ e W st hfp hw hk => ?_)
  refine ⟨_, _, _, _, _, _, _, s.heap, _, rfl, W, st, hfp, by omega, hw, hk, PySem.W.cmpIn_lt (A := A.in1) hr ha (by show A.units + 1 + _ < _; exact hu), fun v s' hP m => ?_⟩
  obtain ⟨h', tk, rfl, hk'⟩ := PySem.W.moved_old e rfl m
  have e1 : vs.size - 1 = xs.length := by omega
  have e2 := (PySem.W.argBest_fold PySem.W.dataLt PyData.none x xs xs.length (Nat.le_refl _)).2
  rw [List.take_length] at e2
  rw [e1] at hP
  exact h _ v h' tk hP e2 hk'
def rMinD (K : PySem.W.Frag) : List V → Hp → VK → Prop := fun xs H Q => ∃ (a : Addr) (ys : List V) (d : D) (ds : List D), xs = [.ref a] ∧ SqL K H a ys ∧ DpAll K H ys (d :: ds) ∧ PySem.W.AlikeAll (d :: ds) ∧ PyData.depthAll (d :: ds) ≤ 60 ∧
  ∀ (i : Nat) (y : V), ys[i]? = some y → (d :: ds)[i]? = some (PySem.W.minD d ds) → Q y H
theorem vals_at : ∀ {ys : List V} {us : List Value}, Vals ys us → ∀ {i : Nat} {u : Value}, us[i]? = some u → ∃ y, ys[i]? = some y ∧ RelV y u
  | _, _, .nil, i, u, h => by simp at h
  | _, _, .cons r t, 0, u, h => by
    have e := Option.some.inj (show some _ = some u from h)
    subst e
    exact ⟨_, rfl, r⟩
  | _, _, .cons r t, i + 1, u, h => by
    obtain ⟨y, h1, h2⟩ := vals_at t (i := i) (u := u) (by simpa using h)
    exact ⟨y, by simpa using h1, h2⟩
theorem cr_minD {X : Cx} {k : Nat} (hc : X.calm = true) (hr : Room k X.A) : CallR X (.builtin "min") (rMinD X.K) := by
  intro pins s σ H vs us Q I r h
  obtain ⟨a, ys, d, ds, rfl, hs, hd, hal, hdep, q⟩ := h
  obtain ⟨its, rv, hl, hz⟩ := I.list hs
  rw [Vals.ref1 r]
  obtain ⟨as, rd⟩ := Dp.readsAll I (d :: ds) ys its hd rv
  have hlen := dpall_len hd
  refine min_at (I.ok.hd hc) hl.isList (by simpa using rd) hal (by have := hr.un; omega) fun i v h' tk hv e hk => ?_
  obtain ⟨y, hy, ry⟩ := vals_at rv (i := i) (u := v) (by simpa using hv)
  have hi : i < (d :: ds).length := by
    have := (List.getElem?_eq_some_iff.mp hy).1
    omega
  refine ⟨y, H, I.kept (t' := tk) hk, ry, q i y hy ?_⟩
  rw [← e, List.getD_eq_getElem?_getD, List.getElem?_eq_getElem hi]
  rfl
def gMinD : List D → (D → Prop) → Prop
  | [.list (d :: ds)], Q => PySem.W.AlikeAll (d :: ds) ∧ PyData.depthAll (d :: ds) ≤ 60 ∧ Q (PySem.W.minD d ds)
  | _, _ => False
theorem dc_minD {X : Cx} : DCall (rMinD X.K) gMinD := by
  intro T O F H xs ds QD Q v r hg hq
  unfold gMinD at hg
  split at hg
  · rename_i d es Q'
    obtain ⟨u, rfl, h⟩ := r.single
    cases h with
    | lst h1 h2 => exact ⟨_, _, _, _, rfl, SqL.of (v.frz _ _ h1), h2.dp v.frz, hg.1, hg.2.1, fun i y hy hd => by
        obtain ⟨d', e1, e2⟩ := h2.getV hy
        rw [hd] at e1
        cases e1
        exact hq _ hg.2.2 F H _ v (Stp.refl O F H) e2⟩
  · exact hg.elim
theorem d_minD {X : Cx} {c : Ctx} {a : Expr} {wa : WE} {pos : Pos} {k : Nat} {p : Pos} (gd : Good X c) (hr : Room k X.A) (hm : X.mg "min" = none) (ha : DE X c a wa) (hg : Gl X "min" := by rfl) (he : starEach [a] X.env = [(false, eval a X.env)] := by rfl) : DE X c (.Call (.Name "min" p) [a] [] pos) (wCB gMinD (waCons wa waNil)) :=
  d_callB (cr_minD gd.calm hr) dc_minD hm bt_min (a_cons ha a_nil he) hg (he := he)
end SD

namespace SD
open PySem PySem.Spec PyProof.Rows L2
/-! ### sums over steps in a row -/
def at0 (row : List Int) (i : Nat) : Int := row.getD i 0
def winS (row : List Int) (f l : Nat) : Int := ((List.range l).map fun j => at0 row (f + j)).sum
theorem at0_get {row : List Int} {i : Nat} (h : i < row.length) : at0 row i = row[i] := by
  unfold at0
  rw [List.getD_eq_getElem?_getD, List.getElem?_eq_getElem h]
  rfl
theorem at0_mem {row : List Int} {i : Nat} (h : i < row.length) : at0 row i ∈ row := by
  rw [at0_get h]
  exact List.getElem_mem h
theorem at0_set {row : List Int} {k i : Nat} {x : Int} (h : k < row.length) : at0 (row.set k x) i = if i = k then x else at0 row i := by
  unfold at0
  rw [List.getD_eq_getElem?_getD, List.getD_eq_getElem?_getD]
  by_cases hi : i = k
  · subst hi
    rw [List.getElem?_set_self h, if_pos rfl]
    rfl
  · rw [List.getElem?_set_ne (fun z => hi z.symm), if_neg hi]
theorem cut_win {row : List Int} {f l : Int} (h0 : 0 ≤ f) (hl : 0 ≤ l) (h : f + l ≤ row.length) : (cutI row (some f) (some (f + l))).sum = winS row f.toNat l.toNat := by
  rw [cutI_both _ h0 (by omega)]
  unfold winS
  have e : (row.drop f.toNat).take ((f + l).toNat - f.toNat) = (List.range l.toNat).map fun j => at0 row (f.toNat + j) := by
    apply List.ext_getElem
    · simp
      omega
    · intro i h1 h2
      simp only [List.length_map, List.length_range] at h2
      simp only [List.getElem_take, List.getElem_drop, List.getElem_map, List.getElem_range]
      rw [at0_get (by omega)]
  rw [e]
theorem winS_succ (row : List Int) (f l : Nat) : winS row f (l + 1) = winS row f l + at0 row (f + l) := by
  unfold winS
  rw [List.range_succ, List.map_append, List.sum_append]
  simp
theorem winS_set {row : List Int} {k : Nat} {x : Int} (h : k < row.length) (f : Nat) : ∀ l, winS (row.set k x) f l = winS row f l + (if f ≤ k ∧ k < f + l then x - at0 row k else 0)
  | 0 => by
    rw [if_neg (by omega)]
    rfl
  | l + 1 => by
    rw [winS_succ, winS_succ, winS_set h f l, at0_set h]
    by_cases hk : f + l = k
    · subst hk
      rw [if_neg (by omega), if_pos rfl, if_pos (by omega)]
      omega
    · rw [if_neg hk]
      by_cases hk2 : f ≤ k ∧ k < f + l
      · rw [if_pos hk2, if_pos (by omega)]
        omega
      · rw [if_neg hk2, if_neg (by omega)]
        omega
theorem winS_le {a b : List Int} (f : Nat) : ∀ l, (∀ j, j < l → at0 a (f + j) ≤ at0 b (f + j)) → winS a f l ≤ winS b f l
  | 0, _ => Int.le_refl _
  | l + 1, h => by
    rw [winS_succ, winS_succ]
    have := winS_le f l fun j hj => h j (by omega)
    have := h l (by omega)
    omega
theorem winS_nonneg {a : List Int} (f : Nat) : ∀ l, (∀ j, j < l → 0 ≤ at0 a (f + j)) → 0 ≤ winS a f l
  | 0, _ => Int.le_refl _
  | l + 1, h => by
    rw [winS_succ]
    have := winS_nonneg f l fun j hj => h j (by omega)
    have := h l (by omega)
    omega
theorem winS_ge {a : List Int} (f : Nat) : ∀ l, (∀ j, j < l → 0 ≤ at0 a (f + j)) → ∀ j, j < l → at0 a (f + j) ≤ winS a f l
  | 0, _, j, hj => absurd hj (Nat.not_lt_zero _)
  | l + 1, h, j, hj => by
    rw [winS_succ]
    by_cases hjl : j = l
    · subst hjl
      have := winS_nonneg f j fun i hi => h i (by omega)
      omega
    · have := winS_ge f l (fun i hi => h i (by omega)) j (by omega)
      have := h l (by omega)
      omega
/-- a row of steps is worn enough, in windows -/
theorem Mk_win {s l : Int} {wear : List Int} {many : Int} (hf : FlOk s l) (hs : (wear.length : Int) = s) : Mk s l wear many ↔ (∀ i, i < wear.length → at0 wear i ≤ many) ∧ ∀ f : Nat, f + l.toNat ≤ wear.length → many ≤ winS wear f l.toNat := by
  obtain ⟨f1, f2, f3, f4⟩ := hf
  unfold Mk
  constructor
  · rintro ⟨h1, h2⟩
    refine ⟨fun i hi => h1 _ (at0_mem hi), fun f hl => ?_⟩
    have := h2 (f : Nat) (mem_rgI.mpr (by omega))
    rw [cut_win (by omega) (by omega) (by omega), Int.toNat_natCast] at this
    exact this
  · rintro ⟨h1, h2⟩
    refine ⟨fun x hx => ?_, fun f hf => ?_⟩
    · obtain ⟨i, hi, rfl⟩ := List.getElem_of_mem hx
      rw [← at0_get hi]
      exact h1 i hi
    · obtain ⟨g1, g2⟩ := mem_rgI.mp hf
      rw [cut_win g1 (by omega) (by omega)]
      exact h2 f.toNat (by omega)
/-! ### wears between bounds -/
/-- between the bounds, and made -/
def Btw (s l : Int) (lows highs : List Int) (many : Int) (v : List Int) : Prop := (v.length : Int) = s ∧ (∀ i, i < v.length → at0 lows i ≤ at0 v i ∧ at0 v i ≤ at0 highs i) ∧ Mk s l v many
theorem tops_len (highs : List Int) (many : Int) : (topsI highs many).length = highs.length := by simp [topsI]
theorem at0_tops {highs : List Int} {many : Int} {i : Nat} (h : i < highs.length) : at0 (topsI highs many) i = min (at0 highs i) many := by
  rw [at0_get (by rw [tops_len]; exact h), at0_get h]
  simp only [topsI, List.getElem_map]
  split <;> omega
theorem bar_none {s l : Int} {lows highs : List Int} {many : Int} (hf : FlOk s l) (h1 : (lows.length : Int) = s) (h2 : (highs.length : Int) = s) : isNone (barD s l lows highs many) = true ↔ (∀ i, i < lows.length → at0 lows i ≤ many) ∧ ∀ f : Nat, f + l.toNat ≤ highs.length → many ≤ winS (topsI highs many) f l.toNat := by
  obtain ⟨f1, f2, f3, f4⟩ := id hf
  have e1 : aboveI s lows many = [] ↔ ∀ i, i < lows.length → at0 lows i ≤ many := by
    rw [above_nil h1]
    constructor
    · intro h i hi
      exact h _ (at0_mem hi)
    · intro h x hx
      obtain ⟨i, hi, rfl⟩ := List.getElem_of_mem hx
      rw [← at0_get hi]
      exact h i hi
  have e2 : lackI s l (topsI highs many) many = [] ↔ ∀ f : Nat, f + l.toNat ≤ highs.length → many ≤ winS (topsI highs many) f l.toNat := by
    rw [lack_nil]
    constructor
    · intro h f hl
      have := h (f : Nat) (mem_rgI.mpr (by omega))
      rw [cut_win (by omega) (by omega) (by rw [tops_len]; omega), Int.toNat_natCast] at this
      exact this
    · intro h f hf
      obtain ⟨g1, g2⟩ := mem_rgI.mp hf
      rw [cut_win g1 (by omega) (by rw [tops_len]; omega)]
      exact h f.toNat (by omega)
  rw [← e1, ← e2]
  unfold barD
  cases aboveI s lows many with
  | cons a as => simp [isNone]
  | nil =>
    cases lackI s l (topsI highs many) many with
    | nil => simp [isNone]
    | cons a as => simp [isNone]
/-! ### the first wear between bounds -/
def someI (s l : Int) (st : Int) : List Int := (rowsI s l).filter fun f => decide (f ≤ st) && decide (st < f + l)
def lacksI (s l : Int) (row : List Int) (many st : Int) : List Int := (someI s l st).map fun f => many - withinI row l f
def stepF (s l : Int) (lows : List Int) (many : Int) (row : List Int) (st : Int) : List Int :=
  (row.set (st - 1).toNat (at0 lows (st - 1).toNat)).set (st - 1).toNat
    (let t := at0 lows (st - 1).toNat + (lacksI s l (row.set (st - 1).toNat (at0 lows (st - 1).toNat)) many st).foldl max 0
     if t < at0 row (st - 1).toNat then t else at0 row (st - 1).toNat)
def firstI (s l : Int) (lows highs : List Int) (many : Int) : List Int := (rgI 1 (s + 1)).foldl (stepF s l lows many) (topsI highs many)
theorem stepF_len {s l : Int} {lows row : List Int} {many st : Int} : (stepF s l lows many row st).length = row.length := by simp [stepF]
theorem within_win {s l : Int} {row : List Int} {f : Int} (hf : FlOk s l) (hs : (row.length : Int) = s) (h : f ∈ rowsI s l) : withinI row l f = winS row (f - 1).toNat l.toNat := by
  obtain ⟨f1, f2, f3, f4⟩ := hf
  obtain ⟨g1, g2⟩ := mem_rgI.mp h
  unfold withinI
  rw [cut_win (by omega) (by omega) (by omega)]
theorem foldl_max_iff {n m : Int} {ns : List Int} : ns.foldl max n ≤ m ↔ n ≤ m ∧ ∀ x ∈ ns, x ≤ m := by
  obtain ⟨h1, h2⟩ := foldl_max_ge (n := n) (ns := ns)
  constructor
  · intro h
    exact ⟨by omega, fun x hx => Int.le_trans (h2 x hx) h⟩
  · rintro ⟨h3, h4⟩
    exact foldl_max_le h3 h4
/-- what a step leaves: before it fixed, behind it the tops -/
structure FInv (s l : Int) (lows highs : List Int) (many : Int) (k : Nat) (row : List Int) : Prop where
  len : (row.length : Int) = s
  low : ∀ i, i < row.length → at0 lows i ≤ at0 row i
  top : ∀ i, i < row.length → at0 row i ≤ at0 (topsI highs many) i
  rest : ∀ i, k ≤ i → i < row.length → at0 row i = at0 (topsI highs many) i
  win : ∀ f : Nat, f + l.toNat ≤ row.length → many ≤ winS row f l.toNat
  least : ∀ v, Btw s l lows highs many v → (∀ i, i < k → at0 v i = at0 row i) ∨ ∃ j, j < k ∧ (∀ i, i < j → at0 v i = at0 row i) ∧ at0 row j < at0 v j
theorem step_ok {s l : Int} {lows highs : List Int} {many : Int} (hf : FlOk s l) (h1 : (lows.length : Int) = s) (h2 : (highs.length : Int) = s) {k : Nat} (hk : (k : Int) < s) {row : List Int} (I : FInv s l lows highs many k row) : FInv s l lows highs many (k + 1) (stepF s l lows many row ((k : Int) + 1)) := by
  obtain ⟨f1, f2, f3, f4⟩ := id hf
  have hkr : k < row.length := by have := I.len; omega
  have ek : ((k : Int) + 1 - 1).toNat = k := by omega
  -- the new number
  let r0 := row.set k (at0 lows k)
  have l0 : r0.length = row.length := by simp [r0]
  let m := (lacksI s l r0 many ((k : Int) + 1)).foldl max 0
  have hm0 : 0 ≤ m := (foldl_max_ge (n := 0)).1
  -- the lacks in windows
  have lk : ∀ f : Nat, f + l.toNat ≤ row.length → f ≤ k → k < f + l.toNat → many - winS r0 f l.toNat ≤ m := fun f q1 q2 q3 => by
    refine (foldl_max_ge (n := 0)).2 _ (List.mem_map.mpr ⟨(f : Int) + 1, List.mem_filter.mpr ⟨mem_rgI.mpr (by have := I.len; omega), ?_⟩, ?_⟩)
    · rw [Bool.and_eq_true, decide_eq_true_eq, decide_eq_true_eq]
      omega
    · have hfm : (f : Int) + 1 ∈ rowsI s l := mem_rgI.mpr (by have := I.len; omega)
      rw [within_win hf (by rw [l0]; exact I.len) hfm, show ((f : Int) + 1 - 1).toNat = f by omega]
  have mb : ∀ t : Int, 0 ≤ t → (∀ f : Nat, f + l.toNat ≤ row.length → f ≤ k → k < f + l.toNat → many - winS r0 f l.toNat ≤ t) → m ≤ t := fun t h0 h => by
    refine foldl_max_iff.mpr ⟨h0, fun x hx => ?_⟩
    obtain ⟨f, hf', rfl⟩ := List.mem_map.mp hx
    obtain ⟨hfm, hft⟩ := List.mem_filter.mp hf'
    rw [Bool.and_eq_true, decide_eq_true_eq, decide_eq_true_eq] at hft
    have hr := mem_rgI.mp hfm
    rw [within_win hf (by rw [l0]; exact I.len) hfm]
    exact h (f - 1).toNat (by have := I.len; omega) (by omega) (by omega)
  have w0 : ∀ f : Nat, winS r0 f l.toNat = winS row f l.toNat + (if f ≤ k ∧ k < f + l.toNat then at0 lows k - at0 row k else 0) := fun f => winS_set hkr f l.toNat
  have hlow := I.low k hkr
  have mt : at0 lows k + m ≤ at0 row k := by
    have := mb (at0 row k - at0 lows k) (by omega) fun f q1 q2 q3 => by
      rw [w0, if_pos ⟨q2, q3⟩]
      have := I.win f q1
      omega
    omega
  have ex : stepF s l lows many row ((k : Int) + 1) = row.set k (at0 lows k + m) := by
    unfold stepF
    rw [ek]
    show (row.set k (at0 lows k)).set k (if at0 lows k + m < at0 row k then at0 lows k + m else at0 row k) = _
    rw [List.set_set]
    congr 1
    split <;> omega
  rw [ex]
  have len' : ((row.set k (at0 lows k + m)).length : Int) = s := by rw [List.length_set]; exact I.len
  have wn : ∀ f : Nat, winS (row.set k (at0 lows k + m)) f l.toNat = winS row f l.toNat + (if f ≤ k ∧ k < f + l.toNat then at0 lows k + m - at0 row k else 0) := fun f => winS_set hkr f l.toNat
  refine ⟨len', fun i hi => ?_, fun i hi => ?_, fun i q1 q2 => ?_, fun f hfl => ?_, fun v hv => ?_⟩
  · rw [at0_set hkr]
    rw [List.length_set] at hi
    split
    · rename_i e
      subst e
      omega
    · exact I.low i hi
  · rw [at0_set hkr]
    rw [List.length_set] at hi
    have := I.top i hi
    split
    · rename_i e
      subst e
      omega
    · exact this
  · rw [at0_set hkr, if_neg (by omega)]
    rw [List.length_set] at q2
    exact I.rest i (by omega) q2
  · rw [List.length_set] at hfl
    rw [wn]
    by_cases hc : f ≤ k ∧ k < f + l.toNat
    · rw [if_pos hc]
      have := lk f hfl hc.1 hc.2
      rw [w0, if_pos hc] at this
      omega
    · rw [if_neg hc]
      have := I.win f hfl
      omega
  · rcases I.least v hv with h | ⟨j, j1, j2, j3⟩
    · -- v begins as the row
      have hge : at0 lows k + m ≤ at0 v k := by
        have hvk := hv.2.1 k (by have := hv.1; omega)
        have := mb (at0 v k - at0 lows k) (by omega) fun f q1 q2 q3 => by
          have hw := ((Mk_win hf hv.1).mp hv.2.2).2 f (by have := hv.1; have := I.len; omega)
          -- v against row with the low at k, over the window
          have hle : winS (v.set k (at0 lows k)) f l.toNat ≤ winS r0 f l.toNat := by
            refine winS_le f l.toNat fun j hj => ?_
            rw [at0_set (show k < v.length by have := hv.1; omega), at0_set hkr]
            split
            · exact Int.le_refl _
            · rename_i hne
              by_cases hlt : f + j < k
              · rw [h _ hlt]
                exact Int.le_refl _
              · have hin : f + j < row.length := by omega
                rw [I.rest (f + j) (by omega) hin, at0_tops (by have := I.len; omega)]
                have a1 := (hv.2.1 (f + j) (by have := hv.1; have := I.len; omega)).2
                have a2 := ((Mk_win hf hv.1).mp hv.2.2).1 (f + j) (by have := hv.1; have := I.len; omega)
                omega
          rw [winS_set (show k < v.length by have := hv.1; omega), if_pos ⟨q2, q3⟩] at hle
          omega
        omega
      by_cases he : at0 v k = at0 lows k + m
      · refine .inl fun i hi => ?_
        rw [at0_set hkr]
        split
        · rename_i e
          subst e
          exact he
        · exact h i (by omega)
      · refine .inr ⟨k, by omega, fun i hi => ?_, ?_⟩
        · rw [at0_set hkr, if_neg (by omega)]
          exact h i hi
        · rw [at0_set hkr, if_pos rfl]
          omega
    · refine .inr ⟨j, by omega, fun i hi => ?_, ?_⟩
      · rw [at0_set hkr, if_neg (by omega)]
        exact j2 i hi
      · rw [at0_set hkr, if_neg (by omega)]
        exact j3
theorem first_inv {s l : Int} {lows highs : List Int} {many : Int} (hf : FlOk s l) (h1 : (lows.length : Int) = s) (h2 : (highs.length : Int) = s) (hlh : ∀ i, i < lows.length → at0 lows i ≤ at0 highs i) (hb : isNone (barD s l lows highs many) = true) : ∀ k : Nat, (k : Int) ≤ s → FInv s l lows highs many k ((rgI 1 ((k : Int) + 1)).foldl (stepF s l lows many) (topsI highs many))
  | 0, _ => by
    rw [rgI_nil (by omega), List.foldl_nil]
    obtain ⟨b1, b2⟩ := (bar_none hf h1 h2).mp hb
    refine ⟨by rw [tops_len]; exact h2, fun i hi => ?_, fun i _ => Int.le_refl _, fun i _ _ => rfl, fun f hfl => b2 f (by rw [tops_len] at hfl; exact hfl), fun v _ => .inl fun i hi => absurd hi (Nat.not_lt_zero _)⟩
    rw [tops_len] at hi
    rw [at0_tops hi]
    have := b1 i (by omega)
    have := hlh i (by omega)
    omega
  | k + 1, hk => by
    have ih := first_inv hf h1 h2 hlh hb k (by omega)
    rw [show (((k + 1 : Nat) : Int) + 1) = ((k : Int) + 1) + 1 by omega, rgI_snoc (by omega), List.foldl_append, List.foldl_cons, List.foldl_nil]
    exact step_ok hf h1 h2 (by omega) ih
theorem first_all {s l : Int} {lows highs : List Int} {many : Int} (hf : FlOk s l) (h1 : (lows.length : Int) = s) (h2 : (highs.length : Int) = s) (hlh : ∀ i, i < lows.length → at0 lows i ≤ at0 highs i) (hb : isNone (barD s l lows highs many) = true) : FInv s l lows highs many s.toNat (firstI s l lows highs many) := by
  have := first_inv hf h1 h2 hlh hb s.toNat (by have := hf.1; omega)
  rw [show ((s.toNat : Int)) = s by have := hf.1; omega] at this
  exact this
theorem first_btw {s l : Int} {lows highs : List Int} {many : Int} (hf : FlOk s l) (h1 : (lows.length : Int) = s) (h2 : (highs.length : Int) = s) (hlh : ∀ i, i < lows.length → at0 lows i ≤ at0 highs i) (hb : isNone (barD s l lows highs many) = true) : Btw s l lows highs many (firstI s l lows highs many) := by
  have I := first_all hf h1 h2 hlh hb
  refine ⟨I.len, fun i hi => ⟨I.low i hi, ?_⟩, (Mk_win hf I.len).mpr ⟨fun i hi => ?_, I.win⟩⟩
  · have := I.top i hi
    rw [at0_tops (by have := I.len; omega)] at this
    omega
  · have := I.top i hi
    rw [at0_tops (by have := I.len; omega)] at this
    omega
theorem lex_le {a b : List Int} (hl : a.length = b.length) (h : (∀ i, i < a.length → at0 b i = at0 a i) ∨ ∃ j, j < a.length ∧ (∀ i, i < j → at0 b i = at0 a i) ∧ at0 a j < at0 b j) : a ≤ b := by
  rcases h with h | ⟨j, j1, j2, j3⟩
  · have : a = b := List.ext_getElem hl fun i q1 q2 => by
      rw [← at0_get q1, ← at0_get q2]
      exact (h i q1).symm
    rw [this]
    exact List.le_refl _
  · induction a generalizing b j with
    | nil => simp at j1
    | cons x a ih =>
      cases b with
      | nil => simp at hl
      | cons y b =>
        cases j with
        | zero =>
          have : x < y := j3
          rw [List.cons_le_cons_iff]
          exact .inl this
        | succ j =>
          have e : y = x := j2 0 (by omega)
          subst e
          rw [List.cons_le_cons_iff]
          exact .inr ⟨rfl, ih (by simpa using hl) j (by simpa using j1) (fun i hi => j2 (i + 1) (by omega)) j3⟩
theorem first_le {s l : Int} {lows highs : List Int} {many : Int} (hf : FlOk s l) (h1 : (lows.length : Int) = s) (h2 : (highs.length : Int) = s) (hlh : ∀ i, i < lows.length → at0 lows i ≤ at0 highs i) (hb : isNone (barD s l lows highs many) = true) {v : List Int} (hv : Btw s l lows highs many v) : firstI s l lows highs many ≤ v := by
  have I := first_all hf h1 h2 hlh hb
  have hl : (firstI s l lows highs many).length = s.toNat := by have := I.len; omega
  refine lex_le (by have := hv.1; omega) ?_
  rcases I.least v hv with h | ⟨j, j1, j2, j3⟩
  · exact .inl fun i hi => h i (by omega)
  · exact .inr ⟨j, by omega, j2, j3⟩
theorem btw_none {s l : Int} {lows highs : List Int} {many : Int} (hf : FlOk s l) (h1 : (lows.length : Int) = s) (h2 : (highs.length : Int) = s) {v : List Int} (hv : Btw s l lows highs many v) : isNone (barD s l lows highs many) = true := by
  obtain ⟨v1, v2, v3⟩ := hv
  obtain ⟨m1, m2⟩ := (Mk_win hf v1).mp v3
  refine (bar_none hf h1 h2).mpr ⟨fun i hi => ?_, fun f hfl => ?_⟩
  · have := (v2 i (by omega)).1
    have := m1 i (by omega)
    omega
  · refine Int.le_trans (m2 f (by omega)) (winS_le f l.toNat fun j hj => ?_)
    rw [at0_tops (by omega)]
    have := (v2 (f + j) (by omega)).2
    have := m1 (f + j) (by omega)
    omega
/-! ### numbers between: a row -/
theorem bar_conv {s l : Int} {lows highs : List Int} (hf : FlOk s l) (h1 : (lows.length : Int) = s) (h2 : (highs.length : Int) = s) (h0 : ∀ i, i < highs.length → 0 ≤ at0 highs i) {x y z : Int} (q0 : 0 ≤ y) (q1 : x ≤ y) (q2 : y ≤ z) (hx : isNone (barD s l lows highs x) = true) (hz : isNone (barD s l lows highs z) = true) : isNone (barD s l lows highs y) = true := by
  obtain ⟨a1, a2⟩ := (bar_none hf h1 h2).mp hx
  obtain ⟨b1, b2⟩ := (bar_none hf h1 h2).mp hz
  refine (bar_none hf h1 h2).mpr ⟨fun i hi => Int.le_trans (a1 i hi) q1, fun f hfl => ?_⟩
  have nn : ∀ j, j < l.toNat → 0 ≤ at0 (topsI highs y) (f + j) := fun j hj => by
    rw [at0_tops (by omega)]
    have := h0 (f + j) (by omega)
    omega
  by_cases hc : ∃ j, j < l.toNat ∧ y ≤ at0 highs (f + j)
  · obtain ⟨j, j1, j2⟩ := hc
    have := winS_ge f l.toNat nn j j1
    rw [at0_tops (by omega)] at this
    omega
  · have := b2 f hfl
    have hle : winS (topsI highs z) f l.toNat ≤ winS (topsI highs y) f l.toNat := winS_le f l.toNat fun j hj => by
      rw [at0_tops (by omega), at0_tops (by omega)]
      have : ¬ y ≤ at0 highs (f + j) := fun q => hc ⟨j, hj, q⟩
      omega
    omega
def numsB (s l : Int) (lows highs : List Int) : List Int := (rgI 0 10).filter fun m => isNone (barD s l lows highs m)
theorem numsB_row {s l : Int} {lows highs : List Int} (hf : FlOk s l) (h1 : (lows.length : Int) = s) (h2 : (highs.length : Int) = s) (h0 : ∀ i, i < highs.length → 0 ≤ at0 highs i) : ∃ lo hi, lo ≤ hi ∧ numsB s l lows highs = rgI lo hi := by
  have e : numsB s l lows highs = (rgI 0 10).filter fun m => decide (0 ≤ m) && isNone (barD s l lows highs m) := by
    apply List.filter_congr
    intro m hm
    rw [decide_eq_true (mem_rgI.mp hm).1, Bool.true_and]
  obtain ⟨lo, hi, q1, _, q2⟩ := conv_rg (p := fun m => decide (0 ≤ m) && isNone (barD s l lows highs m)) (a := 0) (fun x y z a b hx hz => by
    rw [Bool.and_eq_true, decide_eq_true_eq] at hx hz ⊢
    exact ⟨by omega, bar_conv hf h1 h2 h0 (by omega) a b hx.2 hz.2⟩) 10
  exact ⟨lo, hi, q1, by rw [e]; exact q2⟩
/-! ### all wears between bounds -/
def prodW : List (Int × Int) → List (List Int) → List (List Int)
  | [], rows => rows
  | p :: ps, rows => prodW ps (rows.flatMap fun row => (rgI p.1 (p.2 + 1)).map fun x => row ++ [x])
theorem mem_prodW : ∀ {ps : List (Int × Int)} {rows : List (List Int)} {v : List Int}, v ∈ prodW ps rows ↔ ∃ row ∈ rows, ∃ t, t.length = ps.length ∧ v = row ++ t ∧ ∀ (i : Nat) (p : Int × Int), ps[i]? = some p → p.1 ≤ at0 t i ∧ at0 t i ≤ p.2
  | [], rows, v => by
    show v ∈ rows ↔ _
    constructor
    · intro h
      exact ⟨v, h, [], rfl, by simp, fun i p z => by simp at z⟩
    · rintro ⟨row, h, t, ht, rfl, _⟩
      rw [List.eq_nil_of_length_eq_zero ht, List.append_nil]
      exact h
  | p :: ps, rows, v => by
    show v ∈ prodW ps _ ↔ _
    rw [mem_prodW]
    constructor
    · rintro ⟨row, h, t, ht, rfl, hp⟩
      obtain ⟨r0, h0, h1⟩ := List.mem_flatMap.mp h
      obtain ⟨x, hx, rfl⟩ := List.mem_map.mp h1
      refine ⟨r0, h0, x :: t, by simp [ht], by simp, fun i q hq => ?_⟩
      cases i with
      | zero =>
        have e : p = q := by simpa using hq
        subst e
        have := mem_rgI.mp hx
        show p.1 ≤ x ∧ x ≤ p.2
        omega
      | succ i => exact hp i q (by simpa using hq)
    · rintro ⟨row, h, t, ht, rfl, hp⟩
      cases t with
      | nil => simp at ht
      | cons x t =>
        have hx : p.1 ≤ x ∧ x ≤ p.2 := hp 0 p rfl
        exact ⟨row ++ [x], List.mem_flatMap.mpr ⟨row, h, List.mem_map.mpr ⟨x, mem_rgI.mpr (by omega), rfl⟩⟩, t, by simpa using ht, by simp, fun i q hq => hp (i + 1) q (by simpa using hq)⟩
theorem mem_wears {lows highs : List Int} (h : lows.length = highs.length) {v : List Int} : v ∈ prodW (lows.zip highs) [[]] ↔ v.length = lows.length ∧ ∀ i, i < v.length → at0 lows i ≤ at0 v i ∧ at0 v i ≤ at0 highs i := by
  rw [mem_prodW]
  have hz : (lows.zip highs).length = lows.length := by simp [h]
  constructor
  · rintro ⟨row, hr, t, ht, rfl, hp⟩
    rw [List.mem_singleton.mp hr, List.nil_append]
    refine ⟨by omega, fun i hi => ?_⟩
    have q1 : i < lows.length := by omega
    have q2 : i < highs.length := by omega
    have := hp i (lows[i], highs[i]) (by rw [List.getElem?_zip_eq_some]; exact ⟨List.getElem?_eq_getElem q1, List.getElem?_eq_getElem q2⟩)
    rw [at0_get q1, at0_get q2]
    exact this
  · rintro ⟨h1, h2⟩
    refine ⟨[], List.mem_singleton.mpr rfl, v, by omega, rfl, fun i p hp => ?_⟩
    obtain ⟨q1, q2⟩ := List.getElem?_zip_eq_some.mp hp
    obtain ⟨a1, a2⟩ := List.getElem?_eq_some_iff.mp q1
    obtain ⟨b1, b2⟩ := List.getElem?_eq_some_iff.mp q2
    have := h2 i (by omega)
    rw [at0_get a1, at0_get b1, a2, b2] at this
    exact this
/-! ### the least of a list of tuples of ints -/
theorem alike_W (ws : List (List Int)) : PySem.W.AlikeAll (ws.map tI) := ⟨fun x hx y hy => by
  obtain ⟨a, _, rfl⟩ := List.mem_map.mp hx
  obtain ⟨b, _, rfl⟩ := List.mem_map.mp hy
  rw [PySem.W.alike]
  exact PySem.W.alike_ints a b, fun x hx => by
  obtain ⟨a, _, rfl⟩ := List.mem_map.mp hx
  exact fun z => nomatch z⟩
theorem depth_ints : ∀ ns : List Int, PyData.depthAll (ns.map .int) = 0
  | [] => rfl
  | n :: ns => by
    show max 0 (PyData.depthAll (ns.map .int)) = 0
    rw [depth_ints ns]
    rfl
theorem depth_W : ∀ ws : List (List Int), PyData.depthAll (ws.map tI) ≤ 1
  | [] => by decide
  | w :: ws => by
    show max (PyData.depthAll (w.map .int) + 1) (PyData.depthAll (ws.map tI)) ≤ 1
    rw [depth_ints]
    have := depth_W ws
    omega
def minW (w : List Int) (ws : List (List Int)) : List Int := ws.foldl (fun a y => if decide (y < a) = true then y else a) w
theorem minD_W (w : List Int) (ws : List (List Int)) : PySem.W.minD (tI w) (ws.map tI) = tI (minW w ws) := by
  unfold PySem.W.minD minW
  induction ws generalizing w with
  | nil => rfl
  | cons y ws ih =>
    rw [List.map_cons, List.foldl_cons, List.foldl_cons]
    have e : PySem.W.dataLt (tI y) (tI w) = decide (y < w) := by
      show PySem.W.dataLt (.tuple (y.map .int)) (.tuple (w.map .int)) = _
      rw [PySem.W.dataLt_tuple]
      show PySem.W.rowLt (y.map .int) (w.map .int) = _
      rw [PySem.W.dataLt_ints]
    rw [e]
    by_cases h : y < w
    · rw [decide_eq_true h, if_pos rfl, if_pos rfl]
      exact ih y
    · rw [decide_eq_false h, if_neg (by decide), if_neg (by decide)]
      exact ih w
theorem minW_spec (w : List Int) (ws : List (List Int)) : minW w ws ∈ w :: ws ∧ ∀ v ∈ w :: ws, minW w ws ≤ v := by
  unfold minW
  induction ws generalizing w with
  | nil => exact ⟨List.mem_cons_self, fun v hv => by rw [List.mem_singleton.mp hv]; exact List.le_refl _⟩
  | cons y ws ih =>
    rw [List.foldl_cons]
    by_cases h : y < w
    · rw [decide_eq_true h, if_pos rfl]
      obtain ⟨i1, i2⟩ := ih y
      refine ⟨List.mem_cons_of_mem _ i1, fun v hv => ?_⟩
      rcases List.mem_cons.mp hv with rfl | hv
      · exact List.le_trans (i2 y List.mem_cons_self) (List.le_of_lt h)
      · exact i2 v hv
    · rw [decide_eq_false h, if_neg (by decide)]
      obtain ⟨i1, i2⟩ := ih w
      refine ⟨?_, fun v hv => ?_⟩
      · rcases List.mem_cons.mp i1 with i1 | i1
        · rw [i1]
          exact List.mem_cons_self
        · exact List.mem_cons_of_mem _ (List.mem_cons_of_mem _ i1)
      · rcases List.mem_cons.mp hv with rfl | hv
        · exact i2 v List.mem_cons_self
        · rcases List.mem_cons.mp hv with rfl | hv
          · exact List.le_trans (i2 w List.mem_cons_self) (List.not_lt.mp h)
          · exact i2 v (List.mem_cons_of_mem _ hv)
theorem minW_first {s l : Int} {lows highs : List Int} {many : Int} (hf : FlOk s l) (h1 : (lows.length : Int) = s) (h2 : (highs.length : Int) = s) (hlh : ∀ i, i < lows.length → at0 lows i ≤ at0 highs i) {w : List Int} {ws : List (List Int)} (hw : ∀ v, v ∈ w :: ws ↔ Btw s l lows highs many v) : isNone (barD s l lows highs many) = true ∧ minW w ws = firstI s l lows highs many := by
  have hb := btw_none hf h1 h2 ((hw w).mp List.mem_cons_self)
  obtain ⟨i1, i2⟩ := minW_spec w ws
  refine ⟨hb, List.le_antisymm (i2 _ ((hw _).mpr (first_btw hf h1 h2 hlh hb))) (first_le hf h1 h2 hlh hb ((hw _).mp i1))⟩
end SD

namespace SD
open PySem PySem.Spec PyProof.Rows L2
/-! ### promises about bounds -/
def LeW (lows highs : List Int) : Prop := ∀ i, i < lows.length → at0 lows i ≤ at0 highs i
def needB (a b c : D) (E : Str → Prop) (K : Int → Int → List Int → List Int → Prop) : Prop := short b ∧ short c ∧ (isFlight a = false → E "BadFlight") ∧ (∀ s l, a = p2 s l → FlOk s l → (goodWear s b && goodWear s c) = false → E "BadWear") ∧
  ∀ s l lows highs, a = p2 s l → FlOk s l → b = tI lows → WrOk s lows → c = tI highs → WrOk s highs → (¬ LeW lows highs → E "BadWear") ∧ (LeW lows highs → K s l lows highs)
def need4 (a b c d : D) (E : Str → Prop) (K : Int → Int → List Int → List Int → Int → Prop) : Prop := needB a b c E fun s l lows highs => (isWhole d 0 9 = false → E "BadNumber") ∧ ∀ m, d = .int m → 0 ≤ m → m ≤ 9 → K s l lows highs m
theorem needB_ok {s l : Int} {lows highs : List Int} {E : Str → Prop} {K : Int → Int → List Int → List Int → Prop} (hf : FlOk s l) (h1 : WrOk s lows) (h2 : WrOk s highs) (hl : LeW lows highs) (h : K s l lows highs) : needB (p2 s l) (tI lows) (tI highs) E K := by
  refine ⟨h1.short hf, h2.short hf, fun z => ?_, fun s' l' e _ z => ?_, fun s' l' lo hi e1 _ e2 _ e3 _ => ?_⟩
  · rw [hf.is] at z
    cases z
  · obtain ⟨rfl, rfl⟩ := p2_inj e
    rw [h1.is, h2.is] at z
    cases z
  · obtain ⟨rfl, rfl⟩ := p2_inj e1
    have := tI_inj e2
    have := tI_inj e3
    subst_vars
    exact ⟨fun z => absurd hl z, fun _ => h⟩
theorem needB_bad {s l : Int} {b c : D} {E : Str → Prop} {K : Int → Int → List Int → List Int → Prop} (hf : FlOk s l) (hb : short b) (hc : short c) (hbc : (goodWear s b && goodWear s c) = false) (h : E "BadWear") : needB (p2 s l) b c E K := by
  refine ⟨hb, hc, fun z => ?_, fun s' l' e _ z => h, fun s' l' lo hi e1 _ e2 w1 e3 w2 => ?_⟩
  · rw [hf.is] at z
    cases z
  · obtain ⟨rfl, rfl⟩ := p2_inj e1
    rw [e2, e3, w1.is, w2.is] at hbc
    cases hbc
theorem needB_above {s l : Int} {lows highs : List Int} {E : Str → Prop} {K : Int → Int → List Int → List Int → Prop} (hf : FlOk s l) (h1 : WrOk s lows) (h2 : WrOk s highs) (hl : ¬ LeW lows highs) (h : E "BadWear") : needB (p2 s l) (tI lows) (tI highs) E K := by
  refine ⟨h1.short hf, h2.short hf, fun z => ?_, fun s' l' e _ z => ?_, fun s' l' lo hi e1 _ e2 _ e3 _ => ?_⟩
  · rw [hf.is] at z
    cases z
  · obtain ⟨rfl, rfl⟩ := p2_inj e
    rw [h1.is, h2.is] at z
    cases z
  · have := tI_inj e2
    have := tI_inj e3
    subst_vars
    exact ⟨fun _ => h, fun z => absurd z hl⟩
theorem any_above {lows highs : List Int} (hl : lows.length = highs.length) : ((lows.zip highs).any fun p => decide (p.2 < p.1)) = false ↔ LeW lows highs := by
  rw [List.any_eq_false]
  constructor
  · intro h i hi
    have hi2 : i < highs.length := by omega
    have := h (lows[i], highs[i]) (List.mem_iff_getElem?.mpr ⟨i, by rw [List.getElem?_zip_eq_some]; exact ⟨List.getElem?_eq_getElem hi, List.getElem?_eq_getElem hi2⟩⟩)
    rw [at0_get hi, at0_get hi2]
    simp at this
    exact this
  · intro h p hp
    obtain ⟨i, hi⟩ := List.mem_iff_getElem?.mp hp
    obtain ⟨q1, q2⟩ := List.getElem?_zip_eq_some.mp hi
    obtain ⟨a1, a2⟩ := List.getElem?_eq_some_iff.mp q1
    obtain ⟨b1, b2⟩ := List.getElem?_eq_some_iff.mp q2
    have := h i a1
    rw [at0_get a1, at0_get b1, a2, b2] at this
    simp
    exact this
theorem LeW.refl (wear : List Int) : LeW wear wear := fun _ _ => Int.le_refl _
/-! ### a comprehension that draws -/
theorem lcL_rel {g : WG} {we : WE} {env : En} {α : Type} (enc : α → D) (R : α → D → Prop) : ∀ (xs : List α) (acc : List D) (Q : List D → Prop), (∀ x ∈ xs, ∀ K : D → Prop, (∀ y, R x y → K y) → g (enc x) env fun env' => we env' K noEx) → acc.length + xs.length ≤ sizeLine → (∀ ys : List D, FA R xs ys → Q (acc ++ ys)) → lcL g wtYes we env (xs.map enc) acc Q
  | [], acc, Q, _, _, h => by
    have := h [] trivial
    simpa [lcL] using this
  | x :: xs, acc, Q, hx, hl, h => by
    rw [List.length_cons] at hl
    show g (enc x) env fun env' => we env' (fun y => acc.length < sizeLine ∧ lcL g wtYes we env (xs.map enc) (acc ++ [y]) Q) noEx
    refine hx x List.mem_cons_self _ fun y hy => ⟨by omega, lcL_rel enc R xs _ Q (fun z hz => hx z (List.mem_cons_of_mem _ hz)) (by rw [List.length_append, List.length_singleton]; omega) fun ys h1 => ?_⟩
    rw [List.append_assoc]
    exact h ([y] ++ ys) ⟨hy, h1⟩
theorem fa_ints {P : Int → Int → Prop} : ∀ {xs : List Int} {ys : List D}, FA (fun x y => ∃ i, P x i ∧ y = .int i) xs ys → ∃ ns : List Int, ys = ns.map .int ∧ ns.length = xs.length ∧ ∀ i, i < xs.length → P (at0 xs i) (at0 ns i)
  | [], [], _ => ⟨[], rfl, rfl, fun i hi => absurd hi (Nat.not_lt_zero _)⟩
  | x :: xs, y :: ys, h => by
    obtain ⟨⟨i, hi, rfl⟩, h2⟩ := h
    obtain ⟨ns, rfl, hl, hp⟩ := fa_ints h2
    refine ⟨i :: ns, rfl, by simp [hl], fun k hk => ?_⟩
    cases k with
    | zero => exact hi
    | succ k => exact hp k (by simpa using hk)
  | [], _ :: _, h => h.elim
  | _ :: _, [], h => h.elim
/-! ### all wears between: how many -/
theorem flat_len {α : Type} {f : α → List (List Int)} {n : Nat} : ∀ {rows : List α}, (∀ r ∈ rows, (f r).length ≤ n) → (rows.flatMap f).length ≤ rows.length * n
  | [], _ => by simp
  | r :: rows, h => by
    rw [List.flatMap_cons, List.length_append, List.length_cons, Nat.add_mul, Nat.one_mul]
    have := h r List.mem_cons_self
    have := flat_len fun r hr => h r (List.mem_cons_of_mem _ hr)
    omega
theorem good_iff {s l : Int} {lows highs : List Int} {m : Int} (hf : FlOk s l) (h1 : (lows.length : Int) = s) (h2 : (highs.length : Int) = s) {v : List Int} : v ∈ (prodW (lows.zip highs) [[]]).filter (fun w => madeI s l w m) ↔ Btw s l lows highs m v := by
  rw [List.mem_filter, mem_wears (by omega)]
  constructor
  · rintro ⟨⟨q1, q2⟩, q3⟩
    have hl : (v.length : Int) = s := by omega
    rw [made_same hf hl, doMake_iff hl] at q3
    exact ⟨hl, q2, q3⟩
  · rintro ⟨q1, q2, q3⟩
    refine ⟨⟨by omega, q2⟩, ?_⟩
    rw [made_same hf q1, doMake_iff q1]
    exact q3
theorem good_none {s l : Int} {lows highs : List Int} {m : Int} (hf : FlOk s l) (h1 : (lows.length : Int) = s) (h2 : (highs.length : Int) = s) (hlh : LeW lows highs) : (!decide ((prodW (lows.zip highs) [[]]).filter (fun w => madeI s l w m) = [])) = isNone (barD s l lows highs m) := by
  rw [Bool.eq_iff_iff, Bool.not_eq_true', decide_eq_false_iff_not]
  constructor
  · intro h
    obtain ⟨v, hv⟩ := List.exists_mem_of_ne_nil _ h
    exact btw_none hf h1 h2 ((good_iff hf h1 h2).mp hv)
  · intro h
    exact List.ne_nil_of_mem ((good_iff hf h1 h2).mpr (first_btw hf h1 h2 hlh h))
theorem gNe_tn {ns : List Int} {Q : D → Prop} (h : Q (.bool true)) : gNe (tI ns) .none Q := ⟨(shp_tI 0 ns).ok, (shp_none 0).ok, by simpa [PyData.eqv] using h⟩
theorem gNe_nn {Q : D → Prop} (h : Q (.bool false)) : gNe .none .none Q := gNe_same (shp_none 0) (by decide) h
theorem need4_imp {a b c d : D} {E : Str → Prop} {K K' : Int → Int → List Int → List Int → Int → Prop} (h : need4 a b c d E K) (i : ∀ s l lows highs many, a = p2 s l → b = tI lows → c = tI highs → d = .int many → FlOk s l → WrOk s lows → WrOk s highs → LeW lows highs → 0 ≤ many → many ≤ 9 → K s l lows highs many → K' s l lows highs many) : need4 a b c d E K' := by
  obtain ⟨hb, hc, h1, h2, h3⟩ := h
  exact ⟨hb, hc, h1, h2, fun s l lows highs ea hf eb w1 ec w2 => ⟨(h3 s l lows highs ea hf eb w1 ec w2).1, fun hl => ⟨((h3 s l lows highs ea hf eb w1 ec w2).2 hl).1, fun m ed m0 m9 => i s l lows highs m ea eb ec ed hf w1 w2 hl m0 m9 (((h3 s l lows highs ea hf eb w1 ec w2).2 hl).2 m ed m0 m9)⟩⟩⟩
theorem need4_num {s l : Int} {lows highs : List Int} {d : D} {E : Str → Prop} {K : Int → Int → List Int → List Int → Int → Prop} (hf : FlOk s l) (h1 : WrOk s lows) (h2 : WrOk s highs) (hl : LeW lows highs) (hd : isWhole d 0 9 = false) (h : E "BadNumber") : need4 (p2 s l) (tI lows) (tI highs) d E K :=
  needB_ok hf h1 h2 hl ⟨fun _ => h, fun m e m0 m9 => by
    subst e
    simp [isWhole, m0, m9] at hd⟩
theorem need4_ok {s l : Int} {lows highs : List Int} {m : Int} {E : Str → Prop} {K : Int → Int → List Int → List Int → Int → Prop} (hf : FlOk s l) (h1 : WrOk s lows) (h2 : WrOk s highs) (hl : LeW lows highs) (m0 : 0 ≤ m) (m9 : m ≤ 9) (h : K s l lows highs m) : need4 (p2 s l) (tI lows) (tI highs) (.int m) E K :=
  needB_ok hf h1 h2 hl ⟨fun z => by simp [isWhole, m0, m9] at z, fun m' e _ _ => by cases e; exact h⟩
end SD

namespace SD
open PySem PySem.Spec PyProof.Rows L2
/-! ### sums of a function over places in a row -/
def rs (g : Nat → Int) (a n : Nat) : Int := ((List.range n).map fun j => g (a + j)).sum
theorem rs_zero (g : Nat → Int) (a : Nat) : rs g a 0 = 0 := rfl
theorem rs_succ (g : Nat → Int) (a n : Nat) : rs g a (n + 1) = rs g a n + g (a + n) := by
  unfold rs
  rw [List.range_succ, List.map_append, List.sum_append]
  simp
theorem rs_win (row : List Int) (f l : Nat) : winS row f l = rs (at0 row) f l := rfl
theorem rs_cat (g : Nat → Int) (a n : Nat) : ∀ m, rs g a (n + m) = rs g a n + rs g (a + n) m
  | 0 => by rw [Nat.add_zero, rs_zero, Int.add_zero]
  | m + 1 => by
    rw [← Nat.add_assoc, rs_succ, rs_cat g a n m, rs_succ, Nat.add_assoc a n m]
    omega
theorem rs_le {g h : Nat → Int} {a : Nat} : ∀ {n}, (∀ j, j < n → g (a + j) ≤ h (a + j)) → rs g a n ≤ rs h a n
  | 0, _ => Int.le_refl _
  | n + 1, k => by
    rw [rs_succ, rs_succ]
    have := rs_le (n := n) fun j hj => k j (by omega)
    have := k n (by omega)
    omega
theorem rs_congr {g h : Nat → Int} {a n : Nat} (k : ∀ j, j < n → g (a + j) = h (a + j)) : rs g a n = rs h a n :=
  Int.le_antisymm (rs_le fun j hj => Int.le_of_eq (k j hj)) (rs_le fun j hj => Int.le_of_eq (k j hj).symm)
theorem rs_nonneg {g : Nat → Int} {a n : Nat} (k : ∀ j, j < n → 0 ≤ g (a + j)) : 0 ≤ rs g a n := by
  have : rs (fun _ => 0) a n ≤ rs g a n := rs_le k
  have e : rs (fun _ => 0) a n = 0 := by
    induction n with
    | zero => rfl
    | succ n ih => rw [rs_succ, ih (fun j hj => k j (by omega)) (rs_le fun j hj => k j (by omega))]; rfl
  omega
theorem rs_add (g h : Nat → Int) (a : Nat) : ∀ n, rs (fun i => g i + h i) a n = rs g a n + rs h a n
  | 0 => rfl
  | n + 1 => by
    rw [rs_succ, rs_succ, rs_succ, rs_add g h a n]
    omega
theorem rs_sub (g h : Nat → Int) (a : Nat) : ∀ n, rs (fun i => g i - h i) a n = rs g a n - rs h a n
  | 0 => rfl
  | n + 1 => by
    rw [rs_succ, rs_succ, rs_succ, rs_sub g h a n]
    omega
/-- equal sums of terms, each no more: each equal -/
theorem rs_tight {g h : Nat → Int} {a : Nat} : ∀ {n}, (∀ j, j < n → g (a + j) ≤ h (a + j)) → rs h a n ≤ rs g a n → ∀ j, j < n → g (a + j) = h (a + j)
  | 0, _, _, j, hj => absurd hj (Nat.not_lt_zero _)
  | n + 1, k, e, j, hj => by
    have e0 := e
    rw [rs_succ, rs_succ] at e
    have k1 := rs_le (n := n) fun j hj => k j (Nat.lt_succ_of_lt hj)
    have k2 := k n (by omega)
    by_cases hjn : j = n
    · subst hjn
      omega
    · exact rs_tight (n := n) (fun j hj => k j (Nat.lt_succ_of_lt hj)) (by omega) j (by omega)
/-! ### the nearest wear -/
def addI (k : Int) : Int := if 0 < k then k else 0
theorem addI_ge (k : Int) : 0 ≤ addI k ∧ k ≤ addI k := by
  unfold addI
  split <;> omega
def nearStep (l many : Int) (row : List Int) (f : Int) : List Int := row.set (f + l - 2).toNat (at0 row (f + l - 2).toNat + addI (many - withinI row l f))
def nearI (s l : Int) (wear : List Int) (many : Int) : List Int := (rowsI s l).foldl (nearStep l many) (topsI wear many)
def absI (i : Int) : Int := if i < 0 then -i else i
def farI (a b : List Int) : Int := ((a.zip b).map fun p => absI (p.1 - p.2)).sum
def lackF (l : Int) (wear : List Int) (many f : Int) : Int := many - withinI (topsI wear many) l f
def aboveS (wear : List Int) (many : Int) : Int := (wear.map fun x => addI (x - many)).sum
def shownI (l : Int) (wear : List Int) (many : Int) (rows : List Int) : Int := aboveS wear many + (rows.map (lackF l wear many)).sum
/-- rows apart -/
def Lot (s l f : Int) (L : List Int) : Prop := (∀ x ∈ L, f ≤ x ∧ x ≤ s - l + 1) ∧ L.Pairwise fun a b => a + l ≤ b
section
variable {s l many : Int} {wear : List Int}
/-- what was put on behind r rows -/
structure NInv (s l : Int) (wear : List Int) (many : Int) (r : Nat) (row : List Int) : Prop where
  len : (row.length : Int) = s
  low : ∀ i, i < row.length → at0 (topsI wear many) i ≤ at0 row i
  top : ∀ i, i < row.length → at0 row i ≤ many
  rest : ∀ i, r + l.toNat ≤ i + 1 → at0 row i = at0 (topsI wear many) i
  win : ∀ g : Nat, g < r → many ≤ winS row g l.toNat
  dom : ∀ v : List Int, (v.length : Int) = s → Mk s l v many → ∀ k, rs (fun i => at0 row i - at0 (topsI wear many) i) 0 k ≤ rs (fun i => addI (at0 v i - at0 (topsI wear many) i)) 0 k
  lot : ∀ k : Nat, ∃ L, Lot s l 1 L ∧ (∀ x ∈ L, x + l - 1 ≤ k) ∧ (L.map (lackF l wear many)).sum = rs (fun i => at0 row i - at0 (topsI wear many) i) 0 k
theorem lackF_win (hf : FlOk s l) (hs : (wear.length : Int) = s) {r : Nat} (hr : (r : Int) + 1 ≤ s - l + 1) : lackF l wear many ((r : Int) + 1) = many - winS (topsI wear many) r l.toNat := by
  unfold lackF
  rw [within_win hf (by rw [tops_len]; exact hs) (mem_rgI.mpr (by omega)), show ((r : Int) + 1 - 1).toNat = r by omega]
theorem near_step (hf : FlOk s l) (hs : (wear.length : Int) = s) (m0 : 0 ≤ many) (h0 : ∀ i, i < wear.length → 0 ≤ at0 wear i) {r : Nat} (hr : (r : Int) + 1 ≤ s - l + 1) {row : List Int} (I : NInv s l wear many r row) : NInv s l wear many (r + 1) (nearStep l many row ((r : Int) + 1)) := by
  obtain ⟨f1, f2, f3, f4⟩ := id hf
  have hlen := I.len
  let j := r + l.toNat - 1
  have hj : ((r : Int) + 1 + l - 2).toNat = j := by omega
  have hjr : j < row.length := by omega
  have ew : withinI row l ((r : Int) + 1) = winS row r l.toNat := by
    rw [within_win hf I.len (mem_rgI.mpr (by omega)), show ((r : Int) + 1 - 1).toNat = r by omega]
  let ad := addI (many - winS row r l.toNat)
  have had : 0 ≤ ad ∧ many - winS row r l.toNat ≤ ad := addI_ge _
  have hadc : ad = 0 ∨ (0 < ad ∧ ad = many - winS row r l.toNat) := by
    show addI _ = 0 ∨ (0 < addI _ ∧ addI _ = _)
    unfold addI
    split <;> omega
  have es : nearStep l many row ((r : Int) + 1) = row.set j (at0 row j + ad) := by
    unfold nearStep
    rw [hj, ew]
  rw [es]
  have tn : ∀ i, i < row.length → 0 ≤ at0 (topsI wear many) i := fun i hi => by
    rw [at0_tops (by omega)]
    have := h0 i (by omega)
    omega
  have rn : ∀ i, i < row.length → 0 ≤ at0 row i := fun i hi => Int.le_trans (tn i hi) (I.low i hi)
  have aset : ∀ i, at0 (row.set j (at0 row j + ad)) i = if i = j then at0 row j + ad else at0 row i := fun i => at0_set hjr
  have hwin : ∀ f, winS (row.set j (at0 row j + ad)) f l.toNat = winS row f l.toNat + (if f ≤ j ∧ j < f + l.toNat then ad else 0) := fun f => by
    rw [winS_set hjr]
    split <;> omega
  -- the difference, prefix sums
  have hd : ∀ k, rs (fun i => at0 (row.set j (at0 row j + ad)) i - at0 (topsI wear many) i) 0 k = rs (fun i => at0 row i - at0 (topsI wear many) i) 0 k + (if j < k then ad else 0) := fun k => by
    induction k with
    | zero => rfl
    | succ k ih =>
      rw [rs_succ, rs_succ, ih, Nat.zero_add, aset]
      by_cases hk : k = j
      · subst hk
        rw [if_neg (Nat.lt_irrefl _), if_pos rfl, if_pos (by omega)]
        omega
      · rw [if_neg hk]
        by_cases hk2 : j < k
        · rw [if_pos hk2, if_pos (by omega)]
          omega
        · rw [if_neg hk2, if_neg (by omega)]
          omega
  -- if something is put on, the prefix behind it is the lack on top of the prefix ahead of the row
  have hpre : 0 < ad → ∀ k, j < k → rs (fun i => at0 row i - at0 (topsI wear many) i) 0 k + ad = rs (fun i => at0 row i - at0 (topsI wear many) i) 0 r + (many - winS (topsI wear many) r l.toNat) := fun hp k hk => by
    have e1 : rs (fun i => at0 row i - at0 (topsI wear many) i) 0 k = rs (fun i => at0 row i - at0 (topsI wear many) i) 0 (r + l.toNat) := by
      have : k = (r + l.toNat) + (k - (r + l.toNat)) := by omega
      rw [this, rs_cat, Nat.zero_add]
      have z : rs (fun i => at0 row i - at0 (topsI wear many) i) (r + l.toNat) (k - (r + l.toNat)) = rs (fun _ => 0) (r + l.toNat) (k - (r + l.toNat)) := rs_congr fun i _ => by
        show at0 row (r + l.toNat + i) - _ = 0
        rw [I.rest (r + l.toNat + i) (by omega)]
        omega
      have z2 : ∀ n, rs (fun _ => 0) (r + l.toNat) n = 0 := fun n => by
        induction n with
        | zero => rfl
        | succ n ih => rw [rs_succ, ih]; rfl
      rw [z, z2]
      omega
    rw [e1, rs_cat, Nat.zero_add, rs_sub (at0 row) (at0 (topsI wear many)) r l.toNat, ← rs_win, ← rs_win]
    rcases hadc with h | h
    · omega
    · omega
  refine ⟨by rw [List.length_set]; exact I.len, fun i hi => ?_, fun i hi => ?_, fun i hi => ?_, fun g hg => ?_, fun v hv hm k => ?_, fun k => ?_⟩
  · rw [List.length_set] at hi
    rw [aset]
    have := I.low i hi
    split
    · rename_i e
      subst e
      omega
    · exact this
  · rw [List.length_set] at hi
    rw [aset]
    split
    · rcases hadc with h | h
      · have := I.top j hjr
        omega
      · -- the others are no less than 0
        have := winS_ge (a := row) r l.toNat (fun i hi => rn (r + i) (by omega)) (l.toNat - 1) (by omega)
        rw [show r + (l.toNat - 1) = j by omega] at this
        omega
    · exact I.top i hi
  · rw [aset, if_neg (by omega)]
    exact I.rest i (by omega)
  · rw [hwin]
    by_cases hgr : g = r
    · subst hgr
      rw [if_pos (by omega)]
      omega
    · have := I.win g (by omega)
      split <;> omega
  · rw [hd]
    have hB : ∀ a n, 0 ≤ rs (fun i => addI (at0 v i - at0 (topsI wear many) i)) a n := fun a n => rs_nonneg fun j _ => (addI_ge _).1
    have hk := I.dom v hv hm k
    by_cases hjk : j < k
    · rw [if_pos hjk]
      rcases hadc with h | ⟨hp, h⟩
      · omega
      · have e := hpre hp k hjk
        have hr2 := I.dom v hv hm r
        have hw := ((Mk_win hf hv).mp hm).2 r (by omega)
        have hle : winS v r l.toNat ≤ rs (fun i => at0 (topsI wear many) i + addI (at0 v i - at0 (topsI wear many) i)) r l.toNat := rs_le fun i _ => by
          show at0 v (r + i) ≤ at0 (topsI wear many) (r + i) + addI _
          have := (addI_ge (at0 v (r + i) - at0 (topsI wear many) (r + i))).2
          omega
        rw [rs_add, ← rs_win] at hle
        have hcat : rs (fun i => addI (at0 v i - at0 (topsI wear many) i)) 0 k = rs (fun i => addI (at0 v i - at0 (topsI wear many) i)) 0 r + rs (fun i => addI (at0 v i - at0 (topsI wear many) i)) r l.toNat + rs (fun i => addI (at0 v i - at0 (topsI wear many) i)) (r + l.toNat) (k - (r + l.toNat)) := by
          have : k = (r + l.toNat) + (k - (r + l.toNat)) := by omega
          rw [this, rs_cat, rs_cat]
          simp only [Nat.zero_add]
          congr 2
          omega
        have := hB (r + l.toNat) (k - (r + l.toNat))
        omega
    · rw [if_neg hjk]
      omega
  · rw [hd]
    by_cases hjk : j < k
    · rw [if_pos hjk]
      rcases hadc with h | ⟨hp, h⟩
      · rw [h]
        obtain ⟨L, q1, q2, q3⟩ := I.lot k
        exact ⟨L, q1, q2, by omega⟩
      · obtain ⟨L, q1, q2, q3⟩ := I.lot r
        refine ⟨L ++ [(r : Int) + 1], ⟨fun x hx => ?_, ?_⟩, fun x hx => ?_, ?_⟩
        · rcases List.mem_append.mp hx with hx | hx
          · exact q1.1 x hx
          · rw [List.mem_singleton.mp hx]
            omega
        · rw [List.pairwise_append]
          refine ⟨q1.2, List.pairwise_singleton _ _, fun x hx y hy => ?_⟩
          rw [List.mem_singleton.mp hy]
          have := q2 x hx
          omega
        · rcases List.mem_append.mp hx with hx | hx
          · have := q2 x hx
            omega
          · rw [List.mem_singleton.mp hx]
            omega
        · rw [List.map_append, List.sum_append, q3, hpre hp k hjk]
          simp only [List.map_cons, List.map_nil, List.sum_cons, List.sum_nil]
          rw [lackF_win hf hs hr]
          omega
    · rw [if_neg hjk]
      obtain ⟨L, q1, q2, q3⟩ := I.lot k
      exact ⟨L, q1, q2, by omega⟩
theorem near_inv (hf : FlOk s l) (hs : (wear.length : Int) = s) (m0 : 0 ≤ many) (h0 : ∀ i, i < wear.length → 0 ≤ at0 wear i) : ∀ r : Nat, (r : Int) ≤ s - l + 1 ∨ r = 0 → NInv s l wear many r ((rgI 1 ((r : Int) + 1)).foldl (nearStep l many) (topsI wear many))
  | 0, _ => by
    rw [rgI_nil (by omega), List.foldl_nil]
    have z : ∀ k, rs (fun i => at0 (topsI wear many) i - at0 (topsI wear many) i) 0 k = 0 := fun k => by
      induction k with
      | zero => rfl
      | succ k ih => rw [rs_succ, ih]; omega
    refine ⟨by rw [tops_len]; exact hs, fun i _ => Int.le_refl _, fun i hi => ?_, fun i _ => rfl, fun g hg => absurd hg (Nat.not_lt_zero _), fun v _ _ k => ?_, fun k => ⟨[], ⟨fun x hx => (by cases hx), .nil⟩, fun x hx => (by cases hx), (z k).symm⟩⟩
    · rw [tops_len] at hi
      rw [at0_tops hi]
      omega
    · rw [z]
      exact rs_nonneg fun j _ => (addI_ge _).1
  | r + 1, hr => by
    have ih := near_inv hf hs m0 h0 r (by omega)
    rw [show (((r + 1 : Nat) : Int) + 1) = ((r : Int) + 1) + 1 by omega, rgI_snoc (by omega), List.foldl_append, List.foldl_cons, List.foldl_nil]
    exact near_step hf hs m0 h0 (by omega) ih
theorem near_all (hf : FlOk s l) (hs : (wear.length : Int) = s) (m0 : 0 ≤ many) (h0 : ∀ i, i < wear.length → 0 ≤ at0 wear i) : NInv s l wear many (s - l + 1).toNat (nearI s l wear many) := by
  have := near_inv hf hs m0 h0 (s - l + 1).toNat (by omega)
  unfold nearI rowsI
  by_cases h : s - l + 1 ≤ 0
  · rw [rgI_nil (by omega)] at this ⊢
    exact this
  · rw [show (((s - l + 1).toNat : Int) + 1) = s - l + 2 by omega] at this
    exact this
theorem near_mk (hf : FlOk s l) (hs : (wear.length : Int) = s) (m0 : 0 ≤ many) (h0 : ∀ i, i < wear.length → 0 ≤ at0 wear i) : Mk s l (nearI s l wear many) many := by
  have I := near_all (many := many) hf hs m0 h0
  exact (Mk_win hf I.len).mpr ⟨I.top, fun f hfl => I.win f (by have := I.len; omega)⟩
/-! ### how far -/
theorem far_rs {a b : List Int} : ∀ (hl : a.length = b.length), farI a b = rs (fun i => absI (at0 a i - at0 b i)) 0 a.length := by
  intro hl
  unfold farI rs
  congr 1
  apply List.ext_getElem
  · simp [hl]
  · intro i h1 h2
    simp only [List.length_map, List.length_range] at h2
    simp only [List.getElem_map, List.getElem_zip, List.getElem_range, Nat.zero_add]
    rw [at0_get h2, at0_get (by omega)]
theorem above_rs (wear : List Int) (many : Int) : aboveS wear many = rs (fun i => addI (at0 wear i - many)) 0 wear.length := by
  unfold aboveS rs
  congr 1
  apply List.ext_getElem
  · simp
  · intro i h1 h2
    simp only [List.length_map, List.length_range] at h2
    simp only [List.getElem_map, List.getElem_range, Nat.zero_add]
    rw [at0_get h2]
theorem far_split (hs : (wear.length : Int) = s) {v : List Int} (hv : (v.length : Int) = s) (ht : ∀ i, i < v.length → at0 v i ≤ many) : farI wear v = aboveS wear many + rs (fun i => absI (at0 (topsI wear many) i - at0 v i)) 0 wear.length := by
  rw [far_rs (by omega), above_rs, ← rs_add]
  refine rs_congr fun i hi => ?_
  rw [Nat.zero_add]
  show absI _ = addI _ + absI _
  rw [at0_tops hi]
  have := ht i (by omega)
  unfold absI addI
  split <;> split <;> split <;> omega
theorem near_far (hf : FlOk s l) (hs : (wear.length : Int) = s) (m0 : 0 ≤ many) (h0 : ∀ i, i < wear.length → 0 ≤ at0 wear i) : farI wear (nearI s l wear many) = aboveS wear many + rs (fun i => at0 (nearI s l wear many) i - at0 (topsI wear many) i) 0 wear.length := by
  have I := near_all (many := many) hf hs m0 h0
  rw [far_split hs I.len I.top]
  congr 1
  refine rs_congr fun i hi => ?_
  rw [Nat.zero_add]
  have := I.low i (by have := I.len; omega)
  unfold absI
  split <;> omega
theorem near_least (hf : FlOk s l) (hs : (wear.length : Int) = s) (m0 : 0 ≤ many) (h0 : ∀ i, i < wear.length → 0 ≤ at0 wear i) {v : List Int} (hv : (v.length : Int) = s) (hm : Mk s l v many) : farI wear (nearI s l wear many) < farI wear v ∨ (farI wear (nearI s l wear many) = farI wear v ∧ nearI s l wear many ≤ v) := by
  have I := near_all (many := many) hf hs m0 h0
  have ht := ((Mk_win hf hv).mp hm).1
  rw [near_far hf hs m0 h0, far_split hs hv ht]
  have k1 := I.dom v hv hm wear.length
  have kle : ∀ j, j < wear.length → addI (at0 v (0 + j) - at0 (topsI wear many) (0 + j)) ≤ absI (at0 (topsI wear many) (0 + j) - at0 v (0 + j)) := fun j _ => by
    unfold addI absI
    split <;> split <;> omega
  have k2 := rs_le (g := fun i => addI (at0 v i - at0 (topsI wear many) i)) (h := fun i => absI (at0 (topsI wear many) i - at0 v i)) (a := 0) kle
  by_cases he : rs (fun i => absI (at0 (topsI wear many) i - at0 v i)) 0 wear.length ≤ rs (fun i => at0 (nearI s l wear many) i - at0 (topsI wear many) i) 0 wear.length
  · right
    refine ⟨by omega, ?_⟩
    have tight := rs_tight (g := fun i => addI (at0 v i - at0 (topsI wear many) i)) (h := fun i => absI (at0 (topsI wear many) i - at0 v i)) (a := 0) kle (by omega)
    have hvt : ∀ i, i < wear.length → at0 (topsI wear many) i ≤ at0 v i := fun i hi => by
      have := tight i hi
      rw [Nat.zero_add] at this
      have this' : addI (at0 v i - at0 (topsI wear many) i) = absI (at0 (topsI wear many) i - at0 v i) := this
      unfold addI absI at this'
      split at this' <;> split at this' <;> omega
    have pre : ∀ k, k ≤ wear.length → rs (at0 (nearI s l wear many)) 0 k ≤ rs (at0 v) 0 k := fun k hk => by
      have d := I.dom v hv hm k
      have e : rs (fun i => addI (at0 v i - at0 (topsI wear many) i)) 0 k = rs (fun i => at0 v i - at0 (topsI wear many) i) 0 k := rs_congr fun j hj => by
        rw [Nat.zero_add]
        have := hvt j (by omega)
        show addI _ = _
        unfold addI
        split <;> omega
      rw [e, rs_sub, rs_sub] at d
      omega
    -- the first place that differs
    have hlen : (nearI s l wear many).length = v.length := by have := I.len; omega
    refine lex_le hlen ?_
    by_cases hall : ∀ i, i < (nearI s l wear many).length → at0 v i = at0 (nearI s l wear many) i
    · exact .inl hall
    · right
      have ex : ∃ n, n < (nearI s l wear many).length ∧ at0 v n ≠ at0 (nearI s l wear many) n := by
        apply Classical.byContradiction
        intro z
        apply hall
        intro i hi
        apply Classical.byContradiction
        intro q
        exact z ⟨i, hi, q⟩
      -- the least such
      have least : ∀ n, (∃ j, j < n ∧ j < (nearI s l wear many).length ∧ at0 v j ≠ at0 (nearI s l wear many) j) → ∃ j, j < (nearI s l wear many).length ∧ at0 v j ≠ at0 (nearI s l wear many) j ∧ ∀ i, i < j → at0 v i = at0 (nearI s l wear many) i := fun n => by
        induction n with
        | zero => rintro ⟨j, hj, _⟩; exact absurd hj (Nat.not_lt_zero _)
        | succ n ih =>
          rintro ⟨j, j1, j2, j3⟩
          by_cases h : ∃ j, j < n ∧ j < (nearI s l wear many).length ∧ at0 v j ≠ at0 (nearI s l wear many) j
          · exact ih h
          · have hjn : j = n := by
              by_cases hjn : j < n
              · exact absurd ⟨j, hjn, j2, j3⟩ h
              · omega
            subst hjn
            refine ⟨j, j2, j3, fun i hi => ?_⟩
            apply Classical.byContradiction
            intro q
            exact h ⟨i, hi, by omega, q⟩
      obtain ⟨n, n1, n2⟩ := ex
      obtain ⟨j, j1, j2, j3⟩ := least (n + 1) ⟨n, by omega, n1, n2⟩
      refine ⟨j, j1, j3, ?_⟩
      have p := pre (j + 1) (by have := I.len; omega)
      rw [rs_succ, rs_succ, Nat.zero_add] at p
      have e : rs (at0 (nearI s l wear many)) 0 j = rs (at0 v) 0 j := rs_congr fun i hi => by
        rw [Nat.zero_add]
        exact (j3 i hi).symm
      omega
  · left
    omega
/-! ### rows apart -/
theorem lot_le (hf : FlOk s l) (hs : (wear.length : Int) = s) (m0 : 0 ≤ many) (h0 : ∀ i, i < wear.length → 0 ≤ at0 wear i) : ∀ (L : List Int) (a : Nat), Lot s l ((a : Int) + 1) L → a ≤ wear.length → (L.map (lackF l wear many)).sum ≤ rs (fun i => at0 (nearI s l wear many) i - at0 (topsI wear many) i) a (wear.length - a)
  | [], a, _, ha => by
    have I := near_all (many := many) hf hs m0 h0
    refine rs_nonneg fun j hj => ?_
    have := I.low (a + j) (by have := I.len; omega)
    show 0 ≤ at0 _ _ - _
    omega
  | x :: L, a, h, ha => by
    obtain ⟨f1, f2, f3, f4⟩ := id hf
    have I := near_all (many := many) hf hs m0 h0
    have hlen := I.len
    have hx := h.1 x List.mem_cons_self
    have hp := List.pairwise_cons.mp h.2
    -- behind the row
    have ih := lot_le hf hs m0 h0 L (x + l - 1).toNat ⟨fun y hy => ⟨by have := hp.1 y hy; omega, (h.1 y (List.mem_cons_of_mem _ hy)).2⟩, hp.2⟩ (by omega)
    rw [List.map_cons, List.sum_cons]
    have e1 : lackF l wear many x = many - winS (topsI wear many) (x - 1).toNat l.toNat := by
      have := lackF_win (many := many) hf hs (r := (x - 1).toNat) (by omega)
      rw [show (((x - 1).toNat : Int) + 1) = x by omega] at this
      exact this
    have hw := I.win (x - 1).toNat (by omega)
    have e2 : rs (fun i => at0 (nearI s l wear many) i - at0 (topsI wear many) i) (x - 1).toNat l.toNat = winS (nearI s l wear many) (x - 1).toNat l.toNat - winS (topsI wear many) (x - 1).toNat l.toNat := rs_sub _ _ _ _
    have e3 : rs (fun i => at0 (nearI s l wear many) i - at0 (topsI wear many) i) a (wear.length - a) = rs (fun i => at0 (nearI s l wear many) i - at0 (topsI wear many) i) a ((x - 1).toNat - a) + rs (fun i => at0 (nearI s l wear many) i - at0 (topsI wear many) i) (x - 1).toNat l.toNat + rs (fun i => at0 (nearI s l wear many) i - at0 (topsI wear many) i) (x + l - 1).toNat (wear.length - (x + l - 1).toNat) := by
      have : wear.length - a = ((x - 1).toNat - a) + l.toNat + (wear.length - (x + l - 1).toNat) := by omega
      rw [this, rs_cat, rs_cat]
      rw [show a + ((x - 1).toNat - a) = (x - 1).toNat by omega, show a + ((x - 1).toNat - a + l.toNat) = (x + l - 1).toNat by omega]
    have e4 : 0 ≤ rs (fun i => at0 (nearI s l wear many) i - at0 (topsI wear many) i) a ((x - 1).toNat - a) := rs_nonneg fun j hj => by
      have := I.low (a + j) (by omega)
      show 0 ≤ at0 _ _ - _
      omega
    omega
theorem shown_le (hf : FlOk s l) (hs : (wear.length : Int) = s) (m0 : 0 ≤ many) (h0 : ∀ i, i < wear.length → 0 ≤ at0 wear i) {L : List Int} (h : Lot s l 1 L) : shownI l wear many L ≤ farI wear (nearI s l wear many) := by
  rw [near_far hf hs m0 h0]
  unfold shownI
  have := lot_le hf hs m0 h0 L 0 h (Nat.zero_le _)
  rw [Nat.sub_zero] at this
  omega
theorem shown_ex (hf : FlOk s l) (hs : (wear.length : Int) = s) (m0 : 0 ≤ many) (h0 : ∀ i, i < wear.length → 0 ≤ at0 wear i) : ∃ L, Lot s l 1 L ∧ shownI l wear many L = farI wear (nearI s l wear many) := by
  have I := near_all (many := many) hf hs m0 h0
  obtain ⟨L, q1, _, q3⟩ := I.lot wear.length
  refine ⟨L, q1, ?_⟩
  rw [near_far hf hs m0 h0]
  unfold shownI
  rw [q3]
end
/-! ### the best rows, by looking from each row on -/
def bestN (s l : Int) (wear : List Int) (many : Int) : Nat → Int → Int × List Int
  | 0, _ => (0, [])
  | n + 1, f => if decide (f ∈ rowsI s l) = true then
      (let wo := bestN s l wear many n (f + 1)
       let p := bestN s l wear many n (f + l)
       if decide (wo.1 < p.1 + lackF l wear many f) = true then (p.1 + lackF l wear many f, f :: p.2) else wo)
    else (0, [])
theorem bestN_spec {s l many : Int} {wear : List Int} (hf : FlOk s l) : ∀ (n : Nat) (f : Int), 1 ≤ f → 0 < n → s - l + 2 < f + n → Lot s l f (bestN s l wear many n f).2 ∧ ((bestN s l wear many n f).2.map (lackF l wear many)).sum = (bestN s l wear many n f).1 ∧ (∀ L, Lot s l f L → (L.map (lackF l wear many)).sum ≤ (bestN s l wear many n f).1) ∧ (bestN s l wear many n f).2.length ≤ n
  | 0, f, _, h, _ => absurd h (Nat.lt_irrefl _)
  | n + 1, f, hf1, _, hn => by
    obtain ⟨f1, f2, f3, f4⟩ := id hf
    unfold bestN
    by_cases hm : f ∈ rowsI s l
    · have hr := mem_rgI.mp hm
      rw [if_pos (decide_eq_true hm)]
      obtain ⟨a1, a2, a3, a4⟩ := bestN_spec (many := many) (wear := wear) hf n (f + 1) (by omega) (by omega) (by omega)
      obtain ⟨b1, b2, b3, b4⟩ := bestN_spec (many := many) (wear := wear) hf n (f + l) (by omega) (by omega) (by omega)
      have key : ∀ L, Lot s l f L → (L.map (lackF l wear many)).sum ≤ (bestN s l wear many n (f + 1)).1 ∨ (L.map (lackF l wear many)).sum ≤ (bestN s l wear many n (f + l)).1 + lackF l wear many f := fun L hL => by
        cases L with
        | nil => exact .inl (a3 [] ⟨fun x hx => (by cases hx), .nil⟩)
        | cons x L =>
          have hp := List.pairwise_cons.mp hL.2
          have hx := hL.1 x List.mem_cons_self
          by_cases hxf : x = f
          · subst hxf
            right
            have := b3 L ⟨fun y hy => ⟨hp.1 y hy, (hL.1 y (List.mem_cons_of_mem _ hy)).2⟩, hp.2⟩
            rw [List.map_cons, List.sum_cons]
            omega
          · left
            refine a3 (x :: L) ⟨fun y hy => ?_, hL.2⟩
            rcases List.mem_cons.mp hy with rfl | hy
            · omega
            · have := hp.1 y hy
              have := hL.1 y (List.mem_cons_of_mem _ hy)
              omega
      dsimp only
      by_cases hc : (bestN s l wear many n (f + 1)).1 < (bestN s l wear many n (f + l)).1 + lackF l wear many f
      · rw [if_pos (decide_eq_true hc)]
        refine ⟨⟨fun x hx => ?_, List.pairwise_cons.mpr ⟨fun y hy => (b1.1 y hy).1, b1.2⟩⟩, ?_, fun L hL => ?_, by simp; exact b4⟩
        · rcases List.mem_cons.mp hx with rfl | hx
          · omega
          · have := b1.1 x hx
            omega
        · rw [List.map_cons, List.sum_cons, b2]
          show _ = _ + _
          omega
        · show _ ≤ _ + _
          rcases key L hL with h | h <;> omega
      · rw [if_neg (by simpa using hc)]
        refine ⟨⟨fun x hx => ?_, a1.2⟩, a2, fun L hL => ?_, by omega⟩
        · have := a1.1 x hx
          omega
        · rcases key L hL with h | h <;> omega
    · rw [if_neg (by simpa using hm)]
      have hr : ¬ (1 ≤ f ∧ f < s - l + 2) := fun z => hm (mem_rgI.mpr z)
      refine ⟨⟨fun x hx => (by cases hx), .nil⟩, rfl, fun L hL => ?_, by simp⟩
      cases L with
      | nil => exact Int.le_refl _
      | cons x L =>
        have := hL.1 x List.mem_cons_self
        omega
/-! ### all rows apart -/
def lotStep (l : Int) (lots : List (List Int)) (f : Int) : List (List Int) := lots ++ (lots.filter fun L => fitL l L f).map fun L => L ++ [f]
where fitL (l : Int) (L : List Int) (f : Int) : Bool := match L.getLast? with
  | none => true
  | some x => decide (x + l ≤ f)
def lotsI (s l : Int) : List (List Int) := (rowsI s l).foldl (lotStep l) [[]]
theorem mem_lots_at {l : Int} (hl : 1 ≤ l) : ∀ (r : Nat) (L : List Int), L ∈ (rgI 1 ((r : Int) + 1)).foldl (lotStep l) [[]] ↔ (∀ x ∈ L, 1 ≤ x ∧ x ≤ r) ∧ L.Pairwise fun a b => a + l ≤ b
  | 0, L => by
    rw [rgI_nil (by omega), List.foldl_nil, List.mem_singleton]
    constructor
    · rintro rfl
      exact ⟨fun x hx => (by cases hx), .nil⟩
    · rintro ⟨h1, _⟩
      cases L with
      | nil => rfl
      | cons x L =>
        have := h1 x List.mem_cons_self
        omega
  | r + 1, L => by
    rw [show (((r + 1 : Nat) : Int) + 1) = ((r : Int) + 1) + 1 by omega, rgI_snoc (by omega), List.foldl_append, List.foldl_cons, List.foldl_nil]
    rw [show ∀ lots f, lotStep l lots f = lots ++ (lots.filter fun L => lotStep.fitL l L f).map fun L => L ++ [f] from fun _ _ => rfl, List.mem_append, mem_lots_at hl r, List.mem_map]
    constructor
    · rintro (⟨h1, h2⟩ | ⟨M, hM, rfl⟩)
      · exact ⟨fun x hx => by have := h1 x hx; omega, h2⟩
      · rw [List.mem_filter, mem_lots_at hl r] at hM
        obtain ⟨⟨h1, h2⟩, h3⟩ := hM
        refine ⟨fun x hx => ?_, List.pairwise_append.mpr ⟨h2, List.pairwise_singleton _ _, fun x hx y hy => ?_⟩⟩
        · rcases List.mem_append.mp hx with hx | hx
          · have := h1 x hx
            omega
          · rw [List.mem_singleton.mp hx]
            omega
        · rw [List.mem_singleton.mp hy]
          unfold lotStep.fitL at h3
          cases hg : M.getLast? with
          | none =>
            rw [List.getLast?_eq_none_iff] at hg
            rw [hg] at hx
            cases hx
          | some z =>
            rw [hg] at h3
            have h3' := of_decide_eq_true h3
            obtain ⟨pre, rfl⟩ := List.getLast?_eq_some_iff.mp hg
            rcases List.mem_append.mp hx with hx | hx
            · have := (List.pairwise_append.mp h2).2.2 x hx z (List.mem_singleton.mpr rfl)
              omega
            · rw [List.mem_singleton.mp hx]
              exact h3'
    · rintro ⟨h1, h2⟩
      by_cases hm : ∃ pre, L = pre ++ [(r : Int) + 1]
      · obtain ⟨pre, rfl⟩ := hm
        obtain ⟨p1, _, p3⟩ := List.pairwise_append.mp h2
        refine .inr ⟨pre, List.mem_filter.mpr ⟨(mem_lots_at hl r pre).mpr ⟨fun x hx => ?_, p1⟩, ?_⟩, rfl⟩
        · have := h1 x (List.mem_append_left _ hx)
          have := p3 x hx _ (List.mem_singleton.mpr rfl)
          omega
        · unfold lotStep.fitL
          cases hg : pre.getLast? with
          | none => rfl
          | some z => exact decide_eq_true (p3 z (List.mem_of_getLast? hg) _ (List.mem_singleton.mpr rfl))
      · refine .inl ⟨fun x hx => ⟨(h1 x hx).1, ?_⟩, h2⟩
        have hx2 := (h1 x hx).2
        by_cases hxr : x = (r : Int) + 1
        · exfalso
          subst hxr
          obtain ⟨a, b, rfl⟩ := List.append_of_mem hx
          cases b with
          | nil => exact hm ⟨a, rfl⟩
          | cons y b =>
            have := (List.pairwise_cons.mp (List.pairwise_append.mp h2).2.1).1 y List.mem_cons_self
            have := h1 y (List.mem_append_right _ (List.mem_cons_of_mem _ List.mem_cons_self))
            omega
        · omega
theorem mem_lots {s l : Int} (hf : FlOk s l) {L : List Int} : L ∈ lotsI s l ↔ Lot s l 1 L := by
  unfold lotsI rowsI Lot
  by_cases h : s - l + 1 ≤ 0
  · rw [rgI_nil (by omega), List.foldl_nil, List.mem_singleton]
    constructor
    · rintro rfl
      exact ⟨fun x hx => (by cases hx), .nil⟩
    · rintro ⟨h1, _⟩
      cases L with
      | nil => rfl
      | cons x L =>
        have := h1 x List.mem_cons_self
        omega
  · have := mem_lots_at hf.2.2.1 (s - l + 1).toNat L
    rw [show (((s - l + 1).toNat : Int)) = s - l + 1 by omega, show s - l + 1 + 1 = s - l + 2 by omega] at this
    exact this
theorem lots_len {l : Int} : ∀ (fs : List Int) (lots : List (List Int)), (fs.foldl (lotStep l) lots).length ≤ lots.length * 2 ^ fs.length
  | [], lots => by simp
  | f :: fs, lots => by
    rw [List.foldl_cons, List.length_cons, Nat.pow_succ]
    refine Nat.le_trans (lots_len fs _) ?_
    unfold lotStep
    rw [List.length_append, List.length_map]
    have := List.length_filter_le (fun L => lotStep.fitL l L f) lots
    rw [Nat.mul_comm (2 ^ fs.length), ← Nat.mul_assoc]
    exact Nat.mul_le_mul_right _ (by omega)
theorem lot_len {s l : Int} (hl : 1 ≤ l) : ∀ {L : List Int} {f : Int}, Lot s l f L → (L.length : Int) ≤ max 0 (s - l + 2 - f)
  | [], _, _ => by simp; omega
  | x :: L, f, h => by
    have hp := List.pairwise_cons.mp h.2
    have hx := h.1 x List.mem_cons_self
    have := lot_len hl (L := L) (f := x + 1) ⟨fun y hy => ⟨by have := hp.1 y hy; omega, (h.1 y (List.mem_cons_of_mem _ hy)).2⟩, hp.2⟩
    rw [List.length_cons]
    omega
/-! ### what are rows apart -/
def rowOk (s l : Int) : D → Bool
  | .int i => decide (1 ≤ i ∧ i ≤ 8) && decide (i ∈ rowsI s l)
  | _ => false
theorem rowOk_whole {s l : Int} {d : D} (h : rowOk s l d = true) : isWhole d 1 8 = true := by
  cases d <;> simp only [rowOk] at h <;> try cases h
  rw [Bool.and_eq_true] at h
  exact h.1
def areRows (s l : Int) : D → Bool
  | .tuple ds => (ds.all (rowOk s l)) && ((intsOf ds).zip (intsOf ds).tail).all fun p => decide (p.1 + l ≤ p.2)
  | _ => false
theorem areRows_t {s l : Int} {ds : List D} : areRows s l (.tuple ds) = ((ds.all (rowOk s l)) && ((intsOf ds).zip (intsOf ds).tail).all fun p => decide (p.1 + l ≤ p.2)) := rfl
theorem chain_pairwise {l : Int} (hl : 0 ≤ l) : ∀ L : List Int, ((L.zip L.tail).all fun p => decide (p.1 + l ≤ p.2)) = true ↔ L.Pairwise fun a b => a + l ≤ b
  | [] => by simp
  | [x] => by simp
  | x :: y :: L => by
    show (decide (x + l ≤ y) && (((y :: L).zip L).all fun p => decide (p.1 + l ≤ p.2))) = true ↔ _
    rw [Bool.and_eq_true, decide_eq_true_eq]
    have ih := chain_pairwise hl (y :: L)
    have ih' : (((y :: L).zip L).all fun p => decide (p.1 + l ≤ p.2)) = true ↔ (y :: L).Pairwise fun a b => a + l ≤ b := ih
    rw [ih', List.pairwise_cons (a := x)]
    constructor
    · rintro ⟨h1, h2⟩
      refine ⟨fun z hz => ?_, h2⟩
      rcases List.mem_cons.mp hz with rfl | hz
      · exact h1
      · have := (List.pairwise_cons.mp h2).1 z hz
        omega
    · rintro ⟨h1, h2⟩
      exact ⟨h1 y List.mem_cons_self, h2⟩
theorem areRows_lot {s l : Int} (hf : FlOk s l) (L : List Int) : areRows s l (tI L) = true ↔ Lot s l 1 L := by
  obtain ⟨f1, f2, f3, f4⟩ := id hf
  unfold areRows
  rw [Bool.and_eq_true, intsOf_int, chain_pairwise (by omega), List.all_map, List.all_eq_true]
  unfold Lot
  refine and_congr_left' ?_
  constructor
  · intro h x hx
    have := h x hx
    simp only [Function.comp_apply, rowOk, Bool.and_eq_true, decide_eq_true_eq] at this
    have := mem_rgI.mp this.2
    omega
  · intro h x hx
    have := h x hx
    simp only [Function.comp_apply, Bool.and_eq_true, decide_eq_true_eq, rowOk]
    exact ⟨by omega, mem_rgI.mpr (by omega)⟩
theorem areRows_inv {s l : Int} {d : D} (h : areRows s l d = true) : ∃ L, d = tI L := by
  cases d <;> simp only [areRows] at h <;> try cases h
  rename_i ds
  rw [Bool.and_eq_true] at h
  refine ⟨intsOf ds, ?_⟩
  have : (ds.all fun x => isWhole x 1 8) = true := by
    rw [List.all_eq_true] at h ⊢
    intro x hx
    exact rowOk_whole (h.1 x hx)
  exact congrArg PyData.tuple (ints_of_whole this)
/-! ### the least of pairs -/
def rkLt (p q : Int × List Int) : Bool := decide (p.1 < q.1) || (decide (p.1 = q.1) && decide (p.2 < q.2))
abbrev encR (p : Int × List Int) : D := .tuple [.int p.1, tI p.2]
theorem rkLt_data (p q : Int × List Int) : PySem.W.dataLt (encR p) (encR q) = rkLt p q := by
  show PySem.W.dataLt (.tuple [.int p.1, tI p.2]) (.tuple [.int q.1, tI q.2]) = _
  have a1 : PySem.W.alike (.int p.1) (.int q.1) = true := rfl
  have a2 : PySem.W.alike (tI p.2) (tI q.2) = true := by rw [PySem.W.alike]; exact PySem.W.alike_ints _ _
  rw [PySem.W.dataLt_pair a1 a2]
  have e1 : PyData.eqv (.int p.1) (.int q.1) = decide (p.1 = q.1) := by by_cases h : p.1 = q.1 <;> simp [PyData.eqv, h]
  have e2 : PyData.eqv (tI p.2) (tI q.2) = decide (p.2 = q.2) := by rw [PyData.eqv, eqvAll_I]
  have e3 : PySem.W.dataLt (tI p.2) (tI q.2) = decide (p.2 < q.2) := by
    show PySem.W.dataLt (.tuple (p.2.map .int)) (.tuple (q.2.map .int)) = _
    rw [PySem.W.dataLt_tuple]
    show PySem.W.rowLt (p.2.map .int) (q.2.map .int) = _
    rw [PySem.W.dataLt_ints]
  have e4 : PySem.W.dataLt (.int p.1) (.int q.1) = decide (p.1 < q.1) := PySem.W.dataLt_int _ _
  rw [e1, e2, e3, e4]
  unfold rkLt
  by_cases h1 : p.1 = q.1
  · by_cases h2 : p.2 = q.2
    · have : ¬ q.2 < q.2 := List.lt_irrefl _
      simp [h1, h2, this]
    · simp [h1, h2]
  · simp [h1]
theorem rkLt_iff {p q : Int × List Int} : rkLt p q = true ↔ p.1 < q.1 ∨ (p.1 = q.1 ∧ p.2 < q.2) := by
  unfold rkLt
  simp
theorem rkLt_trans {p q r : Int × List Int} (h1 : rkLt p q = true) (h2 : rkLt q r = true) : rkLt p r = true := by
  rw [rkLt_iff] at h1 h2 ⊢
  rcases h1 with h1 | ⟨h1, h1'⟩ <;> rcases h2 with h2 | ⟨h2, h2'⟩
  · exact .inl (by omega)
  · exact .inl (by omega)
  · exact .inl (by omega)
  · exact .inr ⟨by omega, List.lt_trans h1' h2'⟩
theorem rkLt_irrefl (p : Int × List Int) : rkLt p p = false := by
  rw [Bool.eq_false_iff]
  intro h
  rcases rkLt_iff.mp h with h | ⟨_, h⟩
  · omega
  · exact List.lt_irrefl _ h
def minR (p : Int × List Int) (ps : List (Int × List Int)) : Int × List Int := ps.foldl (fun a y => if rkLt y a = true then y else a) p
theorem minD_R (p : Int × List Int) (ps : List (Int × List Int)) : PySem.W.minD (encR p) (ps.map encR) = encR (minR p ps) := by
  unfold PySem.W.minD minR
  induction ps generalizing p with
  | nil => rfl
  | cons y ps ih =>
    rw [List.map_cons, List.foldl_cons, List.foldl_cons, rkLt_data]
    by_cases h : rkLt y p = true
    · rw [if_pos h, if_pos h]
      exact ih y
    · rw [if_neg h, if_neg h]
      exact ih p
theorem minR_spec (p : Int × List Int) (ps : List (Int × List Int)) : minR p ps ∈ p :: ps ∧ ∀ q ∈ p :: ps, rkLt q (minR p ps) = false := by
  unfold minR
  induction ps generalizing p with
  | nil => exact ⟨List.mem_cons_self, fun q hq => by rw [List.mem_singleton.mp hq]; exact rkLt_irrefl p⟩
  | cons y ps ih =>
    rw [List.foldl_cons]
    by_cases h : rkLt y p = true
    · rw [if_pos h]
      obtain ⟨i1, i2⟩ := ih y
      refine ⟨List.mem_cons_of_mem _ i1, fun q hq => ?_⟩
      rcases List.mem_cons.mp hq with rfl | hq
      · rw [Bool.eq_false_iff]
        intro z
        have := i2 y List.mem_cons_self
        rw [rkLt_trans h z] at this
        cases this
      · exact i2 q hq
    · rw [if_neg h]
      obtain ⟨i1, i2⟩ := ih p
      refine ⟨?_, fun q hq => ?_⟩
      · rcases List.mem_cons.mp i1 with i1 | i1
        · rw [i1]
          exact List.mem_cons_self
        · exact List.mem_cons_of_mem _ (List.mem_cons_of_mem _ i1)
      · rcases List.mem_cons.mp hq with rfl | hq
        · exact i2 q List.mem_cons_self
        · rcases List.mem_cons.mp hq with hq | hq
          · -- q = y, no less than p
            rw [hq, Bool.eq_false_iff]
            intro z
            rcases List.mem_cons.mp i1 with e | i3
            · rw [e] at z
              exact h z
            · -- the least is below p
              have hp := i2 p List.mem_cons_self
              rcases rkLt_iff.mp z with z1 | ⟨z1, z2⟩
              · apply h
                rw [Bool.eq_false_iff, ne_eq, rkLt_iff] at hp
                apply rkLt_iff.mpr
                by_cases c : y.1 < p.1
                · exact .inl c
                · exfalso
                  apply hp
                  exact .inl (by omega)
              · apply h
                rw [Bool.eq_false_iff, ne_eq, rkLt_iff] at hp
                apply rkLt_iff.mpr
                by_cases c : y.1 < p.1
                · exact .inl c
                · by_cases c2 : y.1 = p.1
                  · right
                    refine ⟨c2, ?_⟩
                    apply Classical.byContradiction
                    intro c3
                    apply hp
                    exact .inr ⟨by omega, List.lt_of_le_of_lt (List.not_lt.mp c3) z2⟩
                  · exfalso
                    apply hp
                    exact .inl (by omega)
          · exact i2 q (List.mem_cons_of_mem _ hq)
theorem alike_R (ps : List (Int × List Int)) : PySem.W.AlikeAll (ps.map encR) := ⟨fun x hx y hy => by
  obtain ⟨a, _, rfl⟩ := List.mem_map.mp hx
  obtain ⟨b, _, rfl⟩ := List.mem_map.mp hy
  show PySem.W.alike (.tuple [.int a.1, tI a.2]) (.tuple [.int b.1, tI b.2]) = true
  rw [PySem.W.alike, PySem.W.alikeAll, PySem.W.alikeAll, PySem.W.alikeAll, PySem.W.alike, PySem.W.alike, PySem.W.alike_ints]
  rfl, fun x hx => by
  obtain ⟨a, _, rfl⟩ := List.mem_map.mp hx
  exact fun z => nomatch z⟩
theorem depth_R : ∀ ps : List (Int × List Int), PyData.depthAll (ps.map encR) ≤ 2
  | [] => by decide
  | p :: ps => by
    show max (max 0 (max (PyData.depthAll (p.2.map .int) + 1) 0) + 1) (PyData.depthAll (ps.map encR)) ≤ 2
    rw [depth_ints]
    have := depth_R ps
    omega
theorem near_min {s l many : Int} {wear : List Int} (hf : FlOk s l) (hs : (wear.length : Int) = s) (m0 : 0 ≤ many) (h0 : ∀ i, i < wear.length → 0 ≤ at0 wear i) {p : Int × List Int} {ps : List (Int × List Int)} (h1 : ∀ q ∈ p :: ps, q.1 = farI wear q.2 ∧ (q.2.length : Int) = s ∧ Mk s l q.2 many) (h2 : (farI wear (nearI s l wear many), nearI s l wear many) ∈ p :: ps) : minR p ps = (farI wear (nearI s l wear many), nearI s l wear many) := by
  obtain ⟨i1, i2⟩ := minR_spec p ps
  obtain ⟨q1, q2, q3⟩ := h1 _ i1
  have hl := near_least hf hs m0 h0 q2 q3
  have hn := i2 _ h2
  rw [Bool.eq_false_iff, ne_eq, rkLt_iff] at hn
  rw [← q1] at hl
  rcases hl with hl | ⟨hl, hle⟩
  · exact absurd (.inl hl) hn
  · have : ¬ nearI s l wear many < (minR p ps).2 := fun z => hn (.inr ⟨hl, z⟩)
    exact Prod.ext hl.symm (List.le_antisymm (List.not_lt.mp this) hle)
theorem max_is {n v : Int} {ns : List Int} (h1 : v ∈ n :: ns) (h2 : ∀ x ∈ n :: ns, x ≤ v) : ns.foldl max n = v := by
  obtain ⟨a, b⟩ := foldl_max_ge (n := n) (ns := ns)
  have c := foldl_max_le (m := v) (h2 n List.mem_cons_self) fun x hx => h2 x (List.mem_cons_of_mem _ hx)
  rcases List.mem_cons.mp h1 with rfl | h1
  · omega
  · have := b v h1
    omega
theorem absI_zero {i : Int} : absI i = 0 ↔ i = 0 := by
  unfold absI
  split <;> omega
theorem far_zero {s l many : Int} {wear : List Int} (hf : FlOk s l) (hs : (wear.length : Int) = s) (m0 : 0 ≤ many) (h0 : ∀ i, i < wear.length → 0 ≤ at0 wear i) : decide (farI wear (nearI s l wear many) = 0) = doMake s l wear many := by
  have I := near_all (many := many) hf hs m0 h0
  rw [Bool.eq_iff_iff, decide_eq_true_eq, doMake_iff hs]
  constructor
  · intro h
    rw [far_rs (by have := I.len; omega)] at h
    have t := rs_tight (g := fun _ => 0) (h := fun i => absI (at0 wear i - at0 (nearI s l wear many) i)) (a := 0) (n := wear.length) (fun j _ => by
      show 0 ≤ absI _
      unfold absI
      split <;> omega) (by
      rw [h]
      exact rs_nonneg fun _ _ => Int.le_refl _)
    have e : wear = nearI s l wear many := List.ext_getElem (by have := I.len; omega) fun i q1 q2 => by
      have := t i q1
      rw [Nat.zero_add] at this
      have := absI_zero.mp this.symm
      rw [at0_get q1, at0_get q2] at this
      omega
    rw [e]
    exact near_mk hf hs m0 h0
  · intro h
    have hw : farI wear wear = 0 := by
      rw [far_rs rfl]
      have : ∀ n, rs (fun i => absI (at0 wear i - at0 wear i)) 0 n = 0 := fun n => by
        induction n with
        | zero => rfl
        | succ n ih =>
          rw [rs_succ, ih]
          show 0 + absI _ = 0
          rw [Int.sub_self]
          rfl
      exact this _
    have hn : 0 ≤ farI wear (nearI s l wear many) := by
      rw [far_rs (by have := I.len; omega)]
      exact rs_nonneg fun j _ => by
        show 0 ≤ absI _
        unfold absI
        split <;> omega
    rcases near_least hf hs m0 h0 hs h with z | ⟨z, _⟩ <;> omega
theorem mem_even {s : Nat} {many : Int} {v : List Int} : v ∈ prodW (List.replicate s ((0 : Int), many)) [[]] ↔ v.length = s ∧ ∀ i, i < v.length → 0 ≤ at0 v i ∧ at0 v i ≤ many := by
  rw [mem_prodW]
  constructor
  · rintro ⟨row, hr, t, ht, rfl, hp⟩
    rw [List.mem_singleton.mp hr, List.nil_append]
    rw [List.length_replicate] at ht
    refine ⟨ht, fun i hi => hp i (0, many) ?_⟩
    rw [List.getElem?_replicate, if_pos (by omega)]
  · rintro ⟨h1, h2⟩
    refine ⟨[], List.mem_singleton.mpr rfl, v, by rw [List.length_replicate]; exact h1, rfl, fun i p hp => ?_⟩
    rw [List.getElem?_replicate] at hp
    split at hp
    · cases hp
      exact h2 i (by omega)
    · cases hp
theorem filt_above (wear : List Int) (many : Int) : ((wear.filter fun x => decide (many < x)).map fun x => x - many).sum = aboveS wear many := by
  unfold aboveS
  induction wear with
  | nil => rfl
  | cons x wear ih =>
    rw [List.map_cons, List.sum_cons, ← ih]
    unfold addI
    by_cases hx : many < x
    · rw [List.filter_cons_of_pos (by simpa using hx), List.map_cons, List.sum_cons, if_pos (by omega)]
    · rw [List.filter_cons_of_neg (by simpa using hx), if_neg (by omega)]
      omega
theorem gEq_t0 {ns : List Int} {Q : D → Prop} : gEq (tI ns) (.tuple []) Q ↔ Q (.bool (decide (ns = []))) := gEq_tt (i := ns) (j := [])
theorem any_W (w : List Int) (ws : List (List Int)) : ((ws.map tI).any fun z => PyData.eqv z (tI w)) = decide (w ∈ ws) := by
  rw [List.any_map, Bool.eq_iff_iff, List.any_eq_true, decide_eq_true_eq]
  constructor
  · rintro ⟨x, hx, e⟩
    have e' : PyData.eqv (tI x) (tI w) = true := e
    rw [PyData.eqv, eqvAll_I, decide_eq_true_eq] at e'
    exact e' ▸ hx
  · intro h
    refine ⟨w, h, ?_⟩
    show PyData.eqv (tI w) (tI w) = true
    rw [PyData.eqv, eqvAll_I]
    simp
theorem near_wr {s l many : Int} {wear : List Int} (hf : FlOk s l) (hs : (wear.length : Int) = s) (m0 : 0 ≤ many) (m9 : many ≤ 9) (h0 : ∀ i, i < wear.length → 0 ≤ at0 wear i) : WrOk s (nearI s l wear many) := by
  have I := near_all (many := many) hf hs m0 h0
  have hl := I.len
  refine ⟨I.len, fun x hx => ?_⟩
  obtain ⟨i, hi, rfl⟩ := List.getElem_of_mem hx
  have a := I.low i hi
  have b := I.top i hi
  rw [at0_tops (by omega), at0_get hi] at a
  rw [at0_get hi] at b
  have := h0 i (by omega)
  omega
theorem areRows_bad {s l : Int} (hf : FlOk s l) : ∀ d ∈ [PyData.none, .int 5, .list [], .tuple [.int 0], .tuple [.int (s - l + 2)], .tuple [.int 1, .int 1], .tuple [.bool true], .tuple [.none], .tuple [.int 2, .int 1], .str "1"], areRows s l d = false ∧ short d := by
  obtain ⟨f1, f2, f3, f4⟩ := id hf
  have key : ∀ L : List Int, ¬ Lot s l 1 L → areRows s l (tI L) = false := fun L h => by
    rw [Bool.eq_false_iff]
    intro z
    exact h ((areRows_lot hf L).mp z)
  intro d hd
  simp only [List.mem_cons, List.not_mem_nil, or_false] at hd
  rcases hd with rfl | rfl | rfl | rfl | rfl | rfl | rfl | rfl | rfl | rfl
  · exact ⟨rfl, trivial⟩
  · exact ⟨rfl, trivial⟩
  · exact ⟨rfl, by simp [short]⟩
  · refine ⟨key [0] fun h => ?_, by simp [short]⟩
    have := h.1 0 List.mem_cons_self
    omega
  · refine ⟨key [s - l + 2] fun h => ?_, by simp [short]⟩
    have := h.1 _ List.mem_cons_self
    omega
  · refine ⟨key [1, 1] fun h => ?_, by simp [short]⟩
    have := (List.pairwise_cons.mp h.2).1 1 List.mem_cons_self
    omega
  · exact ⟨rfl, by simp [short]⟩
  · exact ⟨rfl, by simp [short]⟩
  · refine ⟨key [2, 1] fun h => ?_, by simp [short]⟩
    have := (List.pairwise_cons.mp h.2).1 1 List.mem_cons_self
    omega
  · exact ⟨rfl, trivial⟩
end SD

namespace SD
open PySem PySem.Spec PyProof.Rows L2 PySem.W
/-! ### sorted(set(xs)), xs a list of tuples of ints -/
abbrev AK := Addr × List Int
def encA (q : AK) : D := tI q.2
theorem depthI0 : ∀ ns : List Int, PyData.depthAll (ns.map .int) = 0
  | [] => rfl
  | n :: ns => by
    show max 0 (PyData.depthAll (ns.map .int)) = 0
    rw [depthI0 ns]
    rfl
def sortA (L : List AK) : List AK := L.mergeSort (PySem.W.dataLe false encA)
theorem each_refs : ∀ L : List AK, EachIs (fun u (q : AK) => u = Value.ref q.1) (L.map fun q => Value.ref q.1) L
  | [] => .nil
  | _ :: L => .cons rfl (each_refs L)
theorem refs_each : ∀ {us : List Value} {L : List AK}, EachIs (fun u (q : AK) => u = Value.ref q.1) us L → us = L.map fun q => Value.ref q.1
  | _, _, .nil => rfl
  | _, _, .cons h t => by rw [h, refs_each t]; rfl
/-- values that are the places of rows: rows in this order -/
theorem rows_of_vals {L : List AK} : ∀ {vs : List Value}, (∀ v ∈ vs, ∃ q ∈ L, v = Value.ref q.1) → ∃ M : List AK, vs = M.map (fun q => Value.ref q.1) ∧ ∀ q ∈ M, q ∈ L
  | [], _ => ⟨[], rfl, fun _ h => nomatch h⟩
  | v :: vs, h => by
    obtain ⟨q, hq, rfl⟩ := h v List.mem_cons_self
    obtain ⟨M, rfl, hM⟩ := rows_of_vals fun u hu => h u (List.mem_cons_of_mem _ hu)
    exact ⟨q :: M, rfl, fun r hr => (List.mem_cons.mp hr).elim (fun z => z ▸ hq) (hM r)⟩
def rSortSet (K : PySem.W.Frag) (P : Program) (w : World) : List V → Hp → VK → Prop := fun vs H Q => ∃ (a : Addr) (L : List AK), vs = [V.ref a] ∧ H a = some (SetTO P w a L) ∧ (∀ q ∈ L, SqT K H q.1 (q.2.map V.int)) ∧
  ∀ (M : List AK) (p : Addr), (∀ q, q ∈ M ↔ q ∈ L) → (M.map (·.2)).Nodup → H p = none → Q (.ref p) (upd H p (.lst ((sortA M).map fun q => V.ref q.1)))
theorem vals_refsA : ∀ L : List AK, Vals (L.map fun q => V.ref q.1) (L.map fun q => Value.ref q.1)
  | [] => .nil
  | _ :: L => .cons rfl (vals_refsA L)
theorem each_mem {α β : Type} {R R' : α → β → Prop} : ∀ {as : List α} {bs : List β}, EachIs R as bs → (∀ a b, a ∈ as → b ∈ bs → R a b → R' a b) → EachIs R' as bs
  | _, _, .nil, _ => .nil
  | _, _, .cons h t, k => .cons (k _ _ List.mem_cons_self List.mem_cons_self h) (each_mem t fun a b ha hb => k a b (List.mem_cons_of_mem _ ha) (List.mem_cons_of_mem _ hb))
theorem cr_sortSet {X : Cx} {k : Nat} (hc : X.calm = true) (hr : Room k X.A) : CallR X (.builtin "sorted") (rSortSet X.K X.prog X.w) := by
  intro pins s σ H vs us Q I r h
  obtain ⟨a, L, rfl, ha, hk, q⟩ := h
  rw [Vals.ref1 r]
  have R0 : SetT0 X.prog X.w s.heap a L := (I.hok a _ ha).1
  obtain ⟨es, ep, t, R⟩ := R0.full fun p hp => I.isT (hk p hp)
  obtain ⟨o, ho, hex, hd⟩ := R.ob
  have hrows : es.toList.map (·.2) = L.map fun q => Value.ref q.1 := by
    have := congrArg (List.map Prod.snd) R.rows
    unfold L2.rowsOf at this
    rw [List.map_map] at this
    exact this
  -- a place has one key
  have one : ∀ q ∈ L, ∀ r ∈ L, q.1 = r.1 → q = r := fun q hq r hr e => Prod.ext e ((e ▸ R.tup q hq : IsT X.prog X.w s.heap q.2 r.1).inj (R.tup r hr))
  have rd : ∀ q ∈ L, ∃ as, Reads s.heap (.ref q.1) (encA q) as := fun q hq => by
    have dp : Dp X.K H (.ref q.1) (tI q.2) := .tup (hk q hq) (RpL.dp (F := H) (fun _ _ z => z) (RpL.ofInts q.2))
    obtain ⟨as, rr⟩ := Dp.readsAll I [tI q.2] [.ref q.1] [.ref q.1] (.cons dp .nil) (.cons rfl .nil)
    cases rr with
    | cons h t => exact ⟨_, h⟩
  refine Calls.call_function_entry kind_sorted plain_sorted entry_sorted (args_sorted1 _) ?_
  unfold Builtin.«sorted»
  refine wpAny_bind (m := checkCount "sorted" 1 1 _) (wpAny_pure ?_)
  have hfew := R.few
  have hsz := R.size
  refine wpAny_bind (collect_set (A := X.A.in1) (I.ok.hd hc) ⟨o, ho, hex.1, hd⟩ R.fits (by unfold scanBound; omega) R.tab.ris R.led fun s1 vs k1 hz g1 o1 pm => ?_)
  rw [hrows] at pm
  obtain ⟨M, rfl, hM⟩ := rows_of_vals (L := L) (vs := vs) fun v hv => by
    obtain ⟨q, hq, e⟩ := List.mem_map.mp (pm.mem_iff.mp hv)
    exact ⟨q, hq, e.symm⟩
  have hmem : ∀ q, q ∈ M ↔ q ∈ L := fun q => ⟨hM q, fun hq => by
    obtain ⟨r, hr, e⟩ := List.mem_map.mp (pm.mem_iff.mpr (List.mem_map.mpr ⟨q, hq, rfl⟩))
    injection e with e
    exact one r (hM r hr) q hq e ▸ hr⟩
  have hnd : (M.map (·.2)).Nodup := by
    have n1 : (L.map fun q => Value.ref q.1).Nodup := by
      refine List.pairwise_map.mpr (List.Pairwise.imp_of_mem (fun {x y} hx hy hne e => ?_) (List.pairwise_map.mp R.nd))
      injection e with e
      exact hne (congrArg Prod.snd (one x hx y hy e))
    have n2 : (M.map fun q => Value.ref q.1).Nodup := pm.nodup_iff.mpr n1
    refine List.pairwise_map.mpr (List.Pairwise.imp_of_mem (fun {x y} hx hy hne e => ?_) (List.pairwise_map.mp n2))
    have : x = y := by
      have ex := hM x hx
      have ey := hM y hy
      exact nodup_map_inj R.nd ex ey e
    exact hne (by rw [this])
  have hlen : (M.map fun q => Value.ref q.1).length ≤ sizeLine := by
    rw [pm.length_eq, List.length_map, sizeLine_eq]
    omega
  refine wpAny_bind (wpAny_newList ?_ hlen)
  generalize hnew : s1.heap.push (seqObj "list" (M.map fun q => Value.ref q.1).toArray 0) = h2
  have hget : h2.get? s1.heap.objs.size = some (seqObj "list" (M.map fun q => Value.ref q.1).toArray 0) := by rw [← hnew]; exact Heap.get?_push_size _ rfl
  have k2 : ∀ b u, s.heap.get? b = some u → h2.get? b = some u := fun b u e => by rw [← hnew]; exact Heap.get?_push_of_some _ (k1 b u e)
  have hne : ∀ b u, s.heap.get? b = some u → b ≠ s1.heap.objs.size := fun b u e => Nat.ne_of_lt (Heap.lt_size (k1 b u e))
  refine wpAny_bind (wpAny_holding (wpAny_call_entry slot_list_sort ⟨_, hget, rfl⟩ entry_list_sort ?_ (args_list_sort _)))
  show wpAny _ X.A.in1.in1 (Builtin.«list.sort» ⟨[.ref s1.heap.objs.size], []⟩) _ _ { s1 with heap := h2 }
  have hal : PySem.W.AllAlike (M.map encA) := PySem.W.AllAlike.of fun x y => by
    show PySem.W.alike (.tuple (x.2.map .int)) (.tuple (y.2.map .int)) = true
    rw [PySem.W.alike]
    exact PySem.W.alike_ints _ _
  have eS : EachIs (fun v (q : AK) => ∃ as, Reads (PySem.W.sortingHeap h2 s1.heap.objs.size (M.map fun q => Value.ref q.1)) v (encA q) as) (M.map fun q => Value.ref q.1) M := each_mem (each_refs M) fun v q _ hq e => by
    subst e
    obtain ⟨as, rr⟩ := rd q (hM q hq)
    refine ⟨as, PyProof.Rows.Reads.keeps (fun b u e => PySem.W.sortingHeap_old (hne b u e) (k2 b u e)) rr⟩
  have dp1 : ∀ d, d ∈ M.map encA → d.depth ≤ 1 := fun d hd => by
    obtain ⟨x, _, rfl⟩ := List.mem_map.mp hd
    show PyData.depthAll (x.2.map .int) + 1 ≤ 1
    rw [depthI0]
    exact Nat.le_refl _
  have S := sortsAt_any (prog := X.prog) (w := X.w) (A := X.A.in1.in1) (s := { s1 with heap := PySem.W.sortingHeap h2 s1.heap.objs.size (M.map fun q => Value.ref q.1) }) (PySem.W.each_map (R := fun v d => ∃ as, Reads (PySem.W.sortingHeap h2 s1.heap.objs.size (M.map fun q => Value.ref q.1)) v d as) encA eS) hal (fun d hd => by
      obtain ⟨x, _, rfl⟩ := List.mem_map.mp hd
      exact fun z => nomatch z) (fun d hd => by
      have := dp1 d hd
      have := hr.un
      show X.A.units + 2 + d.depth < cLine
      omega)
  refine PySem.W.list_sort_vals (s := { s1 with heap := h2 }) hget S hlen ?_
  have eout := refs_each (PySem.W.sortVals_data (R := fun u (q : AK) => u = Value.ref q.1) (enc := encA) false (each_refs M) eS hal)
  rw [eout]
  obtain ⟨ep', hat⟩ := sortedHeap_at (out := (((M.mergeSort (PySem.W.dataLe false encA)).map fun q => Value.ref q.1)).toArray) hget
  refine ⟨_, rfl, wpAny_pure ⟨_, rfl, ?_⟩⟩
  have hp : s.heap.objs.size ≤ s1.heap.objs.size := hz
  have hn : H s1.heap.objs.size = none := I.hok.fresh hp
  have kk : ∀ b u, s.heap.get? b = some u → (sortedHeap h2 s1.heap.objs.size (M.map fun q => Value.ref q.1) (((M.mergeSort (PySem.W.dataLe false encA)).map fun q => Value.ref q.1)).toArray).get? b = some u := fun b u e => by
    rw [sortedHeap_old (hne b u e) (Heap.lt_size (k2 b u e))]
    exact k2 b u e
  have hl2 : ((sortA M).map fun q => V.ref q.1).length ≤ sizeLine := by
    unfold sortA
    rw [List.length_map, List.length_mergeSort]
    rw [List.length_map] at hlen
    exact hlen
  have J : Inv X pins σ (upd H s1.heap.objs.size (.lst ((sortA M).map fun q => V.ref q.1))) { s1 with heap := sortedHeap h2 s1.heap.objs.size (M.map fun q => Value.ref q.1) (((M.mergeSort (PySem.W.dataLe false encA)).map fun q => Value.ref q.1)).toArray } :=
    I.call' (ch := []) o1 (Un.laid kk hp hn) (I.hok.laid kk hp ⟨hl2, _, ep', by simpa [sortA] using vals_refsA (sortA M), hat⟩) (by rw [g1]; exact I.bare) (fun _ z => nomatch z)
  exact ⟨.ref _, _, J, rfl, q M _ hmem hnd hn⟩
theorem bt_set : bootBuiltins "set" = some (.type "set") := by decide +kernel
/-- the sorted row of unlike tuples -/
theorem rp_tups {F : Hp} : ∀ {xs : List V} {ns : List (List Int)}, RpL F xs (ns.map tI) → ∃ ks : List AK, xs = ks.map (fun q => V.ref q.1) ∧ ks.map (·.2) = ns ∧ ∀ q ∈ ks, F q.1 = some (.tup (q.2.map V.int))
  | xs, [], h => by
    have h' : RpL F xs [] := h
    cases h'
    exact ⟨[], rfl, rfl, fun _ h => nomatch h⟩
  | xs, n :: ns, h => by
    have h' : RpL F xs (tI n :: ns.map tI) := h
    cases h' with
    | cons h1 h2 =>
      obtain ⟨ks, rfl, e, hk⟩ := rp_tups h2
      cases h1 with
      | @tup a ys _ g r =>
        have e2 := r.ints
        subst e2
        exact ⟨(a, n) :: ks, rfl, by rw [List.map_cons, e], fun q hq => (List.mem_cons.mp hq).elim (fun z => by rw [z]; exact g) (hk q)⟩
theorem rpl_refs {F : Hp} : ∀ {M : List AK}, (∀ q ∈ M, F q.1 = some (.tup (q.2.map V.int))) → RpL F (M.map fun q => V.ref q.1) (M.map encA)
  | [], _ => .nil
  | q :: M, h => .cons (.tup (h q List.mem_cons_self) (RpL.ofInts q.2)) (rpl_refs fun r hr => h r (List.mem_cons_of_mem _ hr))
/-- what sorted(set(..)) may tell: each once, rising -/
def SetOf (ns out : List (List Int)) : Prop := (∀ x, x ∈ out ↔ x ∈ ns) ∧ out.Nodup ∧ ∃ m : List (List Int), out.map tI = sortD (m.map tI)
@[simp] def wSS (wa : WE) : WA := fun env Q E => wa env (fun d => ∃ ns : List (List Int), d = .list (ns.map tI) ∧ ns.length < 64 ∧ ∀ out, SetOf ns out → Q (out.map tI)) E
theorem l_sortSet {X : Cx} {c : Ctx} {a : Expr} {wa : WE} {pos : Pos} {k : Nat} {p p2 pos2 : Pos} (gd : Good X c) (hr : Room k X.A) (hm : X.mg "sorted" = none) (hm2 : X.mg "set" = none) (ha : DE X c a wa) (hg : Gl X "sorted" := by rfl) (hg2 : Gl X "set" := by rfl) (he : starEach [a] X.env = (false, eval a X.env) :: starEach [] X.env := by rfl)
    (he2 : starEach [.Call (.Name "set" p2) [a] [] pos2] X.env = (false, eval (.Call (.Name "set" p2) [a] [] pos2) X.env) :: starEach [] X.env := by rfl) : DL X c (.Call (.Name "sorted" p) [.Call (.Name "set" p2) [a] [] pos2] [] pos) (wSS wa) := by
  refine PE.imp (pe_callB (cr_sortSet gd.calm hr) hg hm bt_sorted (pa_cons (pe_callTy (cr_setOfT gd.calm (by have := hr.un; omega)) hg2 hm2 bt_set (pa_cons ha pa_nil he) (by decide) (by decide) he) pa_nil he2) (by decide) (by decide) he2) ?_
  rintro σ H Q ⟨O, F, env, QD, QE, vw, sl, hw, hq, hE⟩
  refine ⟨O, F, env, _, QE, vw, sl, hw, fun d hd F1 H1 v v1 s1 r1 => ?_, hE⟩
  obtain ⟨ns, rfl, h64, hQ⟩ := hd
  cases r1 with
  | @lst l xs _ g1 t1 =>
    obtain ⟨ks, rfl, e, hk⟩ := rp_tups t1
    refine ⟨l, ks, rfl, SqL.of (v1.frz _ _ g1), fun q hq => SqT.of (v1.frz _ _ (hk q hq)), by rw [← e, List.length_map] at h64; exact h64, fun a L na hL hall => ?_⟩
    have v2 := v1.layO (o := SetTO X.prog X.w a L) na
    have s2 : Stp O F1 H1 F1 (upd H1 a (SetTO X.prog X.w a L)) := Stp.layO na
    refine ⟨a, L, rfl, upd_same, fun q hq => SqT.of (v2.frz _ _ (hk q (hL q hq))), fun M p hM hnd np => ?_⟩
    have hMk : ∀ q ∈ sortA M, F1 q.1 = some (.tup (q.2.map V.int)) := fun q hq => hk q (hL q ((hM q).mp ((List.mergeSort_perm _ _).mem_iff.mp hq)))
    have so : SetOf ns ((sortA M).map (·.2)) := by
      refine ⟨fun x => ?_, ?_, ?_⟩
      · rw [← e]
        constructor
        · intro hx
          obtain ⟨q, hq, rfl⟩ := List.mem_map.mp hx
          exact List.mem_map.mpr ⟨q, hL q ((hM q).mp ((List.mergeSort_perm _ _).mem_iff.mp hq)), rfl⟩
        · intro hx
          obtain ⟨q, hq, rfl⟩ := List.mem_map.mp hx
          obtain ⟨r, hr, er⟩ := List.mem_map.mp (hall q hq)
          exact List.mem_map.mpr ⟨r, (List.mergeSort_perm _ _).mem_iff.mpr ((hM r).mpr hr), er⟩
      · exact ((List.mergeSort_perm M (dataLe false encA)).map (·.2)).nodup_iff.mpr hnd
      · refine ⟨M.map (·.2), ?_⟩
        rw [List.map_map, List.map_map]
        show (sortA M).map encA = sortD (M.map encA)
        exact List.map_mergeSort (r := dataLe false encA) (s := dataLe false id) (f := encA) (l := M) (fun a _ b _ => rfl)
    have step : Stp O F H F1 (upd H1 a (SetTO X.prog X.w a L)) := s1.trans s2 v2
    have fin := lay_own (Q := Q) (QD := QD) v2 (rpl_refs hMk) (ds := (sortA M).map encA) (by
      have := hQ _ so
      rw [List.map_map] at this
      exact this) (fun ds hd F3 H3 p3 xs v3 s3 n1 n2 n3 r3 => hq ds hd F3 H3 p3 xs v3 (step.trans s3 v3) (step.back n1) n2 n3 r3) np
    exact fin
end SD

namespace SD
open PySem PySem.Spec PyProof.Rows L2
/-! ### x[q], y[q], z = a, b, c -/
@[simp] def wsPut3 (i j k q : Nat) (w1 w2 w3 : WE) : WS := fun env C => ∃ ds es m n n', env[i]? = some (.own ds) ∧ env[j]? = some (.own es) ∧ env[q]? = some (.dat (.int m)) ∧ ixN ds.length m = some n ∧ ixN es.length m = some n' ∧
  wTup (waCons w1 (waCons w2 (waCons w3 waNil))) (vwE env) (fun d => ∃ d1 d2 d3, d = .tuple [d1, d2, d3] ∧ nolist d1 = true ∧ nolist d2 = true ∧ nolist d3 = true ∧ C.nx (((env.set i (.own (ds.set n d1))).set j (.own (es.set n' d2))).set k (.dat d3))) C.ex
theorem s_put3 {X : Cx} {c : Ctx} {a1 a2 a3 : Expr} {w1 w2 w3 : WE} {pos : Pos} {i j k q : Nat} {x y z u : Str} {px py pz pu pv t1 t2 pt pt2 : Pos} {kt k2 : Nat} (gd : Good X c) (h1 : DE X c a1 w1) (h2 : DE X c a2 w2) (h3 : DE X c a3 w3) (hij : i ≠ j) (hN : X.N.Nodup) (hf : X.fn z = true ∨ X.env.scope.names.lookup z = some .local := by first | exact .inl rfl | exact .inr rfl)
    (hx : X.N[i]? = some x := by rfl) (hy : X.N[j]? = some y := by rfl) (hz : X.N[k]? = some z := by rfl) (hu : X.N[q]? = some u := by rfl) (vx : Vis X.env.scope x := by first | exact Or.inl rfl | exact Or.inr (Or.inl rfl) | exact Or.inr (Or.inr rfl)) (vy : Vis X.env.scope y := by first | exact Or.inl rfl | exact Or.inr (Or.inl rfl) | exact Or.inr (Or.inr rfl))
    (vu : Vis X.env.scope u := by first | exact Or.inl rfl | exact Or.inr (Or.inl rfl) | exact Or.inr (Or.inr rfl)) (vz : Loc X.env.scope z := by first | exact Or.inl rfl | exact Or.inr rfl) (dx : (x == ("__debug__" : Str)) = false := by decide) (cx : (x == ("__classdict__" : Str)) = false := by decide) (dy : (y == ("__debug__" : Str)) = false := by decide) (cy : (y == ("__classdict__" : Str)) = false := by decide)
    (du : (u == ("__debug__" : Str)) = false := by decide) (cu : (u == ("__classdict__" : Str)) = false := by decide)
    (s1 : starEach [a1, a2, a3] X.env = (false, eval a1 X.env) :: starEach [a2, a3] X.env := by rfl) (s2 : starEach [a2, a3] X.env = (false, eval a2 X.env) :: starEach [a3] X.env := by rfl) (s3 : starEach [a3] X.env = (false, eval a3 X.env) :: starEach [] X.env := by rfl)
    (hax : ∀ v, assign (.Subscript (.Name x px) (.Name u pu) t1) X.env v = (do
      let ov ← holding [v] (eval (.Name x px) X.env)
      let iv ← holding [v, ov] (eval (.Name u pu) X.env)
      standAt t1
      holding [v, ov, iv] (setItem ov iv v)
      release [v, ov, iv] []) := by intro _; rfl)
    (hay : ∀ v, assign (.Subscript (.Name y py) (.Name u pv) t2) X.env v = (do
      let ov ← holding [v] (eval (.Name y py) X.env)
      let iv ← holding [v, ov] (eval (.Name u pv) X.env)
      standAt t2
      holding [v, ov, iv] (setItem ov iv v)
      release [v, ov, iv] []) := by intro _; rfl)
    (hs : swapsWithSole [.Tuple [.Subscript (.Name x px) (.Name u pu) t1, .Subscript (.Name y py) (.Name u pv) t2, .Name z pz] kt pt] (.Tuple [a1, a2, a3] k2 pt2) pos.line X.env = pure false := by rfl)
    (hw : swappedStores [.Tuple [.Subscript (.Name x px) (.Name u pu) t1, .Subscript (.Name y py) (.Name u pv) t2, .Name z pz] kt pt] (.Tuple [a1, a2, a3] k2 pt2) X.env = pure none := by rfl)
    (ht : (assignEach [.Tuple [.Subscript (.Name x px) (.Name u pu) t1, .Subscript (.Name y py) (.Name u pv) t2, .Name z pz] kt pt] X.env).map (·.2) = [assign (.Tuple [.Subscript (.Name x px) (.Name u pu) t1, .Subscript (.Name y py) (.Name u pv) t2, .Name z pz] kt pt) X.env] := by rfl) :
    DS X c (.Assign [.Tuple [.Subscript (.Name x px) (.Name u pu) t1, .Subscript (.Name y py) (.Name u pv) t2, .Name z pz] kt pt] (.Tuple [a1, a2, a3] k2 pt2) pos) (wsPut3 i j k q w1 w2 w3) := by
  refine PS.imp (ps_asg (d_tup (c := c) (a_cons h1 (a_cons h2 (a_cons h3 a_nil s3) s2) s1)) (pg_tup gd.calm (pgs_cons (pg_sub (pe_var hx vx dx cx) (pe_var hu vu du cu) set_list hax) (pgs_cons (pg_sub (pe_var hy vy dy cy) (pe_var hu vu du cu) set_list hay) (pgs_cons (pg_name hN hz vz) pgs_nil)))) hs hw ht) ?_
  rintro D σ H ⟨O, F0, H0, F, env, C, f, ⟨ds, es, m, n, n', hi, hj, hq, hn, hn', hww⟩, hnx, hr, he⟩
  obtain ⟨fps, ow⟩ := f.ow
  obtain ⟨p1, xs, z1, z2, r1⟩ := f.own1 ow hi
  obtain ⟨p2, ys, y1, y2, r2⟩ := f.own1 ow hj
  obtain ⟨v, sl, st, g⟩ := f.view ow
  refine ⟨O, _, vwE env, fun d => ∃ d1 d2 d3, d = .tuple [d1, d2, d3] ∧ nolist d1 = true ∧ nolist d2 = true ∧ nolist d3 = true ∧ C.nx (((env.set i (.own (ds.set n d1))).set j (.own (es.set n' d2))).set k (.dat d3)), C.ex, v, sl, ?_, fun d hd F1 H1 uu v1 s1 rr => ?_, he.up st⟩
  · exact hww
  · obtain ⟨d1, d2, d3, rfl, n1, n2, n3, hC⟩ := hd
    cases rr with
    | @tup t us _ e1 rs =>
      cases rs with
      | cons ra rs =>
        obtain ⟨b, c3, rfl, rb, rc⟩ := rs.two
        obtain ⟨vq, hvq, rq⟩ := sl.dat (i := q) (d := .int m) (by
          show (env.map vwS)[q]? = _
          rw [List.getElem?_map, hq]
          rfl)
        cases rq
        obtain ⟨f1, ow1, hP, gb⟩ := f.back ow v1 s1
        obtain ⟨q1, xs1, a1', a2', ar1⟩ := f1.own1 ow1 hi
        rw [z1] at a1'
        cases a1'
        refine ⟨t, _, rfl, SqT.of (v1.frz _ _ e1), rfl, _, [b, c3], rfl, ?_⟩
        refine ⟨.ref p1, z1, .int m, hvq, p1, xs1, m, n, rfl, rfl, a2', by rw [ar1.length]; exact hn, ?_⟩
        have f2 := f1.upd1 ow1 hi z1 (ar1.set (Rp.unv hP ra n1) n)
        obtain ⟨fps2, ow2⟩ := f2.ow
        have hj2 : (env.set i (.own (ds.set n d1)))[j]? = some (.own es) := by
          rw [List.getElem?_set_ne hij]
          exact hj
        obtain ⟨q2, ys1, b1', b2', br1⟩ := f2.own1 ow2 hj2
        rw [y1] at b1'
        cases b1'
        refine ⟨b, [c3], rfl, .ref p2, y1, .int m, hvq, p2, ys1, m, n', rfl, rfl, b2', by rw [br1.length]; exact hn', ?_⟩
        have f3 := f2.upd1 ow2 hj2 y1 (br1.set (Rp.unv hP rb n2) n')
        refine ⟨c3, [], rfl, rfl, ?_⟩
        exact hnx _ hC _ _ _ (f3.setD (Rp.unv hP rc n3)) gb
end SD

namespace SD
open PySem PySem.Spec PyProof.Rows L2
/-! ### xs.count(x) -/
theorem mt_countD {X : Cx} {k : Nat} (hr : Room k X.A) : MtR X "list.count" (rCountD X.K) := by
  intro pins s σ H x xs v us Q I rx rxs h
  obtain ⟨u, ds, d, rfl, hl, hu, p1, p2, dp, q⟩ := h
  obtain ⟨w, rfl, ru⟩ : ∃ w, us = [w] ∧ RelV u w := by
    cases rxs with
    | cons r t => cases t; exact ⟨_, rfl, r⟩
  cases hl with
  | @lst a ys _ hs ha =>
    cases rx
    obtain ⟨its, rv, pl, hz⟩ := I.list hs
    obtain ⟨as, r1⟩ := Dp.readsAll I ds ys its ha rv
    obtain ⟨bs, r2⟩ := Dp.reads I d u w hu ru
    refine PySem.SeqAt.count_list_data pl.isList (by simpa using r1) r2 p1 p2 ?_ ?_
    · have := hr.un
      have := Nat.min_le_right (PyData.depthAll ds) d.depth
      omega
    · exact ⟨.int _, H, I.kept (t' := s.toks + 1) fun _ _ z => z, ⟨_, rfl⟩, q⟩
@[simp] def wCnt (wa wb : WE) : WE := fun env Q E => wa env (fun x => ∃ ds, x = .list ds ∧ wb env (fun d => PyData.plainAll ds = true ∧ d.plain = true ∧ d.depth ≤ 60 ∧ Q (.int ((ds.countP fun y => PyData.eqv y d : Nat) : Int))) E) E
theorem d_count {X : Cx} {c : Ctx} {a b : Expr} {wa wb : WE} {apos cpos : Pos} {k : Nat} (hr : Room k X.A) (ha : DE X c a wa) (hb : DE X c b wb) (hbase : attributeBase a "count" X.env (eval a X.env) = eval a X.env := by rfl)
    (hfew : ((backTo cpos (starEach [b] X.env)).all (fun x => !x.1) && (backToKw cpos (keywordEach [] X.env)).all (fun x => x.1.isSome) && decide ([b].length + ([] : List Keyword).length + (if ([] : List Keyword).isEmpty then 0 else 1) < 30)) = true := by rfl)
    (hline : (apos.endLine == cpos.line) = true := by rfl) (hs : starEach [b] X.env = (false, eval b X.env) :: starEach [] X.env := by rfl) : DE X c (.Call (.Attribute a "count" apos) [b] [] cpos) (wCnt wa wb) := by
  refine PE.imp (pe_bm PySem.F.plainAttrs_list PySem.F.slot_list_count PySem.F.type_list_count (mt_countD hr) ha (pa_cons hb pa_nil hs) hbase hfew hline hs rfl) ?_
  rintro σ H Q ⟨O, F, env, QD, QE, vw, sl, hw, hq, he⟩
  refine ⟨O, F, env, _, QE, vw, sl, hw, fun dx hx F1 H1 v v1 s1 r1 => ?_, he⟩
  obtain ⟨ds, rfl, hx⟩ := hx
  cases r1 with
  | @lst p xs _ g1 t1 =>
    refine ⟨.inl ⟨rfl, xs, SqL.of (v1.frz _ _ g1)⟩, O, F1, env, _, QE, v1, sl.up s1.grow, hx, fun d hd F2 H2 u v2 s2 r2 => ?_, he.up s1⟩
    have r1' : Rp F2 (.ref p) (.list ds) := .lst (s2.grow _ _ g1) (t1.up s2.grow)
    exact ⟨u, ds, d, rfl, r1'.dp v2.frz, r2.dp v2.frz, hd.1, hd.2.1, hd.2.2.1, hq _ hd.2.2.2 F2 H2 _ v2 (s1.trans s2 v2) (.int _)⟩
/-! ### six arguments -/
def fs6 (f : D → D → D → D → D → D → (D → Prop) → (Str → Prop) → Prop) : FS := fun as Q E => ∃ a b c d e g, as = [.dat a, .dat b, .dat c, .dat d, .dat e, .dat g] ∧ f a b c d e g Q E
theorem len_fs6 {f ps} (h : ps.length = 6) : ∀ as Q E, fs6 f as Q E → as.length = (ps : List Str).length := fun as Q E ⟨_, _, _, _, _, _, e, _⟩ => by rw [e, h] <;> rfl
theorem fs6_at {f a b c d e g Q E} : fs6 f [.dat a, .dat b, .dat c, .dat d, .dat e, .dat g] Q E ↔ f a b c d e g Q E := ⟨fun ⟨_, _, _, _, _, _, e, h⟩ => by cases e; exact h, fun h => ⟨_, _, _, _, _, _, rfl, h⟩⟩
end SD

namespace SD
open PySem PySem.Spec PyProof.Rows L2
/-! ### bounds on differences, and rings of them -/
abbrev Bd := Nat × Nat × Int
abbrev encB (b : Bd) : D := tI [(b.1 : Int), (b.2.1 : Int), b.2.2]
/-- the sums, the bound that last led to each, and who was led to last -/
structure RS where
  sums : List Int
  ahead : List (Option Bd)
  ch : Option Nat
def RS.at (st : RS) (v : Nat) : Option Bd := (st.ahead[v]?).join
def relax (st : RS) (b : Bd) : RS := if decide (at0 st.sums b.1 + b.2.2 < at0 st.sums b.2.1) = true then ⟨st.sums.set b.2.1 (at0 st.sums b.1 + b.2.2), st.ahead.set b.2.1 (some b), some b.2.1⟩ else st
def round (some : List Bd) (st : RS) : RS := some.foldl relax ⟨st.sums, st.ahead, none⟩
def rounds (some : List Bd) (st : RS) : Nat → RS
  | 0 => st
  | n + 1 => round some (rounds some st n)
def start0 (s : Nat) : RS := ⟨List.replicate (s + 1) 0, List.replicate (s + 1) none, none⟩
def BOk (s : Nat) (some : List Bd) : Prop := ∀ b ∈ some, b.1 ≤ s ∧ b.2.1 ≤ s
/-- the bounds hold -/
def Feas (some : List Bd) (x : Nat → Int) : Prop := ∀ b ∈ some, x b.2.1 ≤ x b.1 + b.2.2
/-- when each was last led to: T the time, R the round; e the round in which each bound was last looked at -/
structure RInv (s : Nat) (some : List Bd) (ρ k : Nat) (st : RS) (T R : Nat → Nat) (τ : Nat) : Prop where
  ls : st.sums.length = s + 1
  la : st.ahead.length = s + 1
  tm : ∀ v, T v ≤ τ
  rm : ∀ v, R v ≤ ρ
  new : ∀ v, v ≤ s → 1 ≤ R v → (st.at v).isSome = true
  led : ∀ v b, v ≤ s → st.at v = .some b → b ∈ some ∧ b.2.1 = v ∧ at0 st.sums b.1 + b.2.2 ≤ at0 st.sums v ∧ (T v ≤ T b.1 → at0 st.sums b.1 + b.2.2 < at0 st.sums v) ∧ R v ≤ R b.1 + 1
  look : ∀ i b, some[i]? = .some b → at0 st.sums b.2.1 ≤ at0 st.sums b.1 + b.2.2 ∨ (if i < k then ρ else ρ - 1) ≤ R b.1
  chg : ∀ v, st.ch = .some v → v ≤ s ∧ R v = ρ ∧ 1 ≤ ρ
theorem at_set {st : RS} {v w : Nat} {b : Bd} {x : Int} {c : Option Nat} (h : v < st.ahead.length) : RS.at ⟨st.sums.set v x, st.ahead.set v (some b), c⟩ w = if w = v then some b else st.at w := by
  unfold RS.at
  by_cases e : w = v
  · subst e
    rw [if_pos rfl, List.getElem?_set_self h]
    rfl
  · rw [if_neg e, List.getElem?_set_ne (fun z => e z.symm)]
theorem relax_inv {s : Nat} {some : List Bd} (hb : BOk s some) {ρ k : Nat} (hρ : 1 ≤ ρ) {st : RS} {T R : Nat → Nat} {τ : Nat} (I : RInv s some ρ k st T R τ) {b : Bd} (hk : some[k]? = .some b) : ∃ T' R' τ', RInv s some ρ (k + 1) (relax st b) T' R' τ' := by
  have hbm : b ∈ some := List.mem_of_getElem? hk
  obtain ⟨b1, b2⟩ := hb b hbm
  unfold relax
  by_cases hc : at0 st.sums b.1 + b.2.2 < at0 st.sums b.2.1
  · rw [if_pos (decide_eq_true hc)]
    have hv : b.2.1 < st.sums.length := by rw [I.ls]; omega
    have hva : b.2.1 < st.ahead.length := by rw [I.la]; omega
    have hRu : ρ ≤ R b.1 + 1 := by
      rcases I.look k b hk with h | h
      · omega
      · rw [if_neg (Nat.lt_irrefl _)] at h
        omega
    have as : ∀ w, at0 (st.sums.set b.2.1 (at0 st.sums b.1 + b.2.2)) w = if w = b.2.1 then at0 st.sums b.1 + b.2.2 else at0 st.sums w := fun w => at0_set hv
    have dec : ∀ w, at0 (st.sums.set b.2.1 (at0 st.sums b.1 + b.2.2)) w ≤ at0 st.sums w := fun w => by
      rw [as]
      split
      · rename_i e
        subst e
        omega
      · exact Int.le_refl _
    refine ⟨fun w => if w = b.2.1 then τ + 1 else T w, fun w => if w = b.2.1 then ρ else R w, τ + 1, ?_, ?_, ?_, ?_, ?_, ?_, ?_, ?_⟩
    · rw [List.length_set]
      exact I.ls
    · rw [List.length_set]
      exact I.la
    · intro w
      have := I.tm w
      try dsimp only
      split <;> omega
    · intro w
      have := I.rm w
      try dsimp only
      split <;> omega
    · intro w hw h1
      rw [at_set hva]
      try dsimp only at h1
      split
      · rfl
      · rename_i e
        rw [if_neg e] at h1
        exact I.new w hw h1
    · intro w b' hw h'
      rw [at_set hva] at h'
      try dsimp only
      by_cases e : w = b.2.1
      · rw [if_pos e] at h'
        have e2 := Option.some.inj h'
        subst e2
        rw [e, as, as]
        refine ⟨hbm, rfl, ?_, ?_, ?_⟩
        · by_cases e3 : b.1 = b.2.1
          · rw [if_pos e3, if_pos rfl]
            rw [e3] at hc
            omega
          · rw [if_neg e3, if_pos rfl]
            exact Int.le_refl _
        · by_cases e3 : b.1 = b.2.1
          · rw [if_pos e3, if_pos rfl]
            intro _
            rw [e3] at hc ⊢
            omega
          · rw [if_pos rfl, if_neg e3]
            intro z
            have := I.tm b.1
            omega
        · rw [if_pos rfl]
          split <;> omega
      · rw [if_neg e] at h'
        obtain ⟨q1, q2, q3, q4, q5⟩ := I.led w b' hw h'
        rw [if_neg e, if_neg e, as w, if_neg e]
        refine ⟨q1, q2, ?_, ?_, ?_⟩
        · have := dec b'.1
          omega
        · intro z
          by_cases e3 : b'.1 = b.2.1
          · rw [as, if_pos e3]
            rw [e3] at q3
            omega
          · rw [if_neg e3] at z
            rw [as, if_neg e3]
            exact q4 z
        · have := I.rm w
          split <;> omega
    · intro i b' hi
      try dsimp only
      by_cases e : i = k
      · subst e
        have e2 : b = b' := Option.some.inj (hk.symm.trans hi)
        subst e2
        by_cases e3 : b.1 = b.2.1
        · right
          rw [if_pos e3, if_pos (by omega)]
          exact Nat.le_refl _
        · left
          rw [as, as, if_pos rfl, if_neg e3]
          exact Int.le_refl _
      · by_cases e3 : b'.1 = b.2.1
        · right
          rw [if_pos e3]
          split <;> omega
        · rcases I.look i b' hi with h | h
          · left
            rw [as b'.1, if_neg e3]
            exact Int.le_trans (dec _) h
          · right
            rw [if_neg e3]
            have : (if i < k + 1 then ρ else ρ - 1) = (if i < k then ρ else ρ - 1) := by
              by_cases q : i < k
              · rw [if_pos q, if_pos (by omega)]
              · rw [if_neg q, if_neg (by omega)]
            rw [this]
            exact h
    · intro v hv'
      have e : b.2.1 = v := Option.some.inj hv'
      subst e
      try dsimp only
      rw [if_pos rfl]
      exact ⟨b2, rfl, hρ⟩
  · rw [if_neg (by simpa using hc)]
    refine ⟨T, R, τ, I.ls, I.la, I.tm, I.rm, I.new, I.led, fun i b' hi => ?_, I.chg⟩
    by_cases e : i = k
    · subst e
      have e2 : b = b' := Option.some.inj (hk.symm.trans hi)
      subst e2
      left
      omega
    · rcases I.look i b' hi with h | h
      · exact .inl h
      · right
        have : (if i < k + 1 then ρ else ρ - 1) = (if i < k then ρ else ρ - 1) := by
          by_cases q : i < k
          · rw [if_pos q, if_pos (by omega)]
          · rw [if_neg q, if_neg (by omega)]
        rw [this]
        exact h
theorem round_inv {s : Nat} {some : List Bd} (hb : BOk s some) {ρ : Nat} (hρ : 1 ≤ ρ) : ∀ (n k : Nat) (st : RS) (T R : Nat → Nat) (τ : Nat), some.length = k + n → RInv s some ρ k st T R τ → ∃ T' R' τ', RInv s some ρ some.length ((some.drop k).foldl relax st) T' R' τ'
  | 0, k, st, T, R, τ, hn, I => by
    rw [List.drop_of_length_le (by omega), List.foldl_nil]
    rw [hn, Nat.add_zero]
    exact ⟨T, R, τ, I⟩
  | n + 1, k, st, T, R, τ, hn, I => by
    have hk : k < some.length := by omega
    rw [List.drop_eq_getElem_cons hk, List.foldl_cons]
    obtain ⟨T', R', τ', I'⟩ := relax_inv hb hρ I (b := some[k]) (List.getElem?_eq_getElem hk)
    exact round_inv hb hρ n (k + 1) _ T' R' τ' (by omega) I'
theorem start_inv (s : Nat) (some : List Bd) : RInv s some 0 some.length (start0 s) (fun _ => 0) (fun _ => 0) 0 := by
  refine ⟨by simp [start0], by simp [start0], fun _ => Nat.le_refl _, fun _ => Nat.le_refl _, fun v _ h => absurd h (by decide), fun v b _ h => ?_, fun i b hi => .inr (by split <;> exact Nat.le_refl _), fun v h => nomatch h⟩
  unfold RS.at start0 at h
  rw [List.getElem?_replicate] at h
  split at h <;> cases h
theorem next_inv {s : Nat} {some : List Bd} {ρ : Nat} {st : RS} {T R : Nat → Nat} {τ : Nat} (I : RInv s some ρ some.length st T R τ) : RInv s some (ρ + 1) 0 ⟨st.sums, st.ahead, none⟩ T R τ :=
  ⟨I.ls, I.la, I.tm, fun v => Nat.le_succ_of_le (I.rm v), I.new, I.led, fun i b hi => by
    rcases I.look i b hi with h | h
    · exact .inl h
    · right
      rw [if_pos (List.getElem?_eq_some_iff.mp hi).1] at h
      rw [if_neg (Nat.not_lt_zero _)]
      exact h, fun v h => nomatch h⟩
theorem rounds_inv {s : Nat} {some : List Bd} (hb : BOk s some) : ∀ n, ∃ T R τ, RInv s some n some.length (rounds some (start0 s) n) T R τ
  | 0 => ⟨_, _, _, start_inv s some⟩
  | n + 1 => by
    obtain ⟨T, R, τ, I⟩ := rounds_inv hb n
    obtain ⟨T', R', τ', I'⟩ := round_inv hb (ρ := n + 1) (by omega) some.length 0 _ T R τ (by omega) (next_inv I)
    exact ⟨T', R', τ', I'⟩
/-- nothing changed: the sums keep the bounds -/
theorem quiet_feas : ∀ (bs : List Bd) (st : RS), (bs.foldl relax st).ch = none → st.ch = none ∧ bs.foldl relax st = st ∧ ∀ b ∈ bs, at0 st.sums b.2.1 ≤ at0 st.sums b.1 + b.2.2
  | [], st, h => ⟨h, rfl, fun b hb => nomatch hb⟩
  | b :: bs, st, h => by
    rw [List.foldl_cons] at h ⊢
    obtain ⟨h1, h2, h3⟩ := quiet_feas bs (relax st b) h
    unfold relax at h1 h2 h3
    by_cases hc : at0 st.sums b.1 + b.2.2 < at0 st.sums b.2.1
    · rw [if_pos (decide_eq_true hc)] at h1
      cases h1
    · rw [if_neg (by simpa using hc)] at h1 h2 h3
      have e : relax st b = st := by
        unfold relax
        rw [if_neg (by simpa using hc)]
      rw [e]
      refine ⟨h1, h2, fun b' hb' => ?_⟩
      rcases List.mem_cons.mp hb' with rfl | hb'
      · omega
      · exact h3 b' hb'
/-! ### back along the bounds that led -/
def pred (st : RS) (v : Nat) : Nat := match st.at v with
  | some b => b.1
  | none => 0
def back (st : RS) (v : Nat) : Nat → Nat
  | 0 => v
  | n + 1 => pred st (back st v n)
theorem back_add (st : RS) (v : Nat) (a : Nat) : ∀ n, back st v (a + n) = back st (back st v a) n
  | 0 => rfl
  | n + 1 => by
    show pred st (back st v (a + n)) = pred st (back st (back st v a) n)
    rw [back_add st v a n]
theorem back_r {s : Nat} {some : List Bd} (hb : BOk s some) {ρ k : Nat} {st : RS} {T R : Nat → Nat} {τ : Nat} (I : RInv s some ρ k st T R τ) {v : Nat} (hv : v ≤ s) : ∀ n, n < R v → back st v n ≤ s ∧ R v ≤ R (back st v n) + n ∧ ∃ b, st.at (back st v n) = .some b
  | 0, h => by
    have := I.new v hv (by omega)
    exact ⟨hv, Nat.le_refl _, Option.isSome_iff_exists.mp this⟩
  | n + 1, h => by
    obtain ⟨h1, h2, b, h3⟩ := back_r hb I hv n (by omega)
    obtain ⟨q1, q2, q3, q4, q5⟩ := I.led _ b h1 h3
    have e : back st v (n + 1) = b.1 := by
      show pred st (back st v n) = _
      unfold pred
      rw [h3]
    rw [e]
    have hu := (hb b q1).1
    refine ⟨hu, by omega, Option.isSome_iff_exists.mp (I.new _ hu (by omega))⟩
/-- two of s + 2 places below s + 1 are one -/
theorem pigeon : ∀ (n : Nat) (f : Nat → Nat), (∀ i, i ≤ n → f i < n) → ∃ i j, i < j ∧ j ≤ n ∧ f i = f j := by
  intro n
  induction n with
  | zero => intro f h; exact absurd (h 0 (Nat.le_refl _)) (Nat.not_lt_zero _)
  | succ n ih =>
    intro f h
    by_cases hx : ∃ i, i ≤ n ∧ f i = f (n + 1)
    · obtain ⟨i, hi, e⟩ := hx
      exact ⟨i, n + 1, by omega, by omega, e⟩
    · -- the others, the last one's place filled by the greatest
      let g : Nat → Nat := fun i => if f i = n then f (n + 1) else f i
      have hg : ∀ i, i ≤ n → g i < n := fun i hi => by
        show (if f i = n then f (n + 1) else f i) < n
        have h1 := h i (by omega)
        have h2 := h (n + 1) (by omega)
        split
        · rename_i e
          have : f (n + 1) ≠ n := fun z => hx ⟨i, hi, by omega⟩
          omega
        · omega
      obtain ⟨i, j, h1, h2, h3⟩ := ih g hg
      refine ⟨i, j, h1, by omega, ?_⟩
      have h3' : (if f i = n then f (n + 1) else f i) = (if f j = n then f (n + 1) else f j) := h3
      split at h3' <;> split at h3'
      · omega
      · exact absurd ⟨j, h2, h3'.symm⟩ hx
      · exact absurd ⟨i, by omega, h3'⟩ hx
      · exact h3'
/-- from a place that was led to in the last round: s + 1 turns back lies one that leads to itself -/
theorem back_ring {s : Nat} {some : List Bd} (hb : BOk s some) {k : Nat} {st : RS} {T R : Nat → Nat} {τ : Nat} (I : RInv s some (s + 2) k st T R τ) {v : Nat} (hv : st.ch = .some v) :
    (∀ n, ∃ b, st.at (back st v n) = .some b ∧ b ∈ some ∧ b.2.1 = back st v n ∧ b.1 = back st v (n + 1)) ∧ ∃ π, 1 ≤ π ∧ π ≤ s + 1 ∧ back st v (s + 1 + π) = back st v (s + 1) := by
  obtain ⟨c1, c2, _⟩ := I.chg v hv
  have hR : ∀ n, n ≤ s + 1 → back st v n ≤ s ∧ ∃ b, st.at (back st v n) = .some b := fun n hn => by
    obtain ⟨h1, _, h3⟩ := back_r hb I c1 n (by omega)
    exact ⟨h1, h3⟩
  obtain ⟨i, j, h1, h2, h3⟩ := pigeon (s + 1) (back st v) fun i hi => by
    have := (hR i hi).1
    omega
  have per : ∀ n, i ≤ n → back st v (n + (j - i)) = back st v n := fun n hn => by
    obtain ⟨m, rfl⟩ : ∃ m, n = i + m := ⟨n - i, by omega⟩
    have e1 : i + m + (j - i) = j + m := by omega
    rw [e1, back_add, back_add, h3]
  have all : ∀ n, ∃ m, m ≤ s + 1 ∧ back st v n = back st v m := fun n => by
    induction n using Nat.strongRecOn with
    | ind n ih =>
      by_cases hn : n ≤ s + 1
      · exact ⟨n, hn, rfl⟩
      · obtain ⟨m, hm, e⟩ := ih (n - (j - i)) (by omega)
        refine ⟨m, hm, ?_⟩
        rw [← e]
        have := per (n - (j - i)) (by omega)
        rw [show n - (j - i) + (j - i) = n by omega] at this
        exact this
  refine ⟨fun n => ?_, j - i, by omega, by omega, per (s + 1) (by omega)⟩
  obtain ⟨m, hm, e⟩ := all n
  obtain ⟨q1, b, q2⟩ := hR m hm
  rw [← e] at q1 q2
  obtain ⟨z1, z2, _⟩ := I.led _ b q1 q2
  refine ⟨b, q2, z1, z2, ?_⟩
  show _ = pred st (back st v n)
  unfold pred
  rw [q2]
/-- around the ring the mosts come to less than 0 -/
theorem ring_neg {s : Nat} {some : List Bd} {ρ k : Nat} {st : RS} {T R : Nat → Nat} {τ : Nat} (hb : BOk s some) (I : RInv s some ρ k st T R τ) {d : Nat} (bs : Nat → Bd) (hbs : ∀ n, st.at (back st d n) = .some (bs n) ∧ bs n ∈ some ∧ (bs n).2.1 = back st d n ∧ (bs n).1 = back st d (n + 1)) {π : Nat} (hπ : 1 ≤ π) (hp : back st d π = d) : rs (fun i => (bs i).2.2) 0 π < 0 := by
  have hle : ∀ n, back st d n ≤ s := fun n => by
    obtain ⟨_, h2, h3, _⟩ := hbs n
    rw [← h3]
    exact (hb _ h2).2
  have key : ∀ n, (bs n).2.2 ≤ at0 st.sums (back st d n) - at0 st.sums (back st d (n + 1)) ∧ (T (back st d n) ≤ T (back st d (n + 1)) → (bs n).2.2 < at0 st.sums (back st d n) - at0 st.sums (back st d (n + 1))) := fun n => by
    obtain ⟨h1, h2, h3, h4⟩ := hbs n
    obtain ⟨_, _, q3, q4, _⟩ := I.led _ _ (hle n) h1
    rw [h4] at q3 q4
    exact ⟨by omega, fun z => by have := q4 z; omega⟩
  have tel : ∀ n, rs (fun i => (bs i).2.2) 0 n ≤ at0 st.sums d - at0 st.sums (back st d n) ∧ (rs (fun i => (bs i).2.2) 0 n < at0 st.sums d - at0 st.sums (back st d n) ∨ T (back st d n) + n ≤ T d) := fun n => by
    induction n with
    | zero =>
      refine ⟨?_, .inr (Nat.le_refl _)⟩
      rw [rs_zero]
      show (0 : Int) ≤ at0 st.sums d - at0 st.sums d
      omega
    | succ n ih =>
      obtain ⟨i1, i2⟩ := ih
      obtain ⟨k1, k2⟩ := key n
      rw [rs_succ, Nat.zero_add]
      refine ⟨by show _ + (bs n).2.2 ≤ _; omega, ?_⟩
      show _ + (bs n).2.2 < _ ∨ _
      rcases i2 with i2 | i2
      · left
        omega
      · by_cases hT : T (back st d n) ≤ T (back st d (n + 1))
        · have := k2 hT
          left
          omega
        · right
          omega
  obtain ⟨t1, t2⟩ := tel π
  rw [hp] at t1 t2
  rcases t2 with t2 | t2
  · omega
  · omega
end SD

namespace SD
open PySem PySem.Spec PyProof.Rows L2
/-! ### the ring that is told -/
def traceN (st : RS) (d : Nat) : Nat → Nat → List Bd → List Bd
  | 0, _, acc => acc
  | n + 1, here, acc => match st.at here with
    | none => acc
    | some b => if decide (b.1 = d) = true then b :: acc else traceN st d n b.1 (b :: acc)
def ringI (s : Nat) (bs : List Bd) : Option (List Bd) := match (rounds bs (start0 s) (s + 2)).ch with
  | none => none
  | some c => some (traceN (rounds bs (start0 s) (s + 2)) (back (rounds bs (start0 s) (s + 2)) c (s + 1)) (s + 1) (back (rounds bs (start0 s) (s + 2)) c (s + 1)) [])
def ringD : Option (List Bd) → D
  | none => .none
  | some L => .list (L.map encB)
def encO : Option Bd → D
  | none => .none
  | some b => encB b
/-- a ring of bounds -/
def IsRing (bs : List Bd) (L : List Bd) : Prop := L ≠ [] ∧ (∀ b ∈ L, b ∈ bs) ∧ (∀ i, i + 1 < L.length → (L.getD i (0, 0, 0)).2.1 = (L.getD (i + 1) (0, 0, 0)).1) ∧ (L.getLast?.getD (0, 0, 0)).2.1 = (L.headD (0, 0, 0)).1 ∧ (L.map fun b => b.2.2).sum < 0
theorem ring_none {s : Nat} {bs : List Bd} (h : ringI s bs = none) : ∃ x, Feas bs x := by
  unfold ringI at h
  cases hc : (rounds bs (start0 s) (s + 2)).ch with
  | some c => rw [hc] at h; cases h
  | none =>
    obtain ⟨_, e, hf⟩ := quiet_feas bs ⟨(rounds bs (start0 s) (s + 1)).sums, (rounds bs (start0 s) (s + 1)).ahead, none⟩ hc
    exact ⟨at0 (rounds bs (start0 s) (s + 1)).sums, hf⟩
section
variable {s : Nat} {bs : List Bd} {st : RS} {d : Nat} {f : Nat → Bd}
/-- what stands along the way back -/
def Way (st : RS) (d : Nat) (bs : List Bd) (f : Nat → Bd) : Prop := ∀ n, st.at (back st d n) = some (f n) ∧ f n ∈ bs ∧ (f n).2.1 = back st d n ∧ (f n).1 = back st d (n + 1)
def revM (f : Nat → Bd) (k : Nat) : List Bd := ((List.range k).map f).reverse
theorem revM_succ (f : Nat → Bd) (k : Nat) : revM f (k + 1) = f k :: revM f k := by
  unfold revM
  rw [List.range_succ, List.map_append, List.reverse_append]
  rfl
theorem trace_way (hw : Way st d bs f) : ∀ (n i : Nat), (∃ k, i < k ∧ k ≤ i + n ∧ back st d k = d) → (∀ j, 1 ≤ j → j ≤ i → back st d j ≠ d) → ∃ k, 1 ≤ k ∧ k ≤ i + n ∧ back st d k = d ∧ (∀ j, 1 ≤ j → j < k → back st d j ≠ d) ∧ traceN st d n (back st d i) (revM f i) = revM f k
  | 0, i, ⟨k, h1, h2, _⟩, _ => by omega
  | n + 1, i, ⟨k, h1, h2, h3⟩, hn => by
    obtain ⟨w1, w2, w3, w4⟩ := hw i
    unfold traceN
    rw [w1]
    dsimp only
    by_cases hc : (f i).1 = d
    · rw [if_pos (decide_eq_true hc)]
      refine ⟨i + 1, by omega, by omega, by rw [← w4]; exact hc, fun j j1 j2 => hn j j1 (by omega), (revM_succ f i).symm⟩
    · rw [if_neg (by simpa using hc)]
      have hne : back st d (i + 1) ≠ d := by rw [← w4]; exact hc
      have hk : i + 1 < k := by
        by_cases e : k = i + 1
        · subst e
          exact absurd h3 hne
        · omega
      obtain ⟨m, m1, m2, m3, m4, m5⟩ := trace_way hw n (i + 1) ⟨k, hk, by omega, h3⟩ fun j j1 j2 => by
        by_cases e : j = i + 1
        · subst e
          exact hne
        · exact hn j j1 (by omega)
      refine ⟨m, m1, by omega, m3, m4, ?_⟩
      rw [w4, ← revM_succ]
      exact m5
end
/-- all about the way back when something still changes -/
theorem ring_way {s : Nat} {bs : List Bd} (hb : BOk s bs) {c : Nat} (hc : (rounds bs (start0 s) (s + 2)).ch = some c) : ∃ (f g : Nat → Bd) (k : Nat), Way (rounds bs (start0 s) (s + 2)) c bs g ∧ Way (rounds bs (start0 s) (s + 2)) (back (rounds bs (start0 s) (s + 2)) c (s + 1)) bs f ∧ c ≤ s ∧ 1 ≤ k ∧ k ≤ s + 1 ∧ back (rounds bs (start0 s) (s + 2)) (back (rounds bs (start0 s) (s + 2)) c (s + 1)) k = back (rounds bs (start0 s) (s + 2)) c (s + 1) ∧
    (∀ j, 1 ≤ j → j < k → back (rounds bs (start0 s) (s + 2)) (back (rounds bs (start0 s) (s + 2)) c (s + 1)) j ≠ back (rounds bs (start0 s) (s + 2)) c (s + 1)) ∧ ringI s bs = some (revM f k) ∧ rs (fun i => (f i).2.2) 0 k < 0 := by
  obtain ⟨T, R, τ, I⟩ := rounds_inv hb (s + 2)
  obtain ⟨w, π, p1, p2, p3⟩ := back_ring hb I hc
  have hcs := (I.chg c hc).1
  generalize hst : rounds bs (start0 s) (s + 2) = st at *
  have wc : ∃ g, Way st c bs g := ⟨fun n => (w n).choose, fun n => (w n).choose_spec⟩
  obtain ⟨g, hg⟩ := wc
  have wd : Way st (back st c (s + 1)) bs fun n => g (s + 1 + n) := fun n => by
    have := hg (s + 1 + n)
    rw [show s + 1 + n + 1 = s + 1 + (n + 1) by omega] at this
    rw [back_add st c (s + 1) n, back_add st c (s + 1) (n + 1)] at this
    exact this
  rw [back_add st c (s + 1) π] at p3
  obtain ⟨k, k1, k2, k3, k4, k5⟩ := trace_way wd (s + 1) 0 ⟨π, by omega, by omega, p3⟩ (fun j j1 j2 => by omega)
  refine ⟨fun n => g (s + 1 + n), g, k, hg, wd, hcs, k1, by omega, k3, k4, ?_, ring_neg hb I _ wd k1 k3⟩
  unfold ringI
  rw [hst, hc]
  exact congrArg some k5
theorem revM_len (f : Nat → Bd) (k : Nat) : (revM f k).length = k := by simp [revM]
theorem revM_get (f : Nat → Bd) {k i : Nat} (h : i < k) : (revM f k)[i]? = some (f (k - 1 - i)) := by
  unfold revM
  rw [List.getElem?_reverse (by simpa using h)]
  simp only [List.length_map, List.length_range]
  rw [List.getElem?_map, List.getElem?_range (by omega)]
  rfl
theorem revM_sum (f : Nat → Bd) : ∀ k, ((revM f k).map fun b => b.2.2).sum = rs (fun i => (f i).2.2) 0 k
  | 0 => rfl
  | k + 1 => by
    rw [revM_succ, List.map_cons, List.sum_cons, revM_sum f k, rs_succ, Nat.zero_add]
    omega
theorem ring_some {s : Nat} {bs : List Bd} (hb : BOk s bs) {L : List Bd} (h : ringI s bs = some L) : IsRing bs L := by
  cases hc : (rounds bs (start0 s) (s + 2)).ch with
  | none =>
    unfold ringI at h
    rw [hc] at h
    cases h
  | some c =>
    obtain ⟨f, g, k, hg, hw, _, k1, k2, k3, k4, k5, k6⟩ := ring_way hb hc
    rw [k5] at h
    have e := Option.some.inj h
    subst e
    refine ⟨fun z => ?_, fun b hb' => ?_, fun i hi => ?_, ?_, by rw [revM_sum]; exact k6⟩
    · have := congrArg List.length z
      rw [revM_len] at this
      simp at this
      omega
    · unfold revM at hb'
      rw [List.mem_reverse] at hb'
      obtain ⟨i, _, rfl⟩ := List.mem_map.mp hb'
      exact (hw i).2.1
    · rw [revM_len] at hi
      rw [List.getD_eq_getElem?_getD, List.getD_eq_getElem?_getD, revM_get f (by omega), revM_get f hi]
      show (f (k - 1 - i)).2.1 = (f (k - 1 - (i + 1))).1
      rw [(hw _).2.2.1, (hw _).2.2.2]
      congr 1
      omega
    · rw [List.getLast?_eq_getElem?, revM_len, revM_get f (by omega)]
      rw [List.headD_eq_head?_getD, List.head?_eq_getElem?, revM_get f (by omega)]
      show (f (k - 1 - (k - 1))).2.1 = (f (k - 1 - 0)).1
      rw [(hw _).2.2.1, (hw _).2.2.2, show k - 1 - (k - 1) = 0 by omega, show k - 1 - 0 + 1 = k by omega, k3]
      rfl
theorem ring_feas {s : Nat} {bs : List Bd} (hb : BOk s bs) {x : Nat → Int} (hx : Feas bs x) : ringI s bs = none := by
  cases h : ringI s bs with
  | none => rfl
  | some L =>
    exfalso
    cases hc : (rounds bs (start0 s) (s + 2)).ch with
    | none =>
      unfold ringI at h
      rw [hc] at h
      cases h
    | some c =>
      obtain ⟨f, g, k, hg, hw, _, k1, k2, k3, k4, k5, k6⟩ := ring_way hb hc
      have tel : ∀ n, x (back (rounds bs (start0 s) (s + 2)) c (s + 1)) - x (back (rounds bs (start0 s) (s + 2)) (back (rounds bs (start0 s) (s + 2)) c (s + 1)) n) ≤ rs (fun i => (f i).2.2) 0 n := fun n => by
        induction n with
        | zero =>
          rw [rs_zero]
          show x _ - x _ ≤ 0
          exact Int.le_of_eq (Int.sub_self _)
        | succ n ih =>
          obtain ⟨_, h2, h3, h4⟩ := hw n
          have := hx _ h2
          rw [h3, h4] at this
          rw [rs_succ, Nat.zero_add]
          show _ ≤ _ + (f n).2.2
          omega
      have := tel k
      rw [k3] at this
      omega
theorem ring_iff {s : Nat} {bs : List Bd} (hb : BOk s bs) : ringI s bs = none ↔ ∃ x, Feas bs x := ⟨ring_none, fun ⟨_, hx⟩ => ring_feas hb hx⟩
/-! ### the state, step by step, for the program's own run -/
theorem relax_len {st : RS} {b : Bd} : (relax st b).sums.length = st.sums.length ∧ (relax st b).ahead.length = st.ahead.length := by
  unfold relax
  split <;> simp
theorem foldl_relax_len : ∀ (bs : List Bd) (st : RS), (bs.foldl relax st).sums.length = st.sums.length ∧ (bs.foldl relax st).ahead.length = st.ahead.length
  | [], _ => ⟨rfl, rfl⟩
  | b :: bs, st => by
    rw [List.foldl_cons]
    obtain ⟨h1, h2⟩ := foldl_relax_len bs (relax st b)
    obtain ⟨h3, h4⟩ := relax_len (st := st) (b := b)
    exact ⟨h1.trans h3, h2.trans h4⟩
theorem rounds_len {s : Nat} {bs : List Bd} : ∀ n, (rounds bs (start0 s) n).sums.length = s + 1 ∧ (rounds bs (start0 s) n).ahead.length = s + 1
  | 0 => by simp [rounds, start0]
  | n + 1 => by
    obtain ⟨h1, h2⟩ := rounds_len (s := s) (bs := bs) n
    obtain ⟨h3, h4⟩ := foldl_relax_len bs ⟨(rounds bs (start0 s) n).sums, (rounds bs (start0 s) n).ahead, none⟩
    exact ⟨h3.trans h1, h4.trans h2⟩
def chD : Option Nat → D
  | none => .none
  | some v => .int (v : Nat)
theorem nolist_enc (b : Bd) : nolist (encB b) = true := nolist_tI _
theorem nolist_encO : ∀ o : Option Bd, nolist (encO o) = true
  | none => rfl
  | some b => nolist_enc b
theorem ex_bd {b : Bd} {R : D → D → D → Prop} : (∃ x y z, encB b = .tuple [x, y, z] ∧ R x y z) ↔ R (.int (b.1 : Nat)) (.int (b.2.1 : Nat)) (.int b.2.2) := ⟨fun ⟨x, y, z, e, h⟩ => by
  have e' : PyData.tuple [.int (b.1 : Nat), .int (b.2.1 : Nat), .int b.2.2] = .tuple [x, y, z] := e
  cases e'
  exact h, fun h => ⟨_, _, _, rfl, h⟩⟩
end SD

namespace SD
open PySem PySem.Spec PyProof.Rows L2
theorem snocRec {α : Type} {motive : List α → Prop} (nil : motive []) (append_singleton : ∀ (w : List α) (x : α), motive w → motive (w ++ [x])) (w : List α) : motive w := by
  have h : ∀ v : List α, motive v.reverse := fun v => by
    induction v with
    | nil => exact nil
    | cons x v ih =>
      rw [List.reverse_cons]
      exact append_singleton _ _ ih
  have := h w.reverse
  rwa [List.reverse_reverse] at this
/-! ### walks, as those without bad strides -/
def lastOf (w : List Int) : Int := w.getLast?.getD 0
theorem lastOf_nil : lastOf [] = 0 := rfl
theorem lastOf_snoc (w : List Int) (x : Int) : lastOf (w ++ [x]) = x := by simp [lastOf]
theorem diffs_last (w : List Int) (x : Int) : diffs (0 :: (w ++ [x])) = diffs (0 :: w) ++ [x - lastOf w] := by
  cases h : w.getLast? with
  | none =>
    rw [List.getLast?_eq_none_iff] at h
    subst h
    rfl
  | some y =>
    obtain ⟨pre, rfl⟩ := List.getLast?_eq_some_iff.mp h
    rw [lastOf_snoc]
    have := diffs_snoc (0 :: pre) y x
    exact this
theorem strides_last (s : Int) (w : List Int) : stridesI s w = diffs (0 :: w) ++ [s + 1 - lastOf w] := diffs_last w (s + 1)
/-- a row's start: strides good so far -/
def Pfx (s l : Int) (p : List Int) : Prop := (∀ d ∈ diffs (0 :: p), 1 ≤ d ∧ d ≤ l) ∧ lastOf p ≤ s
theorem Pfx.nil {s l : Int} (h : 0 ≤ s) : Pfx s l [] := ⟨fun d hd => by simp [diffs] at hd, h⟩
theorem pfx_snoc {s l : Int} {p : List Int} {x : Int} : Pfx s l (p ++ [x]) ↔ (∀ d ∈ diffs (0 :: p), 1 ≤ d ∧ d ≤ l) ∧ lastOf p < x ∧ x ≤ lastOf p + l ∧ x ≤ s := by
  unfold Pfx
  rw [diffs_last, lastOf_snoc]
  constructor
  · rintro ⟨h1, h2⟩
    refine ⟨fun d hd => h1 d (List.mem_append_left _ hd), ?_⟩
    have := h1 (x - lastOf p) (List.mem_append_right _ (List.mem_singleton.mpr rfl))
    omega
  · rintro ⟨h1, h2, h3, h4⟩
    refine ⟨fun d hd => ?_, h4⟩
    rcases List.mem_append.mp hd with hd | hd
    · exact h1 d hd
    · rw [List.mem_singleton.mp hd]
      omega
theorem rise_of {l : Int} : ∀ (w : List Int), (∀ d ∈ diffs (0 :: w), 1 ≤ d ∧ d ≤ l) → ∀ x ∈ w, 1 ≤ x ∧ x ≤ lastOf w := by
  intro w
  induction w using snocRec with
  | nil => intro _ x hx; cases hx
  | append_singleton w y ih =>
    intro h x hx
    rw [diffs_last] at h
    have hy := h (y - lastOf w) (List.mem_append_right _ (List.mem_singleton.mpr rfl))
    have ih' := ih fun d hd => h d (List.mem_append_left _ hd)
    have h0 : 0 ≤ lastOf w := by
      cases hw : w.getLast? with
      | none => unfold lastOf; rw [hw]; exact Int.le_refl _
      | some z =>
        have := ih' z (List.mem_of_getLast? hw)
        omega
    rw [lastOf_snoc]
    rcases List.mem_append.mp hx with hx | hx
    · have := ih' x hx
      omega
    · rw [List.mem_singleton.mp hx]
      omega
theorem good_pfx {s l : Int} (hl : 1 ≤ l) {w : List Int} : goodWalk s l w = true ↔ Pfx s l w ∧ s + 1 - lastOf w ≤ l := by
  unfold goodWalk
  rw [Bool.and_eq_true, List.all_eq_true, List.all_eq_true, strides_last]
  constructor
  · rintro ⟨h1, h2⟩
    have hd : ∀ d ∈ diffs (0 :: w), 1 ≤ d ∧ d ≤ l := fun d hd => of_decide_eq_true (h2 d (List.mem_append_left _ hd))
    have he := of_decide_eq_true (h2 (s + 1 - lastOf w) (List.mem_append_right _ (List.mem_singleton.mpr rfl)))
    exact ⟨⟨hd, by omega⟩, by omega⟩
  · rintro ⟨⟨h1, h2⟩, h3⟩
    have hr := rise_of w h1
    refine ⟨fun x hx => decide_eq_true (by have := hr x hx; omega), fun d hd => decide_eq_true ?_⟩
    rcases List.mem_append.mp hd with hd | hd
    · exact h1 d hd
    · rw [List.mem_singleton.mp hd]
      omega
/-- the rows are the rising ones -/
theorem rows_rise : ∀ (st : List Int) (rows : List (List Int)), (∀ r ∈ rows, ∀ d ∈ diffs (0 :: r), 1 ≤ d) → (∀ r ∈ rows, ∀ a ∈ st, lastOf r < a) → st.Pairwise (· < ·) → ∀ r ∈ st.foldl (fun rows st => rows ++ rows.map fun r => r ++ [st]) rows, ∀ d ∈ diffs (0 :: r), 1 ≤ d
  | [], rows, h, _, _ => h
  | a :: st, rows, h, hl, hp => by
    rw [List.foldl_cons]
    have hp' := List.pairwise_cons.mp hp
    refine rows_rise st _ (fun r hr => ?_) (fun r hr b hb => ?_) hp'.2
    · rcases List.mem_append.mp hr with hr | hr
      · exact h r hr
      · obtain ⟨r0, h0, rfl⟩ := List.mem_map.mp hr
        intro d hd
        rw [diffs_last] at hd
        rcases List.mem_append.mp hd with hd | hd
        · exact h r0 h0 d hd
        · rw [List.mem_singleton.mp hd]
          have := hl r0 h0 a List.mem_cons_self
          omega
    · rcases List.mem_append.mp hr with hr | hr
      · exact hl r hr b (List.mem_cons_of_mem _ hb)
      · obtain ⟨r0, h0, rfl⟩ := List.mem_map.mp hr
        rw [lastOf_snoc]
        exact hp'.1 b hb
theorem rgI_sorted (a b : Int) : (rgI a b).Pairwise (· < ·) := by
  unfold rgI
  rw [List.pairwise_map]
  refine List.pairwise_lt_range.imp fun {x y} h => ?_
  omega
theorem mem_walks_good {s l : Int} (hf : FlOk s l) {w : List Int} : w ∈ walksI s l ↔ goodWalk s l w = true := by
  obtain ⟨f1, f2, f3, f4⟩ := id hf
  rw [mem_walksI]
  constructor
  · rintro ⟨h1, h2⟩
    have hr := rows_rise (rgI 1 (s + 1)) [[]] (fun r hr d hd => by rw [List.mem_singleton.mp hr] at hd; simp [diffs] at hd) (fun r hr a ha => by
      rw [List.mem_singleton.mp hr, lastOf_nil]
      have := mem_rgI.mp ha
      omega) (rgI_sorted _ _) w h1
    have hb := rows_in (fun r => lastOf r ≤ s) (rgI 1 (s + 1)) [[]] (fun r hr => by
      rw [List.mem_singleton.mp hr, lastOf_nil]
      omega) (fun r a _ ha => by
      rw [lastOf_snoc]
      have := mem_rgI.mp ha
      omega) w h1
    have hm := maxStride_le.mp h2
    rw [strides_last] at hm
    refine (good_pfx f3).mpr ⟨⟨fun d hd => ⟨hr d hd, hm d (List.mem_append_left _ hd)⟩, hb⟩, hm _ (List.mem_append_right _ (List.mem_singleton.mpr rfl))⟩
  · intro h
    obtain ⟨⟨h1, h2⟩, h3⟩ := (good_pfx f3).mp h
    refine ⟨?_, maxStride_le.mpr fun x hx => ?_⟩
    · -- the row picked by its own members
      have hr := rise_of w h1
      have e : w = (rgI 1 (s + 1)).filter fun x => decide (x ∈ w) := by
        have sw : w.Pairwise (· < ·) := by
          clear h h3 hr h2
          induction w using snocRec with
          | nil => exact .nil
          | append_singleton w y ih =>
            rw [diffs_last] at h1
            have hw := fun d hd => h1 d (List.mem_append_left _ hd)
            have hy := h1 (y - lastOf w) (List.mem_append_right _ (List.mem_singleton.mpr rfl))
            refine List.pairwise_append.mpr ⟨ih hw, List.pairwise_singleton _ _, fun a ha b hb => ?_⟩
            rw [List.mem_singleton.mp hb]
            have := rise_of w hw a ha
            omega
        have sf : ((rgI 1 (s + 1)).filter fun x => decide (x ∈ w)).Pairwise (· < ·) := (rgI_sorted _ _).filter _
        refine List.Perm.eq_of_pairwise (fun a b _ _ h1 h2 => ?_) sw sf ((List.perm_ext_iff_of_nodup (sw.imp fun {a b} h => by omega) (sf.imp fun {a b} h => by omega)).mpr fun a => ?_)
        · exfalso
          have h1' : a < b := h1
          have h2' : b < a := h2
          omega
        · rw [List.mem_filter, decide_eq_true_eq, mem_rgI]
          constructor
          · intro ha
            have := hr a ha
            exact ⟨by omega, ha⟩
          · exact fun z => z.2
      have := rows_filter (fun x => decide (x ∈ w)) (rgI 1 (s + 1)) [[]] [] List.mem_cons_self
      rw [List.nil_append, ← e] at this
      exact this
    · rw [strides_last] at hx
      rcases List.mem_append.mp hx with hx | hx
      · exact (h1 x hx).2
      · rw [List.mem_singleton.mp hx]
        exact h3
theorem allRows_nodup (s : Int) : (allRows s).Nodup := by
  have gen : ∀ (st : List Int) (rows : List (List Int)), rows.Nodup → (∀ r ∈ rows, ∀ a ∈ st, a ∉ r) → st.Nodup → (st.foldl (fun rows st => rows ++ rows.map fun r => r ++ [st]) rows).Nodup := fun st => by
    induction st with
    | nil => intro rows h _ _; exact h
    | cons a st ih =>
      intro rows h hm hn
      rw [List.foldl_cons]
      have hn' := List.nodup_cons.mp hn
      refine ih _ ?_ (fun r hr b hb => ?_) hn'.2
      · refine List.nodup_append.mpr ⟨h, ?_, fun r hr q hq => ?_⟩
        · refine List.pairwise_map.mpr (h.imp fun {x y} hxy e => hxy (List.append_cancel_right e))
        · obtain ⟨r0, h0, rfl⟩ := List.mem_map.mp hq
          intro e
          exact hm r hr a List.mem_cons_self (by rw [e]; exact List.mem_append_right _ (List.mem_singleton.mpr rfl))
      · rcases List.mem_append.mp hr with hr | hr
        · exact hm r hr b (List.mem_cons_of_mem _ hb)
        · obtain ⟨r0, h0, rfl⟩ := List.mem_map.mp hr
          intro z
          rcases List.mem_append.mp z with z | z
          · exact hm r0 h0 b (List.mem_cons_of_mem _ hb) z
          · rw [List.mem_singleton.mp z] at hb
            exact hn'.1 hb
  exact gen _ _ (by simp) (fun r hr a _ z => by rw [List.mem_singleton.mp hr] at z; cases z) ((rgI_sorted _ _).imp fun {a b} h => by omega)
theorem walks_nodup (s l : Int) : (walksI s l).Nodup := by
  unfold walksI
  exact (sortW_perm _).nodup_iff.mpr ((allRows_nodup s).filter _)
/-- the one sorted list of unlike rows with these members -/
theorem sort_unique {a b : List (List Int)} (ha : a.Nodup) (hb : b.Nodup) (h : ∀ x, x ∈ a ↔ x ∈ b) : sortW a = sortW b := by
  refine List.Perm.eq_of_pairwise (fun x y _ _ h1 h2 => ?_) (sortW_pairwise a) (sortW_pairwise b) (((sortW_perm a).trans ((List.perm_ext_iff_of_nodup ha hb).mpr h)).trans (sortW_perm b).symm)
  rw [leW_le, decide_eq_true_eq] at h1 h2
  exact List.le_antisymm h1 h2
theorem sort_walks (s l : Int) : sortW (walksI s l) = walksI s l := by
  unfold walksI
  exact sortW_sortW _
/-! ### all walks by a heap of starts -/
def kids (s l : Int) (p : List Int) : List (List Int) := (rgI (lastOf p + 1) ((if lastOf p + l < s then lastOf p + l else s) + 1)).map fun x => p ++ [x]
def wt (s : Int) (work : List (List Int)) : Nat := (work.map fun p => 2 ^ (s - lastOf p).toNat).sum
structure EInv (s l : Int) (found work : List (List Int)) : Prop where
  fw : ∀ w ∈ found, goodWalk s l w = true
  wp : ∀ p ∈ work, Pfx s l p
  cov : ∀ w, goodWalk s l w = true → w ∈ found ∨ ∃ p ∈ work, p <+: w
  nf : found.Nodup
  apart : ∀ w ∈ found, ∀ p ∈ work, ¬ p <+: w
  inc : work.Pairwise fun p q => ¬ p <+: q ∧ ¬ q <+: p
  few : found.length + wt s work ≤ 2 ^ s.toNat
theorem einv_start {s l : Int} (hf : FlOk s l) : EInv s l [] [[]] where
  fw := fun w h => nomatch h
  wp := fun p hp => by rw [List.mem_singleton.mp hp]; exact Pfx.nil (by have := hf.1; omega)
  cov := fun w _ => .inr ⟨[], List.mem_singleton.mpr rfl, List.nil_prefix⟩
  nf := .nil
  apart := fun w h => nomatch h
  inc := List.pairwise_singleton _ _
  few := by simp [wt, lastOf_nil]
theorem kids_sum (s a : Int) : ∀ n : Nat, a + n ≤ s → ((rgI (a + 1) (a + n + 1)).map fun x => 2 ^ (s - x).toNat).sum + 2 ^ (s - (a + n)).toNat ≤ 2 ^ (s - a).toNat
  | 0, _ => by
    rw [rgI_nil (by omega)]
    simp
  | n + 1, h => by
    have ih := kids_sum s a n (by omega)
    rw [show a + ((n + 1 : Nat) : Int) + 1 = (a + n + 1) + 1 by omega, rgI_snoc (by omega), List.map_append, List.sum_append]
    have e : (s - (a + n)).toNat = (s - (a + n + 1)).toNat + 1 := by omega
    rw [e, Nat.pow_succ] at ih
    rw [show a + ((n + 1 : Nat) : Int) = a + n + 1 by omega]
    simp only [List.map_cons, List.map_nil, List.sum_cons, List.sum_nil]
    omega
theorem einv_step {s l : Int} (hf : FlOk s l) {found work : List (List Int)} {p : List Int} (I : EInv s l found (work ++ [p])) : EInv s l (if s + 1 - lastOf p ≤ l then found ++ [p] else found) (work ++ kids s l p) ∧ wt s (work ++ kids s l p) < wt s (work ++ [p]) ∧ found.length < 2 ^ s.toNat := by
  obtain ⟨f1, f2, f3, f4⟩ := id hf
  have hp := I.wp p (List.mem_append_right _ (List.mem_singleton.mpr rfl))
  have pin : p ∈ work ++ [p] := List.mem_append_right _ (List.mem_singleton.mpr rfl)
  have hl0 : 0 ≤ lastOf p := by
    cases hw : p.getLast? with
    | none => unfold lastOf; rw [hw]; exact Int.le_refl _
    | some z =>
      have := rise_of p hp.1 z (List.mem_of_getLast? hw)
      unfold lastOf
      rw [hw]
      show 0 ≤ z
      omega
  have hk : ∀ q, q ∈ kids s l p ↔ ∃ x, q = p ++ [x] ∧ lastOf p < x ∧ x ≤ lastOf p + l ∧ x ≤ s := fun q => by
    unfold kids
    rw [List.mem_map]
    constructor
    · rintro ⟨x, hx, rfl⟩
      have := mem_rgI.mp hx
      refine ⟨x, rfl, by omega, ?_, ?_⟩
      · split at this <;> omega
      · split at this <;> omega
    · rintro ⟨x, rfl, h1, h2, h3⟩
      refine ⟨x, mem_rgI.mpr ⟨by omega, ?_⟩, rfl⟩
      split <;> omega
  have inc := List.pairwise_append.mp I.inc
  have incp : ∀ q ∈ work, ¬ q <+: p ∧ ¬ p <+: q := fun q hq => inc.2.2 q hq p (List.mem_singleton.mpr rfl)
  have wsum : wt s (work ++ kids s l p) + 1 ≤ wt s (work ++ [p]) := by
    unfold wt
    rw [List.map_append, List.map_append, List.sum_append, List.sum_append]
    have e : (kids s l p).map (fun q => 2 ^ (s - lastOf q).toNat) = (rgI (lastOf p + 1) ((if lastOf p + l < s then lastOf p + l else s) + 1)).map fun x => 2 ^ (s - x).toNat := by
      unfold kids
      rw [List.map_map]
      apply List.map_congr_left
      intro x _
      show 2 ^ (s - lastOf (p ++ [x])).toNat = _
      rw [lastOf_snoc]
    rw [e]
    obtain ⟨n, hn⟩ : ∃ n : Nat, (if lastOf p + l < s then lastOf p + l else s) = lastOf p + n := ⟨((if lastOf p + l < s then lastOf p + l else s) - lastOf p).toNat, by have := hp.2; split <;> omega⟩
    have := kids_sum s (lastOf p) n (by have := hp.2; rw [← hn]; split <;> omega)
    rw [hn]
    have p1 : 1 ≤ 2 ^ (s - (lastOf p + n)).toNat := Nat.one_le_two_pow
    simp only [List.map_cons, List.map_nil, List.sum_cons, List.sum_nil]
    omega
  have hfew := I.few
  have pf : p ∉ found := fun z => I.apart p z p pin (List.prefix_refl p)
  have sub : ∀ w, w ∈ (if s + 1 - lastOf p ≤ l then found ++ [p] else found) → w ∈ found ∨ (w = p ∧ s + 1 - lastOf p ≤ l) := fun w hw => by
    split at hw
    · rename_i hc
      rcases List.mem_append.mp hw with hw | hw
      · exact .inl hw
      · exact .inr ⟨List.mem_singleton.mp hw, hc⟩
    · exact .inl hw
  have sup : ∀ w ∈ found, w ∈ (if s + 1 - lastOf p ≤ l then found ++ [p] else found) := fun w hw => by
    split
    · exact List.mem_append_left _ hw
    · exact hw
  have kidp : ∀ q ∈ kids s l p, p <+: q := fun q hq => by
    obtain ⟨x, rfl, _⟩ := (hk q).mp hq
    exact List.prefix_append p [x]
  refine ⟨⟨fun w hw => ?_, fun q hq => ?_, fun w hw => ?_, ?_, fun w hw q hq => ?_, ?_, ?_⟩, by omega, by omega⟩
  · rcases sub w hw with h | ⟨rfl, h⟩
    · exact I.fw w h
    · exact (good_pfx f3).mpr ⟨hp, h⟩
  · rcases List.mem_append.mp hq with hq | hq
    · exact I.wp q (List.mem_append_left _ hq)
    · obtain ⟨x, rfl, h1, h2, h3⟩ := (hk q).mp hq
      exact pfx_snoc.mpr ⟨hp.1, h1, h2, h3⟩
  · rcases I.cov w hw with h | ⟨q, hq, hqw⟩
    · exact .inl (sup w h)
    · rcases List.mem_append.mp hq with hq | hq
      · exact .inr ⟨q, List.mem_append_left _ hq, hqw⟩
      · rw [List.mem_singleton.mp hq] at hqw
        obtain ⟨t, rfl⟩ := hqw
        obtain ⟨wd, wl⟩ := (good_pfx f3).mp hw
        cases t with
        | nil =>
          left
          rw [List.append_nil] at wl ⊢
          rw [if_pos wl]
          exact List.mem_append_right _ (List.mem_singleton.mpr rfl)
        | cons x t =>
          right
          refine ⟨p ++ [x], List.mem_append_right _ ((hk _).mpr ⟨x, rfl, ?_⟩), ⟨t, by simp⟩⟩
          -- the strides of a walk's start are among its own
          have key : ∀ (t q : List Int), (∀ d ∈ diffs (0 :: (q ++ t)), 1 ≤ d ∧ d ≤ l) → (∀ d ∈ diffs (0 :: q), 1 ≤ d ∧ d ≤ l) := by
            intro t
            induction t using snocRec with
            | nil => intro q h; rwa [List.append_nil] at h
            | append_singleton t y ih =>
              intro q h
              rw [← List.append_assoc, diffs_last] at h
              exact ih q fun d hd => h d (List.mem_append_left _ hd)
          have e : p ++ x :: t = (p ++ [x]) ++ t := by simp
          have h1 := key t (p ++ [x]) (by rw [← e]; exact wd.1)
          rw [diffs_last] at h1
          have h2 := h1 (x - lastOf p) (List.mem_append_right _ (List.mem_singleton.mpr rfl))
          have h3 := (rise_of _ wd.1 x (by simp)).2
          have := wd.2
          omega
  · split
    · exact List.nodup_append.mpr ⟨I.nf, List.pairwise_singleton _ _, fun a ha b hb => by rw [List.mem_singleton.mp hb]; exact fun e => pf (e ▸ ha)⟩
    · exact I.nf
  · rcases List.mem_append.mp hq with hq | hq
    · rcases sub w hw with h | ⟨e, _⟩
      · exact I.apart w h q (List.mem_append_left _ hq)
      · rw [e]
        exact (incp q hq).1
    · rcases sub w hw with h | ⟨e, _⟩
      · intro z
        exact I.apart w h p pin ((kidp q hq).trans z)
      · obtain ⟨x, rfl, _⟩ := (hk q).mp hq
        rw [e]
        intro z
        have := z.length_le
        rw [List.length_append, List.length_singleton] at this
        omega
  · refine List.pairwise_append.mpr ⟨inc.1, ?_, fun q hq r hr => ?_⟩
    · unfold kids
      rw [List.pairwise_map]
      refine (rgI_sorted _ _).imp fun {x y} hxy => ⟨fun z => ?_, fun z => ?_⟩
      · have := List.append_cancel_left (z.eq_of_length (by simp))
        simp at this
        omega
      · have := List.append_cancel_left (z.eq_of_length (by simp))
        simp at this
        omega
    · obtain ⟨x, rfl, _⟩ := (hk r).mp hr
      refine ⟨fun z => ?_, fun z => (incp q hq).2 ((List.prefix_append p [x]).trans z)⟩
      rcases List.prefix_concat_iff.mp z with e | z
      · exact (incp q hq).2 (by rw [e]; exact List.prefix_append p [x])
      · exact (incp q hq).1 z
  · split
    · rw [List.length_append, List.length_singleton]
      omega
    · omega
theorem einv_end {s l : Int} (hf : FlOk s l) {found : List (List Int)} (I : EInv s l found []) : sortW found = walksI s l := by
  rw [← sort_walks s l]
  refine sort_unique I.nf (walks_nodup s l) fun w => ?_
  rw [mem_walks_good hf]
  refine ⟨I.fw w, fun h => ?_⟩
  rcases I.cov w h with h | ⟨p, hp, _⟩
  · exact h
  · cases hp
end SD

namespace SD
open PySem PySem.Spec PyProof.Rows L2
/-! ### what is left behind walks -/
def leftN (wear walk : List Int) : Nat → Option (List Int)
  | 0 => some wear
  | n + 1 => match leftN wear walk n with
    | none => none
    | some w => if nonneg (subW w walk) = true then some (subW w walk) else none
def optD : Option (List Int) → D
  | none => .none
  | some w => tI w
def hasMany (s l : Int) (wear : List Int) (many : Int) (walk : List Int) (t : Nat) : Bool := decide ((t : Int) ≤ many) && match leftN wear walk t with
  | none => false
  | some w => doMake s l w (many - t)
theorem leftN_len {wear walk : List Int} : ∀ {n : Nat} {w : List Int}, leftN wear walk n = some w → w.length = wear.length
  | 0, w, h => by cases h; rfl
  | n + 1, w, h => by
    unfold leftN at h
    cases e : leftN wear walk n with
    | none => rw [e] at h; cases h
    | some v =>
      rw [e] at h
      dsimp only at h
      split at h
      · cases h
        rw [subW_len]
        exact leftN_len e
      · cases h
theorem subW_at {w walk : List Int} {i : Nat} (h : i < w.length) : at0 (subW w walk) i = at0 w i - hasI walk i := by
  have := subW_get (walk := walk) h
  unfold at0
  rw [List.getD_eq_getElem?_getD, this, List.getD_eq_getElem?_getD, List.getElem?_eq_getElem h]
  rfl
theorem leftN_at {wear walk : List Int} : ∀ {n : Nat} {w : List Int}, leftN wear walk n = some w → ∀ i, i < wear.length → at0 w i = at0 wear i - n * hasI walk i
  | 0, w, h, i, hi => by
    cases h
    rw [show ((0 : Nat) : Int) = 0 from rfl, Int.zero_mul, Int.sub_zero]
  | n + 1, w, h, i, hi => by
    unfold leftN at h
    cases e : leftN wear walk n with
    | none => rw [e] at h; cases h
    | some v =>
      rw [e] at h
      dsimp only at h
      split at h
      · cases h
        rw [subW_at (by rw [leftN_len e]; exact hi), leftN_at e i hi, show ((n + 1 : Nat) : Int) = (n : Int) + 1 from rfl, Int.add_mul, Int.one_mul]
        omega
      · cases h
theorem leftN_nonneg {wear walk : List Int} (h0 : ∀ x ∈ wear, 0 ≤ x) : ∀ {n : Nat} {w : List Int}, leftN wear walk n = some w → ∀ x ∈ w, 0 ≤ x
  | 0, w, h => by cases h; exact h0
  | n + 1, w, h => by
    unfold leftN at h
    cases e : leftN wear walk n with
    | none => rw [e] at h; cases h
    | some v =>
      rw [e] at h
      dsimp only at h
      split at h
      · rename_i hn
        cases h
        exact nonneg_iff.mp hn
      · cases h
/-- enough is worn: something is left -/
theorem leftN_some {wear walk : List Int} : ∀ {n : Nat}, (∀ i, i < wear.length → n * hasI walk i ≤ at0 wear i) → (∀ x ∈ wear, 0 ≤ x) → ∃ w, leftN wear walk n = some w
  | 0, _, _ => ⟨wear, rfl⟩
  | n + 1, h, h0 => by
    have hh : ∀ i, hasI walk i = 0 ∨ hasI walk i = 1 := fun i => by
      unfold hasI
      split
      · exact .inr rfl
      · exact .inl rfl
    obtain ⟨w, e⟩ := leftN_some (n := n) (fun i hi => by
      have := h i hi
      rcases hh i with z | z
      · rw [z, Int.mul_zero]
        have := h0 _ (at0_mem hi)
        omega
      · rw [z] at this ⊢
        omega) h0
    unfold leftN
    rw [e]
    dsimp only
    have hn : nonneg (subW w walk) = true := nonneg_iff.mpr fun x hx => by
      obtain ⟨i, hi, rfl⟩ := List.getElem_of_mem hx
      rw [subW_len, leftN_len e] at hi
      rw [← at0_get, subW_at (by rw [leftN_len e]; exact hi), leftN_at e i hi]
      have := h i hi
      rw [show ((n + 1 : Nat) : Int) = (n : Int) + 1 from rfl, Int.add_mul, Int.one_mul] at this
      omega
    rw [if_pos hn]
    exact ⟨_, rfl⟩
/-- a bag's wear, place by place -/
theorem sumOf_at {s : Int} {bag : List (List Int)} {i : Nat} (hi : (i : Int) < s) : at0 (sumOf s bag) i = trod bag i := by
  have es : sumOf s bag = (List.range s.toNat).map fun i => trod bag i := by
    have := sumOf_trod bag s.toNat
    rw [show ((s.toNat : Nat) : Int) = s by omega] at this
    exact this
  rw [es, at0_get (by simp; omega)]
  simp
theorem sumOf_len {s : Int} (h : 0 ≤ s) (bag : List (List Int)) : ((sumOf s bag).length : Int) = s := by
  unfold sumOf
  rw [List.length_map, rgI_len]
  omega
theorem trod_app (a b : List (List Int)) (i : Nat) : trod (a ++ b) i = trod a i + trod b i := by
  unfold trod
  rw [List.filter_append, List.length_append]
  omega
theorem trod_rep (walk : List Int) (i : Nat) : ∀ n : Nat, trod (List.replicate n walk) i = n * hasI walk i
  | 0 => by
    rw [show ((0 : Nat) : Int) = 0 from rfl, Int.zero_mul]
    rfl
  | n + 1 => by
    rw [List.replicate_succ, trod_cons, trod_rep walk i n, show ((n + 1 : Nat) : Int) = (n : Int) + 1 from rfl, Int.add_mul, Int.one_mul]
    omega
theorem trod_perm {a b : List (List Int)} (h : a.Perm b) (i : Nat) : trod a i = trod b i := by
  unfold trod
  rw [(h.filter _).length_eq]
theorem ext_at0 {a b : List Int} (hl : a.length = b.length) (h : ∀ i, i < a.length → at0 a i = at0 b i) : a = b := List.ext_getElem hl fun i q1 q2 => by
  rw [← at0_get q1, ← at0_get q2]
  exact h i q1
/-- like walks come first in a bag, the others behind -/
theorem bag_split (walk : List Int) (bag : List (List Int)) : bag.Perm (List.replicate (bag.countP fun w => decide (w = walk)) walk ++ bag.filter fun w => !decide (w = walk)) := by
  induction bag with
  | nil => exact .nil
  | cons w bag ih =>
    by_cases h : w = walk
    · rw [List.countP_cons_of_pos (by simpa using h), List.filter_cons_of_neg (by simpa using h), List.replicate_succ, h]
      exact ih.cons walk
    · rw [List.countP_cons_of_neg (by simpa using h), List.filter_cons_of_pos (by simpa using h)]
      exact (ih.cons w).trans List.perm_middle.symm
/-- t like walks of a bag taken away: the rest make the rest -/
theorem has_of_bag {s l : Int} (hf : FlOk s l) {bag : List (List Int)} (hb : ∀ w ∈ bag, w ∈ walksI s l) {walk : List Int} {t : Nat} (ht : t ≤ bag.countP fun w => decide (w = walk)) : hasMany s l (sumOf s bag) bag.length walk t = true := by
  obtain ⟨f1, f2, f3, f4⟩ := id hf
  have hp := bag_split walk bag
  generalize hc : bag.countP (fun w => decide (w = walk)) = c at hp ht
  -- the rest
  let rest := List.replicate (c - t) walk ++ bag.filter fun w => !decide (w = walk)
  have hp2 : bag.Perm (List.replicate t walk ++ rest) := by
    refine hp.trans ?_
    show (List.replicate c walk ++ _).Perm (List.replicate t walk ++ (List.replicate (c - t) walk ++ _))
    rw [← List.append_assoc, List.replicate_append_replicate, show t + (c - t) = c by omega]
  have hlen : bag.length = t + rest.length := by
    rw [hp2.length_eq, List.length_append, List.length_replicate]
  have hrest : ∀ w ∈ rest, w ∈ walksI s l := fun w hw => hb w (hp2.mem_iff.mpr (List.mem_append_right _ hw))
  have hat : ∀ i : Nat, (i : Int) < s → at0 (sumOf s bag) i = t * hasI walk i + trod rest i := fun i hi => by
    rw [sumOf_at hi, trod_perm hp2, trod_app, trod_rep]
  have hsl := sumOf_len (s := s) (by omega) bag
  obtain ⟨w, hw⟩ := leftN_some (wear := sumOf s bag) (walk := walk) (n := t) (fun i hi => by
    rw [hat i (by omega)]
    have := trod_nonneg rest i
    omega) (fun x hx => by
    obtain ⟨i, hi, rfl⟩ := List.getElem_of_mem hx
    rw [← at0_get hi, sumOf_at (by omega)]
    exact trod_nonneg _ _)
  have ew : w = sumOf s rest := by
    refine ext_at0 (by rw [leftN_len hw]; have := sumOf_len (s := s) (by omega) rest; omega) fun i hi => ?_
    rw [leftN_len hw] at hi
    rw [leftN_at hw i hi, hat i (by omega), sumOf_at (by omega)]
    omega
  unfold hasMany
  rw [hw, Bool.and_eq_true]
  refine ⟨decide_eq_true (by omega), ?_⟩
  show doMake s l w _ = true
  rw [ew, doMake_iff (sumOf_len (by omega) rest)]
  have := bag_mk (bag := rest) hf fun u hu => maxStride_le.mp (mem_walksI.mp (hrest u hu)).2
  rw [show ((bag.length : Int) - (t : Int)) = rest.length by omega]
  exact this
/-- the other way: so many can be had, a bag of them -/
theorem bag_of_has {s l : Int} (hf : FlOk s l) {wear : List Int} (hs : (wear.length : Int) = s) (h0 : ∀ x ∈ wear, 0 ≤ x) {m : Nat} {walk : List Int} {t : Nat} (h : hasMany s l wear m walk t = true) : ∃ left, leftN wear walk t = some left ∧ t ≤ m ∧ Mk s l left ((m - t : Nat) : Int) ∧ (left.length : Int) = s ∧ (∀ x ∈ left, 0 ≤ x) := by
  unfold hasMany at h
  rw [Bool.and_eq_true] at h
  obtain ⟨h1, h2⟩ := h
  have h1' := of_decide_eq_true h1
  cases e : leftN wear walk t with
  | none => rw [e] at h2; cases h2
  | some left =>
    rw [e] at h2
    have h2' : doMake s l left ((m : Int) - t) = true := h2
    have hl := leftN_len e
    rw [doMake_iff (by omega)] at h2'
    exact ⟨left, rfl, by omega, by rw [show ((m - t : Nat) : Int) = (m : Int) - t by omega]; exact h2', by omega, leftN_nonneg h0 e⟩
/-- the walk so often, the rest by turns: the wear -/
theorem with_wear {s l : Int} (hf : FlOk s l) {wear : List Int} (hs : (wear.length : Int) = s) (h0 : ∀ x ∈ wear, 0 ≤ x) {m t : Nat} {walk left : List Int} (hl : leftN wear walk t = some left) (hm : Mk s l left ((m - t : Nat) : Int)) : sumOf s (List.replicate t walk ++ turnsI left ((m - t : Nat) : Int)) = wear := by
  have hll := leftN_len hl
  have hn := leftN_nonneg h0 hl
  have st := sum_turns (wear := left) (m := m - t) fun x hx => ⟨hn x hx, hm.1 x hx⟩
  have hsl := sumOf_len (s := s) (by have := hf.1; omega) (List.replicate t walk ++ turnsI left ((m - t : Nat) : Int))
  refine ext_at0 (by omega) fun i hi => ?_
  have his : (i : Int) < s := by omega
  rw [sumOf_at his, trod_app, trod_rep]
  have e : trod (turnsI left ((m - t : Nat) : Int)) i = at0 left i := by
    have := sumOf_at (s := (left.length : Nat)) (bag := turnsI left ((m - t : Nat) : Int)) (i := i) (by omega)
    rw [st] at this
    exact this.symm
  rw [e, leftN_at hl i (by omega)]
  omega
end SD

namespace SD
open PySem PySem.Spec PyProof.Rows L2
/-! ### the bounds of two kinds -/
def bl (b : Bd) : List Int := [(b.1 : Int), (b.2.1 : Int), b.2.2]
theorem bl_inj {a b : Bd} (h : bl a = bl b) : a = b := by
  obtain ⟨a1, a2, a3⟩ := a
  obtain ⟨b1, b2, b3⟩ := b
  unfold bl at h
  injection h with h1 h
  injection h with h2 h
  injection h with h3 h
  have e1 : a1 = b1 := Int.ofNat.inj h1
  have e2 : a2 = b2 := Int.ofNat.inj h2
  have e3 : a3 = b3 := h3
  rw [e1, e2, e3]
theorem encB_bl (bs : List Bd) : bs.map encB = (bs.map bl).map tI := by
  rw [List.map_map]
  rfl
/-- sorted(set(..)) of bounds: bounds again -/
theorem set_bds {bs : List Bd} {out : List (List Int)} (h : SetOf (bs.map bl) out) : ∃ L : List Bd, out = L.map bl ∧ ∀ b, b ∈ L ↔ b ∈ bs := by
  have key : ∀ o : List (List Int), (∀ x ∈ o, x ∈ bs.map bl) → ∃ L : List Bd, o = L.map bl ∧ ∀ b ∈ L, b ∈ bs := fun o => by
    induction o with
    | nil => intro _; exact ⟨[], rfl, fun b hb => nomatch hb⟩
    | cons x o ih =>
      intro hx
      obtain ⟨b, hb, e⟩ := List.mem_map.mp (hx x List.mem_cons_self)
      obtain ⟨L, rfl, hL⟩ := ih fun y hy => hx y (List.mem_cons_of_mem _ hy)
      exact ⟨b :: L, by rw [List.map_cons, e], fun c hc => (List.mem_cons.mp hc).elim (fun z => z ▸ hb) (hL c)⟩
  obtain ⟨L, rfl, hL⟩ := key out fun x hx => (h.1 x).mp hx
  refine ⟨L, rfl, fun b => ⟨hL b, fun hb => ?_⟩⟩
  obtain ⟨c, hc, e⟩ := List.mem_map.mp ((h.1 (bl b)).mpr (List.mem_map.mpr ⟨b, hb, rfl⟩))
  rw [← bl_inj e]
  exact hc
def stepB2 (wear : List Int) (m1 m2 : Int) (i : Nat) : List Bd := [(i, i + 1, if m1 < at0 wear i then m1 else at0 wear i), (i + 1, i, -(addI (at0 wear i - m2)))]
def boundsI (s : Int) (wear : List Int) (l1 m1 l2 m2 : Int) : List Bd := (List.range s.toNat).flatMap (stepB2 wear m1 m2) ++ (rowsI s l1).map (fun b => ((b + l1 - 1).toNat, (b - 1).toNat, -m1)) ++ (rowsI s l2).map fun b => ((b - 1).toNat, (b + l2 - 1).toNat, withinI wear l2 b - m2)
theorem boundsI_ok {s : Int} {wear : List Int} {l1 m1 l2 m2 : Int} (h1 : FlOk s l1) (h2 : FlOk s l2) : BOk s.toNat (boundsI s wear l1 m1 l2 m2) := fun b hb => by
  obtain ⟨f1, f2, f3, f4⟩ := h1
  obtain ⟨_, _, g3, g4⟩ := h2
  unfold boundsI at hb
  rcases List.mem_append.mp hb with hb | hb
  · rcases List.mem_append.mp hb with hb | hb
    · obtain ⟨i, hi, hb⟩ := List.mem_flatMap.mp hb
      have := List.mem_range.mp hi
      unfold stepB2 at hb
      rcases List.mem_cons.mp hb with rfl | hb
      · exact ⟨by show i ≤ _; omega, by show i + 1 ≤ _; omega⟩
      · rw [List.mem_singleton.mp hb]
        exact ⟨by show i + 1 ≤ _; omega, by show i ≤ _; omega⟩
    · obtain ⟨x, hx, rfl⟩ := List.mem_map.mp hb
      have := mem_rgI.mp hx
      exact ⟨by show (x + l1 - 1).toNat ≤ _; omega, by show (x - 1).toNat ≤ _; omega⟩
  · obtain ⟨x, hx, rfl⟩ := List.mem_map.mp hb
    have := mem_rgI.mp hx
    exact ⟨by show (x - 1).toNat ≤ _; omega, by show (x + l2 - 1).toNat ≤ _; omega⟩
theorem boundsI_len {s : Int} {wear : List Int} {l1 m1 l2 m2 : Int} (h1 : FlOk s l1) (h2 : FlOk s l2) : (boundsI s wear l1 m1 l2 m2).length ≤ 32 := by
  obtain ⟨f1, f2, f3, f4⟩ := h1
  obtain ⟨_, _, g3, g4⟩ := h2
  unfold boundsI rowsI
  rw [List.length_append, List.length_append, List.length_map, List.length_map, rgI_len, rgI_len]
  have : ∀ n, ((List.range n).flatMap (stepB2 wear m1 m2)).length = 2 * n := fun n => by
    induction n with
    | zero => rfl
    | succ n ih =>
      rw [List.range_succ, List.flatMap_append, List.length_append, ih]
      simp [stepB2]
      omega
  rw [this]
  omega
/-- the differences of the sums -/
def difL (s : Nat) (x : Nat → Int) : List Int := (List.range s).map fun i => x (i + 1) - x i
theorem difL_len (s : Nat) (x : Nat → Int) : (difL s x).length = s := by simp [difL]
theorem difL_at {s : Nat} {x : Nat → Int} {i : Nat} (h : i < s) : at0 (difL s x) i = x (i + 1) - x i := by
  rw [at0_get (by rw [difL_len]; exact h)]
  simp [difL]
theorem difL_win {s : Nat} {x : Nat → Int} {f : Nat} : ∀ n, f + n ≤ s → winS (difL s x) f n = x (f + n) - x f
  | 0, _ => by
    show (0 : Int) = x f - x f
    omega
  | n + 1, h => by
    rw [winS_succ, difL_win n (by omega), difL_at (by omega), Nat.add_assoc]
    omega
def minus (a b : List Int) : List Int := (a.zip b).map fun p => p.1 - p.2
theorem minus_len {a b : List Int} (h : a.length = b.length) : (minus a b).length = a.length := by simp [minus, h]
theorem minus_at {a b : List Int} (h : a.length = b.length) {i : Nat} (hi : i < a.length) : at0 (minus a b) i = at0 a i - at0 b i := by
  rw [at0_get (by rw [minus_len h]; exact hi), at0_get hi, at0_get (by omega)]
  simp [minus]
theorem minus_win {a b : List Int} (h : a.length = b.length) {f : Nat} : ∀ n, f + n ≤ a.length → winS (minus a b) f n = winS a f n - winS b f n
  | 0, _ => rfl
  | n + 1, hn => by
    rw [winS_succ, winS_succ, winS_succ, minus_win h n (by omega), minus_at h (by omega)]
    omega
/-- what the first kind wears -/
def Part (s l1 m1 l2 m2 : Int) (wear p : List Int) : Prop := (p.length : Int) = s ∧ (∀ i, i < p.length → 0 ≤ at0 p i ∧ at0 p i ≤ at0 wear i) ∧ Mk s l1 p m1 ∧ Mk s l2 (minus wear p) m2
theorem feas_part {s : Int} {wear : List Int} {l1 m1 l2 m2 : Int} (h1 : FlOk s l1) (h2 : FlOk s l2) (hs : (wear.length : Int) = s) {x : Nat → Int} (hx : Feas (boundsI s wear l1 m1 l2 m2) x) : Part s l1 m1 l2 m2 wear (difL s.toNat x) := by
  obtain ⟨f1, f2, f3, f4⟩ := id h1
  obtain ⟨_, _, g3, g4⟩ := id h2
  have hl := difL_len s.toNat x
  have step : ∀ i, i < s.toNat → at0 (difL s.toNat x) i ≤ at0 wear i ∧ at0 (difL s.toNat x) i ≤ m1 ∧ 0 ≤ at0 (difL s.toNat x) i ∧ at0 wear i - m2 ≤ at0 (difL s.toNat x) i := fun i hi => by
    rw [difL_at hi]
    have a := hx (i, i + 1, if m1 < at0 wear i then m1 else at0 wear i) (List.mem_append_left _ (List.mem_append_left _ (List.mem_flatMap.mpr ⟨i, List.mem_range.mpr hi, by unfold stepB2; exact List.mem_cons_self⟩)))
    have b := hx (i + 1, i, -(addI (at0 wear i - m2))) (List.mem_append_left _ (List.mem_append_left _ (List.mem_flatMap.mpr ⟨i, List.mem_range.mpr hi, by unfold stepB2; exact List.mem_cons_of_mem _ List.mem_cons_self⟩)))
    have a' : x (i + 1) ≤ x i + (if m1 < at0 wear i then m1 else at0 wear i) := a
    have b' : x i ≤ x (i + 1) + -(addI (at0 wear i - m2)) := b
    have := addI_ge (at0 wear i - m2)
    split at a' <;> omega
  have hl2 : ((difL s.toNat x).length : Int) = s := by omega
  have hml : ((minus wear (difL s.toNat x)).length : Int) = s := by rw [minus_len (by omega)]; exact hs
  refine ⟨hl2, fun i hi => ?_, (Mk_win h1 hl2).mpr ⟨fun i hi => (step i (by omega)).2.1, fun f hf => ?_⟩, (Mk_win h2 hml).mpr ⟨fun i hi => ?_, fun f hf => ?_⟩⟩
  · have := step i (by omega)
    omega
  · have a := hx (((f : Int) + 1 + l1 - 1).toNat, ((f : Int) + 1 - 1).toNat, -m1) (List.mem_append_left _ (List.mem_append_right _ (List.mem_map.mpr ⟨(f : Int) + 1, mem_rgI.mpr (by omega), rfl⟩)))
    rw [show ((f : Int) + 1 + l1 - 1).toNat = f + l1.toNat by omega, show ((f : Int) + 1 - 1).toNat = f by omega] at a
    have a' : x f ≤ x (f + l1.toNat) + -m1 := a
    rw [difL_win _ (by omega)]
    omega
  · rw [minus_len (by omega)] at hi
    rw [minus_at (by omega) hi]
    have := step i (by omega)
    omega
  · rw [minus_len (by omega)] at hf
    have a := hx (((f : Int) + 1 - 1).toNat, ((f : Int) + 1 + l2 - 1).toNat, withinI wear l2 ((f : Int) + 1) - m2) (List.mem_append_right _ (List.mem_map.mpr ⟨(f : Int) + 1, mem_rgI.mpr (by omega), rfl⟩))
    rw [show ((f : Int) + 1 + l2 - 1).toNat = f + l2.toNat by omega, show ((f : Int) + 1 - 1).toNat = f by omega, within_win h2 hs (mem_rgI.mpr (by omega)), show ((f : Int) + 1 - 1).toNat = f by omega] at a
    have a' : x (f + l2.toNat) ≤ x f + (winS wear f l2.toNat - m2) := a
    rw [minus_win (by omega) _ (by omega), difL_win _ (by omega)]
    omega
theorem part_feas {s : Int} {wear : List Int} {l1 m1 l2 m2 : Int} (h1 : FlOk s l1) (h2 : FlOk s l2) (hs : (wear.length : Int) = s) {p : List Int} (hp : Part s l1 m1 l2 m2 wear p) : Feas (boundsI s wear l1 m1 l2 m2) (rs (at0 p) 0) := by
  obtain ⟨f1, f2, f3, f4⟩ := id h1
  obtain ⟨_, _, g3, g4⟩ := id h2
  obtain ⟨p1, p2, p3, p4⟩ := hp
  obtain ⟨a1, a2⟩ := (Mk_win h1 p1).mp p3
  have hml : ((minus wear p).length : Int) = s := by rw [minus_len (by omega)]; exact hs
  obtain ⟨b1, b2⟩ := (Mk_win h2 hml).mp p4
  rw [minus_len (by omega)] at b1 b2
  intro b hb
  unfold boundsI at hb
  rcases List.mem_append.mp hb with hb | hb
  · rcases List.mem_append.mp hb with hb | hb
    · obtain ⟨i, hi, hb⟩ := List.mem_flatMap.mp hb
      have hi' := List.mem_range.mp hi
      have q1 := p2 i (by omega)
      have q2 := a1 i (by omega)
      have q3 := b1 i (by omega)
      rw [minus_at (by omega) (by omega)] at q3
      unfold stepB2 at hb
      rcases List.mem_cons.mp hb with rfl | hb
      · show rs (at0 p) 0 (i + 1) ≤ rs (at0 p) 0 i + _
        rw [rs_succ, Nat.zero_add]
        dsimp only
        split <;> omega
      · rw [List.mem_singleton.mp hb]
        show rs (at0 p) 0 i ≤ rs (at0 p) 0 (i + 1) + _
        rw [rs_succ, Nat.zero_add]
        dsimp only
        unfold addI
        split <;> omega
    · obtain ⟨y, hy, rfl⟩ := List.mem_map.mp hb
      have hr := mem_rgI.mp hy
      have q := a2 (y - 1).toNat (by omega)
      show rs (at0 p) 0 (y - 1).toNat ≤ rs (at0 p) 0 (y + l1 - 1).toNat + -m1
      rw [show (y + l1 - 1).toNat = (y - 1).toNat + l1.toNat by omega, rs_cat, Nat.zero_add]
      rw [rs_win] at q
      omega
  · obtain ⟨y, hy, rfl⟩ := List.mem_map.mp hb
    have hr := mem_rgI.mp hy
    have q := b2 (y - 1).toNat (by omega)
    rw [minus_win (by omega) _ (by omega)] at q
    show rs (at0 p) 0 (y + l2 - 1).toNat ≤ rs (at0 p) 0 (y - 1).toNat + (withinI wear l2 y - m2)
    rw [within_win h2 hs hy, show (y + l2 - 1).toNat = (y - 1).toNat + l2.toNat by omega, rs_cat, Nat.zero_add]
    rw [rs_win p] at q
    omega
def fixB (i : Nat) (w : Int) : List Bd := [(i, i + 1, w), (i + 1, i, -w)]
theorem fix_feas {i : Nat} {w : Int} {x : Nat → Int} : Feas (fixB i w) x ↔ x (i + 1) - x i = w := by
  unfold Feas fixB
  constructor
  · intro h
    have a : x (i + 1) ≤ x i + w := h (i, i + 1, w) List.mem_cons_self
    have b : x i ≤ x (i + 1) + -w := h (i + 1, i, -w) (List.mem_cons_of_mem _ List.mem_cons_self)
    omega
  · intro h b hb
    rcases List.mem_cons.mp hb with rfl | hb
    · show x (i + 1) ≤ x i + w
      omega
    · rw [List.mem_singleton.mp hb]
      show x i ≤ x (i + 1) + -w
      omega
theorem feas_app {a b : List Bd} {x : Nat → Int} : Feas (a ++ b) x ↔ Feas a x ∧ Feas b x := ⟨fun h => ⟨fun c hc => h c (List.mem_append_left _ hc), fun c hc => h c (List.mem_append_right _ hc)⟩, fun h c hc => (List.mem_append.mp hc).elim (h.1 c) (h.2 c)⟩
theorem feas_mem {a b : List Bd} (h : ∀ c, c ∈ a ↔ c ∈ b) {x : Nat → Int} : Feas a x ↔ Feas b x := ⟨fun k c hc => k c ((h c).mpr hc), fun k c hc => k c ((h c).mp hc)⟩
/-! ### both of two steps -/
def trodB (bag : List (List Int)) (i j : Nat) : Nat := (bag.filter fun w => decide ((i : Int) + 1 ∈ w) && decide ((j : Int) + 1 ∈ w)).length
/-- those who tread a step, and the others -/
theorem part_of_bag {s l : Int} (hf : FlOk s l) {bag : List (List Int)} (hb : ∀ w ∈ bag, w ∈ walksI s l) (i : Nat) : Part s l (trod bag i) l ((bag.length : Int) - trod bag i) (sumOf s bag) (sumOf s (bag.filter fun w => decide ((i : Int) + 1 ∈ w))) := by
  obtain ⟨f1, f2, f3, f4⟩ := id hf
  have hl1 := sumOf_len (s := s) (by omega) (bag.filter fun w => decide ((i : Int) + 1 ∈ w))
  have hl2 := sumOf_len (s := s) (by omega) bag
  have split : ∀ k, trod bag k = trod (bag.filter fun w => decide ((i : Int) + 1 ∈ w)) k + trod (bag.filter fun w => !decide ((i : Int) + 1 ∈ w)) k := fun k => by
    rw [← trod_app]
    exact trod_perm (List.filter_append_perm (fun w => decide ((i : Int) + 1 ∈ w)) bag).symm k
  have em : minus (sumOf s bag) (sumOf s (bag.filter fun w => decide ((i : Int) + 1 ∈ w))) = sumOf s (bag.filter fun w => !decide ((i : Int) + 1 ∈ w)) := by
    have hl3 := sumOf_len (s := s) (by omega) (bag.filter fun w => !decide ((i : Int) + 1 ∈ w))
    refine ext_at0 (by rw [minus_len (by omega)]; omega) fun k hk => ?_
    rw [minus_len (by omega)] at hk
    rw [minus_at (by omega) hk, sumOf_at (by omega), sumOf_at (by omega), sumOf_at (by omega), split k]
    omega
  have stb : ∀ (q : List Int → Bool), ∀ w ∈ bag.filter q, ∀ d ∈ stridesI s w, d ≤ l := fun q w hw => maxStride_le.mp (mem_walksI.mp (hb w (List.mem_filter.mp hw).1)).2
  refine ⟨hl1, fun k hk => ?_, ?_, ?_⟩
  · rw [sumOf_at (by omega), sumOf_at (by omega), split k]
    have := trod_nonneg (bag.filter fun w => decide ((i : Int) + 1 ∈ w)) k
    have := trod_nonneg (bag.filter fun w => !decide ((i : Int) + 1 ∈ w)) k
    omega
  · exact bag_mk hf (stb _)
  · rw [em]
    have := bag_mk (bag := bag.filter fun w => !decide ((i : Int) + 1 ∈ w)) hf (stb _)
    have hlen := (List.filter_append_perm (fun w => decide ((i : Int) + 1 ∈ w)) bag).length_eq
    rw [List.length_append] at hlen
    have e : (bag.length : Int) - trod bag i = ((bag.filter fun w => !decide ((i : Int) + 1 ∈ w)).length : Int) := by
      unfold trod
      omega
    rw [e]
    exact this
theorem trod_filter (bag : List (List Int)) (i j : Nat) : trod (bag.filter fun w => decide ((i : Int) + 1 ∈ w)) j = trodB bag i j := by
  unfold trod trodB
  rw [List.filter_filter]
  congr 3
  funext w
  rw [Bool.and_comm]
end SD

namespace SD
open PySem PySem.Spec PyProof.Rows L2
theorem rgI_get {a b : Int} {n : Nat} (h : n < (rgI a b).length) : (rgI a b)[n] = a + n := by
  simp [rgI]
theorem at_wear {wear : List Int} {i : Nat} (h : i < wear.length) : atI (wear.map PyData.int) ((i : Int) + 1 - 1) = some (.int (at0 wear i)) := by
  rw [Int.add_sub_cancel, atI_map .int (by omega) (by omega), Int.toNat_natCast, at0_get h, List.getElem?_eq_getElem h]
  rfl
theorem nodup_len {α : Type} [BEq α] [LawfulBEq α] {xs : List α} : ∀ {ys : List α}, xs.Nodup → (∀ x ∈ xs, x ∈ ys) → xs.length ≤ ys.length := by
  induction xs with
  | nil => intro ys _ _; exact Nat.zero_le _
  | cons x xs ih =>
    intro ys hn hs
    obtain ⟨h1, h2⟩ := List.nodup_cons.mp hn
    have := ih (ys := ys.erase x) h2 fun y hy => (List.mem_erase_of_ne (a := y) (b := x) (fun e => h1 (by rw [← e]; exact hy))).mpr (hs y (List.mem_cons_of_mem _ hy))
    rw [List.length_erase_of_mem (hs x List.mem_cons_self)] at this
    have := List.length_pos_of_mem (hs x List.mem_cons_self)
    rw [List.length_cons]
    omega
theorem SetOf_len {ns out : List (List Int)} (h : SetOf ns out) : out.length ≤ ns.length := nodup_len h.2.1 fun x hx => (h.1 x).mp hx
/-! ### both of two steps: the numbers -/
def bothB (s l : Int) (wear : List Int) (many : Int) (i j : Nat) (b : Int) : List Bd := boundsI s wear l (at0 wear i) l (many - at0 wear i) ++ fixB i (at0 wear i) ++ fixB j b
def bothsI (s l : Int) (wear : List Int) (many : Int) (i j : Nat) : List Int := (rgI 0 ((if at0 wear j < at0 wear i then at0 wear j else at0 wear i) + 1)).filter fun b => (ringI s.toNat (bothB s l wear many i j b)).isNone
theorem fixB_ok {s i : Nat} {w : Int} (h : i < s) : BOk s (fixB i w) := fun b hb => by
  unfold fixB at hb
  rcases List.mem_cons.mp hb with rfl | hb
  · exact ⟨by show i ≤ s; omega, by show i + 1 ≤ s; omega⟩
  · rw [List.mem_singleton.mp hb]
    exact ⟨by show i + 1 ≤ s; omega, by show i ≤ s; omega⟩
theorem bok_app {s : Nat} {a b : List Bd} (h : BOk s a) (k : BOk s b) : BOk s (a ++ b) := fun c hc => (List.mem_append.mp hc).elim (h c) (k c)
theorem bothB_ok {s l : Int} {wear : List Int} {many : Int} {i j : Nat} {b : Int} (hf : FlOk s l) (hi : (i : Int) < s) (hj : (j : Int) < s) : BOk s.toNat (bothB s l wear many i j b) := bok_app (bok_app (boundsI_ok hf hf) (fixB_ok (by omega))) (fixB_ok (by omega))
theorem bothB_part {s l : Int} {wear : List Int} {many : Int} {i j : Nat} {b : Int} (hf : FlOk s l) (hs : (wear.length : Int) = s) (hi : (i : Int) < s) (hj : (j : Int) < s) : ringI s.toNat (bothB s l wear many i j b) = none ↔ ∃ p, Part s l (at0 wear i) l (many - at0 wear i) wear p ∧ at0 p i = at0 wear i ∧ at0 p j = b := by
  rw [ring_iff (bothB_ok hf hi hj)]
  unfold bothB
  constructor
  · rintro ⟨x, hx⟩
    obtain ⟨hx, h3⟩ := feas_app.mp hx
    obtain ⟨h1, h2⟩ := feas_app.mp hx
    refine ⟨_, feas_part hf hf hs h1, ?_, ?_⟩
    · rw [difL_at (by omega)]
      exact fix_feas.mp h2
    · rw [difL_at (by omega)]
      exact fix_feas.mp h3
  · rintro ⟨p, hp, e1, e2⟩
    refine ⟨_, feas_app.mpr ⟨feas_app.mpr ⟨part_feas hf hf hs hp, fix_feas.mpr ?_⟩, fix_feas.mpr ?_⟩⟩
    · rw [rs_succ, Nat.zero_add, e1]
      omega
    · rw [rs_succ, Nat.zero_add, e2]
      omega
theorem part_at {s l1 m1 l2 m2 : Int} {wear p : List Int} (h1 : FlOk s l1) (h2 : FlOk s l2) (hs : (wear.length : Int) = s) (hp : Part s l1 m1 l2 m2 wear p) {j : Nat} (hj : (j : Int) < s) : 0 ≤ at0 p j ∧ at0 p j ≤ at0 wear j ∧ at0 p j ≤ m1 ∧ at0 wear j - at0 p j ≤ m2 := by
  obtain ⟨p1, p2, p3, p4⟩ := hp
  have a := p2 j (by omega)
  have b := p3.1 _ (at0_mem (row := p) (i := j) (by omega))
  have hm : (minus wear p).length = wear.length := minus_len (by omega)
  have c := p4.1 _ (at0_mem (row := minus wear p) (i := j) (by omega))
  rw [minus_at (by omega) (by omega)] at c
  exact ⟨a.1, a.2, b, c⟩
theorem mem_boths {s l : Int} {wear : List Int} {many : Int} {i j : Nat} (hf : FlOk s l) (hs : (wear.length : Int) = s) (hi : (i : Int) < s) (hj : (j : Int) < s) {b : Int} : b ∈ bothsI s l wear many i j ↔ ∃ p, Part s l (at0 wear i) l (many - at0 wear i) wear p ∧ at0 p i = at0 wear i ∧ at0 p j = b := by
  unfold bothsI
  rw [List.mem_filter, Option.isNone_iff_eq_none, bothB_part hf hs hi hj, mem_rgI]
  refine ⟨fun h => h.2, fun h => ⟨?_, h⟩⟩
  obtain ⟨p, hp, e1, rfl⟩ := h
  have := part_at hf hf hs hp hj
  split <;> omega
theorem boths_sorted {s l : Int} {wear : List Int} {many : Int} {i j : Nat} : (bothsI s l wear many i j).Pairwise (· < ·) := (rgI_sorted _ _).filter _
theorem boths_low {s l : Int} {wear : List Int} {many : Int} {i j : Nat} (hf : FlOk s l) (hs : (wear.length : Int) = s) (hi : (i : Int) < s) (hj : (j : Int) < s) {b : Int} (hb : b ∈ bothsI s l wear many i j) : at0 wear i + at0 wear j - many ≤ b ∧ 0 ≤ b ∧ b ≤ at0 wear i ∧ b ≤ at0 wear j := by
  obtain ⟨p, hp, e1, rfl⟩ := (mem_boths hf hs hi hj).mp hb
  have := part_at hf hf hs hp hj
  omega
theorem boths_bag {s l : Int} (hf : FlOk s l) {bag : List (List Int)} (hb : ∀ w ∈ bag, w ∈ walksI s l) {i j : Nat} (hi : (i : Int) < s) (hj : (j : Int) < s) : (trodB bag i j : Int) ∈ bothsI s l (sumOf s bag) bag.length i j := by
  obtain ⟨f1, f2, f3, f4⟩ := id hf
  have hl2 := sumOf_len (s := s) (by omega) bag
  rw [mem_boths hf hl2 hi hj, sumOf_at (by omega)]
  have hl1 := sumOf_len (s := s) (by omega) (bag.filter fun w => decide ((i : Int) + 1 ∈ w))
  refine ⟨_, part_of_bag hf hb i, ?_, ?_⟩
  · rw [sumOf_at (by omega), trod_filter]
    unfold trodB trod
    congr 3
    funext w
    rw [Bool.and_self]
  · rw [sumOf_at (by omega), trod_filter]
theorem sorted_ends {xs : List Int} (h : xs.Pairwise (· < ·)) {x : Int} (hx : x ∈ xs) : ∃ lo r hi r', xs = lo :: r ∧ xs = r' ++ [hi] ∧ lo ≤ x ∧ x ≤ hi := by
  cases xs with
  | nil => cases hx
  | cons lo r =>
    obtain ⟨r', hi, e⟩ : ∃ r' hi, lo :: r = r' ++ [hi] := ⟨(lo :: r).dropLast, (lo :: r).getLast (by simp), (List.dropLast_concat_getLast (by simp)).symm⟩
    refine ⟨lo, r, hi, r', rfl, e, ?_, ?_⟩
    · rcases List.mem_cons.mp hx with rfl | hx
      · exact Int.le_refl _
      · exact Int.le_of_lt ((List.pairwise_cons.mp h).1 x hx)
    · rw [e] at h hx
      rcases List.mem_append.mp hx with hx | hx
      · exact Int.le_of_lt ((List.pairwise_append.mp h).2.2 x hx hi (List.mem_singleton.mpr rfl))
      · rw [List.mem_singleton.mp hx]
        exact Int.le_refl _
end SD

namespace SD
open PySem PySem.Spec PyProof.Rows L2
/-! ### strides together -/
theorem diffs_sum : ∀ (w : List Int) (a x : Int), (diffs (a :: (w ++ [x]))).sum = x - a
  | [], a, x => by
    rw [List.nil_append, diffs_cons, diffs_one]
    simp
  | b :: w, a, x => by
    rw [List.cons_append, diffs_cons, List.sum_cons, diffs_sum w b x]
    omega
theorem strides_sum (s : Int) (w : List Int) : (stridesI s w).sum = s + 1 := by
  unfold stridesI
  rw [diffs_sum]
  omega
theorem good_strides {s l : Int} {w : List Int} (h : goodWalk s l w = true) : ∀ d ∈ stridesI s w, 1 ≤ d ∧ d ≤ l := by
  unfold goodWalk at h
  rw [Bool.and_eq_true] at h
  intro d hd
  exact of_decide_eq_true (List.all_eq_true.mp h.2 d hd)
theorem good_in {s l : Int} {w : List Int} (h : goodWalk s l w = true) : ∀ d ∈ w, 1 ≤ d ∧ d ≤ s := by
  unfold goodWalk at h
  rw [Bool.and_eq_true] at h
  intro d hd
  exact of_decide_eq_true (List.all_eq_true.mp h.1 d hd)
theorem diffs_up : ∀ (w : List Int) (a : Int), (∀ d ∈ diffs (a :: w), 1 ≤ d) → (∀ x ∈ w, a < x) ∧ w.Nodup
  | [], a, _ => ⟨fun x hx => (nomatch hx), List.nodup_nil⟩
  | b :: w, a, h => by
    rw [diffs_cons] at h
    have h1 := h _ List.mem_cons_self
    obtain ⟨k1, k2⟩ := diffs_up w b fun d hd => h d (List.mem_cons_of_mem _ hd)
    refine ⟨fun x hx => ?_, List.nodup_cons.mpr ⟨fun z => ?_, k2⟩⟩
    · rcases List.mem_cons.mp hx with rfl | hx
      · omega
      · have := k1 x hx
        omega
    · have := k1 b z
      omega
theorem good_nodup {s l : Int} {w : List Int} (h : goodWalk s l w = true) : w.Nodup := by
  have := (diffs_up (w ++ [s + 1]) 0 fun d hd => (good_strides h d hd).1).2
  exact (List.nodup_append.mp this).1
/-! sums over the steps -/
def sumR (f : Nat → Int) (n : Nat) : Int := ((List.range n).map f).sum
theorem sumR_succ (f : Nat → Int) (n : Nat) : sumR f (n + 1) = sumR f n + f n := by
  unfold sumR
  rw [List.range_succ, List.map_append, List.sum_append]
  simp
theorem sumR_add (f g : Nat → Int) : ∀ n, sumR (fun i => f i + g i) n = sumR f n + sumR g n
  | 0 => rfl
  | n + 1 => by
    rw [sumR_succ, sumR_succ, sumR_succ, sumR_add f g n]
    omega
theorem sumR_zero : ∀ n, sumR (fun _ => 0) n = 0
  | 0 => rfl
  | n + 1 => by rw [sumR_succ, sumR_zero n]; rfl
theorem sumR_one (x : Int) : ∀ n : Nat, sumR (fun i => if (i : Int) + 1 = x then 1 else 0) n = if 1 ≤ x ∧ x ≤ n then 1 else 0
  | 0 => by
    rw [if_neg (by omega)]
    rfl
  | n + 1 => by
    rw [sumR_succ, sumR_one x n]
    by_cases h1 : (n : Int) + 1 = x
    · rw [if_pos h1, if_neg (by omega), if_pos (by omega)]
      rfl
    · rw [if_neg h1]
      by_cases h2 : 1 ≤ x ∧ x ≤ n
      · rw [if_pos h2, if_pos (by omega)]
        rfl
      · rw [if_neg h2, if_neg (by omega)]
        rfl
theorem has_sum (n : Nat) : ∀ (w : List Int), w.Nodup → (∀ x ∈ w, 1 ≤ x ∧ x ≤ n) → sumR (hasI w) n = w.length
  | [], _, _ => by
    have : hasI [] = fun _ => 0 := by
      funext i
      simp [hasI]
    rw [this, sumR_zero]
    rfl
  | x :: w, hn, hb => by
    obtain ⟨h1, h2⟩ := List.nodup_cons.mp hn
    have : hasI (x :: w) = fun i : Nat => (if (i : Int) + 1 = x then 1 else 0) + hasI w i := by
      funext i
      unfold hasI
      by_cases e : (i : Int) + 1 = x
      · rw [if_pos e, if_pos (by simp [e]), if_neg (by rw [e, decide_eq_true_eq]; exact h1)]
        rfl
      · rw [if_neg e]
        by_cases e2 : (i : Int) + 1 ∈ w
        · rw [if_pos (by simp [e2]), if_pos (by simp [e2])]
          rfl
        · rw [if_neg (by simp [e, e2]), if_neg (by simp [e2])]
          rfl
    rw [this, sumR_add, sumR_one, if_pos (hb x List.mem_cons_self), has_sum n w h2 fun y hy => hb y (List.mem_cons_of_mem _ hy), List.length_cons]
    omega
theorem trod_sum (n : Nat) : ∀ (bag : List (List Int)), (∀ w ∈ bag, w.Nodup ∧ ∀ x ∈ w, 1 ≤ x ∧ x ≤ n) → sumR (trod bag) n = (bag.map fun w => (w.length : Int)).sum
  | [], _ => by
    have : trod [] = fun _ => 0 := funext trod_nil
    rw [this, sumR_zero]
    rfl
  | w :: bag, h => by
    have : trod (w :: bag) = fun i => hasI w i + trod bag i := funext (trod_cons w bag)
    obtain ⟨h1, h2⟩ := h w List.mem_cons_self
    rw [this, sumR_add, has_sum n w h1 h2, trod_sum n bag fun u hu => h u (List.mem_cons_of_mem _ hu), List.map_cons, List.sum_cons]
theorem wear_sum {s l : Int} (hf : FlOk s l) {bag : List (List Int)} (hb : ∀ w ∈ bag, w ∈ walksI s l) : (sumOf s bag).sum = (bag.map fun w => (w.length : Int)).sum := by
  obtain ⟨f1, f2, f3, f4⟩ := id hf
  obtain ⟨n, rfl⟩ : ∃ n : Nat, s = n := ⟨s.toNat, by omega⟩
  rw [sumOf_trod]
  exact trod_sum n bag fun w hw => ⟨good_nodup ((mem_walks_good hf).mp (hb w hw)), good_in ((mem_walks_good hf).mp (hb w hw))⟩
/-! all strides -/
def allStr (s : Int) (bag : List (List Int)) : List Int := bag.flatMap (stridesI s)
theorem allStr_len (s : Int) : ∀ (bag : List (List Int)), ((allStr s bag).length : Int) = (bag.map fun w => (w.length : Int)).sum + bag.length
  | [] => rfl
  | w :: bag => by
    have := allStr_len s bag
    unfold allStr at this ⊢
    rw [List.flatMap_cons, List.length_append, strides_len, List.map_cons, List.sum_cons, List.length_cons]
    omega
theorem allStr_sum (s : Int) : ∀ (bag : List (List Int)), (allStr s bag).sum = bag.length * (s + 1)
  | [] => by
    show (0 : Int) = (0 : Nat) * (s + 1)
    simp
  | w :: bag => by
    have := allStr_sum s bag
    unfold allStr at this ⊢
    rw [List.flatMap_cons, List.sum_append, strides_sum, this, List.length_cons, show ((bag.length + 1 : Nat) : Int) = bag.length + 1 by omega, Int.add_mul]
    omega
theorem allStr_in {s l : Int} (hf : FlOk s l) {bag : List (List Int)} (hb : ∀ w ∈ bag, w ∈ walksI s l) : ∀ d ∈ allStr s bag, 1 ≤ d ∧ d ≤ l := fun d hd => by
  obtain ⟨w, hw, hd⟩ := List.mem_flatMap.mp hd
  exact good_strides ((mem_walks_good hf).mp (hb w hw)) d hd
theorem count_two : ∀ (xs : List Int), (∀ d ∈ xs, 1 ≤ d ∧ d ≤ 2) → ((xs.countP fun d => decide (d = 2) : Nat) : Int) = xs.sum - xs.length
  | [], _ => rfl
  | x :: xs, h => by
    have ih := count_two xs fun d hd => h d (List.mem_cons_of_mem _ hd)
    have hx := h x List.mem_cons_self
    rw [List.sum_cons, List.length_cons]
    by_cases e : x = 2
    · rw [List.countP_cons_of_pos (by simp [e])]
      omega
    · rw [List.countP_cons_of_neg (by simp [e])]
      omega
theorem far_same : ∀ {a b : List Int}, a.length = b.length → farI a b = 0 → a = b
  | [], [], _, _ => rfl
  | x :: a, y :: b, hl, h => by
    unfold farI at h
    rw [List.zip_cons_cons, List.map_cons, List.sum_cons] at h
    have hn : ∀ ps : List (Int × Int), 0 ≤ (ps.map fun p => absI (p.1 - p.2)).sum := fun ps => by
      induction ps with
      | nil => exact Int.le_refl _
      | cons p ps ih =>
        rw [List.map_cons, List.sum_cons]
        have : 0 ≤ absI (p.1 - p.2) := by
          unfold absI
          split <;> omega
        omega
    have h1 := hn (a.zip b)
    have h2 : 0 ≤ absI (x - y) := by
      unfold absI
      split <;> omega
    have h' : absI (x - y) + ((a.zip b).map fun p => absI (p.1 - p.2)).sum = 0 := h
    have h3 : x - y = 0 := absI_zero.mp (by omega)
    have h4 : farI a b = 0 := by
      unfold farI
      omega
    rw [show x = y by omega, far_same (by simpa using hl) h4]
theorem near_self {s l many : Int} {wear : List Int} (hf : FlOk s l) (hs : (wear.length : Int) = s) (m0 : 0 ≤ many) (h0 : ∀ i, i < wear.length → 0 ≤ at0 wear i) (hd : doMake s l wear many = true) : farI wear (nearI s l wear many) = 0 ∧ nearI s l wear many = wear := by
  have h := far_zero hf hs m0 h0
  rw [hd, decide_eq_true_eq] at h
  refine ⟨h, (far_same ?_ h).symm⟩
  have := (near_all (many := many) hf hs m0 h0).len
  omega
theorem first_self {s l many : Int} {wear : List Int} (hf : FlOk s l) (hs : (wear.length : Int) = s) (hd : doMake s l wear many = true) : firstI s l wear wear many = wear := by
  obtain ⟨b1, b2, b3⟩ := first_btw hf hs hs (fun i _ => Int.le_refl _) (isNone_bar.trans hd)
  refine ext_at0 (by omega) fun i hi => ?_
  have := b2 i hi
  omega
theorem good_len {s l : Int} (hf : FlOk s l) {w : List Int} (h : goodWalk s l w = true) : w.length ≤ 8 := by
  have := nodup_len (ys := rgI 1 (s + 1)) (good_nodup h) fun x hx => mem_rgI.mpr (by have := good_in h x hx; omega)
  rw [rgI_len] at this
  have := hf.2.1
  omega
theorem sum_wr {s l : Int} (hf : FlOk s l) {bag : List (List Int)} (h : bag.length ≤ 9) : WrOk s (sumOf s bag) := by
  obtain ⟨f1, f2, f3, f4⟩ := id hf
  refine ⟨sumOf_len (by omega) bag, fun x hx => ?_⟩
  obtain ⟨st, hst, rfl⟩ := List.mem_map.mp hx
  have := List.length_filter_le (fun w => decide (st ∈ w)) bag
  omega
theorem sum_nonneg : ∀ {xs : List Int}, (∀ x ∈ xs, 0 ≤ x) → 0 ≤ xs.sum
  | [], _ => Int.le_refl _
  | x :: xs, h => by
    have := sum_nonneg fun y hy => h y (List.mem_cons_of_mem x hy)
    have := h x List.mem_cons_self
    rw [List.sum_cons]
    omega
theorem fold_max {l : Int} : ∀ (xs : List Int) (x : Int), x ≤ l → (∀ y ∈ xs, y ≤ l) → xs.foldl max x ≤ l
  | [], x, h, _ => h
  | y :: xs, x, h, k => fold_max xs (max x y) (Int.max_le.mpr ⟨h, k y List.mem_cons_self⟩) fun z hz => k z (List.mem_cons_of_mem _ hz)
theorem plain_I : ∀ ns : List Int, PyData.plainAll (ns.map PyData.int) = true
  | [] => rfl
  | n :: ns => by
    rw [List.map_cons]
    exact plain_I ns
theorem count_I (ns : List Int) (k : Int) : (ns.map PyData.int).countP (fun y => y.eqv (.int k)) = ns.countP fun d => decide (d = k) := by
  rw [List.countP_map]
  congr 1
theorem allStr_le (s : Int) : ∀ (us : List (List Int)), (∀ w ∈ us, w.length ≤ 8) → (allStr s us).length ≤ 9 * us.length
  | [], _ => Nat.le_refl _
  | w :: us, h => by
    have := allStr_le s us fun u hu => h u (List.mem_cons_of_mem _ hu)
    have := h w List.mem_cons_self
    unfold allStr at *
    rw [List.flatMap_cons, List.length_append, strides_len, List.length_cons]
    omega
theorem plain_tI (ns : List Int) : PyData.plain (tI ns) = true := plain_I ns
theorem plain_W : ∀ ws : List (List Int), PyData.plainAll (ws.map tI) = true
  | [] => rfl
  | w :: ws => by
    rw [List.map_cons]
    show (PyData.plain (tI w) && PyData.plainAll (ws.map tI)) = true
    rw [plain_tI, plain_W ws]
    rfl
theorem count_W (ws : List (List Int)) (w : List Int) : (ws.map tI).countP (fun y => y.eqv (tI w)) = ws.countP fun d => decide (d = w) := by
  rw [List.countP_map]
  congr 1
  funext x
  show PyData.eqv (tI x) (tI w) = _
  rw [PyData.eqv, eqvAll_I]
theorem tI_same {v w : List Int} (h : tI v = tI w) : v = w := by
  have := PyData.tuple.inj h
  exact (List.map_inj_right fun a b e => PyData.int.inj e).mp this
theorem cut3 (bag : List (List Int)) : SD.cutD (bag.map tI) none (some 3) = (bag.take 3).map tI := by
  rw [List.map_take]
  exact cutI_to (bag.map tI) (i := 3) (by decide)
theorem dep_tI (v : List Int) : PyData.depth (tI v) ≤ 60 := by
  show PyData.depthAll (v.map .int) + 1 ≤ 60
  rw [depth_ints]
  decide
theorem isWhole_at {lo hi i : Int} (h1 : lo ≤ i) (h2 : i ≤ hi) : isWhole (.int i) lo hi = true := by
  show decide (lo ≤ i ∧ i ≤ hi) = true
  exact decide_eq_true ⟨h1, h2⟩
end SD

namespace SD
open PySem PySem.Spec PyProof PyProof.Rows L2 PySem.W
abbrev newSet (w : World) : Obj := { cls := .type "set", dict := none, data := .set #[] 0 (.fresh 0 0 (!w.params.followText "set-order")) }
abbrev newIt (l : Addr) : Obj := { cls := .type "list_iterator", data := .fields #[.ref l, .int 0 0] }
abbrev atLoop (w : World) (s : Shared) (l : Addr) : Shared := { s with heap := (s.heap.push (newSet w)).push (newIt l) }
/-- set.__init__ -/
theorem init_by_loop {P : Program} {w : World} {B : Around} {E : Value → Shared → Prop} {s : Shared} {l S : Addr} {its : Array Value} (isl : s.heap.IsList l its) (isS : s.heap.get? S = some (newSet w)) (T : Shared → Prop)
    (loop : codeAny (model P w) B.in1 (.builtin "set.update.loop" ⟨[.ref S, .ref s.heap.objs.size], []⟩) (fun r s' => r = .ok (.ret .none) ∧ T s') { s with heap := s.heap.push (newIt l) }) :
    codeAny (model P w) B (.call (.builtin "set.__init__") ⟨[.ref S, .ref l], []⟩) (wants (fun r s' => r = .none ∧ T s') E) s := by
  refine codeAny_call_builtin F.called_set.init.plain F.entry_set_init (check_set_init_1 ⟨_, isS, rfl⟩ ?_)
  have y1 := F.sub_list_set
  have y2 := F.sub_list_frozenset
  have y3 : (Value.type "list" == Value.type "dict") = false := by decide
  have isl' := isl
  obtain ⟨⟨oc, od, dt, os⟩, ho, hc, n, hd⟩ := isl
  simp only at hc hd
  subst hc hd
  unfold Builtin.«set.__init__» noKeywords Builtin.Frozenset.updateFrom
  generalize hPI : pyIter = PI
  wp_walk
  subst hPI
  refine wpAny_pyIter_list isl' (wpAny_bind (wpAny_runValue (codeAny_mono loop ?_)))
  rintro r s2 ⟨rfl, hT⟩
  exact wpAny_pure (wpAny_pure ⟨rfl, hT⟩)
/-- set(xs) of a list: the loop of its update is all that is asked -/
theorem set_by_loop {P : Program} {w : World} {A : Around} {E : Value → Shared → Prop} {s : Shared} {l : Addr} {its : Array Value} {Q : Value → Shared → Prop} (isl : s.heap.IsList l its) (T : Shared → Prop)
    (loop : codeAny (model P w) A.in1.in1 (.builtin "set.update.loop" ⟨[.ref s.heap.objs.size, .ref (s.heap.push (newSet w)).objs.size], []⟩) (fun r s' => r = .ok (.ret .none) ∧ T s') (atLoop w s l))
    (fin : ∀ s', T s' → Q (.ref s.heap.objs.size) s') : wpAny (model P w) A (call (.type "set") [.ref l]) Q E s := by
  have ft := F.called_set
  obtain ⟨mc, mt, f1⟩ := ft.mro
  have f2 := ft.made
  have f3 := ft.sub
  have f4 := ft.notType
  have f5 := ft.canCreate
  have f6 := F.typeCall_set_1 (.ref l)
  refine wpAny_call (codeAny_of_tree (wpAny_pure ⟨Code.quiet_builtin _ (by decide +kernel), codeAny_builtin F.entry_type_call ?_⟩))
  rw [Around.under_plain (weight_type_call_type "set" [.ref l] []) rfl]
  repeat (any_goals (first | assumption | wp_step))
  refine codeAny_mono (code_set_led1 (.ref l) (E := E) (Q₁ := fun v s1 => v = .ref s.heap.objs.size ∧ s1 = { s with heap := s.heap.push (newSet w) }) ⟨rfl, rfl⟩) ?_
  rintro (e | (_ | v | _ | _)) s1 hv
  all_goals try exact hv
  all_goals try exact hv.elim
  obtain ⟨rfl, rfl⟩ := hv
  have at0 : (s.heap.push (newSet w)).get? s.heap.objs.size = some (newSet w) := Heap.get?_push_size _ rfl
  have ty : Shared.TypeIs { s with heap := s.heap.push (newSet w) } (.ref s.heap.objs.size) "set" := ⟨_, at0, rfl⟩
  have f7 := ft.init.lookup
  have f8 := ft.init.bind (.ref s.heap.objs.size)
  repeat (any_goals (first | assumption | wp_step))
  refine codeAny_mono (init_by_loop (E := E) (isl.push _) at0 T loop) ?_
  rintro (e | (_ | v | _ | _)) s1 hv
  all_goals try exact hv
  all_goals try exact hv.elim
  obtain ⟨rfl, hT⟩ := hv
  have g := fin _ hT
  repeat (any_goals (first | assumption | wp_step))
/-- the ints of a list -/
theorem call_set_ints {P : Program} {w : World} {A : Around} {E : Value → Shared → Prop} {s : Shared} {l : Addr} {its : Array Value} (ns : List Int) {Q : Value → Shared → Prop} (calm : A.handled = none) (isl : s.heap.IsList l its) (hit : IntsAre its.toList ns) (few : ns.length + 1 < scanBound)
    (fin : ∀ (h : Heap) (tk c : Nat), SetR w h s.heap.objs.size (fun j => decide (j ∈ ns)) c → (∀ b o, s.heap.get? b = some o → h.get? b = some o) → Q (.ref s.heap.objs.size) { s with heap := h, toks := tk }) : wpAny (model P w) A (call (.type "set") [.ref l]) Q E s := by
  have len : its.size = ns.length := by
    rw [← Array.length_toList]
    exact IntsAre.length hit
  have sz : (s.heap.push (newSet w)).objs.size = s.heap.objs.size + 1 := Heap.size_push ..
  have low : l < s.heap.objs.size := by
    obtain ⟨_, e, _⟩ := isl
    exact Heap.lt_size e
  have calm3 : A.in1.in1.in1.handled = none := by simp [calm]
  refine set_by_loop isl (fun s' => ∃ h tk c, s' = { s with heap := h, toks := tk } ∧ SetR w h s.heap.objs.size (fun j => decide (j ∈ ns)) c ∧ ∀ b o, s.heap.get? b = some o → h.get? b = some o) ?_ (by
    rintro s' ⟨h, tk, c, rfl, h1, h2⟩
    exact fin h tk c h1 h2)
  have W := (Walks.list (prog := P) (w := w) calm3 (s.heap.push (newSet w)).objs.size l (by rw [sz]; exact Nat.ne_of_lt (Nat.lt_succ_of_lt low)) its).toS
  refine set_update_ints W s.heap.objs.size (by
    rw [sz, List.mem_cons, List.mem_singleton]
    exact fun z => z.elim (Nat.ne_of_lt (Nat.lt_succ_self _)) (Nat.ne_of_gt low)) ns len few (fun i v hv => ?_) its.size 0 (atLoop w s l) (by omega) (Nat.zero_le _) ⟨⟨_, Heap.get?_push_size _ rfl, rfl, rfl⟩, (isl.push _).push _⟩ ⟨0, Nat.le_refl 0, setR_new_at (Heap.get?_push_of_some _ (Heap.get?_push_size _ rfl))⟩ ?_
  · have hi : i < ns.length := by
      rw [← len]
      exact (Array.getElem?_eq_some_iff.mp hv).1
    obtain ⟨t, e⟩ := IntsAre.int_at hit i v (by rw [Array.getElem?_toList]; exact hv)
    exact ⟨ns[i], t, List.getElem?_eq_getElem hi, by rw [e, List.getD_eq_getElem?_getD, List.getElem?_eq_getElem hi] <;> rfl⟩
  · rintro ⟨h, g, d, tk, o⟩ c m _ R
    obtain rfl : g = s.gens := m.gens
    obtain rfl : d = s.drawn := m.drawn
    obtain rfl : o = s.os := m.os
    refine ⟨rfl, h, tk, c, rfl, R, fun b u e => m.heap b u ?_ (Heap.get?_push_of_some _ (Heap.get?_push_of_some _ e))⟩
    have lb := Heap.lt_size e
    rw [sz, List.mem_cons, List.mem_singleton]
    exact fun z => z.elim (Nat.ne_of_lt lb) (Nat.ne_of_lt (Nat.lt_succ_of_lt lb))
theorem nodup_few {α : Type} [BEq α] [LawfulBEq α] {xs : List α} : ∀ {ys : List α}, xs.Nodup → (∀ x ∈ xs, x ∈ ys) → xs.length ≤ ys.length := by
  induction xs with
  | nil => intro ys _ _; exact Nat.zero_le _
  | cons x xs ih =>
    intro ys hn hs
    obtain ⟨h1, h2⟩ := List.nodup_cons.mp hn
    have := ih (ys := ys.erase x) h2 fun y hy => (List.mem_erase_of_ne (a := y) (b := x) (fun e => h1 (by rw [← e]; exact hy))).mpr (hs y (List.mem_cons_of_mem _ hy))
    rw [List.length_erase_of_mem (hs x List.mem_cons_self)] at this
    have := List.length_pos_of_mem (hs x List.mem_cons_self)
    rw [List.length_cons]
    omega
theorem setR_few {w : World} {h : Heap} {a : Addr} {ns dom : List Int} {c : Nat} (R : SetR w h a (fun j => decide (j ∈ ns)) c) (hd : ∀ x ∈ ns, x ∈ dom) : c ≤ dom.length := by
  obtain ⟨o, es, ep, t, _, _, _, _, nd, mem, _, _, rfl, _⟩ := R
  have := nodup_few nd fun x hx => hd x (of_decide_eq_true ((mem x).mpr hx))
  rw [List.length_map, Array.length_toList] at this
  exact this
def rSetOfI (K : PySem.W.Frag) (w : World) : List V → Hp → VK → Prop := fun xs H Q => ∃ (l : Addr) (ns dom : List Int), xs = [V.ref l] ∧ SqL K H l (ns.map V.int) ∧ ns.length + 1 < scanBound ∧ (∀ x ∈ ns, x ∈ dom) ∧
  ∀ (p : Addr) (c : Nat), H p = none → c ≤ dom.length → Q (.ref p) (upd H p (SetO w p (fun j => decide (j ∈ ns)) c))
theorem cr_setOfI {X : Cx} (hc : X.calm = true) : CallR X (.type "set") (rSetOfI X.K X.w) := by
  intro pins s σ H xs us Q I r h
  obtain ⟨l, ns, dom, rfl, hl, hb, hd, q⟩ := h
  rw [Vals.ref1 r]
  obtain ⟨its, rv, pl, hz⟩ := I.list hl
  have hn : H s.heap.objs.size = none := I.hok.fresh (Nat.le_refl _)
  refine call_set_ints (P := X.prog) (w := X.w) ns (I.ok.hd hc) pl.isList (by simpa using ints_of_vals rv) hb fun h' tk c R k => ?_
  exact ⟨.ref s.heap.objs.size, upd H s.heap.objs.size (SetO X.w s.heap.objs.size (fun j => decide (j ∈ ns)) c), I.laid (t' := tk) k (Nat.le_refl _) (setO_new R), rfl, q _ c hn (setR_few R hd)⟩
@[simp] def wSSI (wa : WE) : WA := fun env Q E => wa env (fun d => ∃ ns dom : List Int, d = .list (ns.map .int) ∧ ns.length < 4000 ∧ (∀ x ∈ ns, x ∈ dom) ∧ dom.length < 64 ∧ ∀ out : List Int, out.Pairwise (· < ·) → (∀ k, k ∈ out ↔ k ∈ ns) → Q (out.map .int)) E
theorem l_sortSetI {X : Cx} {c : Ctx} {a : Expr} {wa : WE} {pos : Pos} {p p2 pos2 : Pos} (gd : Good X c) (hm : X.mg "sorted" = none) (hm2 : X.mg "set" = none) (ha : DE X c a wa) (hg : Gl X "sorted" := by rfl) (hg2 : Gl X "set" := by rfl) (he : starEach [a] X.env = (false, eval a X.env) :: starEach [] X.env := by rfl)
    (he2 : starEach [.Call (.Name "set" p2) [a] [] pos2] X.env = (false, eval (.Call (.Name "set" p2) [a] [] pos2) X.env) :: starEach [] X.env := by rfl) : DL X c (.Call (.Name "sorted" p) [.Call (.Name "set" p2) [a] [] pos2] [] pos) (wSSI wa) := by
  refine PE.imp (pe_callB (cr_sortedSet gd.calm) hg hm bt_sorted (pa_cons (pe_callTy (cr_setOfI gd.calm) hg2 hm2 bt_set (pa_cons ha pa_nil he) (by decide) (by decide) he) pa_nil he2) (by decide) (by decide) he2) ?_
  rintro σ H Q ⟨O, F, env, QD, QE, vw, sl, hw, hq, hE⟩
  refine ⟨O, F, env, _, QE, vw, sl, hw, fun d hd F1 H1 v v1 s1 r1 => ?_, hE⟩
  obtain ⟨ns, dom, rfl, hl, hdom, h64, hQ⟩ := hd
  cases r1 with
  | @lst l xs _ g1 t1 =>
    have ex : xs = ns.map V.int := t1.ints
    subst ex
    refine ⟨l, ns, dom, rfl, SqL.of (v1.frz _ _ g1), by unfold scanBound; omega, hdom, fun a c na hc => ?_⟩
    have v2 := v1.layO (o := SetO X.w a (fun j => decide (j ∈ ns)) c) na
    have s2 : Stp O F1 H1 F1 (upd H1 a (SetO X.w a (fun j => decide (j ∈ ns)) c)) := Stp.layO na
    refine ⟨a, _, c, rfl, upd_same, by omega, fun out p hp hm hlen np => ?_⟩
    have step : Stp O F H F1 (upd H1 a (SetO X.w a (fun j => decide (j ∈ ns)) c)) := s1.trans s2 v2
    exact lay_own (Q := Q) (QD := QD) v2 (RpL.ofInts out) (hQ out hp fun k => (hm k).trans decide_eq_true_iff) (fun ds hd F3 H3 p3 xs v3 s3 n1 n2 n3 r3 => hq ds hd F3 H3 p3 xs v3 (step.trans s3 v3) (step.back n1) n2 n3 r3) np
end SD

namespace SD
open PySem PySem.Spec PyProof.Rows L2
/-! ### the first split -/
/-- in the order of tuples: the same, or less at the first place that differs -/
def LexL (p q : List Int) : Prop := p = q ∨ ∃ j, j < p.length ∧ (∀ i, i < j → at0 p i = at0 q i) ∧ at0 p j < at0 q j
def IsFirst (s : Nat) (bs : List Bd) (p : List Int) : Prop := p.length = s ∧ (∃ x, Feas bs x ∧ p = difL s x) ∧ ∀ y, Feas bs y → LexL p (difL s y)
/-- the steps of all who keep the bounds lie within 0..9 -/
def Tame (s : Nat) (bs : List Bd) : Prop := ∀ x, Feas bs x → ∀ i, i < s → 0 ≤ x (i + 1) - x i ∧ x (i + 1) - x i ≤ 9
/-- the first k steps are settled -/
structure FS8 (s : Nat) (bs : List Bd) (k : Nat) (cur : List Bd) (found : List Int) : Prop where
  len : found.length = k
  ok : BOk s cur
  sub : ∀ x, Feas cur x → Feas bs x ∧ ∀ i, i < k → x (i + 1) - x i = at0 found i
  feas : ∃ x, Feas cur x
  low : ∀ y, Feas bs y → Feas cur y ∨ ∃ j, j < k ∧ (∀ i, i < j → at0 found i = y (i + 1) - y i) ∧ at0 found j < y (j + 1) - y j
theorem fs8_start {s : Nat} {bs : List Bd} (hb : BOk s bs) (h : ∃ x, Feas bs x) : FS8 s bs 0 bs [] := ⟨rfl, hb, fun x hx => ⟨hx, fun i hi => absurd hi (Nat.not_lt_zero _)⟩, h, fun y hy => .inl hy⟩
theorem at0_snoc_lt {xs : List Int} {w : Int} {i : Nat} (h : i < xs.length) : at0 (xs ++ [w]) i = at0 xs i := by
  rw [at0_get (by rw [List.length_append]; omega), at0_get h, List.getElem_append_left h]
theorem at0_snoc_eq {xs : List Int} {w : Int} : at0 (xs ++ [w]) xs.length = w := by
  rw [at0_get (by rw [List.length_append]; simp)]
  simp
theorem fs8_step {s : Nat} {bs : List Bd} {k : Nat} {cur : List Bd} {found : List Int} (I : FS8 s bs k cur found) (hk : k < s) {w : Int} (hw : ∃ x, Feas (cur ++ fixB k w) x) (hno : ∀ v : Int, v < w → ¬ ∃ x, Feas (cur ++ fixB k v) x) : FS8 s bs (k + 1) (cur ++ fixB k w) (found ++ [w]) := by
  have hl := I.len
  refine ⟨by rw [List.length_append, hl]; rfl, bok_app I.ok (fixB_ok hk), fun x hx => ?_, hw, fun y hy => ?_⟩
  · obtain ⟨h1, h2⟩ := feas_app.mp hx
    obtain ⟨k1, k2⟩ := I.sub x h1
    refine ⟨k1, fun i hi => ?_⟩
    by_cases e : i = k
    · subst e
      rw [← hl, at0_snoc_eq, hl]
      exact fix_feas.mp h2
    · rw [at0_snoc_lt (by omega)]
      exact k2 i (by omega)
  · rcases I.low y hy with h | ⟨j, hj, h1, h2⟩
    · have hge : w ≤ y (k + 1) - y k := by
        apply Int.not_lt.mp
        intro z
        exact hno _ z ⟨y, feas_app.mpr ⟨h, fix_feas.mpr rfl⟩⟩
      by_cases e : y (k + 1) - y k = w
      · exact .inl (feas_app.mpr ⟨h, fix_feas.mpr e⟩)
      · refine .inr ⟨k, by omega, fun i hi => ?_, ?_⟩
        · rw [at0_snoc_lt (by omega)]
          exact ((I.sub y h).2 i hi).symm
        · rw [show at0 (found ++ [w]) k = w by rw [← hl]; exact at0_snoc_eq]
          omega
    · refine .inr ⟨j, by omega, fun i hi => ?_, ?_⟩
      · rw [at0_snoc_lt (by omega)]
        exact h1 i hi
      · rw [at0_snoc_lt (by omega)]
        exact h2
theorem fs8_end {s : Nat} {bs : List Bd} {cur : List Bd} {found : List Int} (I : FS8 s bs s cur found) : IsFirst s bs found := by
  have hl := I.len
  have same : ∀ x, Feas cur x → found = difL s x := fun x hx => ext_at0 (by rw [difL_len]; exact hl) fun i hi => by
    rw [difL_at (by omega)]
    exact ((I.sub x hx).2 i (by omega)).symm
  refine ⟨hl, ?_, fun y hy => ?_⟩
  · obtain ⟨x, hx⟩ := I.feas
    exact ⟨x, (I.sub x hx).1, same x hx⟩
  · rcases I.low y hy with h | ⟨j, hj, h1, h2⟩
    · exact .inl (same y h)
    · refine .inr ⟨j, by omega, fun i hi => ?_, ?_⟩
      · rw [difL_at (by omega)]
        exact h1 i hi
      · rw [difL_at (by omega)]
        exact h2
theorem isFirst_mem {s : Nat} {a b : List Bd} (h : ∀ c, c ∈ a ↔ c ∈ b) {p : List Int} : IsFirst s a p → IsFirst s b p := fun ⟨h1, ⟨x, h2, h3⟩, h4⟩ => ⟨h1, ⟨x, (feas_mem h).mp h2, h3⟩, fun y hy => h4 y ((feas_mem h).mpr hy)⟩
end SD

namespace SD
open PySem PySem.Spec PyProof.Rows L2
/-! ### between two numbers each one -/
def mxI (a b : Int) : Int := if a < b then b else a
theorem feas_max {bs : List Bd} {x y : Nat → Int} (hx : Feas bs x) (hy : Feas bs y) (c : Int) : Feas bs fun k => mxI (x k) (y k - c) := fun b hb => by
  have h1 := hx b hb
  have h2 := hy b hb
  show mxI (x b.2.1) (y b.2.1 - c) ≤ mxI (x b.1) (y b.1 - c) + b.2.2
  unfold mxI
  split <;> split <;> omega
theorem ivt (g : Nat → Int) {t : Int} (h0 : g 0 ≤ t) : ∀ N : Nat, (∀ n, n < N → g (n + 1) - g n ≤ 1) → t ≤ g N → ∃ n, g n = t
  | 0, _, h1 => ⟨0, by omega⟩
  | N + 1, h, h1 => by
    by_cases e : g (N + 1) = t
    · exact ⟨N + 1, e⟩
    · have := h N (by omega)
      exact ivt g h0 N (fun n hn => h n (by omega)) (by omega)
theorem feas_between {bs : List Bd} {x y : Nat → Int} (hx : Feas bs x) (hy : Feas bs y) {j : Nat} {t : Int} (h1 : x (j + 1) - x j ≤ t) (h2 : t ≤ y (j + 1) - y j) : ∃ z, Feas bs z ∧ z (j + 1) - z j = t := by
  let K : Nat := (x j - y j).natAbs + (x (j + 1) - y (j + 1)).natAbs
  let g : Nat → Int := fun n => mxI (x (j + 1)) (y (j + 1) - ((K : Int) - n)) - mxI (x j) (y j - ((K : Int) - n))
  have hK : ((x j - y j).natAbs : Int) + ((x (j + 1) - y (j + 1)).natAbs : Int) = K := by
    show _ = (((x j - y j).natAbs + (x (j + 1) - y (j + 1)).natAbs : Nat) : Int)
    omega
  obtain ⟨n, hn⟩ := ivt g (t := t) (by
    show mxI (x (j + 1)) (y (j + 1) - ((K : Int) - (0 : Nat))) - mxI (x j) (y j - ((K : Int) - (0 : Nat))) ≤ t
    unfold mxI
    split <;> split <;> omega) (2 * K) (fun n _ => by
    show mxI (x (j + 1)) (y (j + 1) - ((K : Int) - ((n + 1 : Nat) : Int))) - mxI (x j) (y j - ((K : Int) - ((n + 1 : Nat) : Int))) - (mxI (x (j + 1)) (y (j + 1) - ((K : Int) - n)) - mxI (x j) (y j - ((K : Int) - n))) ≤ 1
    unfold mxI
    split <;> split <;> split <;> split <;> omega) (by
    show t ≤ mxI (x (j + 1)) (y (j + 1) - ((K : Int) - ((2 * K : Nat) : Int))) - mxI (x j) (y j - ((K : Int) - ((2 * K : Nat) : Int)))
    unfold mxI
    split <;> split <;> omega)
  exact ⟨_, feas_max hx hy ((K : Int) - n), hn⟩
theorem boths_conv {s l : Int} {wear : List Int} {many : Int} {i j : Nat} (hf : FlOk s l) (hs : (wear.length : Int) = s) (hi : (i : Int) < s) (hj : (j : Int) < s) {u v t : Int} (hu : u ∈ bothsI s l wear many i j) (hv : v ∈ bothsI s l wear many i j) (h1 : u ≤ t) (h2 : t ≤ v) : t ∈ bothsI s l wear many i j := by
  obtain ⟨p, p1, p2, rfl⟩ := (mem_boths hf hs hi hj).mp hu
  obtain ⟨q, q1, q2, rfl⟩ := (mem_boths hf hs hi hj).mp hv
  have fx : ∀ p, Part s l (at0 wear i) l (many - at0 wear i) wear p → at0 p i = at0 wear i → Feas (boundsI s wear l (at0 wear i) l (many - at0 wear i) ++ fixB i (at0 wear i)) (rs (at0 p) 0) := fun p p1 p2 => feas_app.mpr ⟨part_feas hf hf hs p1, fix_feas.mpr (by rw [rs_succ, Nat.zero_add, p2]; omega)⟩
  have d : ∀ p, rs (at0 p) 0 (j + 1) - rs (at0 p) 0 j = at0 p j := fun p => by rw [rs_succ, Nat.zero_add]; omega
  obtain ⟨z, hz, e⟩ := feas_between (fx p p1 p2) (fx q q1 q2) (j := j) (t := t) (by rw [d]; exact h1) (by rw [d]; exact h2)
  obtain ⟨z1, z2⟩ := feas_app.mp hz
  refine (mem_boths hf hs hi hj).mpr ⟨_, feas_part hf hf hs z1, ?_, ?_⟩
  · rw [difL_at (by omega)]
    exact fix_feas.mp z2
  · rw [difL_at (by omega)]
    exact e
/-! ### the bag of a part -/
def bagP (wear p : List Int) (own rest : Int) : List (List Int) := turnsI p own ++ turnsI (minus wear p) rest
theorem trodB_app (a b : List (List Int)) (i j : Nat) : trodB (a ++ b) i j = trodB a i j + trodB b i j := by
  unfold trodB
  rw [List.filter_append, List.length_append]
theorem trodB_comm (a : List (List Int)) (i j : Nat) : trodB a i j = trodB a j i := by
  unfold trodB
  congr 2
  funext w
  rw [Bool.and_comm]
theorem trodB_perm {a b : List (List Int)} (h : a.Perm b) (i j : Nat) : trodB a i j = trodB b i j := (h.filter _).length_eq
theorem trodB_all {a : List (List Int)} {i j : Nat} (h : ∀ w ∈ a, (i : Int) + 1 ∈ w) : (trodB a i j : Int) = trod a j := by
  unfold trodB trod
  congr 2
  refine List.filter_congr fun w hw => ?_
  rw [decide_eq_true (h w hw), Bool.true_and]
theorem trodB_none {a : List (List Int)} {i j : Nat} (h : ∀ w ∈ a, ¬ (i : Int) + 1 ∈ w) : trodB a i j = 0 := by
  unfold trodB
  rw [List.filter_eq_nil_iff.mpr fun w hw => by rw [decide_eq_false (h w hw), Bool.false_and]; decide]
  rfl
theorem bagP_all {s l : Int} (hf : FlOk s l) {wear p : List Int} (hs : (wear.length : Int) = s) {many : Int} {i j : Nat} (hi : (i : Int) < s) (hj : (j : Int) < s) (h0 : 0 ≤ at0 wear i) (hm : at0 wear i ≤ many) (hp : Part s l (at0 wear i) l (many - at0 wear i) wear p) (hpi : at0 p i = at0 wear i) :
    ((bagP wear p (at0 wear i) (many - at0 wear i)).length : Int) = many ∧ (∀ w ∈ bagP wear p (at0 wear i) (many - at0 wear i), w ∈ walksI s l) ∧ sumOf s (bagP wear p (at0 wear i) (many - at0 wear i)) = wear ∧ (trodB (bagP wear p (at0 wear i) (many - at0 wear i)) i j : Int) = at0 p j := by
  obtain ⟨f1, f2, f3, f4⟩ := id hf
  have hpl := hp.1
  have hml : (minus wear p).length = wear.length := minus_len (by omega)
  have pat : ∀ k : Nat, (k : Int) < s → _ := fun k hk => part_at hf hf hs hp (j := k) hk
  have hpn : ∀ x ∈ p, 0 ≤ x := fun x hx => by
    obtain ⟨k, hk, rfl⟩ := List.getElem_of_mem hx
    rw [← at0_get hk]
    exact (pat k (by omega)).1
  have hmn : ∀ x ∈ minus wear p, 0 ≤ x := fun x hx => by
    obtain ⟨k, hk, rfl⟩ := List.getElem_of_mem hx
    rw [← at0_get hk, minus_at (by omega) (by omega)]
    have := pat k (by omega)
    omega
  obtain ⟨_, _, mk1, mk2⟩ := hp
  unfold bagP
  obtain ⟨o, ho⟩ : ∃ o : Nat, at0 wear i = o := ⟨(at0 wear i).toNat, by omega⟩
  obtain ⟨r, hr⟩ : ∃ r : Nat, many - at0 wear i = r := ⟨(many - at0 wear i).toNat, by omega⟩
  rw [hr] at mk2 ⊢
  rw [ho] at mk1 ⊢
  have b1 : ∀ x ∈ p, 0 ≤ x ∧ x ≤ o := fun x hx => ⟨hpn x hx, mk1.1 x hx⟩
  have b2 : ∀ x ∈ minus wear p, 0 ≤ x ∧ x ≤ r := fun x hx => ⟨hmn x hx, mk2.1 x hx⟩
  have l1 := turns_len p o b1
  have l2 := turns_len (minus wear p) r b2
  have s1 := sum_turns b1
  have s2 := sum_turns b2
  rw [hpl] at s1
  rw [hml, hs] at s2
  have t1 : ∀ k : Nat, (k : Int) < s → trod (turnsI p o) k = at0 p k := fun k hk => by rw [← sumOf_at hk, s1]
  have t2 : ∀ k : Nat, (k : Int) < s → trod (turnsI (minus wear p) r) k = at0 wear k - at0 p k := fun k hk => by rw [← sumOf_at hk, s2, minus_at (by omega) (by omega)]
  refine ⟨by rw [List.length_append, l1, l2]; omega, fun w hw => ?_, ?_, ?_⟩
  · rcases List.mem_append.mp hw with hw | hw
    · exact turns_walks hf hpl hpn mk1 w hw
    · exact turns_walks hf (by omega) hmn mk2 w hw
  · have hsl := sumOf_len (s := s) (by omega) (turnsI p o ++ turnsI (minus wear p) r)
    refine ext_at0 (by omega) fun k hk => ?_
    rw [sumOf_at (by omega), trod_app, t1 k (by omega), t2 k (by omega)]
    omega
  · have a1 : ∀ w ∈ turnsI p o, (i : Int) + 1 ∈ w := fun w hw => by
      have := t1 i hi
      unfold trod at this
      have e : ((turnsI p o).filter fun w => decide ((i : Int) + 1 ∈ w)).length = (turnsI p o).length := by omega
      exact of_decide_eq_true (List.length_filter_eq_length_iff.mp e w hw)
    have a2 : ∀ w ∈ turnsI (minus wear p) r, ¬ (i : Int) + 1 ∈ w := fun w hw hin => by
      have := t2 i hi
      unfold trod at this
      have e : ((turnsI (minus wear p) r).filter fun w => decide ((i : Int) + 1 ∈ w)).length = 0 := by omega
      have := List.length_pos_of_mem (List.mem_filter (p := fun w => decide ((i : Int) + 1 ∈ w)).mpr ⟨hw, decide_eq_true hin⟩)
      omega
    rw [trodB_app, trodB_none a2, Nat.add_zero, trodB_all a1, t1 j hj]
/-- the numbers are those of the bags -/
theorem boths_bags {s l : Int} (hf : FlOk s l) {wear : List Int} (hw : WrOk s wear) {m : Nat} {i j : Nat} (hi : (i : Int) < s) (hj : (j : Int) < s) (hm : at0 wear i ≤ m) {b : Int} : b ∈ bothsI s l wear m i j ↔ ∃ bag, bag.length = m ∧ (∀ w ∈ bag, w ∈ walksI s l) ∧ sumOf s bag = wear ∧ (trodB bag i j : Int) = b := by
  have hwl := hw.1
  have h0 := (hw.2 _ (at0_mem (row := wear) (i := i) (by omega))).1
  constructor
  · intro h
    obtain ⟨p, p1, p2, rfl⟩ := (mem_boths hf hwl hi hj).mp h
    obtain ⟨q1, q2, q3, q4⟩ := bagP_all hf hwl hi hj h0 hm p1 p2
    exact ⟨_, by omega, q2, q3, q4⟩
  · rintro ⟨bag, rfl, h2, rfl, rfl⟩
    exact boths_bag hf h2 hi hj
/-! ### two steps -/
theorem steps_ok {s : Int} {i j : Nat} {X Y : Prop} {R : Nat → Nat → Prop} (hi : (i : Int) < s) (hj : (j : Int) < s) (hij : i ≠ j) (h : R i j) : ((isWhole (.int ((i : Int) + 1)) 1 s && isWhole (.int ((j : Int) + 1)) 1 s) = false → X) ∧ ∀ i' j' : Nat, PyData.int ((i : Int) + 1) = .int ((i' : Int) + 1) → PyData.int ((j : Int) + 1) = .int ((j' : Int) + 1) → (i' : Int) < s → (j' : Int) < s → (i' = j' → Y) ∧ (i' ≠ j' → R i' j') := by
  refine ⟨fun z => ?_, fun i' j' e1 e2 h1 h2 => ?_⟩
  · rw [isWhole_at (by omega) (by omega), isWhole_at (by omega) (by omega)] at z
    exact absurd z (by decide)
  · have e1' := PyData.int.inj e1
    have e2' := PyData.int.inj e2
    obtain rfl : i' = i := by omega
    obtain rfl : j' = j := by omega
    exact ⟨fun z => absurd z hij, fun _ => h⟩
theorem steps_bad {s : Int} {d e : D} {X : Prop} {R : Nat → Nat → Prop} (h : (isWhole d 1 s && isWhole e 1 s) = false ∨ d = e) (hX : X) : ((isWhole d 1 s && isWhole e 1 s) = false → X) ∧ ∀ i' j' : Nat, d = .int ((i' : Int) + 1) → e = .int ((j' : Int) + 1) → (i' : Int) < s → (j' : Int) < s → (i' = j' → X) ∧ (i' ≠ j' → R i' j') := by
  refine ⟨fun _ => hX, fun i' j' e1 e2 h1 h2 => ⟨fun _ => hX, fun z => ?_⟩⟩
  subst e1 e2
  rcases h with h | h
  · rw [isWhole_at (by omega) (by omega), isWhole_at (by omega) (by omega)] at h
    exact absurd h (by decide)
  · have := PyData.int.inj h
    omega
end SD

namespace SD
open PySem PySem.Spec PyProof.Rows L2
/-! ### rising lists are told by their members -/
theorem incr_ext : ∀ {a b : List Int}, a.Pairwise (· < ·) → b.Pairwise (· < ·) → (∀ x, x ∈ a ↔ x ∈ b) → a = b
  | [], [], _, _, _ => rfl
  | [], y :: ys, _, _, h => nomatch (h y).mpr List.mem_cons_self
  | x :: xs, [], _, _, h => nomatch (h x).mp List.mem_cons_self
  | x :: xs, y :: ys, ha, hb, h => by
    obtain ⟨a1, a2⟩ := List.pairwise_cons.mp ha
    obtain ⟨b1, b2⟩ := List.pairwise_cons.mp hb
    have e : x = y := by
      rcases List.mem_cons.mp ((h x).mp List.mem_cons_self) with e | e
      · exact e
      · rcases List.mem_cons.mp ((h y).mpr List.mem_cons_self) with z | z
        · exact z.symm
        · have := a1 y z
          have := b1 x e
          omega
    subst e
    rw [incr_ext a2 b2 fun k => ?_]
    constructor
    · intro hk
      rcases List.mem_cons.mp ((h k).mp (List.mem_cons_of_mem _ hk)) with e | e
      · have := a1 k hk
        omega
      · exact e
    · intro hk
      rcases List.mem_cons.mp ((h k).mpr (List.mem_cons_of_mem _ hk)) with e | e
      · have := b1 k hk
        omega
      · exact e
/-- a rising list without a hole -/
theorem incr_row {a : List Int} {lo hi : Int} {r r' : List Int} (ha : a.Pairwise (· < ·)) (e1 : a = lo :: r) (e2 : a = r' ++ [hi]) (hc : ∀ t, lo ≤ t → t ≤ hi → t ∈ a) : a = rgI lo (hi + 1) := by
  refine incr_ext ha (rgI_sorted _ _) fun x => ⟨fun hx => mem_rgI.mpr ⟨?_, ?_⟩, fun hx => ?_⟩
  · rw [e1] at hx ha
    rcases List.mem_cons.mp hx with rfl | hx
    · exact Int.le_refl _
    · exact Int.le_of_lt ((List.pairwise_cons.mp ha).1 x hx)
  · rw [e2] at hx ha
    rcases List.mem_append.mp hx with hx | hx
    · have := (List.pairwise_append.mp ha).2.2 x hx hi (List.mem_singleton.mpr rfl)
      omega
    · rw [List.mem_singleton.mp hx]
      omega
  · have := mem_rgI.mp hx
    exact hc x this.1 (by omega)
theorem diffs_incr : ∀ (w : List Int) (a : Int), (∀ d ∈ diffs (a :: w), 1 ≤ d) → w.Pairwise (· < ·)
  | [], _, _ => List.Pairwise.nil
  | b :: w, a, h => by
    rw [diffs_cons] at h
    have h2 : ∀ d ∈ diffs (b :: w), 1 ≤ d := fun d hd => h d (List.mem_cons_of_mem _ hd)
    exact List.pairwise_cons.mpr ⟨(diffs_up w b h2).1, diffs_incr w b h2⟩
theorem good_incr {s l : Int} {w : List Int} (h : goodWalk s l w = true) : w.Pairwise (· < ·) := by
  have := diffs_incr (w ++ [s + 1]) 0 fun d hd => (good_strides h d hd).1
  exact (List.pairwise_append.mp this).1
/-- a walk is told by the steps it treads -/
theorem walk_ext {s l : Int} (hf : FlOk s l) {w v : List Int} (hw : w ∈ walksI s l) (hv : v ∈ walksI s l) (h : ∀ i : Nat, (i : Int) < s → hasI w i = hasI v i) : w = v := by
  have gw := (mem_walks_good hf).mp hw
  have gv := (mem_walks_good hf).mp hv
  have key : ∀ {w v : List Int}, goodWalk s l w = true → (∀ i : Nat, (i : Int) < s → hasI w i = hasI v i) → ∀ x, x ∈ w → x ∈ v := fun {w v} gw h x hx => by
    have hb := good_in gw x hx
    have := h (x - 1).toNat (by omega)
    unfold hasI at this
    rw [show (((x - 1).toNat : Nat) : Int) + 1 = x by omega, decide_eq_true hx, if_pos rfl] at this
    by_cases c : x ∈ v
    · exact c
    · rw [decide_eq_false c] at this
      exact absurd this (by decide)
  exact incr_ext (good_incr gw) (good_incr gv) fun x => ⟨key gw h x, key gv (fun i hi => (h i hi).symm) x⟩
/-! ### the law's bags: each once, few -/
theorem workB_nodup {ws : List (List Int)} (hn : ws.Nodup) {wear : List Int} : ∀ n, ((workB ws wear n).map (·.1)).Nodup
  | 0 => by simp [workB]
  | n + 1 => by
    have ih := workB_nodup hn (wear := wear) n
    show ((stepB ws (workB ws wear n)).map (·.1)).Nodup
    unfold stepB
    rw [List.map_flatMap]
    refine List.pairwise_flatMap.mpr ⟨fun p _ => ?_, ?_⟩
    · rw [List.map_map]
      refine List.pairwise_map.mpr ((hn.filter _).imp fun {a b} hab e => hab ?_)
      have := List.append_inj_right' e rfl
      exact (List.cons.inj this).1
    · refine (List.pairwise_map.mp ih).imp fun {p q} hpq x hx y hy e => hpq ?_
      rw [List.map_map] at hx hy
      obtain ⟨a, _, rfl⟩ := List.mem_map.mp hx
      obtain ⟨b, _, rfl⟩ := List.mem_map.mp hy
      exact List.append_inj_left' e rfl
theorem foundB_nodup {ws : List (List Int)} (hn : ws.Nodup) {wear : List Int} (n : Nat) : (foundB ws wear n).Nodup := by
  unfold foundB
  exact List.Pairwise.sublist ((List.filter_sublist).map _) (workB_nodup hn n)
theorem dropLast_found {ws : List (List Int)} {wear : List Int} {n : Nat} {b : List (List Int)} (hb : b ∈ foundB ws wear (n + 1)) : b.dropLast ∈ (workB ws wear n).map (·.1) := by
  unfold foundB at hb
  obtain ⟨p, hp, rfl⟩ := List.mem_map.mp hb
  have hp' : p ∈ stepB ws (workB ws wear n) := (List.mem_filter.mp hp).1
  unfold stepB at hp'
  obtain ⟨q, hq, h⟩ := List.mem_flatMap.mp hp'
  obtain ⟨w, _, rfl⟩ := List.mem_map.mp h
  rw [List.dropLast_concat]
  exact List.mem_map.mpr ⟨q, hq, rfl⟩
theorem found_len {s l : Int} (hf : FlOk s l) {wear : List Int} (hs : (wear.length : Int) = s) (h0 : ∀ x ∈ wear, 0 ≤ x) (n : Nat) : (foundB (walksI s l) wear (n + 1)).length ≤ (walksI s l).length ^ n := by
  obtain ⟨f1, f2, f3, f4⟩ := id hf
  have hne : wear ≠ [] := fun z => by
    rw [z] at hs
    simp at hs
    omega
  refine Nat.le_trans ?_ (workB_len (wear := wear) n)
  rw [← List.length_map (f := List.dropLast), ← List.length_map (f := (·.1)) (as := workB (walksI s l) wear n)]
  have inj : ∀ a ∈ foundB (walksI s l) wear (n + 1), ∀ b ∈ foundB (walksI s l) wear (n + 1), a.dropLast = b.dropLast → a = b := fun a ha b hb e => by
    obtain ⟨a1, a2, a3, a4⟩ := (mem_foundB hne h0).mp ha
    obtain ⟨b1, b2, b3, b4⟩ := (mem_foundB hne h0).mp hb
    have ea := List.dropLast_concat_getLast (l := a) (fun z => by rw [z] at a1; cases a1)
    have eb := List.dropLast_concat_getLast (l := b) (fun z => by rw [z] at b1; cases b1)
    rw [← e] at eb
    generalize a.dropLast = pre at ea eb
    generalize a.getLast _ = u at ea
    generalize b.getLast _ = v at eb
    subst ea eb
    have : u = v := walk_ext hf (a2 u (by simp)) (b2 v (by simp)) fun i hi => by
      have q := a4.trans b4.symm
      rw [sumOf_trod, sumOf_trod] at q
      have := congrArg (fun l : List Int => l[i]?) q
      simp only [List.getElem?_map, List.getElem?_range (show i < wear.length by omega)] at this
      replace this : trod (pre ++ [u]) i = trod (pre ++ [v]) i := Option.some.inj this
      rw [trod_snoc, trod_snoc] at this
      omega
    rw [this]
  refine nodup_len (List.pairwise_map.mpr (List.Pairwise.imp_of_mem (fun {a b} ha hb hab e => hab (inj a ha b hb e)) (foundB_nodup (walks_nodup s l) (n + 1)))) fun x hx => ?_
  obtain ⟨b, hb, rfl⟩ := List.mem_map.mp hx
  exact dropLast_found hb
theorem found_few {s l : Int} (hf : FlOk s l) (hs5 : s ≤ 5) {wear : List Int} (hs : (wear.length : Int) = s) (h0 : ∀ x ∈ wear, 0 ≤ x) {m : Nat} (hm : m ≤ 3) : (foundB (walksI s l) wear m).length ≤ 1024 := by
  cases m with
  | zero =>
    unfold foundB
    rw [List.length_map]
    exact Nat.le_trans (List.length_filter_le _ _) (by simp [workB])
  | succ n =>
    refine Nat.le_trans (found_len hf hs h0 n) ?_
    have h1 := Nat.pow_le_pow_left (walks_len5 (l := l) hs5) n
    have h2 := Nat.pow_le_pow_right (n := 32) (by decide) (show n ≤ 2 by omega)
    exact Nat.le_trans h1 h2
/-- a list of bags in another order -/
theorem perm_unmap {α β : Type} {f : α → β} : ∀ {xs : List α} {ys : List β}, ys.Perm (xs.map f) → ∃ zs : List α, ys = zs.map f ∧ zs.Perm xs := fun {xs} {ys} h => by
  generalize e : xs.map f = zs at h
  have h' := h.symm
  clear h
  induction h' generalizing xs with
  | nil => exact ⟨[], rfl, by rw [List.map_eq_nil_iff.mp e]⟩
  | @cons x l1 l2 hp ih =>
    cases xs with
    | nil => cases e
    | cons a as =>
      rw [List.map_cons] at e
      obtain ⟨e0, e1⟩ := List.cons.inj e
      subst e0
      obtain ⟨zs, rfl, hz⟩ := ih e1
      exact ⟨a :: zs, rfl, hz.cons a⟩
  | swap x y l =>
    cases xs with
    | nil => cases e
    | cons a as =>
    cases as with
    | nil =>
      rw [List.map_cons] at e
      cases (List.cons.inj e).2
    | cons b bs =>
      rw [List.map_cons, List.map_cons] at e
      obtain ⟨e0, e1⟩ := List.cons.inj e
      obtain ⟨e2, e3⟩ := List.cons.inj e1
      subst e0 e2 e3
      exact ⟨b :: a :: bs, rfl, List.Perm.swap _ _ _⟩
  | trans _ _ ih1 ih2 =>
    obtain ⟨zs, e1, h1⟩ := ih1 e
    obtain ⟨us, e2, h2⟩ := ih2 e1.symm
    exact ⟨us, e2, h2.trans h1⟩
/-- the numbers of both steps, by the law's own bags -/
theorem boths_found {s l : Int} (hf : FlOk s l) {wear : List Int} (hw : WrOk s wear) {m : Nat} {i j : Nat} (hi : (i : Int) < s) (hj : (j : Int) < s) (hm : at0 wear i ≤ m) {b : Int} : b ∈ bothsI s l wear m i j ↔ ∃ bag ∈ foundB (walksI s l) wear m, (trodB bag i j : Int) = b := by
  obtain ⟨f1, f2, f3, f4⟩ := id hf
  have hwl := hw.1
  have hne : wear ≠ [] := fun z => by
    rw [z] at hwl
    simp at hwl
    omega
  have h0 : ∀ x ∈ wear, 0 ≤ x := fun x hx => (hw.2 x hx).1
  rw [boths_bags hf hw hi hj hm]
  constructor
  · rintro ⟨bag, b1, b2, b3, rfl⟩
    have hp := sortW_perm bag
    refine ⟨sortW bag, (mem_foundB hne h0).mpr ⟨by rw [hp.length_eq]; exact b1, fun w hw => b2 w (hp.mem_iff.mp hw), ?_, ?_⟩, by rw [trodB_perm hp]⟩
    · refine (sortW_pairwise bag).imp fun {a b} hab => ?_
      rw [leW_le, decide_eq_true_eq] at hab
      exact hab
    · rw [hwl, ← b3]
      exact sumOf_perm hp
  · rintro ⟨bag, hb, rfl⟩
    obtain ⟨b1, b2, b3, b4⟩ := (mem_foundB hne h0).mp hb
    exact ⟨bag, b1, b2, by rw [← hwl]; exact b4, rfl⟩
theorem boths_comm {s l : Int} (hf : FlOk s l) {wear : List Int} (hw : WrOk s wear) {m : Nat} {i j : Nat} (hi : (i : Int) < s) (hj : (j : Int) < s) (hm : ∀ x ∈ wear, x ≤ m) : bothsI s l wear m i j = bothsI s l wear m j i := by
  have hwl := hw.1
  refine incr_ext boths_sorted boths_sorted fun b => ?_
  rw [boths_bags hf hw hi hj (hm _ (at0_mem (by omega))), boths_bags hf hw hj hi (hm _ (at0_mem (by omega)))]
  simp only [trodB_comm _ i j]
end SD

namespace SD
open PySem PySem.Spec PyProof.Rows L2
/-! ### the program's bags -/
def zeroW (wear : List Int) : Bool := decide (wear.tail.foldl max (wear.headD 0) = 0)
def sufF (f : List (List Int) → List Int → List (List (List Int))) (s l n : Int) (wear : List Int) : List (List Int) → List (List (List Int))
  | [] => []
  | w :: ws => (if (nonneg (subW wear w) && doMake s l (subW wear w) n) = true then (f (w :: ws) (subW wear w)).map (w :: ·) else []) ++ sufF f s l n wear ws
def bagsF (s l : Int) : Nat → List (List Int) → List Int → List (List (List Int))
  | 0, _, wear => if zeroW wear = true then [[]] else []
  | n + 1, ws, wear => sufF (bagsF s l n) s l n wear ws
theorem sufF_len {f : List (List Int) → List Int → List (List (List Int))} {s l n : Int} {wear : List Int} {k N : Nat} : ∀ {ws : List (List Int)}, ws.length ≤ N → (∀ us v, us.length ≤ N → (f us v).length ≤ k) → (sufF f s l n wear ws).length ≤ ws.length * k
  | [], _, _ => by simp [sufF]
  | w :: ws, hN, h => by
    have ih := sufF_len (s := s) (l := l) (n := n) (wear := wear) (ws := ws) (by rw [List.length_cons] at hN; omega) h
    have h1 := h (w :: ws) (subW wear w) hN
    unfold sufF
    rw [List.length_append, List.length_cons, Nat.add_mul, Nat.one_mul]
    split
    · rw [List.length_map]
      omega
    · simp only [List.length_nil]
      omega
theorem bagsF_len {s l : Int} {N : Nat} : ∀ (n : Nat) (ws : List (List Int)) (wear : List Int), ws.length ≤ N → (bagsF s l n ws wear).length ≤ N ^ n
  | 0, ws, wear, _ => by
    unfold bagsF
    split <;> simp
  | n + 1, ws, wear, h => by
    have := sufF_len (f := bagsF s l n) (s := s) (l := l) (n := n) (wear := wear) (k := N ^ n) h fun us v hu => bagsF_len n us v hu
    unfold bagsF
    refine Nat.le_trans this ?_
    rw [Nat.pow_succ, Nat.mul_comm]
    exact Nat.mul_le_mul_left _ h
theorem mem_sufF {f : List (List Int) → List Int → List (List (List Int))} {s l n : Int} {wear : List Int} {b : List (List Int)} : ∀ {ws : List (List Int)}, b ∈ sufF f s l n wear ws ↔ ∃ pre w post rest, ws = pre ++ w :: post ∧ b = w :: rest ∧ nonneg (subW wear w) = true ∧ doMake s l (subW wear w) n = true ∧ rest ∈ f (w :: post) (subW wear w)
  | [] => by
    unfold sufF
    refine ⟨fun h => (nomatch h), fun ⟨pre, w, post, rest, e, _⟩ => ?_⟩
    have := congrArg List.length e
    simp at this
  | w :: ws => by
    unfold sufF
    rw [List.mem_append, mem_sufF (ws := ws)]
    constructor
    · rintro (h | ⟨pre, v, post, rest, rfl, h⟩)
      · split at h
        · rename_i hc
          rw [Bool.and_eq_true] at hc
          obtain ⟨rest, hr, rfl⟩ := List.mem_map.mp h
          exact ⟨[], w, ws, rest, rfl, rfl, hc.1, hc.2, hr⟩
        · cases h
      · exact ⟨w :: pre, v, post, rest, rfl, h⟩
    · rintro ⟨pre, v, post, rest, e, rfl, h1, h2, h3⟩
      cases pre with
      | nil =>
        obtain ⟨rfl, rfl⟩ := List.cons.inj e
        refine .inl ?_
        rw [if_pos (by rw [h1, h2]; rfl)]
        exact List.mem_map.mpr ⟨rest, h3, rfl⟩
      | cons p pre =>
        obtain ⟨rfl, rfl⟩ := List.cons.inj e
        exact .inr ⟨pre, v, post, rest, rfl, rfl, h1, h2, h3⟩
theorem bagsF_size {s l : Int} : ∀ (n : Nat) {ws : List (List Int)} {wear : List Int} {b : List (List Int)}, b ∈ bagsF s l n ws wear → b.length = n
  | 0, ws, wear, b, h => by
    unfold bagsF at h
    split at h
    · rw [List.mem_singleton.mp h]
      rfl
    · cases h
  | n + 1, ws, wear, b, h => by
    unfold bagsF at h
    obtain ⟨pre, w, post, rest, _, rfl, _, _, h3⟩ := mem_sufF.mp h
    rw [List.length_cons, bagsF_size n h3]
theorem wear_ext {s : Int} {wear : List Int} (hs : (wear.length : Int) = s) (h1 : 0 ≤ s) {bag : List (List Int)} : sumOf s bag = wear ↔ ∀ i : Nat, (i : Int) < s → trod bag i = at0 wear i := by
  constructor
  · rintro rfl i hi
    exact (sumOf_at hi).symm
  · intro h
    have hl := sumOf_len h1 bag
    exact ext_at0 (by omega) fun i hi => by rw [sumOf_at (by omega), h i (by omega)]
theorem zeroW_iff {wear : List Int} (hne : wear ≠ []) (h0 : ∀ x ∈ wear, 0 ≤ x) : zeroW wear = true ↔ ∀ i, i < wear.length → at0 wear i = 0 := by
  unfold zeroW
  cases wear with
  | nil => exact absurd rfl hne
  | cons y ys =>
    rw [decide_eq_true_eq]
    show ys.foldl max y = 0 ↔ _
    rw [maxZ h0]
    constructor
    · intro h i hi
      exact h _ (at0_mem hi)
    · intro h x hx
      obtain ⟨i, hi, rfl⟩ := List.getElem_of_mem hx
      rw [← at0_get hi]
      exact h i hi
theorem le_trans' {a b c : List Int} (h1 : a ≤ b) (h2 : b ≤ c) : a ≤ c := List.le_trans h1 h2
theorem mem_bagsF {s l : Int} (hf : FlOk s l) : ∀ (n : Nat) {ws : List (List Int)} {wear : List Int}, (∀ w ∈ ws, w ∈ walksI s l) → ws.Pairwise (fun a b => a ≤ b) → (wear.length : Int) = s → (∀ x ∈ wear, 0 ≤ x) → ∀ {b : List (List Int)},
    b ∈ bagsF s l n ws wear ↔ b.length = n ∧ (∀ w ∈ b, w ∈ ws) ∧ b.Pairwise (fun a b => a ≤ b) ∧ sumOf s b = wear
  | 0, ws, wear, hw, hp, hs, h0, b => by
    obtain ⟨f1, f2, f3, f4⟩ := id hf
    have hne : wear ≠ [] := fun z => by
      rw [z] at hs
      simp at hs
      omega
    unfold bagsF
    have key : zeroW wear = true ↔ sumOf s [] = wear := by
      rw [zeroW_iff hne h0, wear_ext hs (by omega)]
      constructor
      · intro h i hi
        rw [trod_nil, h i (by omega)]
      · intro h i hi
        rw [← h i (by omega), trod_nil]
    constructor
    · intro h
      split at h
      · rename_i hz
        rw [List.mem_singleton.mp h]
        exact ⟨rfl, fun w hw => (nomatch hw), List.Pairwise.nil, key.mp hz⟩
      · cases h
    · rintro ⟨h1, _, _, h4⟩
      have : b = [] := List.length_eq_zero_iff.mp h1
      subst this
      rw [if_pos (key.mpr h4)]
      exact List.mem_singleton.mpr rfl
  | n + 1, ws, wear, hw, hp, hs, h0, b => by
    obtain ⟨f1, f2, f3, f4⟩ := id hf
    unfold bagsF
    rw [mem_sufF]
    have hl : ∀ w, ((subW wear w).length : Int) = s := fun w => by rw [subW_len]; exact hs
    have sub : ∀ w rest, (sumOf s rest = subW wear w ↔ sumOf s (w :: rest) = wear) := fun w rest => by
      rw [wear_ext (hl w) (by omega), wear_ext hs (by omega)]
      constructor
      · intro h i hi
        have := h i hi
        rw [subW_at (by omega)] at this
        rw [trod_cons]
        omega
      · intro h i hi
        have := h i hi
        rw [trod_cons] at this
        rw [subW_at (by omega)]
        omega
    constructor
    · rintro ⟨pre, w, post, rest, rfl, rfl, h1, h2, h3⟩
      have hp2 := (List.pairwise_append.mp hp).2.1
      obtain ⟨k1, k2, k3, k4⟩ := (mem_bagsF hf n (fun v hv => hw v (List.mem_append_right _ hv)) hp2 (hl w) (nonneg_iff.mp h1)).mp h3
      refine ⟨by rw [List.length_cons, k1], fun v hv => ?_, List.pairwise_cons.mpr ⟨fun v hv => ?_, k3⟩, (sub w rest).mp k4⟩
      · rcases List.mem_cons.mp hv with rfl | hv
        · simp
        · exact List.mem_append_right _ (k2 v hv)
      · rcases List.mem_cons.mp (k2 v hv) with rfl | hv
        · exact List.le_refl _
        · exact (List.pairwise_cons.mp hp2).1 v hv
    · rintro ⟨h1, h2, h3, h4⟩
      cases b with
      | nil => cases h1
      | cons w rest =>
      obtain ⟨pre, post, e⟩ := List.append_of_mem (h2 w List.mem_cons_self)
      -- the first such place
      obtain ⟨pre, post, e, hnp⟩ : ∃ pre post, ws = pre ++ w :: post ∧ w ∉ pre := by
        clear e pre post
        have hm := h2 w List.mem_cons_self
        clear h1 h2 h3 h4 hw hp
        induction ws with
        | nil => cases hm
        | cons v ws ih =>
          by_cases c : w = v
          · exact ⟨[], ws, by rw [c]; rfl, fun z => (nomatch z)⟩
          · rcases List.mem_cons.mp hm with z | z
            · exact absurd z c
            · obtain ⟨pre, post, e, hn⟩ := ih z
              refine ⟨v :: pre, post, by rw [e]; rfl, fun z => ?_⟩
              rcases List.mem_cons.mp z with z | z
              · exact c z
              · exact hn z
      subst e
      have hp2 := (List.pairwise_append.mp hp).2.1
      obtain ⟨g1, g2⟩ := List.pairwise_cons.mp h3
      have k4 := (sub w rest).mpr h4
      have hn : nonneg (subW wear w) = true := nonneg_iff.mpr fun x hx => by
        rw [← k4] at hx
        obtain ⟨i, hi, rfl⟩ := List.getElem_of_mem hx
        have hsl := sumOf_len (s := s) (by omega) rest
        rw [← at0_get hi, sumOf_at (by omega)]
        exact trod_nonneg _ _
      have hrw : ∀ v ∈ rest, v ∈ walksI s l := fun v hv => hw v (h2 v (List.mem_cons_of_mem _ hv))
      have hd : doMake s l (subW wear w) n = true := by
        rw [doMake_iff (hl w), ← k4]
        have := bag_mk (s := s) (l := l) (bag := rest) hf fun v hv d hd => (good_strides ((mem_walks_good hf).mp (hrw v hv)) d hd).2
        rw [List.length_cons] at h1
        rw [show ((n : Nat) : Int) = (rest.length : Int) by omega]
        exact this
      refine ⟨pre, w, post, rest, rfl, rfl, hn, hd, (mem_bagsF hf n (fun v hv => hw v (List.mem_append_right _ hv)) hp2 (hl w) (nonneg_iff.mp hn)).mpr ⟨by rw [List.length_cons] at h1; omega, fun v hv => ?_, g2, k4⟩⟩
      rcases List.mem_append.mp (h2 v (List.mem_cons_of_mem _ hv)) with z | z
      · have a1 := (List.pairwise_append.mp hp).2.2 v z w List.mem_cons_self
        have a2 := g1 v hv
        have : v = w := List.le_antisymm a1 a2
        rw [this] at z
        exact absurd z hnp
      · exact z
/-! each bag once -/
theorem bagsF_nodup {s l : Int} : ∀ (n : Nat) {ws : List (List Int)} {wear : List Int}, ws.Nodup → (bagsF s l n ws wear).Nodup
  | 0, ws, wear, _ => by
    unfold bagsF
    split
    · exact List.nodup_cons.mpr ⟨fun z => (nomatch z), List.nodup_nil⟩
    · exact List.nodup_nil
  | n + 1, ws, wear, h => by
    unfold bagsF
    induction ws with
    | nil => exact List.nodup_nil
    | cons w ws ih =>
      obtain ⟨h1, h2⟩ := List.nodup_cons.mp h
      unfold sufF
      refine List.nodup_append.mpr ⟨?_, ih h2, fun a ha b hb e => ?_⟩
      · split
        · refine List.pairwise_map.mpr ((bagsF_nodup n h).imp fun {a b} hab e => hab (List.cons.inj e).2)
        · exact List.nodup_nil
      · subst e
        obtain ⟨pre, v, post, rest, rfl, rfl, _, _, _⟩ := mem_sufF.mp hb
        split at ha
        · obtain ⟨r, _, e⟩ := List.mem_map.mp ha
          obtain ⟨rfl, _⟩ := List.cons.inj e
          exact h1 (List.mem_append_right _ List.mem_cons_self)
        · cases ha
theorem perm_nodup {α : Type} [BEq α] [LawfulBEq α] : ∀ {a b : List α}, a.Nodup → b.Nodup → (∀ x, x ∈ a ↔ x ∈ b) → a.Perm b
  | [], b, _, _, h => by
    have : b = [] := List.eq_nil_iff_forall_not_mem.mpr fun x hx => nomatch (h x).mpr hx
    rw [this]
  | x :: xs, b, ha, hb, h => by
    obtain ⟨h1, h2⟩ := List.nodup_cons.mp ha
    have hx : x ∈ b := (h x).mp List.mem_cons_self
    refine ((perm_nodup h2 (hb.erase x) fun y => ?_).cons x).trans (List.perm_cons_erase hx).symm
    rw [List.Nodup.mem_erase_iff hb]
    constructor
    · intro hy
      exact ⟨fun e => h1 (e ▸ hy), (h y).mp (List.mem_cons_of_mem _ hy)⟩
    · rintro ⟨hne, hy⟩
      rcases List.mem_cons.mp ((h y).mpr hy) with e | e
      · exact absurd e hne
      · exact e
theorem walks_sorted (s l : Int) : (walksI s l).Pairwise fun a b => a ≤ b := by
  have := sortW_pairwise (walksI s l)
  rw [sort_walks] at this
  exact this.imp fun {a b} h => by
    rw [leW_le, decide_eq_true_eq] at h
    exact h
/-- all bags of a wear -/
abbrev bagsI (s l : Int) (wear : List Int) (m : Nat) : List (List (List Int)) := bagsF s l m (walksI s l) wear
theorem mem_bagsI {s l : Int} (hf : FlOk s l) {wear : List Int} (hs : (wear.length : Int) = s) (h0 : ∀ x ∈ wear, 0 ≤ x) {m : Nat} {b : List (List Int)} : b ∈ bagsI s l wear m ↔ b.length = m ∧ (∀ w ∈ b, w ∈ walksI s l) ∧ b.Pairwise (fun a b => a ≤ b) ∧ sumOf s b = wear := mem_bagsF hf m (fun _ h => h) (walks_sorted s l) hs h0
theorem bagsI_found {s l : Int} (hf : FlOk s l) {wear : List Int} (hs : (wear.length : Int) = s) (h0 : ∀ x ∈ wear, 0 ≤ x) (m : Nat) : (bagsI s l wear m).Perm (foundB (walksI s l) wear m) := by
  obtain ⟨f1, f2, f3, f4⟩ := id hf
  have hne : wear ≠ [] := fun z => by
    rw [z] at hs
    simp at hs
    omega
  refine perm_nodup (bagsF_nodup m (walks_nodup s l)) (foundB_nodup (walks_nodup s l) m) fun b => ?_
  rw [mem_bagsI hf hs h0, mem_foundB hne h0, hs]
/-! ### in how many orders -/
def ordStep (bag : List (List Int)) (f : Int) (p : List Int × Nat) : Int := f * ((p.2 : Int) + 1) / ((bag.take (p.2 + 1)).countP fun w => decide (w = p.1) : Nat)
def ordersI (bag : List (List Int)) : Int := bag.zipIdx.foldl (ordStep bag) 1
def sqI (bag : List (List Int)) : Nat := (bag.map fun w => bag.countP fun v => decide (v = w)).sum
def ordG (n k : Nat) : Int := match n, k with
  | 2, 2 => 2
  | 3, 3 => 6
  | 3, 5 => 3
  | _, _ => 1
theorem orders_sq : ∀ {bag : List (List Int)}, bag.length ≤ 3 → ordersI bag = ordG bag.length (sqI bag)
  | [], _ => rfl
  | [a], _ => by
    simp [ordersI, ordStep, sqI, ordG]
  | [a, b], _ => by
    by_cases h : a = b
    · subst h
      simp [ordersI, ordStep, sqI, ordG]
    · have h' : ¬ b = a := fun z => h z.symm
      simp [ordersI, ordStep, sqI, ordG, h, h']
  | [a, b, c], _ => by
    by_cases h : a = b
    · subst h
      by_cases k : a = c
      · subst k
        simp [ordersI, ordStep, sqI, ordG]
      · have k' : ¬ c = a := fun z => k z.symm
        simp [ordersI, ordStep, sqI, ordG, k, k']
    · have h' : ¬ b = a := fun z => h z.symm
      by_cases k : a = c
      · subst k
        simp [ordersI, ordStep, sqI, ordG, h, h']
      · have k' : ¬ c = a := fun z => k z.symm
        by_cases j : b = c
        · subst j
          simp [ordersI, ordStep, sqI, ordG, h, h']
        · have j' : ¬ c = b := fun z => j z.symm
          simp [ordersI, ordStep, sqI, ordG, h, h', k, k', j, j']
  | _ :: _ :: _ :: _ :: _, h => by simp at h
theorem sq_perm {a b : List (List Int)} (h : a.Perm b) : sqI a = sqI b := by
  unfold sqI
  rw [show (fun w => a.countP fun v => decide (v = w)) = fun w => b.countP fun v => decide (v = w) from funext fun w => h.countP_eq _]
  exact (h.map _).sum_nat
theorem sq_map {a : List (List Int)} {f : List Int → List Int} (hf : ∀ x ∈ a, ∀ y ∈ a, f x = f y → x = y) : sqI (a.map f) = sqI a := by
  unfold sqI
  rw [List.map_map]
  congr 1
  refine List.map_congr_left fun w hw => ?_
  show (a.map f).countP (fun v => decide (v = f w)) = _
  rw [List.countP_map]
  refine List.countP_congr fun v hv => ?_
  simp only [Function.comp, decide_eq_true_eq]
  exact ⟨fun e => hf v hv w hw e, fun e => by rw [e]⟩
end SD

namespace SD
open PySem PySem.Spec PyProof.Rows L2
/-! ### led down: all from the other end -/
theorem at0_rev {xs : List Int} {i : Nat} (h : i < xs.length) : at0 xs.reverse i = at0 xs (xs.length - 1 - i) := by
  rw [at0_get (by rw [List.length_reverse]; exact h), at0_get (by omega), List.getElem_reverse]
theorem rs_flip (g : Nat → Int) (n f : Nat) : ∀ l, f + l ≤ n → rs (fun i => g (n - 1 - i)) f l = rs g (n - f - l) l
  | 0, _ => rfl
  | l + 1, h => by
    rw [rs_succ, rs_flip g n f l (by omega)]
    have e : rs g (n - f - (l + 1)) (1 + l) = rs g (n - f - (l + 1)) 1 + rs g (n - f - (l + 1) + 1) l := rs_cat g _ 1 l
    have e1 : rs g (n - f - (l + 1)) 1 = g (n - 1 - (f + l)) := by
      rw [rs_succ, rs_zero, show n - f - (l + 1) + 0 = n - 1 - (f + l) by omega]
      omega
    rw [e1, Nat.add_comm 1 l, show n - f - (l + 1) + 1 = n - f - l by omega] at e
    rw [e]
    show rs g (n - f - l) l + g (n - 1 - (f + l)) = _
    omega
theorem win_rev {wear : List Int} {f l : Nat} (h : f + l ≤ wear.length) : winS wear.reverse f l = winS wear (wear.length - f - l) l := by
  rw [rs_win, rs_win, ← rs_flip (at0 wear) wear.length f l h]
  exact rs_congr fun j hj => at0_rev (by omega)
theorem Mk_rev {s l m : Int} {wear : List Int} (hf : FlOk s l) (hs : (wear.length : Int) = s) (h : Mk s l wear m) : Mk s l wear.reverse m := by
  rw [Mk_win hf hs] at h
  rw [Mk_win hf (by rw [List.length_reverse]; exact hs), List.length_reverse]
  refine ⟨fun i hi => ?_, fun f hl => ?_⟩
  · rw [at0_rev hi]
    exact h.1 _ (by omega)
  · rw [win_rev hl]
    exact h.2 _ (by omega)
theorem Mk_revI {s l m : Int} {wear : List Int} (hf : FlOk s l) (hs : (wear.length : Int) = s) : Mk s l wear.reverse m ↔ Mk s l wear m := ⟨fun h => by
  have := Mk_rev hf (by rw [List.length_reverse]; exact hs) h
  rw [List.reverse_reverse] at this
  exact this, Mk_rev hf hs⟩
theorem doMake_rev {s l m : Int} {wear : List Int} (hf : FlOk s l) (hs : (wear.length : Int) = s) : doMake s l wear.reverse m = doMake s l wear m := by
  rw [Bool.eq_iff_iff, doMake_iff hs, doMake_iff (by rw [List.length_reverse]; exact hs), Mk_revI hf hs]
theorem nums_rev {s l : Int} {wear : List Int} (hf : FlOk s l) (hs : (wear.length : Int) = s) : numsI s l wear.reverse = numsI s l wear := by
  unfold numsI
  exact List.filter_congr fun x _ => doMake_rev hf hs
theorem far_snoc {a b : List Int} {x y : Int} (h : a.length = b.length) : farI (a ++ [x]) (b ++ [y]) = farI a b + absI (x - y) := by
  unfold farI
  rw [List.zip_append h, List.map_append, List.sum_append]
  simp
theorem far_rev : ∀ {a b : List Int}, a.length = b.length → farI a.reverse b.reverse = farI a b
  | [], [], _ => rfl
  | x :: xs, y :: ys, h => by
    have h' : xs.length = ys.length := by simpa using h
    rw [List.reverse_cons, List.reverse_cons, far_snoc (by rw [List.length_reverse, List.length_reverse]; exact h'), far_rev h']
    have : farI (x :: xs) (y :: ys) = absI (x - y) + farI xs ys := rfl
    rw [this]
    omega
theorem near_len {s l many : Int} {wear : List Int} (hf : FlOk s l) (hs : (wear.length : Int) = s) (m0 : 0 ≤ many) (m9 : many ≤ 9) (h0 : ∀ i, i < wear.length → 0 ≤ at0 wear i) : ((nearI s l wear many).length : Int) = s := (near_wr hf hs m0 m9 h0).1
theorem far_least {s l many : Int} {wear : List Int} (hf : FlOk s l) (hs : (wear.length : Int) = s) (m0 : 0 ≤ many) (h0 : ∀ i, i < wear.length → 0 ≤ at0 wear i) {v : List Int} (hv : (v.length : Int) = s) (hm : Mk s l v many) : farI wear (nearI s l wear many) ≤ farI wear v := by
  rcases near_least hf hs m0 h0 hv hm with h | h
  · omega
  · omega
theorem far_down {s l many : Int} {wear : List Int} (hf : FlOk s l) (hs : (wear.length : Int) = s) (m0 : 0 ≤ many) (m9 : many ≤ 9) (h0 : ∀ i, i < wear.length → 0 ≤ at0 wear i) : farI wear.reverse (nearI s l wear.reverse many) = farI wear (nearI s l wear many) := by
  have hsr : (wear.reverse.length : Int) = s := by rw [List.length_reverse]; exact hs
  have h0r : ∀ i, i < wear.reverse.length → 0 ≤ at0 wear.reverse i := fun i hi => by
    rw [List.length_reverse] at hi
    rw [at0_rev hi]
    exact h0 _ (by omega)
  have n1 := near_len hf hs m0 m9 h0
  have n2 := near_len hf hsr m0 m9 h0r
  have k1 := near_mk hf hs m0 h0
  have k2 := near_mk hf hsr m0 h0r
  have a1 := far_least hf hsr m0 h0r (v := (nearI s l wear many).reverse) (by rw [List.length_reverse]; exact n1) (Mk_rev hf n1 k1)
  rw [far_rev (by omega)] at a1
  have a2 := far_least hf hs m0 h0 (v := (nearI s l wear.reverse many).reverse) (by rw [List.length_reverse]; exact n2) (Mk_rev hf n2 k2)
  have a3 : farI wear (nearI s l wear.reverse many).reverse = farI wear.reverse (nearI s l wear.reverse many) := by
    have := far_rev (a := wear) (b := (nearI s l wear.reverse many).reverse) (by rw [List.length_reverse]; omega)
    rw [List.reverse_reverse] at this
    exact this.symm
  omega
/-! longer strides, both lots, one more -/
theorem Mk_wide {s l l' m : Int} {wear : List Int} (hf : FlOk s l) (hf' : FlOk s l') (hl : l ≤ l') (hs : (wear.length : Int) = s) (h0 : ∀ x ∈ wear, 0 ≤ x) (h : Mk s l wear m) : Mk s l' wear m := by
  rw [Mk_win hf hs] at h
  rw [Mk_win hf' hs]
  obtain ⟨f1, f2, f3, f4⟩ := id hf
  refine ⟨h.1, fun f hl' => ?_⟩
  have := h.2 f (by omega)
  rw [rs_win] at this ⊢
  rw [show l'.toNat = l.toNat + (l'.toNat - l.toNat) by omega, rs_cat]
  have := rs_nonneg (g := at0 wear) (a := f + l.toNat) (n := l'.toNat - l.toNat) fun j hj => h0 _ (at0_mem (by omega))
  omega
theorem far_wide {s l l' m : Int} {wear : List Int} (hf : FlOk s l) (hf' : FlOk s l') (hl : l ≤ l') (hs : (wear.length : Int) = s) (m0 : 0 ≤ m) (m9 : m ≤ 9) (h0 : ∀ i, i < wear.length → 0 ≤ at0 wear i) : farI wear (nearI s l' wear m) ≤ farI wear (nearI s l wear m) := by
  have n1 := near_wr hf hs m0 m9 h0
  exact far_least hf' hs m0 h0 n1.1 (Mk_wide hf hf' hl n1.1 (fun x hx => (n1.2 x hx).1) (near_mk hf hs m0 h0))
def plusW (a b : List Int) : List Int := (a.zip b).map fun p => p.1 + p.2
theorem plusW_len {a b : List Int} (h : a.length = b.length) : (plusW a b).length = a.length := by simp [plusW, h]
theorem plusW_at {a b : List Int} (h : a.length = b.length) {i : Nat} (hi : i < a.length) : at0 (plusW a b) i = at0 a i + at0 b i := by
  rw [at0_get (by rw [plusW_len h]; exact hi), at0_get hi, at0_get (by omega)]
  simp [plusW]
theorem Mk_plus {s l m n : Int} {a b : List Int} (hf : FlOk s l) (ha : (a.length : Int) = s) (hb : (b.length : Int) = s) (h1 : Mk s l a m) (h2 : Mk s l b n) : Mk s l (plusW a b) (m + n) := by
  have hp := plusW_len (a := a) (b := b) (by omega)
  rw [Mk_win hf ha] at h1
  rw [Mk_win hf hb] at h2
  rw [Mk_win hf (by rw [hp]; exact ha), hp]
  refine ⟨fun i hi => ?_, fun f hl => ?_⟩
  · have := h1.1 i hi
    have := h2.1 i (by omega)
    rw [plusW_at (by omega) hi]
    omega
  · have q1 := h1.2 f hl
    have q2 := h2.2 f (by omega)
    rw [rs_win] at q1 q2 ⊢
    rw [rs_congr (h := fun i => at0 a i + at0 b i) fun j hj => plusW_at (by omega) (by omega), rs_add]
    omega
theorem Mk_more {s l m : Int} {a : List Int} (hf : FlOk s l) (ha : (a.length : Int) = s) (h1 : Mk s l a m) : Mk s l (a.map (· + 1)) (m + 1) := by
  obtain ⟨f1, f2, f3, f4⟩ := id hf
  have e : a.map (· + 1) = plusW a (List.replicate a.length 1) := ext_at0 (by rw [plusW_len (by simp)]; simp) fun i hi => by
    rw [List.length_map] at hi
    rw [plusW_at (by simp) hi, at0_get (by simpa using hi), at0_get hi, at0_get (by simpa using hi)]
    simp
  rw [e]
  refine Mk_plus hf ha (by simpa using ha) h1 ((Mk_win hf (by simpa using ha)).mpr ⟨fun i hi => ?_, fun f hl => ?_⟩)
  · rw [at0_get hi]
    simp
  · rw [rs_win]
    rw [List.length_replicate] at hl
    have : rs (at0 (List.replicate a.length (1 : Int))) f 1 ≤ rs (at0 (List.replicate a.length (1 : Int))) f l.toNat := by
      rw [show l.toNat = 1 + (l.toNat - 1) by omega, rs_cat]
      have := rs_nonneg (g := at0 (List.replicate a.length (1 : Int))) (a := f + 1) (n := l.toNat - 1) fun j hj => by
        rw [at0_get (by rw [List.length_replicate]; omega)]
        simp
      omega
    rw [rs_succ, rs_zero, at0_get (by rw [List.length_replicate]; omega)] at this
    simp at this
    exact this
theorem Mk_one {s m : Int} {a : List Int} (hf : FlOk s 1) (ha : (a.length : Int) = s) : Mk s 1 a m ↔ a = List.replicate s.toNat m := by
  rw [Mk_win hf ha]
  constructor
  · rintro ⟨h1, h2⟩
    refine ext_at0 (by rw [List.length_replicate]; omega) fun i hi => ?_
    have q1 := h1 i hi
    have q2 := h2 i (by show i + 1 ≤ _; omega)
    rw [rs_win] at q2
    have q3 : m ≤ rs (at0 a) i 1 := q2
    rw [rs_succ, rs_zero] at q3
    rw [at0_get (row := List.replicate s.toNat m) (by rw [List.length_replicate]; omega), List.getElem_replicate]
    rw [Nat.add_zero] at q3
    omega
  · intro h
    have hat : ∀ i, i < a.length → at0 a i = m := fun i hi => by
      rw [at0_get hi]
      subst h
      rw [List.getElem_replicate]
    refine ⟨fun i hi => by rw [hat i hi]; exact Int.le_refl _, fun f hl => ?_⟩
    rw [rs_win]
    show m ≤ rs (at0 a) f 1
    rw [rs_succ, rs_zero, hat (f + 0) (by have : f + 1 ≤ a.length := hl; omega)]
    omega
/-! walks from the other end -/
def revW (s : Int) (w : List Int) : List Int := (w.map fun x => s + 1 - x).reverse
theorem revW_revW (s : Int) (w : List Int) : revW s (revW s w) = w := by
  unfold revW
  rw [List.map_reverse, List.reverse_reverse, List.map_map]
  have : ((fun x => s + 1 - x) ∘ fun x => s + 1 - x) = fun x : Int => x := by
    funext x
    show s + 1 - (s + 1 - x) = x
    omega
  rw [this]
  simp
theorem mem_revW {s : Int} {w : List Int} {x : Int} : x ∈ revW s w ↔ s + 1 - x ∈ w := by
  unfold revW
  rw [List.mem_reverse, List.mem_map]
  constructor
  · rintro ⟨y, hy, rfl⟩
    rw [show s + 1 - (s + 1 - y) = y by omega]
    exact hy
  · intro h
    exact ⟨_, h, by omega⟩
theorem diffs_turn (c : Int) : ∀ (xs : List Int), diffs (xs.map fun x => c - x).reverse = (diffs xs).reverse
  | [] => rfl
  | [a] => rfl
  | a :: b :: xs => by
    have ih := diffs_turn c (b :: xs)
    rw [diffs_cons, List.reverse_cons, ← ih]
    rw [List.map_cons, List.map_cons, List.reverse_cons, List.reverse_cons, diffs_snoc]
    rw [show c - a - (c - b) = b - a by omega]
theorem strides_rev (s : Int) (w : List Int) : stridesI s (revW s w) = (stridesI s w).reverse := by
  unfold stridesI
  rw [← diffs_turn (s + 1)]
  congr 1
  unfold revW
  simp
theorem good_rev {s l : Int} {w : List Int} (h : goodWalk s l w = true) : goodWalk s l (revW s w) = true := by
  have h1 := good_in h
  have h2 := good_strides h
  unfold goodWalk
  rw [Bool.and_eq_true, List.all_eq_true, List.all_eq_true]
  refine ⟨fun x hx => decide_eq_true ?_, fun x hx => decide_eq_true ?_⟩
  · have := h1 _ (mem_revW.mp hx)
    omega
  · rw [strides_rev, List.mem_reverse] at hx
    exact h2 x hx
theorem walk_rev {s l : Int} (hf : FlOk s l) {w : List Int} (h : w ∈ walksI s l) : revW s w ∈ walksI s l := (mem_walks_good hf).mpr (good_rev ((mem_walks_good hf).mp h))
theorem has_rev {s : Int} {w : List Int} {i j : Nat} (h : (i : Int) + j + 1 = s) : decide ((i : Int) + 1 ∈ revW s w) = decide ((j : Int) + 1 ∈ w) := by
  rw [Bool.eq_iff_iff, decide_eq_true_eq, decide_eq_true_eq, mem_revW, show s + 1 - ((i : Int) + 1) = (j : Int) + 1 by omega]
theorem trod_rev {s : Int} {bag : List (List Int)} {i j : Nat} (h : (i : Int) + j + 1 = s) : trod (bag.map (revW s)) i = trod bag j := by
  unfold trod
  rw [List.filter_map, List.length_map]
  congr 2
  exact List.filter_congr fun w _ => has_rev h
theorem sum_rev {s : Int} (h1 : 0 ≤ s) (bag : List (List Int)) : sumOf s (bag.map (revW s)) = (sumOf s bag).reverse := by
  have l1 := sumOf_len h1 (bag.map (revW s))
  have l2 := sumOf_len h1 bag
  refine ext_at0 (by rw [List.length_reverse]; omega) fun i hi => ?_
  rw [at0_rev (by omega), sumOf_at (by omega), sumOf_at (by omega)]
  exact trod_rev (by omega)
theorem trodB_rev {s : Int} {bag : List (List Int)} {i j i' j' : Nat} (h : (i : Int) + i' + 1 = s) (h' : (j : Int) + j' + 1 = s) : trodB (bag.map (revW s)) i j = trodB bag i' j' := by
  unfold trodB
  rw [List.filter_map, List.length_map]
  congr 1
  exact List.filter_congr fun w _ => by
    show (decide (_ ∈ revW s w) && decide (_ ∈ revW s w)) = _
    rw [has_rev h, has_rev h']
/-- a bag from the other end -/
def revB (s : Int) (b : List (List Int)) : List (List Int) := sortW (b.map (revW s))
theorem revB_perm (s : Int) (b : List (List Int)) : (revB s b).Perm (b.map (revW s)) := sortW_perm _
theorem sorted_eq {a b : List (List Int)} (ha : a.Pairwise fun a b => a ≤ b) (hb : b.Pairwise fun a b => a ≤ b) (h : a.Perm b) : a = b := List.Perm.eq_of_pairwise (fun x y _ _ h1 h2 => List.le_antisymm h1 h2) ha hb h
theorem sortW_le (ws : List (List Int)) : (sortW ws).Pairwise fun a b => a ≤ b := (sortW_pairwise ws).imp fun {a b} h => by
  rw [leW_le, decide_eq_true_eq] at h
  exact h
theorem revB_revB {s : Int} {b : List (List Int)} (h : b.Pairwise fun a b => a ≤ b) : revB s (revB s b) = b := by
  refine sorted_eq (sortW_le _) h ((revB_perm s _).trans (((revB_perm s b).map (revW s)).trans ?_))
  rw [List.map_map, show revW s ∘ revW s = id from funext fun w => revW_revW s w, List.map_id]
theorem revB_mem {s l : Int} (hf : FlOk s l) {wear : List Int} (hs : (wear.length : Int) = s) (h0 : ∀ x ∈ wear, 0 ≤ x) {m : Nat} {b : List (List Int)} (h : b ∈ bagsI s l wear m) : revB s b ∈ bagsI s l wear.reverse m := by
  obtain ⟨f1, f2, f3, f4⟩ := id hf
  obtain ⟨h1, h2, h3, h4⟩ := (mem_bagsI hf hs h0).mp h
  have hp := revB_perm s b
  refine (mem_bagsI hf (by rw [List.length_reverse]; exact hs) fun x hx => h0 x (List.mem_reverse.mp hx)).mpr ⟨by rw [hp.length_eq, List.length_map]; exact h1, fun w hw => ?_, sortW_le _, ?_⟩
  · obtain ⟨v, hv, rfl⟩ := List.mem_map.mp (hp.mem_iff.mp hw)
    exact walk_rev hf (h2 v hv)
  · rw [sumOf_perm hp, sum_rev (by omega), h4]
theorem bags_rev {s l : Int} (hf : FlOk s l) {wear : List Int} (hs : (wear.length : Int) = s) (h0 : ∀ x ∈ wear, 0 ≤ x) (m : Nat) : ((bagsI s l wear m).map (revB s)).Perm (bagsI s l wear.reverse m) := by
  have hsr : (wear.reverse.length : Int) = s := by rw [List.length_reverse]; exact hs
  have h0r : ∀ x ∈ wear.reverse, 0 ≤ x := fun x hx => h0 x (List.mem_reverse.mp hx)
  have inj : ∀ a ∈ bagsI s l wear m, ∀ b ∈ bagsI s l wear m, revB s a = revB s b → a = b := fun a ha b hb e => by
    have := congrArg (revB s) e
    rw [revB_revB ((mem_bagsI hf hs h0).mp ha).2.2.1, revB_revB ((mem_bagsI hf hs h0).mp hb).2.2.1] at this
    exact this
  refine perm_nodup (List.pairwise_map.mpr (List.Pairwise.imp_of_mem (fun {a b} ha hb hab e => hab (inj a ha b hb e)) (bagsF_nodup m (walks_nodup s l)))) (bagsF_nodup m (walks_nodup s l)) fun x => ⟨fun hx => ?_, fun hx => ?_⟩
  · obtain ⟨b, hb, rfl⟩ := List.mem_map.mp hx
    exact revB_mem hf hs h0 hb
  · refine List.mem_map.mpr ⟨revB s x, ?_, revB_revB ((mem_bagsI hf hsr h0r).mp hx).2.2.1⟩
    have := revB_mem hf hsr h0r hx
    rw [List.reverse_reverse] at this
    exact this
theorem many_rev {s l : Int} (hf : FlOk s l) {wear : List Int} (hs : (wear.length : Int) = s) (h0 : ∀ x ∈ wear, 0 ≤ x) (m : Nat) : (bagsI s l wear.reverse m).length = (bagsI s l wear m).length := by
  rw [← (bags_rev hf hs h0 m).length_eq, List.length_map]
theorem sum_perm : ∀ {a b : List Int}, a.Perm b → a.sum = b.sum := fun h => by
  induction h with
  | nil => rfl
  | cons x _ ih => rw [List.sum_cons, List.sum_cons, ih]
  | swap x y l =>
    rw [List.sum_cons, List.sum_cons, List.sum_cons, List.sum_cons]
    omega
  | trans _ _ h1 h2 => rw [h1, h2]
theorem orders_rev {s : Int} {b : List (List Int)} (h : b.length ≤ 3) : ordersI (revB s b) = ordersI b := by
  have hp := revB_perm s b
  have hl : (revB s b).length = b.length := by rw [hp.length_eq, List.length_map]
  rw [orders_sq (by omega), orders_sq h, hl, sq_perm hp, sq_map]
  intro x _ y _ e
  have := congrArg (revW s) e
  rw [revW_revW, revW_revW] at this
  exact this
theorem named_rev {s l : Int} (hf : FlOk s l) {wear : List Int} (hs : (wear.length : Int) = s) (h0 : ∀ x ∈ wear, 0 ≤ x) {m : Nat} (hm : m ≤ 3) : ((bagsI s l wear.reverse m).map ordersI).sum = ((bagsI s l wear m).map ordersI).sum := by
  rw [← sum_perm ((bags_rev hf hs h0 m).map ordersI), List.map_map]
  congr 1
  refine List.map_congr_left fun b hb => ?_
  exact orders_rev (by rw [bagsF_size m hb]; exact hm)
theorem wr_rev {s : Int} {wear : List Int} (hw : WrOk s wear) : WrOk s wear.reverse := ⟨by rw [List.length_reverse]; exact hw.1, fun x hx => hw.2 x (List.mem_reverse.mp hx)⟩
theorem boths_rev {s l : Int} (hf : FlOk s l) {wear : List Int} (hw : WrOk s wear) {m : Nat} {i j i' j' : Nat} (hi : (i : Int) + i' + 1 = s) (hj : (j : Int) + j' + 1 = s) (hm : ∀ x ∈ wear, x ≤ m) : bothsI s l wear.reverse m i' j' = bothsI s l wear m i j := by
  obtain ⟨f1, f2, f3, f4⟩ := id hf
  have hwl := hw.1
  have hwr := wr_rev hw
  have hrl := hwr.1
  refine incr_ext boths_sorted boths_sorted fun b => ?_
  rw [boths_bags hf hw (by omega) (by omega) (hm _ (at0_mem (by omega))), boths_bags hf hwr (by omega) (by omega) (hm _ (List.mem_reverse.mp (at0_mem (by omega))))]
  constructor
  · rintro ⟨bag, b1, b2, b3, rfl⟩
    refine ⟨bag.map (revW s), by rw [List.length_map]; exact b1, fun w hw => ?_, by rw [sum_rev (by omega), b3, List.reverse_reverse], by rw [trodB_rev (i' := i') (j' := j') hi hj]⟩
    obtain ⟨v, hv, rfl⟩ := List.mem_map.mp hw
    exact walk_rev hf (b2 v hv)
  · rintro ⟨bag, b1, b2, b3, rfl⟩
    refine ⟨bag.map (revW s), by rw [List.length_map]; exact b1, fun w hw => ?_, by rw [sum_rev (by omega), b3], by rw [trodB_rev (i' := i) (j' := j) (by omega) (by omega)]⟩
    obtain ⟨v, hv, rfl⟩ := List.mem_map.mp hw
    exact walk_rev hf (b2 v hv)
theorem part_plus {s l m n : Int} {a b : List Int} (ha : (a.length : Int) = s) (hb : (b.length : Int) = s) (a0 : ∀ x ∈ a, 0 ≤ x) (b0 : ∀ x ∈ b, 0 ≤ x) (h1 : Mk s l a m) (h2 : Mk s l b n) : Part s l m l n (plusW a b) a := by
  have hp := plusW_len (a := a) (b := b) (by omega)
  refine ⟨ha, fun i hi => ⟨a0 _ (at0_mem hi), ?_⟩, h1, ?_⟩
  · rw [plusW_at (by omega) hi]
    have := b0 _ (at0_mem (row := b) (i := i) (by omega))
    omega
  · rw [show minus (plusW a b) a = b from ext_at0 (by rw [minus_len (by omega)]; omega) fun i hi => by
      rw [minus_len (by omega)] at hi
      rw [minus_at (by omega) hi, plusW_at (by omega) (by omega)]
      omega]
    exact h2
end SD

namespace SD
open PySem PySem.Spec PyProof PyProof.Rows L2 PySem.W
/-! ### t[::-1] of a tuple -/
theorem range_back {α : Type} (xs : Array α) : (List.range xs.size).filterMap (fun k : Nat => xs[((xs.size : Int) - 1 + (k : Int) * -1).toNat]?) = xs.toList.reverse := by
  have e : (List.range xs.size).filterMap (fun k : Nat => xs[((xs.size : Int) - 1 + (k : Int) * -1).toNat]?) = ((List.range xs.size).map fun k => xs.size - 1 - k).filterMap (xs[·]?) := by
    rw [List.filterMap_map]
    congr 1
    funext k
    show xs[((xs.size : Int) - 1 + (k : Int) * -1).toNat]? = xs[xs.size - 1 - k]?
    rw [show ((xs.size : Int) - 1 + (k : Int) * -1).toNat = xs.size - 1 - k by omega]
  rw [e, krv_range, List.filterMap_reverse, krv_all]
section
variable {prog : Program} {w : World} {A : Around} {E : Value → Shared → Prop} {s : Shared}
theorem applied_back {sl : Addr} {n : Nat} {u : Tok} {Q : Int × Int × Nat → Shared → Prop} (hs : s.heap.IsSliceOf sl .none .none (.int (-1) u)) (h : Q ((n : Int) - 1, -1, n) s) :
    wpAny (model prog w) A (Builtin.Slice.sliceApplied (.ref sl) (pure (n : Int))) Q E s := by
  obtain ⟨o, ho, _, hd⟩ := id hs
  unfold Builtin.Slice.sliceApplied Builtin.Slice.sliceFields
  refine wpAny_bind (wpAny_bind (wpAny_field ho hd (x := .none) rfl (wpAny_bind (wpAny_field ho hd (x := .none) rfl (wpAny_bind (wpAny_field ho hd (x := .int (-1) u) rfl (wpAny_pure ?_)))))))
  refine wpAny_bind (HT.slicePart_ (.int (-1) u) ?_)
  show wpAny _ _ (if ((-1 : Int) == 0) = true then _ else _) _ _ s
  rw [if_neg (by decide)]
  refine wpAny_bind (HT.slicePart_ .none (wpAny_bind (HT.slicePart_ .none (wpAny_bind (wpAny_pure ?_)))))
  have e : Builtin.Slice.slicePlaces ((n : Int) - 1) (-1) (-1) = n := by
    unfold Builtin.Slice.slicePlaces
    rw [if_neg (by decide)]
    split
    · rw [show (- -1 : Int) = 1 by decide, Int.ediv_one]
      omega
    · omega
  show wpAny _ _ (pure ((n : Int) - 1, (-1 : Int), Builtin.Slice.slicePlaces ((n : Int) - 1) (-1) (-1))) _ _ s
  rw [e]
  exact wpAny_pure h
theorem item_back {t sl : Addr} {its : Array Value} {u : Tok} {Q : Value → Shared → Prop} (ht : IsTup s.heap t its) (hs : s.heap.IsSliceOf sl .none .none (.int (-1) u)) (hz : its.size ≤ sizeLine)
    (h : Q (.ref s.heap.objs.size) { s with heap := s.heap.push { cls := .type "tuple", data := .seq its.toList.reverse.toArray } }) : wpAny (model prog w) A (getItem (.ref t) (.ref sl)) Q E s := by
  obtain ⟨o, ho, hc, _⟩ := id hs
  have room : sizeOk (.seq its.toList.reverse.toArray) := by
    show its.toList.reverse.toArray.size ≤ sizeLine
    rw [List.size_toArray, List.length_reverse, Array.length_toList]
    exact hz
  unfold getItem
  try with_reducible refine wpAny_holding ?_
  refine wpAny_bind (wpAny_sequenceKey ht.typeIs (by decide) ?_)
  refine wpAny_bind (wpAny_callSpecial?_slot (name := Str.ofString "__getitem__") ht.typeIs PyProof.Rows.slot_tuple_getitem (wpAny_call_entry PyProof.Rows.slot_tuple_getitem ht.typeIs entry_tuple_getitem ?_ (args_tuple_getitem _ _)))
  show wpAny _ _ (Builtin.Tuple.tupleItemsOf (.ref t) >>= _) _ _ s
  refine wpAny_bind (tupleItemsOf_ ht (wpAny_bind (wpAny_typeOf ⟨o, ho, hc⟩ ?_)))
  rw [if_pos (by decide)]
  refine wpAny_bind (applied_back hs ?_)
  show wpAny _ _ (if (((its.size : Int) - 1 == 0) && ((-1 : Int) == 1) && (its.size == its.size)) = true then _ else _) _ _ s
  rw [if_neg (by rw [show ((-1 : Int) == 1) = false by decide, Bool.and_false, Bool.false_and]; decide), range_back]
  refine wpAny_bind (m := Builtin.Tuple.tupleExact _) (wpAny_newObj_type ?_ room)
  exact wpAny_pure ⟨_, rfl, wpAny_pure h⟩
end
section
variable {X : Cx} {c : Ctx} {a e : Expr} {wa : WE} {te : TE} {k : Nat} {p1 p2 p3 pos : Pos}
abbrev backE (e : Expr) (k : Nat) (p1 p2 p3 pos : Pos) : Expr := .Subscript e (.Slice none none (some (.UnaryOp .USub (.Constant (.int 1) k p1) p2)) p3) pos
def tRevT (K : PySem.W.Frag) (te : TE) : TE := fun σ H Q => te σ H fun x H1 => ∃ b xs, x = .ref b ∧ SqT K H1 b xs ∧ ∀ p, H1 p = none → Q (.ref p) (upd H1 p (.tup xs.reverse))
theorem pe_revT (he : PE X e te) : PE X (backE e k p1 p2 p3 pos) (tRevT X.K te) := ⟨fun pins s σ H Q I h => by
  refine Subscript_ (thn (he.run pins s σ H _ I h) ?_)
  rintro v s1 ⟨x, H1, I1, r1, b, xs, rfl, hx, q⟩
  cases r1
  have minus : PO X (some (.UnaryOp .USub (.Constant (.int 1) k p1) p2)) (tPart (tUn (rU fun i => .int (-i)) (tC (.int 1)))) := po_some (pe_un un_neg pe_int)
  refine wpAny_Slice (thn (po_none.run pins s1 σ H1 (fun o H2 => o = none ∧ H2 = H1) I1 ⟨rfl, rfl⟩) ?_)
  rintro vl s2 ⟨_, _, I2, pl, rfl, rfl⟩
  refine thn (po_none.run pins s2 σ _ (fun o H3 => o = none ∧ H3 = _) I2 ⟨rfl, rfl⟩) ?_
  rintro vu s3 ⟨_, _, I3, pu, rfl, rfl⟩
  refine thn (minus.run pins s3 σ _ (fun o H4 => o = some (-1) ∧ H4 = _) I3 ⟨1, rfl, -1, rfl, rfl, rfl⟩) ?_
  rintro vs s4 ⟨_, _, I4, ps, rfl, rfl⟩
  cases pl
  cases pu
  cases ps with
  | int _ u =>
  have I5 := I4.kept (h' := s4.heap.push { cls := .type "slice", data := .fields #[.none, .none, .int (-1) u] }) (t' := s4.toks) fun b ob q => Heap.get?_push_of_some _ q
  obtain ⟨its, r, ht, hz⟩ := I5.tuple hx
  refine tail_any (ops := [.ref b, .ref s4.heap.objs.size]) ht.typeIs PyProof.Rows.slot_tuple_getitem.lookup ?_ (by with_unfolding_all rfl)
  refine item_back ht (Heap.IsSliceOf.new _ _ _ _) (by rw [List.size_toArray, ← r.length]; exact hz) ?_
  refine ⟨.ref _, _, I5.laid (t' := s4.toks) (o := .tup xs.reverse) (fun b ob q => Heap.get?_push_of_some _ q) (Nat.le_refl _) ?_, rfl, q _ (I5.hok.fresh (Nat.le_refl _))⟩
  exact ⟨by rw [List.length_reverse]; exact hz, _, r.reverse, IsTup.new _ _⟩⟩
@[simp] def wBack (wa : WE) : WE := fun env Q E => wa env (fun d => ∃ ds, d = .tuple ds ∧ Q (.tuple ds.reverse)) E
@[simp] def wBackL (wa : WE) : WA := fun env Q E => wa env (fun d => ∃ ds, d = .list ds ∧ Q ds.reverse) E
theorem d_back (ha : DE X c a wa) : DE X c (backE a k p1 p2 p3 pos) (wBack wa) := by
  refine PE.imp (pe_revT ha) ?_
  rintro σ H Q ⟨O, F, env, QD, QE, vw, sl, hw, hq, hE⟩
  refine ⟨O, F, env, _, QE, vw, sl, hw, fun d hd F1 H1 v v1 s1 r1 => ?_, hE⟩
  obtain ⟨ds, rfl, hQ⟩ := hd
  cases r1 with
  | @tup b xs _ g1 t1 =>
    exact ⟨b, xs, rfl, SqT.of (v1.frz _ _ g1), fun p hp => lay_tup (Q := Q) (QD := QD) v1 t1.rev hQ (fun d hd F2 H2 v v2 s2 r2 => hq d hd F2 H2 v v2 (s1.trans s2 v2) r2) hp⟩
theorem l_back (ha : DE X c a wa) : DL X c (backE a k p1 p2 p3 pos) (wBackL wa) := by
  refine PE.imp (pe_revL ha) ?_
  rintro σ H Q ⟨O, F, env, QD, QE, vw, sl, hw, hq, hE⟩
  refine ⟨O, F, env, _, QE, vw, sl, hw, fun d hd F1 H1 v v1 s1 r1 => ?_, hE⟩
  obtain ⟨ds, rfl, hQ⟩ := hd
  cases r1 with
  | @lst b xs _ g1 t1 =>
    exact ⟨b, xs, rfl, SqL.of (v1.frz _ _ g1), fun p hp => lay_own (Q := Q) (QD := QD) v1 t1.rev hQ (fun ds hd F2 H2 p2 xs v2 s2 n1 n2 n3 r2 => hq ds hd F2 H2 p2 xs v2 (s1.trans s2 v2) (s1.back n1) n2 n3 r2) hp⟩
end
end SD

namespace SD
open PySem PySem.Spec PyProof.Rows L2
/-! ### enumerate, slices of any list -/
def enumK (k : Nat) (xs : List D) : List D := xs.mapIdx fun i x => .tuple [.int ((k + i : Nat) : Int), x]
theorem enum0 (xs : List D) : enumD xs = enumK 0 xs := by
  unfold enumD enumK
  congr 1
  funext i x
  rw [Nat.zero_add]
theorem enumK_cons (k : Nat) (x : D) (xs : List D) : enumK k (x :: xs) = .tuple [.int (k : Nat), x] :: enumK (k + 1) xs := by
  unfold enumK
  rw [List.mapIdx_cons]
  congr 1
  congr 1
  funext i y
  rw [show k + (i + 1) = k + 1 + i by omega]
theorem enumK_nil (k : Nat) : enumK k [] = [] := rfl
theorem cutD_M {α : Type} (f : α → D) (xs : List α) (lo hi : Option Int) : cutD (xs.map f) lo hi = (cutI xs lo hi).map f := by
  unfold cutD cutI
  rw [List.length_map, List.map_take, List.map_drop]
theorem cut_drop {α : Type} (f : α → D) (xs : List α) (k : Nat) : cutD (xs.map f) (some (k : Nat)) none = (xs.drop k).map f := by
  rw [cutD_M, cutI_from xs (by omega), Int.toNat_natCast]
theorem cut_take {α : Type} (f : α → D) (xs : List α) (k : Nat) : cutD (xs.map f) none (some (k : Nat)) = (xs.take k).map f := by
  rw [cutD_M, cutI_to xs (by omega), Int.toNat_natCast]
theorem sufF_app {f : List (List Int) → List Int → List (List (List Int))} {s l n : Int} {wear w : List Int} {ws : List (List Int)} : sufF f s l n wear (w :: ws) = (if (nonneg (subW wear w) && doMake s l (subW wear w) n) = true then (f (w :: ws) (subW wear w)).map (w :: ·) else []) ++ sufF f s l n wear ws := rfl
/-! the orders of a few walks -/
theorem ord_step_low {bag : List (List Int)} {f : Int} {w : List Int} {k : Nat} (hf : 0 ≤ f) (hk : bag[k]? = some w) : 1 ≤ (bag.take (k + 1)).countP (fun v => decide (v = w)) ∧ 0 ≤ ordStep bag f (w, k) ∧ ordStep bag f (w, k) ≤ f * ((k : Int) + 1) := by
  have h1 : 1 ≤ (bag.take (k + 1)).countP (fun v => decide (v = w)) := List.countP_pos_iff.mpr ⟨w, by
    rw [List.take_add_one, hk]
    simp, by simp⟩
  have hn : 0 ≤ f * ((k : Int) + 1) := Int.mul_nonneg hf (by omega)
  refine ⟨h1, Int.ediv_nonneg hn (by omega), ?_⟩
  exact Int.ediv_le_self _ hn
theorem zipIdx_drop {α : Type} : ∀ (xs : List α) (k j : Nat) (x : α), xs[k]? = some x → ((xs.zipIdx j).drop k) = (x, j + k) :: ((xs.zipIdx j).drop (k + 1))
  | [], k, j, x, h => by simp at h
  | y :: ys, 0, j, x, h => by
    simp at h
    subst h
    rfl
  | y :: ys, k + 1, j, x, h => by
    rw [List.zipIdx_cons, List.drop_succ_cons, List.drop_succ_cons, zipIdx_drop ys k (j + 1) x (by simpa using h), show j + 1 + k = j + (k + 1) by omega]
/-! shapes of lists of bags -/
theorem short_tI {ns : List Int} (h : ns.length ≤ 1000) : short (tI ns) := by
  show (ns.map PyData.int).length ≤ 1000
  rw [List.length_map]
  exact h
end SD

namespace SD
open PySem PySem.Spec PyProof.Rows L2
/-! ### two kinds -/
def isKind : D → Bool
  | .tuple [x, y] => isWhole x 1 5 && isWhole y 0 9
  | _ => false
def areKinds : D → Bool
  | .tuple [x, y] => isKind x && isKind y
  | _ => false
def KdOk (l m : Int) : Prop := 1 ≤ l ∧ l ≤ 5 ∧ 0 ≤ m ∧ m ≤ 9
theorem isKind_at {d : D} (h : isKind d = true) : ∃ l m, d = p2 l m ∧ KdOk l m := by
  match d, h with
  | .tuple [x, y], h =>
    have h' : (isWhole x 1 5 && isWhole y 0 9) = true := h
    rw [Bool.and_eq_true] at h'
    obtain ⟨l, rfl, l1, l5⟩ := isWhole_int h'.1
    obtain ⟨m, rfl, m0, m9⟩ := isWhole_int h'.2
    exact ⟨l, m, rfl, l1, l5, m0, m9⟩
theorem isKind_p2 {l m : Int} (h : KdOk l m) : isKind (p2 l m) = true := by
  show (isWhole (.int l) 1 5 && isWhole (.int m) 0 9) = true
  rw [isWhole_at h.1 h.2.1, isWhole_at h.2.2.1 h.2.2.2]
  rfl
abbrev kds (l1 m1 l2 m2 : Int) : D := .tuple [p2 l1 m1, p2 l2 m2]
theorem areKinds_at {d : D} (h : areKinds d = true) : ∃ l1 m1 l2 m2, d = kds l1 m1 l2 m2 ∧ KdOk l1 m1 ∧ KdOk l2 m2 := by
  match d, h with
  | .tuple [x, y], h =>
    have h' : (isKind x && isKind y) = true := h
    rw [Bool.and_eq_true] at h'
    obtain ⟨l1, m1, rfl, k1⟩ := isKind_at h'.1
    obtain ⟨l2, m2, rfl, k2⟩ := isKind_at h'.2
    exact ⟨l1, m1, l2, m2, rfl, k1, k2⟩
theorem areKinds_kds {l1 m1 l2 m2 : Int} (h1 : KdOk l1 m1) (h2 : KdOk l2 m2) : areKinds (kds l1 m1 l2 m2) = true := by
  show (isKind (p2 l1 m1) && isKind (p2 l2 m2)) = true
  rw [isKind_p2 h1, isKind_p2 h2]
  rfl
/-- what the kinds' functions want of what they are handed -/
def needK (a b c : D) (E : Str → Prop) (K : Int → List Int → Int → Int → Int → Int → Prop) : Prop :=
  (isWhole a 1 8 = false → E "BadNumber") ∧ ∀ s, a = .int s → 1 ≤ s → s ≤ 8 → short b ∧ (goodWear s b = false → E "BadWear") ∧ ∀ wear, b = tI wear → WrOk s wear → (areKinds c = false → E "BadKinds") ∧ ∀ l1 m1 l2 m2, c = kds l1 m1 l2 m2 → KdOk l1 m1 → KdOk l2 m2 → K s wear l1 m1 l2 m2
theorem needK_imp {a b c : D} {E : Str → Prop} {K K' : Int → List Int → Int → Int → Int → Int → Prop} (h : needK a b c E K) (i : ∀ s wear l1 m1 l2 m2, a = .int s → b = tI wear → c = kds l1 m1 l2 m2 → FlOk s l1 → FlOk s l2 → WrOk s wear → KdOk l1 m1 → KdOk l2 m2 → K s wear l1 m1 l2 m2 → K' s wear l1 m1 l2 m2) : needK a b c E K' :=
  ⟨h.1, fun s e1 s1 s8 => ⟨(h.2 s e1 s1 s8).1, (h.2 s e1 s1 s8).2.1, fun wear e2 hw => ⟨((h.2 s e1 s1 s8).2.2 wear e2 hw).1, fun l1 m1 l2 m2 e3 k1 k2 => i s wear l1 m1 l2 m2 e1 e2 e3 ⟨s1, s8, k1.1, k1.2.1⟩ ⟨s1, s8, k2.1, k2.2.1⟩ hw k1 k2 (((h.2 s e1 s1 s8).2.2 wear e2 hw).2 l1 m1 l2 m2 e3 k1 k2)⟩⟩⟩
theorem tI_eq {xs ys : List Int} (h : tI xs = tI ys) : xs = ys := map_int_inj (PyData.tuple.inj h)
theorem needK_ok {s : Int} {wear : List Int} {l1 m1 l2 m2 : Int} {E : Str → Prop} {K : Int → List Int → Int → Int → Int → Int → Prop} (s1 : 1 ≤ s) (s8 : s ≤ 8) (hw : WrOk s wear) (k1 : KdOk l1 m1) (k2 : KdOk l2 m2) (h : K s wear l1 m1 l2 m2) : needK (.int s) (tI wear) (kds l1 m1 l2 m2) E K := by
  refine ⟨fun z => by rw [isWhole_at s1 s8] at z; exact absurd z (by decide), fun s' e _ _ => ?_⟩
  obtain rfl := PyData.int.inj e
  have hwl := hw.1
  refine ⟨short_tI (by omega), fun z => ?_, fun wear' e _ => ?_⟩
  · have : goodWear s (tI wear) = true := hw.is
    rw [this] at z
    cases z
  · obtain rfl := tI_eq e
    refine ⟨fun z => (by rw [areKinds_kds k1 k2] at z; cases z), fun a b c d e _ _ => ?_⟩
    have e' := PyData.tuple.inj e
    obtain ⟨e1, e2⟩ := List.cons.inj e'
    obtain ⟨e2, _⟩ := List.cons.inj e2
    obtain ⟨q1, q2⟩ := List.cons.inj (PyData.tuple.inj e1)
    obtain ⟨q2, _⟩ := List.cons.inj q2
    obtain ⟨q3, q4⟩ := List.cons.inj (PyData.tuple.inj e2)
    obtain ⟨q4, _⟩ := List.cons.inj q4
    rw [← PyData.int.inj q1, ← PyData.int.inj q2, ← PyData.int.inj q3, ← PyData.int.inj q4]
    exact h
/-- the first part -/
def FirstPart (s l1 m1 l2 m2 : Int) (wear p : List Int) : Prop := Part s l1 m1 l2 m2 wear p ∧ ∀ q, Part s l1 m1 l2 m2 wear q → LexL p q
theorem isFirst_part {s l1 m1 l2 m2 : Int} {wear : List Int} (h1 : FlOk s l1) (h2 : FlOk s l2) (hs : (wear.length : Int) = s) {L : List Bd} (hL : ∀ b, b ∈ L ↔ b ∈ boundsI s wear l1 m1 l2 m2) {p : List Int} (h : IsFirst s.toNat L p) : FirstPart s l1 m1 l2 m2 wear p := by
  obtain ⟨h3, ⟨x, hx, rfl⟩, h4⟩ := isFirst_mem hL h
  refine ⟨feas_part h1 h2 hs hx, fun q hq => ?_⟩
  have := h4 _ (part_feas h1 h2 hs hq)
  have e : difL s.toNat (rs (at0 q) 0) = q := ext_at0 (by rw [difL_len]; have := hq.1; omega) fun i hi => by
    rw [difL_len] at hi
    rw [difL_at hi, rs_succ, Nat.zero_add]
    omega
  rw [e] at this
  exact this
theorem ring_part {s l1 m1 l2 m2 : Int} {wear : List Int} (h1 : FlOk s l1) (h2 : FlOk s l2) (hs : (wear.length : Int) = s) {L : List Bd} (hL : ∀ b, b ∈ L ↔ b ∈ boundsI s wear l1 m1 l2 m2) : ringI s.toNat L = none ↔ ∃ p, Part s l1 m1 l2 m2 wear p := by
  have hok : BOk s.toNat L := fun c hc => boundsI_ok h1 h2 c ((hL c).mp hc)
  rw [ring_iff hok]
  constructor
  · rintro ⟨x, hx⟩
    exact ⟨_, feas_part h1 h2 hs ((feas_mem hL).mp hx)⟩
  · rintro ⟨p, hp⟩
    exact ⟨_, (feas_mem hL).mpr (part_feas h1 h2 hs hp)⟩
theorem bounds_tame {s l1 m1 l2 m2 : Int} {wear : List Int} (h1 : FlOk s l1) (h2 : FlOk s l2) (hw : WrOk s wear) {L : List Bd} (hL : ∀ b, b ∈ L ↔ b ∈ boundsI s wear l1 m1 l2 m2) : Tame s.toNat L := fun x hx i hi => by
  obtain ⟨f1, f2, f3, f4⟩ := id h1
  have hwl := hw.1
  have := part_at h1 h2 hwl (feas_part h1 h2 hwl ((feas_mem hL).mp hx)) (j := i) (by omega)
  rw [difL_at hi] at this
  have := hw.2 _ (at0_mem (row := wear) (i := i) (by omega))
  omega
end SD

namespace SD
open PySem PySem.Spec PyProof PyProof.Rows L2 PySem.W
/-! ### sorted(set(xs)), xs a long list of tuples of ints, few of them unlike -/
/-- the rows of the first i are in the set -/
def Seen (ks : List AK) (i : Nat) (L : List AK) : Prop := (∀ q ∈ L, q ∈ ks) ∧ ∀ (j : Nat) (q : AK), j < i → ks[j]? = some q → q.2 ∈ L.map (·.2)
theorem Seen.next {ks L L' : List AK} {i : Nat} {q : AK} (g : Seen ks i L) (hq : ks[i]? = some q) (c1 : q.2 ∈ L.map (·.2) → L' = L) (c2 : q.2 ∉ L.map (·.2) → L'.Perm (q :: L)) : Seen ks (i + 1) L' := by
  by_cases c : q.2 ∈ L.map (·.2)
  · rw [c1 c]
    refine ⟨g.1, fun j r hj hr => ?_⟩
    by_cases e : j = i
    · subst e
      rw [hq] at hr
      cases hr
      exact c
    · exact g.2 j r (by omega) hr
  · have p := c2 c
    refine ⟨fun r hr => ?_, fun j r hj hr => ?_⟩
    · rcases List.mem_cons.mp (p.mem_iff.mp hr) with rfl | h
      · exact List.mem_of_getElem? hq
      · exact g.1 r h
    · refine (p.map (·.2)).mem_iff.mpr ?_
      by_cases e : j = i
      · subst e
        rw [hq] at hr
        cases hr
        exact List.mem_cons_self
      · exact List.mem_cons_of_mem _ (g.2 j r (by omega) hr)
section
variable {P : Program} {w : World} {A : Around} {E : Value → Shared → Prop}
theorem loop_rows {I S : Addr} {fp wr : List Addr} {G : Array GenState → Array GenState → Prop} {Pv : Nat → Value → Prop} {St : Nat → Shared → Prop} {R : Result → Shared → Prop} (ks : List AK) (dom : List (List Int)) (few : dom.length < 63) (hdom : ∀ q ∈ ks, q.2 ∈ dom)
    (W : WalksS P w A.in1 I fp wr G ks.length Pv St) (out : S ∉ fp) (val : ∀ i v, Pv i v → ∃ q, ks[i]? = some q ∧ v = .ref q.1) (h0 : Heap) (rows : ∀ q ∈ ks, IsT P w h0 q.2 q.1) (free : ∀ b, b = S ∨ b ∈ wr → h0.get? b = none) (hu : A.in1.units < cLine) (s0 : Shared)
    (fin : ∀ s' L, Moved (S :: wr) G s0 s' → SetT0 P w s'.heap S L → Seen ks ks.length L → (∀ b o, h0.get? b = some o → s'.heap.get? b = some o) → R (.ok (.ret .none)) s') :
    ∀ (k i : Nat) (s : Shared), k + i = ks.length → Moved (S :: wr) G s0 s → St i s → (∀ b o, h0.get? b = some o → s.heap.get? b = some o) → (∃ L, SetT0 P w s.heap S L ∧ Seen ks i L) → codeAny (model P w) A (.builtin "set.update.loop" ⟨[.ref S, .ref I], []⟩) R s := by
  have outw : S ∉ wr := fun z => out (W.sub _ z)
  have sub : ∀ b ∈ wr, b ∈ S :: wr := fun b hb => List.mem_cons_of_mem _ hb
  -- what a turn of the walk leaves
  have kept : ∀ {s s' : Shared}, Moved wr G s s' → (∀ b o, h0.get? b = some o → s.heap.get? b = some o) → ∀ b o, h0.get? b = some o → s'.heap.get? b = some o := fun m hk b o e => m.heap b o (fun z => by rw [free b (.inr z)] at e; cases e) (hk b o e)
  have set0 : ∀ {h h' : Heap} {L : List AK}, SetT0 P w h S L → (∀ o, h.get? S = some o → h'.get? S = some o) → SetT0 P w h' S L := fun x hk => by
    obtain ⟨es, ep, t, ⟨o, ho, r⟩, q⟩ := x.ex
    exact ⟨es, ep, t, ⟨o, hk o ho, r⟩, q⟩
  intro k
  induction k with
  | zero =>
    rintro i s hki m0 hst hk ⟨L, T, g⟩
    obtain rfl : i = ks.length := by omega
    refine codeAny_builtin F.entry_set_update_loop ?_
    rw [Around.under_plainId F.plain_set_update_loop _]
    refine wpAny_bind (m := pyNext (.ref I)) (W.done s _ _ hst fun s' m => ?_)
    exact wpAny_pure (fin s' L (Moved.trans W.gtrans m0 (m.mono sub)) (set0 T fun o e => m.heap S o outw e) g (kept m hk))
  | succ k ih =>
    rintro i s hki m0 hst hk ⟨L, T, g⟩
    refine codeAny_builtin F.entry_set_update_loop ?_
    rw [Around.under_plainId F.plain_set_update_loop _]
    refine wpAny_bind (m := pyNext (.ref I)) (W.item i s _ _ (by omega) hst fun v s' hP hst' m => ?_)
    obtain ⟨q, hq, rfl⟩ := val i v hP
    have hk' := kept m hk
    have isT : ∀ {r : AK}, r ∈ ks → IsT P w s'.heap r.2 r.1 := fun hr => isT_keep (rows _ hr) hk'
    obtain ⟨es, ep, t, T'⟩ := (set0 T fun o e => m.heap S o outw e).full fun r hr => isT (g.1 r hr)
    have lfew : L.length ≤ dom.length := by
      have := nodup_few T'.nd fun x hx => by
        obtain ⟨r, hr, rfl⟩ := List.mem_map.mp hx
        exact hdom r (g.1 r hr)
      rw [List.length_map] at this
      exact this
    refine wpAny_bind (m := holding [Value.ref q.1] (setAdd S (.ref q.1))) (wpAny_holding ?_)
    unfold setAdd
    refine wpAny_holding (wpAny_bind (wpAny_pyHash_tuple hu (isT (List.mem_of_getElem? hq)) ?_))
    refine add_at (s := { s' with toks := s'.toks + (q.2.length + 1) }) T' (isT (List.mem_of_getElem? hq)) hu (by omega) fun _ h' L' es' ep' t' same T2 c1 c2 => ?_
    have hk2 : ∀ b o, h0.get? b = some o → h'.get? b = some o := fun b o e => (same.2 b fun z => by rw [free b (.inl z)] at e; cases e).trans (hk' b o e)
    refine wpAny_pure ⟨plainId_quiet F.plain_set_update_loop _, ih (i + 1) _ (by omega) (Moved.trans W.gtrans m0 ((m.mono sub).then_heap (Nat.le_add_right _ _) fun b o hb e => ?_)) (W.frame _ s' _ _ hst' (Nat.le_add_right _ _) fun b hb o e => ?_) hk2 ⟨L', T2.t0, g.next hq c1 c2⟩⟩
    · rw [same.2 b fun z => hb (z ▸ List.mem_cons_self)]
      exact e
    · rw [same.2 b fun z => out (z ▸ hb)]
      exact e
theorem call_set_rows {s : Shared} {l : Addr} {its : Array Value} (ks : List AK) (dom : List (List Int)) {Q : Value → Shared → Prop} (calm : A.handled = none) (isl : s.heap.IsList l its) (hit : its.toList = ks.map fun q => Value.ref q.1) (rows : ∀ q ∈ ks, IsT P w s.heap q.2 q.1) (few : dom.length < 63) (hdom : ∀ q ∈ ks, q.2 ∈ dom) (hu : A.units + 3 < cLine)
    (fin : ∀ (h : Heap) (tk : Nat) (L : List AK), SetT0 P w h s.heap.objs.size L → Seen ks ks.length L → (∀ b o, s.heap.get? b = some o → h.get? b = some o) → Q (.ref s.heap.objs.size) { s with heap := h, toks := tk }) : wpAny (model P w) A (call (.type "set") [.ref l]) Q E s := by
  have len : its.size = ks.length := by
    rw [← Array.length_toList, hit, List.length_map]
  have sz : (s.heap.push (newSet w)).objs.size = s.heap.objs.size + 1 := Heap.size_push ..
  have low : l < s.heap.objs.size := by
    obtain ⟨_, e, _⟩ := isl
    exact Heap.lt_size e
  have calm3 : A.in1.in1.in1.handled = none := by simp [calm]
  have gone : ∀ b, s.heap.objs.size ≤ b → s.heap.get? b = none := fun b hb => by
    cases q : s.heap.get? b with
    | none => rfl
    | some o => exact absurd (Nat.lt_of_lt_of_le (Heap.lt_size q) hb) (Nat.lt_irrefl _)
  refine set_by_loop isl (fun s' => ∃ h tk L, s' = { s with heap := h, toks := tk } ∧ SetT0 P w h s.heap.objs.size L ∧ Seen ks ks.length L ∧ ∀ b o, s.heap.get? b = some o → h.get? b = some o) ?_ (by
    rintro s' ⟨h, tk, L, rfl, h1, h2, h3⟩
    exact fin h tk L h1 h2 h3)
  have W := (Walks.list (prog := P) (w := w) calm3 (s.heap.push (newSet w)).objs.size l (by rw [sz]; exact Nat.ne_of_lt (Nat.lt_succ_of_lt low)) its).toS
  rw [len] at W
  refine loop_rows ks dom few hdom W (by
    rw [sz, List.mem_cons, List.mem_singleton]
    exact fun z => z.elim (Nat.ne_of_lt (Nat.lt_succ_self _)) (Nat.ne_of_gt low)) (fun i v hv => ?_) s.heap rows (fun b hb => ?_) hu (atLoop w s l) ?_ ks.length 0 (atLoop w s l) (by omega) ⟨fun _ _ _ e => e, rfl, rfl, rfl, Nat.le_refl _⟩ ⟨⟨_, Heap.get?_push_size _ rfl, rfl, rfl⟩, (isl.push _).push _⟩ (fun b o e => Heap.get?_push_of_some _ (Heap.get?_push_of_some _ e)) ⟨[], (setTR_fresh (Heap.get?_push_of_some _ (Heap.get?_push_size _ rfl))).t0, fun q hq => (nomatch hq), fun j q hj => absurd hj (Nat.not_lt_zero _)⟩
  · have : its.toList[i]? = some v := by
      rw [Array.getElem?_toList]
      exact hv
    rw [hit, List.getElem?_map] at this
    cases hq : ks[i]? with
    | none => rw [hq] at this; cases this
    | some q =>
      rw [hq] at this
      exact ⟨q, rfl, (Option.some.inj this).symm⟩
  · rcases hb with rfl | hb
    · exact gone _ (Nat.le_refl _)
    · rw [List.mem_singleton.mp hb, sz]
      exact gone _ (Nat.le_succ _)
  · rintro ⟨h, g, d, tk, o⟩ L m T sn k
    obtain rfl : g = s.gens := m.gens
    obtain rfl : d = s.drawn := m.drawn
    obtain rfl : o = s.os := m.os
    exact ⟨rfl, h, tk, L, rfl, T, sn, k⟩
end
def rSetRows (K : PySem.W.Frag) (P : Program) (w : World) : List V → Hp → VK → Prop := fun xs H Q => ∃ (l : Addr) (ks : List AK) (dom : List (List Int)), xs = [V.ref l] ∧ SqL K H l (ks.map fun q => V.ref q.1) ∧ (∀ q ∈ ks, SqT K H q.1 (q.2.map V.int)) ∧ dom.length < 63 ∧ (∀ q ∈ ks, q.2 ∈ dom) ∧
  ∀ a L, H a = none → (∀ q ∈ L, q ∈ ks) → (∀ q ∈ ks, q.2 ∈ L.map (·.2)) → Q (.ref a) (upd H a (SetTO P w a L))
theorem cr_setRows {X : Cx} (hc : X.calm = true) (hu : X.A.units + 64 < cLine) : CallR X (.type "set") (rSetRows X.K X.prog X.w) := by
  intro pins s σ H xs us Q I r h
  obtain ⟨l, ks, dom, rfl, hl, hk, few, hdom, q⟩ := h
  rw [Vals.ref1 r]
  obtain ⟨its, rv, pl, hz⟩ := I.list hl
  have hn : H s.heap.objs.size = none := I.hok.fresh (Nat.le_refl _)
  refine call_set_rows (P := X.prog) (w := X.w) ks dom (I.ok.hd hc) pl.isList (by simpa using refs_of_vals rv) (fun p hp => I.isT (hk p hp)) few hdom (by omega) fun h' tk L T g k => ?_
  refine ⟨.ref s.heap.objs.size, upd H s.heap.objs.size (SetTO X.prog X.w s.heap.objs.size L), I.laid (t' := tk) k (Nat.le_refl _) (setTO_new T), rfl, q _ L hn g.1 fun p hp => ?_⟩
  obtain ⟨i, hi, e⟩ := List.getElem_of_mem hp
  exact g.2 i p hi (by rw [List.getElem?_eq_getElem hi, e])
@[simp] def wSSD (wa : WE) : WA := fun env Q E => wa env (fun d => ∃ ns dom : List (List Int), d = .list (ns.map tI) ∧ dom.length < 63 ∧ (∀ x ∈ ns, x ∈ dom) ∧ ∀ out, SetOf ns out → Q (out.map tI)) E
theorem l_sortSetD {X : Cx} {c : Ctx} {a : Expr} {wa : WE} {pos : Pos} {k : Nat} {p p2 pos2 : Pos} (gd : Good X c) (hr : Room k X.A) (hm : X.mg "sorted" = none) (hm2 : X.mg "set" = none) (ha : DE X c a wa) (hg : Gl X "sorted" := by rfl) (hg2 : Gl X "set" := by rfl) (he : starEach [a] X.env = (false, eval a X.env) :: starEach [] X.env := by rfl)
    (he2 : starEach [.Call (.Name "set" p2) [a] [] pos2] X.env = (false, eval (.Call (.Name "set" p2) [a] [] pos2) X.env) :: starEach [] X.env := by rfl) : DL X c (.Call (.Name "sorted" p) [.Call (.Name "set" p2) [a] [] pos2] [] pos) (wSSD wa) := by
  refine PE.imp (pe_callB (cr_sortSet gd.calm hr) hg hm bt_sorted (pa_cons (pe_callTy (cr_setRows gd.calm (by have := hr.un; omega)) hg2 hm2 bt_set (pa_cons ha pa_nil he) (by decide) (by decide) he) pa_nil he2) (by decide) (by decide) he2) ?_
  rintro σ H Q ⟨O, F, env, QD, QE, vw, sl, hw, hq, hE⟩
  refine ⟨O, F, env, _, QE, vw, sl, hw, fun d hd F1 H1 v v1 s1 r1 => ?_, hE⟩
  obtain ⟨ns, dom, rfl, few, hdom, hQ⟩ := hd
  cases r1 with
  | @lst l xs _ g1 t1 =>
    obtain ⟨ks, rfl, e, hk⟩ := rp_tups t1
    refine ⟨l, ks, dom, rfl, SqL.of (v1.frz _ _ g1), fun q hq => SqT.of (v1.frz _ _ (hk q hq)), few, fun q hq => hdom _ (by rw [← e]; exact List.mem_map.mpr ⟨q, hq, rfl⟩), fun a L na hL hall => ?_⟩
    have v2 := v1.layO (o := SetTO X.prog X.w a L) na
    have s2 : Stp O F1 H1 F1 (upd H1 a (SetTO X.prog X.w a L)) := Stp.layO na
    refine ⟨a, L, rfl, upd_same, fun q hq => SqT.of (v2.frz _ _ (hk q (hL q hq))), fun M p hM hnd np => ?_⟩
    have hMk : ∀ q ∈ sortA M, F1 q.1 = some (.tup (q.2.map V.int)) := fun q hq => hk q (hL q ((hM q).mp ((List.mergeSort_perm _ _).mem_iff.mp hq)))
    have so : SetOf ns ((sortA M).map (·.2)) := by
      refine ⟨fun x => ?_, ?_, ?_⟩
      · rw [← e]
        constructor
        · intro hx
          obtain ⟨q, hq, rfl⟩ := List.mem_map.mp hx
          exact List.mem_map.mpr ⟨q, hL q ((hM q).mp ((List.mergeSort_perm _ _).mem_iff.mp hq)), rfl⟩
        · intro hx
          obtain ⟨q, hq, rfl⟩ := List.mem_map.mp hx
          obtain ⟨r, hr, er⟩ := List.mem_map.mp (hall q hq)
          exact List.mem_map.mpr ⟨r, (List.mergeSort_perm _ _).mem_iff.mpr ((hM r).mpr hr), er⟩
      · exact ((List.mergeSort_perm M (dataLe false encA)).map (·.2)).nodup_iff.mpr hnd
      · refine ⟨M.map (·.2), ?_⟩
        rw [List.map_map, List.map_map]
        show (sortA M).map encA = sortD (M.map encA)
        exact List.map_mergeSort (r := dataLe false encA) (s := dataLe false id) (f := encA) (l := M) (fun a _ b _ => rfl)
    have step : Stp O F H F1 (upd H1 a (SetTO X.prog X.w a L)) := s1.trans s2 v2
    have fin := lay_own (Q := Q) (QD := QD) v2 (rpl_refs hMk) (ds := (sortA M).map encA) (by
      have := hQ _ so
      rw [List.map_map] at this
      exact this) (fun ds hd F3 H3 p3 xs v3 s3 n1 n2 n3 r3 => hq ds hd F3 H3 p3 xs v3 (step.trans s3 v3) (step.back n1) n2 n3 r3) np
    exact fin
end SD

namespace SD
open PySem PySem.Spec PyProof.Rows L2
/-! ### which walks: by all the bags -/
abbrev cnt (walk : List Int) (b : List (List Int)) : Nat := b.countP fun w => decide (w = walk)
theorem found_of {s l : Int} (hf : FlOk s l) {wear : List Int} (hs : (wear.length : Int) = s) (h0 : ∀ x ∈ wear, 0 ≤ x) {bag : List (List Int)} (h1 : ∀ w ∈ bag, w ∈ walksI s l) (h2 : sumOf s bag = wear) : sortW bag ∈ foundB (walksI s l) wear bag.length := by
  obtain ⟨f1, f2, f3, f4⟩ := id hf
  have hne : wear ≠ [] := fun z => by
    rw [z] at hs
    simp at hs
    omega
  have hp := sortW_perm bag
  exact (mem_foundB hne h0).mpr ⟨hp.length_eq, fun w hw => h1 w (hp.mem_iff.mp hw), sortW_le bag, by rw [hs, sumOf_perm hp, h2]⟩
theorem has_iff {s l : Int} (hf : FlOk s l) {wear : List Int} (hs : (wear.length : Int) = s) (h0 : ∀ x ∈ wear, 0 ≤ x) {m : Nat} {walk : List Int} (hwk : walk ∈ walksI s l) {t : Nat} : hasMany s l wear m walk t = true ↔ ∃ b ∈ foundB (walksI s l) wear m, t ≤ cnt walk b := by
  obtain ⟨f1, f2, f3, f4⟩ := id hf
  have hne : wear ≠ [] := fun z => by
    rw [z] at hs
    simp at hs
    omega
  constructor
  · intro h
    obtain ⟨left, hl, htm, hmk, hll, hln⟩ := bag_of_has hf hs h0 h
    have ww := with_wear hf hs h0 hl hmk
    have tl := turns_len left (m - t) fun x hx => ⟨hln x hx, hmk.1 x hx⟩
    have tw := turns_walks hf hll hln hmk
    have hlen : (List.replicate t walk ++ turnsI left ((m - t : Nat) : Int)).length = m := by
      rw [List.length_append, List.length_replicate, tl]
      omega
    have := found_of hf hs h0 (bag := List.replicate t walk ++ turnsI left ((m - t : Nat) : Int)) (fun w hw => by
      rcases List.mem_append.mp hw with hw | hw
      · rw [List.eq_of_mem_replicate hw]
        exact hwk
      · exact tw w hw) ww
    rw [hlen] at this
    refine ⟨_, this, ?_⟩
    show t ≤ List.countP _ _
    rw [(sortW_perm _).countP_eq, List.countP_append]
    have : (List.replicate t walk).countP (fun w => decide (w = walk)) = t := by
      rw [List.countP_eq_length.mpr fun w hw => by rw [List.eq_of_mem_replicate hw]; simp, List.length_replicate]
    omega
  · rintro ⟨b, hb, ht⟩
    obtain ⟨b1, b2, b3, b4⟩ := (mem_foundB hne h0).mp hb
    have := has_of_bag hf b2 ht
    rw [hs] at b4
    rw [b4, b1] at this
    exact this
theorem max_ge {ns : List Int} {n : Int} : ∀ {x}, x ∈ n :: ns → x ≤ ns.foldl max n := fun {x} hx => by
  obtain ⟨h1, h2⟩ := foldl_max_ge (n := n) (ns := ns)
  rcases List.mem_cons.mp hx with rfl | h
  · exact h1
  · exact h2 x h
theorem max_mem : ∀ {ns : List Int} {n : Int}, ns.foldl max n ∈ n :: ns
  | [], n => List.mem_cons_self
  | a :: ns, n => by
    rw [List.foldl_cons]
    have := max_mem (ns := ns) (n := max n a)
    rcases List.mem_cons.mp this with h | h
    · rw [h]
      by_cases c : n ≤ a
      · rw [Int.max_eq_right c]
        exact List.mem_cons_of_mem _ List.mem_cons_self
      · rw [Int.max_eq_left (by omega)]
        exact List.mem_cons_self
    · exact List.mem_cons_of_mem _ (List.mem_cons_of_mem _ h)
/-- how often at most -/
theorem times_row {s l : Int} (hf : FlOk s l) {wear : List Int} (hs : (wear.length : Int) = s) (h0 : ∀ x ∈ wear, 0 ≤ x) {m : Nat} {walk : List Int} (hwk : walk ∈ walksI s l) {often : Int} (h1 : ∃ b ∈ foundB (walksI s l) wear m, (cnt walk b : Int) = often) (h2 : ∀ b ∈ foundB (walksI s l) wear m, (cnt walk b : Int) ≤ often) : ((rgI 0 ((m : Int) + 1)).filter fun t => hasMany s l wear m walk t.toNat) = rgI 0 (often + 1) := by
  obtain ⟨f1, f2, f3, f4⟩ := id hf
  have hne : wear ≠ [] := fun z => by
    rw [z] at hs
    simp at hs
    omega
  refine incr_ext ((rgI_sorted _ _).filter _) (rgI_sorted _ _) fun x => ?_
  rw [List.mem_filter, mem_rgI, mem_rgI, has_iff hf hs h0 hwk]
  constructor
  · rintro ⟨⟨x0, _⟩, b, hb, hx⟩
    have := h2 b hb
    omega
  · rintro ⟨x0, x1⟩
    obtain ⟨b, hb, e⟩ := h1
    have : cnt walk b ≤ m := by
      rw [← ((mem_foundB hne h0).mp hb).1]
      exact List.countP_le_length
    exact ⟨by omega, b, hb, by omega⟩
theorem may_go_set {s l : Int} (hf : FlOk s l) {wear : List Int} (hs : (wear.length : Int) = s) (h0 : ∀ x ∈ wear, 0 ≤ x) {m : Nat} {gone out : List (List Int)} (hg : ∀ w, w ∈ gone ↔ ∃ b ∈ foundB (walksI s l) wear m, w ∈ b) (ho : SetOf gone out) : out = (walksI s l).filter fun w => hasMany s l wear m w 1 := by
  obtain ⟨f1, f2, f3, f4⟩ := id hf
  have hne : wear ≠ [] := fun z => by
    rw [z] at hs
    simp at hs
    omega
  obtain ⟨o1, o2, k, o3⟩ := ho
  rw [sortD_W] at o3
  have e : out = sortW k := by
    have := congrArg (List.map fun d => match d with | PyData.tuple ds => intsOf ds | _ => []) o3
    rw [List.map_map, List.map_map] at this
    have id' : ((fun d => match d with | PyData.tuple ds => intsOf ds | _ => []) ∘ tI) = id := by
      funext ns
      show intsOf (ns.map .int) = ns
      unfold intsOf
      rw [List.map_map]
      have : ((fun | PyData.int i => i | _ => 0) ∘ PyData.int) = fun i : Int => i := rfl
      simp [Function.comp_def]
    rw [id', List.map_id, List.map_id] at this
    exact this
  refine sorted_eq (by rw [e]; exact sortW_le k) ((walks_sorted s l).filter _) (perm_nodup o2 ((walks_nodup s l).filter _) fun w => ?_)
  rw [o1, hg, List.mem_filter]
  constructor
  · rintro ⟨b, hb, hw⟩
    have hwk := ((mem_foundB hne h0).mp hb).2.1 w hw
    exact ⟨hwk, (has_iff hf hs h0 hwk).mpr ⟨b, hb, List.countP_pos_iff.mpr ⟨w, hw, by simp⟩⟩⟩
  · rintro ⟨hwk, h⟩
    obtain ⟨b, hb, hc⟩ := (has_iff hf hs h0 hwk).mp h
    obtain ⟨v, hv, e⟩ := List.countP_pos_iff.mp hc
    have : v = w := by simpa using e
    exact ⟨b, hb, this ▸ hv⟩
theorem gEq_any0 {ds : List D} {n : Nat} {Q : D → Prop} (hs : Shp n (.list ds)) (hn : n ≤ 60) (h : Q (.bool (decide (ds = [])))) : gEq (.list ds) (.list []) Q := by
  refine ⟨hs.ok (hn := by omega), (shp_lI 0 []).ok, ?_⟩
  rw [PyData.eqv]
  cases ds with
  | nil => simpa [PyData.eqvAll] using h
  | cons d ds => simpa [PyData.eqvAll] using h
theorem eqv_W (a b : List (List Int)) : PyData.eqv (lW a) (lW b) = decide (a = b) := by
  rw [PyData.eqv, eqvAll_W]
theorem any_B (b : List (List Int)) (bs : List (List (List Int))) : ((bs.map lW).any fun z => PyData.eqv z (lW b)) = decide (b ∈ bs) := by
  rw [List.any_map, Bool.eq_iff_iff, List.any_eq_true, decide_eq_true_eq]
  constructor
  · rintro ⟨x, hx, e⟩
    have e' : PyData.eqv (lW x) (lW b) = true := e
    rw [eqv_W, decide_eq_true_eq] at e'
    exact e' ▸ hx
  · intro h
    refine ⟨b, h, ?_⟩
    show PyData.eqv (lW b) (lW b) = true
    rw [eqv_W]
    simp
end SD

namespace HD
open PySem PySem.Spec PyProof.Rows L2 SD
def top (i : Nat) : Stmt := PySem.Challenge.pw_strideflight_k16_whole_which_walks.main.body.getD i (.Pass ⟨0, 0, 0, 0⟩)
def forBody : List Stmt → List Stmt
  | .For _ _ b _ _ :: _ => b
  | _ => []
def N_is_whole : List Str := [("thing" : Str), ("low" : Str), ("high" : Str)]
def S_is_whole : FS := fs3 fun a b c Q _ => ∃ lo hi, b = .int lo ∧ c = .int hi ∧ Q (.bool (isWhole a lo hi))
theorem u_is_whole {a : D} {lo hi : Int} {Q : D → Prop} {E : Str → Prop} : S_is_whole [.dat a, .dat (.int lo), .dat (.int hi)] Q E ↔ Q (.bool (isWhole a lo hi)) := by
  unfold S_is_whole
  rw [fs3_at, ex_int2]
def w_is_whole : WS := wsRet (wAndV (wUn (gIsa "int") (wV 0)) (wAndV (wNotV (wUn (gIsa "bool") (wV 0))) (wChain gLe gLe (wV 1) (wV 0) (wV 2))))
def N_is_flight : List Str := [("thing" : Str)]
def S_is_flight : FS := fs1 fun a Q _ => Q (.bool (isFlight a))
def w_is_flight : WS := wsRet (wAndV (wUn (gIsa "tuple") (wV 0)) (wAndV (wOp gEq (wCB gLen (waCons (wV 0) waNil)) (wC (.int 2))) (wAndV (wCall S_is_whole (wsCons (wOp gIx (wV 0) (wC (.int 0))) (wsCons (wC (.int 1)) (wsCons (wC (.int 8)) (wsNil))))) (wCall S_is_whole (wsCons (wOp gIx (wV 0) (wC (.int 1))) (wsCons (wC (.int 1)) (wsCons (wC (.int 5)) (wsNil))))))))
def N_need_flight : List Str := [("thing" : Str)]
def S_need_flight : FS := fs1 fun a Q E => (isFlight a = true → Q .none) ∧ (isFlight a = false → E "BadFlight")
def w_need_flight : WS := wsIf (wNot (wB (wCall S_is_flight (wsCons (wV 0) (wsNil))))) (wsRaise "BadFlight") (wNil)
def N_every_walk : List Str := [("flight" : Str), ("steps" : Str), ("longest" : Str), ("found" : Str), ("work" : Str), ("walk" : Str), ("last" : Str), ("step" : Str)]
def S_every_walk : FS := fs1 fun a Q E => ∃ s l, a = p2 s l ∧ FlOk s l ∧ Q (lW (walksI s l))
def w_every_walk_0 : WS := wsUnp (wgTup2 (wgName 1) (wgName 2)) (wV 0)
def w_every_walk_1 : WS := wsPar 3 4 (wvL (wLst (waNil))) (wvL (wLst (waCons (wTup (waNil)) (waNil))))
def w_every_walk_2_0 : WS := wsPop 5 4
def w_every_walk_2_1 : WS := wsSet 6 (wvD (wIf (wB (wOp gNe (wV 5) (wTup (waNil)))) (wOp gIx (wV 5) (wUn gNeg (wC (.int 1)))) (wC (.int 0))))
def w_every_walk_2_2a_0 : WS := wsApp 3 (wV 5)
def w_every_walk_2_2 : WS := wsIf (wB (wOp gLe (wOp gSub (wOp gAdd (wV 1) (wC (.int 1))) (wV 6)) (wV 2))) (w_every_walk_2_2a_0) (wNil)
def w_every_walk_2_3_0 : WS := wsApp 4 (wOp gAdd (wV 5) (wTup (waCons (wV 7) (waNil))))
def w_every_walk_2_3 : WS := wsFor (wiRng2 (wOp gAdd (wV 6) (wC (.int 1))) (wOp gAdd (wCB gMin2 (waCons (wV 1) (waCons (wOp gAdd (wV 6) (wV 2)) waNil))) (wC (.int 1)))) (wgName 7) (w_every_walk_2_3_0)
def w_every_walk_2 : WS := wsWhile (wB (wOp gNe (wV 4) (wL (wLst (waNil))))) (wSeq (w_every_walk_2_0) (wSeq (w_every_walk_2_1) (wSeq (w_every_walk_2_2) (w_every_walk_2_3))))
def w_every_walk_3 : WS := wsRetV (wL (wCL gSorted (waCons (wV 3) waNil)))
def w_every_walk : WS := wSeq (w_every_walk_0) (wSeq (w_every_walk_1) (wSeq (w_every_walk_2) (w_every_walk_3)))
def N_strides_of : List Str := [("flight" : Str), ("walk" : Str), ("spots" : Str), ("one" : Str), ("other" : Str)]
def S_strides_of : FS := fs2 fun a b Q _ => ∃ s l w, a = p2 s l ∧ b = tI w ∧ w.length ≤ 1000 ∧ Q (tI (stridesI s w))
theorem u_strides_of {s l : Int} {w : List Int} {Q : D → Prop} {E : Str → Prop} (hl : w.length ≤ 1000) (h : Q (tI (stridesI s w))) : S_strides_of [.dat (p2 s l), .dat (tI w)] Q E := ⟨_, _, rfl, s, l, w, rfl, rfl, hl, h⟩
def w_strides_of : WS := wSeq (wsSet 2 (wvD (wOp gAdd (wOp gAdd (wTup (waCons (wC (.int 0)) (waNil))) (wV 1)) (wTup (waCons (wOp gAdd (wOp gIx (wV 0) (wC (.int 0))) (wC (.int 1))) (waNil)))))) (wsRet (wCB gTuple (waCons (wL (wLc (wiZip (wV 2) (wCut (wV 2) (woSome (wC (.int 1))) (woNone))) (wgTup2 (wgName 3) (wgName 4)) (wtYes) (wOp gSub (wV 4) (wV 3)) [3, 4])) waNil)))
def N_is_good_walk : List Str := [("flight" : Str), ("thing" : Str), ("one" : Str)]
def S_is_good_walk : FS := fs2 fun a b Q _ => ∃ s l, a = p2 s l ∧ short b ∧ Q (.bool (isGoodWalk s l b))
theorem u_is_good_walk {s l : Int} {b : D} {Q : D → Prop} {E : Str → Prop} (hl : short b) (h : Q (.bool (isGoodWalk s l b))) : S_is_good_walk [.dat (p2 s l), .dat b] Q E := ⟨_, _, rfl, s, l, rfl, hl, h⟩
def w_is_good_walk : WS := wSeq (wsIf (wOr (wNot (wB (wUn (gIsa "tuple") (wV 1)))) (wNot (wB (wCB gAll (waCons (wL (wLc (wiSeq (wV 1)) (wgName 2) (wtYes) (wCall S_is_whole (wsCons (wV 2) (wsCons (wC (.int 1)) (wsCons (wOp gIx (wV 0) (wC (.int 0))) (wsNil))))) [2])) waNil))))) (wsRet (wC (.bool false))) (wNil)) (wsRet (wCB gAll (waCons (wL (wLc (wiSeq (wCall S_strides_of (wsCons (wV 0) (wsCons (wV 1) (wsNil))))) (wgName 2) (wtYes) (wChain gLe gLe (wC (.int 1)) (wV 2) (wOp gIx (wV 0) (wC (.int 1)))) [2])) waNil)))
def N_need_walk : List Str := [("flight" : Str), ("walk" : Str)]
def S_need_walk : FS := fs2 fun a b Q E => ∃ s l, a = p2 s l ∧ short b ∧ (isGoodWalk s l b = true → Q .none) ∧ (isGoodWalk s l b = false → E "BadWalk")
def w_need_walk : WS := wsIf (wNot (wB (wCall S_is_good_walk (wsCons (wV 0) (wsCons (wV 1) (wsNil)))))) (wsRaise "BadWalk") (wNil)
def N_is_good_wear : List Str := [("steps" : Str), ("thing" : Str), ("one" : Str)]
def S_is_good_wear : FS := fs2 fun a b Q _ => ∃ s, a = .int s ∧ short b ∧ Q (.bool (goodWear s b))
def w_is_good_wear : WS := wsRet (wAndV (wUn (gIsa "tuple") (wV 1)) (wAndV (wOp gEq (wCB gLen (waCons (wV 1) waNil)) (wV 0)) (wCB gAll (waCons (wL (wLc (wiSeq (wV 1)) (wgName 2) (wtYes) (wCall S_is_whole (wsCons (wV 2) (wsCons (wC (.int 0)) (wsCons (wC (.int 9)) (wsNil))))) [2])) waNil))))
def N_need_wear : List Str := [("flight" : Str), ("wear" : Str)]
def S_need_wear : FS := fs2 fun a b Q E => need2 a b E fun _ _ _ => Q .none
def w_need_wear : WS := wSeq (wsExpr (wCall S_need_flight (wsCons (wV 0) (wsNil)))) (wsIf (wNot (wB (wCall S_is_good_wear (wsCons (wOp gIx (wV 0) (wC (.int 0))) (wsCons (wV 1) (wsNil)))))) (wsRaise "BadWear") (wNil))
def N_need_many : List Str := [("many" : Str)]
def S_need_many : FS := fs1 fun a Q E => (isWhole a 0 9 = true → Q .none) ∧ (isWhole a 0 9 = false → E "BadNumber")
def w_need_many : WS := wsIf (wNot (wB (wCall S_is_whole (wsCons (wV 0) (wsCons (wC (.int 0)) (wsCons (wC (.int 9)) (wsNil))))))) (wsRaise "BadNumber") (wNil)
def N_need_both : List Str := [("flight" : Str), ("wear" : Str), ("many" : Str)]
def S_need_both : FS := fs3 fun a b c Q E => need3 a b c E fun _ _ _ _ => Q .none
def w_need_both : WS := wSeq (wsExpr (wCall S_need_wear (wsCons (wV 0) (wsCons (wV 1) (wsNil))))) (wsExpr (wCall S_need_many (wsCons (wV 2) (wsNil))))
def N_rows_of : List Str := [("steps" : Str), ("longest" : Str)]
def S_rows_of : FS := fs2 fun a b Q _ => ∃ s l, a = .int s ∧ b = .int l ∧ FlOk s l ∧ Q (lI (rowsI s l))
def w_rows_of : WS := wsRet (wL (wlRng2 (wC (.int 1)) (wOp gAdd (wOp gSub (wV 0) (wV 1)) (wC (.int 2)))))
def N_within : List Str := [("row" : Str), ("longest" : Str), ("first" : Str)]
def S_within : FS := fs3 fun a b c Q _ => ∃ row l f, seqOf a = some (row.map .int) ∧ b = .int l ∧ c = .int f ∧ Q (.int (withinI row l f))
def w_within : WS := wsRet (wCB gSum (waCons (wCut (wV 0) (woSome (wOp gSub (wV 2) (wC (.int 1)))) (woSome (wOp gAdd (wOp gSub (wV 2) (wC (.int 1))) (wV 1)))) waNil))
def N_bar_of : List Str := [("flight" : Str), ("lows" : Str), ("highs" : Str), ("many" : Str), ("steps" : Str), ("longest" : Str), ("above" : Str), ("tops" : Str), ("lacking" : Str), ("step" : Str), ("one" : Str), ("first" : Str)]
def S_bar_of : FS := fs4 fun a b c d Q _ => ∃ s l lows highs many, a = p2 s l ∧ b = tI lows ∧ c = tI highs ∧ d = .int many ∧ FlOk s l ∧ (lows.length : Int) = s ∧ (highs.length : Int) = s ∧ Q (barD s l lows highs many)
def w_bar_of : WS := wSeq (wsUnp (wgTup2 (wgName 4) (wgName 5)) (wV 0)) (wSeq (wsSet 6 (wvD (wL (wLc (wiRng2 (wC (.int 1)) (wOp gAdd (wV 4) (wC (.int 1)))) (wgName 9) (wB (wOp gGt (wOp gIx (wV 1) (wOp gSub (wV 9) (wC (.int 1)))) (wV 3))) (wV 9) [9])))) (wSeq (wsIf (wB (wOp gNe (wV 6) (wL (wLst (waNil))))) (wsRet (wTup (waCons (wC (.str "step")) (waCons (wOp gIx (wV 6) (wC (.int 0))) (waNil))))) (wNil)) (wSeq (wsSet 7 (wvD (wL (wLc (wiSeq (wV 2)) (wgName 10) (wtYes) (wCB gMin2 (waCons (wV 10) (waCons (wV 3) waNil))) [10])))) (wSeq (wsSet 8 (wvD (wL (wLc (wiSeq (wCall S_rows_of (wsCons (wV 4) (wsCons (wV 5) (wsNil))))) (wgName 11) (wB (wOp gLt (wCall S_within (wsCons (wV 7) (wsCons (wV 5) (wsCons (wV 11) (wsNil))))) (wV 3))) (wV 11) [11])))) (wsRet (wIf (wB (wOp gNe (wV 8) (wL (wLst (waNil))))) (wTup (waCons (wC (.str "row")) (waCons (wOp gIx (wV 8) (wC (.int 0))) (waNil)))) (wC .none)))))))
def N_do_make : List Str := [("flight" : Str), ("wear" : Str), ("many" : Str)]
def S_do_make : FS := fs3 fun a b c Q _ => ∃ s l wear many, a = p2 s l ∧ b = tI wear ∧ c = .int many ∧ FlOk s l ∧ (wear.length : Int) = s ∧ Q (.bool (doMake s l wear many))
def w_do_make : WS := wsRet (wOp gIs (wCall S_bar_of (wsCons (wV 0) (wsCons (wV 1) (wsCons (wV 1) (wsCons (wV 2) (wsNil)))))) (wC .none))
def N_turns_of : List Str := [("flight" : Str), ("wear" : Str), ("many" : Str), ("line" : Str), ("found" : Str), ("step" : Str), ("worn" : Str), ("front" : Str), ("walker" : Str), ("turn" : Str)]
def S_turns_of : FS := fs3 fun a b c Q _ => ∃ wear many, b = tI wear ∧ c = .int many ∧ wear.length ≤ 1000 ∧ (∀ x ∈ wear, 0 ≤ x) ∧ 0 ≤ many ∧ many ≤ 1000 ∧ Q (lW (turnsI wear many))
def w_turns_of : WS := wSeq (wsPar 3 4 (wvD (wL (wlRng1 (wV 2)))) (wvL (wLc (wiRng1 (wV 2)) (wgName 9) (wtYes) (wTup (waNil)) [9]))) (wSeq (wsFor (wiEnum (wV 1)) (wgTup2 (wgName 5) (wgName 6)) (wSeq (wsSet 7 (wvD (wCut (wV 3) (woNone) (woSome (wV 6))))) (wSeq (wsFor (wiSeq (wV 7)) (wgName 8) (wsPut 4 (wV 8) (wOp gAdd (wOp gIx (wV 4) (wV 8)) (wTup (waCons (wOp gAdd (wV 5) (wC (.int 1))) (waNil)))))) (wsSet 3 (wvD (wOp gAdd (wCut (wV 3) (woSome (wV 6)) (woNone)) (wV 7))))))) (wsRetV (wV 4)))
def N_less : List Str := [("wear" : Str), ("walk" : Str), ("found" : Str), ("step" : Str), ("worn" : Str)]
def S_less : FS := fs2 fun a b Q E => ∃ wear walk, a = tI wear ∧ b = tI walk ∧ wear ≠ [] ∧ wear.length ≤ 1000 ∧ Q (if nonneg (subW wear walk) = true then tI (subW wear walk) else .none)
def w_less : WS := wSeq (wsSet 2 (wvD (wCB gTuple (waCons (wL (wLc (wiEnum (wV 0)) (wgTup2 (wgName 3) (wgName 4)) (wtYes) (wOp gSub (wV 4) (wCB gInt (waCons (wOp gIn (wOp gAdd (wV 3) (wC (.int 1))) (wV 1)) waNil))) [3, 4])) waNil)))) (wsRet (wIf (wB (wOp gGe (wCB gMin (waCons (wV 2) waNil)) (wC (.int 0)))) (wV 2) (wC .none)))
def N_need_made : List Str := [("flight" : Str), ("wear" : Str), ("many" : Str)]
def S_need_made : FS := fs3 fun a b c Q E => ∃ s l wear many, a = p2 s l ∧ b = tI wear ∧ c = .int many ∧ FlOk s l ∧ (wear.length : Int) = s ∧ (doMake s l wear many = false → E "Nothing") ∧ (doMake s l wear many = true → Q .none)
def w_need_made : WS := wsIf (wNot (wB (wCall S_do_make (wsCons (wV 0) (wsCons (wV 1) (wsCons (wV 2) (wsNil))))))) (wsRaise "Nothing") (wNil)
def N_left_behind : List Str := [("wear" : Str), ("walk" : Str), ("times" : Str), ("turn" : Str)]
def S_left_behind : FS := fs3 fun a b c Q E => ∃ wear walk, ∃ t : Nat, a = tI wear ∧ b = tI walk ∧ c = .int t ∧ wear ≠ [] ∧ wear.length ≤ 1000 ∧ t ≤ 1000 ∧ Q (optD (leftN wear walk t))
def w_left_behind_0_0a_0 : WS := wsSet 0 (wvD (wCall S_less (wsCons (wV 0) (wsCons (wV 1) (wsNil)))))
def w_left_behind_0_0 : WS := wsIf (wB (wOp gIsN (wV 0) (wC .none))) (w_left_behind_0_0a_0) (wNil)
def w_left_behind_0 : WS := wsFor (wiRng1 (wV 2)) (wgName 3) (w_left_behind_0_0)
def w_left_behind_1 : WS := wsRet (wV 0)
def w_left_behind : WS := wSeq (w_left_behind_0) (w_left_behind_1)
def N_has_so_many : List Str := [("flight" : Str), ("wear" : Str), ("many" : Str), ("walk" : Str), ("times" : Str), ("left" : Str)]
def S_has_so_many : FS := fs5 fun a b c d e Q E => ∃ s l wear many walk, ∃ t : Nat, a = p2 s l ∧ b = tI wear ∧ c = .int many ∧ d = tI walk ∧ e = .int t ∧ FlOk s l ∧ (wear.length : Int) = s ∧ t ≤ 1000 ∧ Q (.bool (hasMany s l wear many walk t))
def w_has_so_many : WS := wSeq (wsSet 5 (wvD (wCall S_left_behind (wsCons (wV 1) (wsCons (wV 3) (wsCons (wV 4) (wsNil))))))) (wsRet (wAndV (wOp gLe (wV 4) (wV 2)) (wAndV (wOp gIsN (wV 5) (wC .none)) (wCall S_do_make (wsCons (wV 0) (wsCons (wV 5) (wsCons (wOp gSub (wV 2) (wV 4)) (wsNil))))))))
def N_may_go : List Str := [("flight" : Str), ("wear" : Str), ("many" : Str), ("walk" : Str)]
def S_may_go : FS := fs3 fun a b c Q E => need3 a b c E fun s l wear many => (doMake s l wear many = false → E "Nothing") ∧ (doMake s l wear many = true → Q (lW ((walksI s l).filter fun w => hasMany s l wear many w 1)))
def w_may_go : WS := wSeq (wsExpr (wCall S_need_both (wsCons (wV 0) (wsCons (wV 1) (wsCons (wV 2) (wsNil)))))) (wSeq (wsExpr (wCall S_need_made (wsCons (wV 0) (wsCons (wV 1) (wsCons (wV 2) (wsNil)))))) (wsRet (wL (wLc (wiSeq (wCall S_every_walk (wsCons (wV 0) (wsNil)))) (wgName 3) (wB (wCall S_has_so_many (wsCons (wV 0) (wsCons (wV 1) (wsCons (wV 2) (wsCons (wV 3) (wsCons (wC (.int 1)) (wsNil)))))))) (wV 3) [3]))))
def N_all_times : List Str := [("flight" : Str), ("wear" : Str), ("many" : Str), ("walk" : Str), ("times" : Str)]
def timesI (s l : Int) (wear : List Int) (many : Int) (walk : List Int) : List Int := (rgI 0 (many + 1)).filter fun t => hasMany s l wear many walk t.toNat
def S_all_times : FS := fs4 fun a b c d Q E => ∃ s l wear many walk, a = p2 s l ∧ b = tI wear ∧ c = .int many ∧ d = tI walk ∧ FlOk s l ∧ (wear.length : Int) = s ∧ 0 ≤ many ∧ many ≤ 9 ∧ Q (lI (timesI s l wear many walk))
def w_all_times : WS := wsRet (wL (wLc (wiRng1 (wOp gAdd (wV 2) (wC (.int 1)))) (wgName 4) (wB (wCall S_has_so_many (wsCons (wV 0) (wsCons (wV 1) (wsCons (wV 2) (wsCons (wV 3) (wsCons (wV 4) (wsNil)))))))) (wV 4) [4]))
def N_at_most_so : List Str := [("flight" : Str), ("wear" : Str), ("many" : Str), ("walk" : Str)]
def S_at_most_so : FS := fs4 fun a b c d Q E => short d ∧ need3 a b c E fun s l wear many => (isGoodWalk s l d = false → E "BadWalk") ∧ ∀ walk, d = tI walk → goodWalk s l walk = true → (doMake s l wear many = false → E "Nothing") ∧ (doMake s l wear many = true → ∃ r t, timesI s l wear many walk = r ++ [t] ∧ Q (.int t))
def w_at_most_so : WS := wSeq (wsExpr (wCall S_need_both (wsCons (wV 0) (wsCons (wV 1) (wsCons (wV 2) (wsNil)))))) (wSeq (wsExpr (wCall S_need_walk (wsCons (wV 0) (wsCons (wV 3) (wsNil))))) (wSeq (wsExpr (wCall S_need_made (wsCons (wV 0) (wsCons (wV 1) (wsCons (wV 2) (wsNil)))))) (wsRet (wOp gIx (wCall S_all_times (wsCons (wV 0) (wsCons (wV 1) (wsCons (wV 2) (wsCons (wV 3) (wsNil)))))) (wUn gNeg (wC (.int 1)))))))
def N_bag_with_walk : List Str := [("flight" : Str), ("wear" : Str), ("many" : Str), ("walk" : Str), ("times" : Str)]
def S_bag_with_walk : FS := fs5 fun a b c d e Q E => short d ∧ need3 a b c E fun s l wear many => (isGoodWalk s l d = false → E "BadWalk") ∧ ∀ walk, d = tI walk → goodWalk s l walk = true → (isWhole e 0 9 = false → E "BadNumber") ∧ ∀ t : Nat, e = .int t → t ≤ 9 → (doMake s l wear many = false → E "Nothing") ∧ (doMake s l wear many = true → (hasMany s l wear many walk t = false → Q .none) ∧
  ∀ left, hasMany s l wear many walk t = true → leftN wear walk t = some left → Q (lW (List.replicate t walk ++ turnsI left (many - t))))
def w_bag_with_walk_0 : WS := wsExpr (wCall S_need_both (wsCons (wV 0) (wsCons (wV 1) (wsCons (wV 2) (wsNil)))))
def w_bag_with_walk_1 : WS := wsExpr (wCall S_need_walk (wsCons (wV 0) (wsCons (wV 3) (wsNil))))
def w_bag_with_walk_2a_0 : WS := wsRaise "BadNumber"
def w_bag_with_walk_2 : WS := wsIf (wNot (wB (wCall S_is_whole (wsCons (wV 4) (wsCons (wC (.int 0)) (wsCons (wC (.int 9)) (wsNil))))))) (w_bag_with_walk_2a_0) (wNil)
def w_bag_with_walk_3 : WS := wsExpr (wCall S_need_made (wsCons (wV 0) (wsCons (wV 1) (wsCons (wV 2) (wsNil)))))
def w_bag_with_walk_4a_0 : WS := wsRet (wC .none)
def w_bag_with_walk_4 : WS := wsIf (wNot (wB (wCall S_has_so_many (wsCons (wV 0) (wsCons (wV 1) (wsCons (wV 2) (wsCons (wV 3) (wsCons (wV 4) (wsNil))))))))) (w_bag_with_walk_4a_0) (wNil)
def w_bag_with_walk_5 : WS := wsRet (wOp gAdd (wL (wOpL gRepL (wL (wLst (waCons (wV 3) (waNil)))) (wV 4))) (wCall S_turns_of (wsCons (wV 0) (wsCons (wCall S_left_behind (wsCons (wV 1) (wsCons (wV 3) (wsCons (wV 4) (wsNil))))) (wsCons (wOp gSub (wV 2) (wV 4)) (wsNil))))))
def w_bag_with_walk : WS := wSeq (w_bag_with_walk_0) (wSeq (w_bag_with_walk_1) (wSeq (w_bag_with_walk_2) (wSeq (w_bag_with_walk_3) (wSeq (w_bag_with_walk_4) (w_bag_with_walk_5)))))
def N_rest_of : List Str := [("flight" : Str), ("wear" : Str), ("many" : Str), ("walk" : Str)]
def S_rest_of : FS := fs4 fun a b c d Q E => short d ∧ need3 a b c E fun s l wear many => (isGoodWalk s l d = false → E "BadWalk") ∧ ∀ walk, d = tI walk → goodWalk s l walk = true → (doMake s l wear many = false → E "Nothing") ∧ (doMake s l wear many = true → Q (lI (timesI s l wear many walk)))
def w_rest_of : WS := wSeq (wsExpr (wCall S_need_both (wsCons (wV 0) (wsCons (wV 1) (wsCons (wV 2) (wsNil)))))) (wSeq (wsExpr (wCall S_need_walk (wsCons (wV 0) (wsCons (wV 3) (wsNil))))) (wSeq (wsExpr (wCall S_need_made (wsCons (wV 0) (wsCons (wV 1) (wsCons (wV 2) (wsNil)))))) (wsRet (wCall S_all_times (wsCons (wV 0) (wsCons (wV 1) (wsCons (wV 2) (wsCons (wV 3) (wsNil)))))))))
def N_lw_drawn : List Str := [("cell" : Str), ("k" : Str), ("more" : Str)]
def S_lw_drawn : FS := fs2 fun a b Q _ => ∃ c k, a = .int c ∧ b = .int k ∧ ∀ r : Int, Q (.int r)
def w_lw_drawn : WS := wSeq (wsSet 2 (wvD (wOp gMod (wOp gAdd (wOp gMulA (wV 0) (wC (.int 6364136223846793005))) (wOp gMulA (wOp gAdd (wV 1) (wC (.int 1))) (wC (.int 1442695040888963407)))) (wC (.int 340282366920938463463374607431768211507))))) (wSeq (wsSet 2 (wvD (wOp gMod (wOp gMulA (wV 2) (wV 2)) (wC (.int 340282366920938463463374607431768211297))))) (wSeq (wsSet 2 (wvD (wOp gMulA (wOp gMulA (wOp gAdd (wOp gMod (wV 2) (wC (.int 18446744073709551557))) (wC (.int 1))) (wOp gAdd (wOp gDivA (wV 2) (wC (.int 18446744073709551557))) (wC (.int 1)))) (wV 2)))) (wsRet (wOp gMod (wV 2) (wC (.int 340282366920938463463374607431768211507))))))
def N_lw_roll : List Str := [("dice" : Str), ("many" : Str), ("told" : Str)]
def S_lw_roll : FS := fd1 fun a Q _ => ∃ m : Int, a = .int m ∧ 1 ≤ m ∧ m < 1000000 ∧ ∀ r : Int, 0 ≤ r → r < m → Q (.int r)
theorem u_roll {m : Int} {Q : D → Prop} {E : Str → Prop} (h1 : 1 ≤ m) (h2 : m < 1000000) (h : ∀ r : Int, 0 ≤ r → r < m → Q (.int r)) : S_lw_roll [.dice, .dat (.int m)] Q E := ⟨_, rfl, m, rfl, h1, h2, h⟩
def w_lw_roll : WS := wSeq (wsIf (wB (wOp gGe (wDie 0) (wOp gPow (wC (.int 10)) (wC (.int 18))))) (wSeq (wsSet 2 (wvD (wOp gMod (wDie 0) (wV 1)))) (wSeq (wsDie 0 (wOp gDivA (wDie 0) (wV 1))) (wsRet (wV 2)))) (wNil)) (wSeq (wsDie 0 (wOp gAdd (wDie 0) (wC (.int 1)))) (wsRet (wOp gMod (wOp gDivA (wCall S_lw_drawn (wsCons (wDie 0) (wsCons (wDie 0) (wsNil)))) (wC (.int 8))) (wV 1))))
def N_lw_any_flight : List Str := [("dice" : Str), ("high" : Str)]
def S_lw_any_flight : FS := fd1 fun a Q _ => ∃ m : Int, a = .int m ∧ 1 ≤ m ∧ m ≤ 8 ∧ ∀ s l : Int, FlOk s l → s ≤ m → Q (p2 s l)
def w_lw_any_flight : WS := wsRet (wTup (waCons (wOp gAdd (wC (.int 1)) (wCall S_lw_roll (wsDice 0 (wsCons (wV 1) (wsNil))))) (waCons (wOp gAdd (wC (.int 1)) (wCall S_lw_roll (wsDice 0 (wsCons (wC (.int 5)) (wsNil))))) (waNil))))
def N_lw_walks : List Str := [("flight" : Str), ("steps" : Str), ("longest" : Str), ("rows" : Str), ("found" : Str), ("step" : Str), ("row" : Str), ("spots" : Str), ("one" : Str), ("other" : Str)]
def S_lw_walks : FS := fs1 fun a Q _ => ∃ s l, a = p2 s l ∧ FlOk s l ∧ Q (lW (walksI s l))
def w_lw_walks : WS := wSeq (wsUnp (wgTup2 (wgName 1) (wgName 2)) (wV 0)) (wSeq (wsPar 3 4 (wvD (wL (wLst (waCons (wTup (waNil)) (waNil))))) (wvL (wLst (waNil)))) (wSeq (wsFor (wiRng2 (wC (.int 1)) (wOp gAdd (wV 1) (wC (.int 1)))) (wgName 5) (wsSet 3 (wvD (wOp gAdd (wV 3) (wL (wLc (wiSeq (wV 3)) (wgName 6) (wtYes) (wOp gAdd (wV 6) (wTup (waCons (wV 5) (waNil)))) [6])))))) (wSeq (wsFor (wiSeq (wV 3)) (wgName 6) (wSeq (wsSet 7 (wvD (wOp gAdd (wOp gAdd (wTup (waCons (wC (.int 0)) (waNil))) (wV 6)) (wTup (waCons (wOp gAdd (wV 1) (wC (.int 1))) (waNil)))))) (wsIf (wB (wOp gLe (wCB gMax (waCons (wL (wLc (wiZip (wV 7) (wCut (wV 7) (woSome (wC (.int 1))) (woNone))) (wgTup2 (wgName 8) (wgName 9)) (wtYes) (wOp gSub (wV 9) (wV 8)) [8, 9])) waNil)) (wV 2))) (wsApp 4 (wV 6)) (wNil)))) (wsRetV (wL (wCL gSorted (waCons (wV 4) waNil)))))))
def N_lw_wear : List Str := [("steps" : Str), ("walks" : Str), ("step" : Str), ("walk" : Str)]
def S_lw_wear : FS := fs2 fun a b Q _ => ∃ s ws, a = .int s ∧ b = lW ws ∧ 0 ≤ s ∧ s ≤ 1000 ∧ ws.length ≤ 1000 ∧ Q (tI (sumOf s ws))
def w_lw_wear : WS := wsRet (wCB gTuple (waCons (wL (wLc (wiRng2 (wC (.int 1)) (wOp gAdd (wV 0) (wC (.int 1)))) (wgName 2) (wtYes) (wCB gLen (waCons (wL (wLc (wiSeq (wV 1)) (wgName 3) (wB (wOp gIn (wV 2) (wV 3))) (wV 3) [3])) waNil)) [2])) waNil))
def N_lw_any_walks : List Str := [("dice" : Str), ("flight" : Str), ("many" : Str), ("some" : Str), ("turn" : Str)]
def S_lw_any_walks : FS := fd2 fun a b Q _ => ∃ s l many, a = p2 s l ∧ b = .int many ∧ FlOk s l ∧ 0 ≤ many ∧ many ≤ 1000 ∧ ∀ ws : List (List Int), (ws.length : Int) = many → (∀ w ∈ ws, w ∈ walksI s l) → Q (lW ws)
def w_lw_any_walks : WS := wSeq (wsSet 3 (wvD (wCall S_lw_walks (wsCons (wV 1) (wsNil))))) (wsRet (wL (wLc (wiRng1 (wV 2)) (wgName 4) (wtYes) (wOp gIx (wV 3) (wCall S_lw_roll (wsDice 0 (wsCons (wCB gLen (waCons (wV 3) waNil)) (wsNil))))) [4])))
def N_lw_any_wear : List Str := [("dice" : Str), ("flight" : Str), ("many" : Str), ("wear" : Str), ("at" : Str), ("bent" : Str)]
def S_lw_any_wear : FS := fd2 fun a b Q _ => ∃ s l many, a = p2 s l ∧ b = .int many ∧ FlOk s l ∧ 0 ≤ many ∧ many ≤ 9 ∧ ∀ wear : List Int, (wear.length : Int) = s → (∀ x ∈ wear, 0 ≤ x ∧ x ≤ many + 2) → Q (tI wear)
def w_lw_any_wear : WS := wSeq (wsSet 3 (wvD (wCall S_lw_wear (wsCons (wOp gIx (wV 1) (wC (.int 0))) (wsCons (wCall S_lw_any_walks (wsDice 0 (wsCons (wV 1) (wsCons (wV 2) (wsNil))))) (wsNil)))))) (wSeq (wsIf (wB (wOp gEq (wCall S_lw_roll (wsDice 0 (wsCons (wC (.int 2)) (wsNil)))) (wC (.int 0)))) (wSeq (wsSet 4 (wvD (wCall S_lw_roll (wsDice 0 (wsCons (wOp gIx (wV 1) (wC (.int 0))) (wsNil)))))) (wSeq (wsSet 5 (wvD (wOp gMod (wOp gAdd (wOp gAdd (wOp gIx (wV 3) (wV 4)) (wC (.int 1))) (wCall S_lw_roll (wsDice 0 (wsCons (wC (.int 3)) (wsNil))))) (wOp gAdd (wV 2) (wC (.int 3)))))) (wsSet 3 (wvD (wOp gAdd (wOp gAdd (wCut (wV 3) (woNone) (woSome (wV 4))) (wTup (waCons (wV 5) (waNil)))) (wCut (wV 3) (woSome (wOp gAdd (wV 4) (wC (.int 1)))) (woNone))))))) (wNil)) (wsRet (wV 3)))
def N_lw_bags : List Str := [("flight" : Str), ("wear" : Str), ("many" : Str), ("some" : Str), ("work" : Str), ("turn" : Str), ("longer" : Str), ("bag" : Str), ("left" : Str), ("walk" : Str), ("rest" : Str), ("at" : Str), ("worn" : Str)]
def S_lw_bags : FS := fs3 fun a b c Q E => ∃ s l wear, ∃ m : Nat, a = p2 s l ∧ b = tI wear ∧ c = .int m ∧ FlOk s l ∧ s ≤ 5 ∧ (wear.length : Int) = s ∧ (∀ x ∈ wear, 0 ≤ x) ∧ m ≤ 3 ∧ Q (.list (sortD ((foundB (walksI s l) wear m).map lW)))
def w_lw_bags : WS := wSeq (wsPar 3 4 (wvD (wCall S_lw_walks (wsCons (wV 0) (wsNil)))) (wvD (wL (wLst (waCons (wTup (waCons (wL (wLst (waNil))) (waCons (wV 1) (waNil)))) (waNil)))))) (wSeq (wsFor (wiRng1 (wV 2)) (wgName 5) (wSeq (wsSet 6 (wvL (wLst (waNil)))) (wSeq (wsFor (wiSeq (wV 4)) (wgTup2 (wgName 7) (wgName 8)) (wsFor (wiSeq (wV 3)) (wgName 9) (wSeq (wsSet 10 (wvD (wCB gTuple (waCons (wL (wLc (wiEnum (wV 8)) (wgTup2 (wgName 11) (wgName 12)) (wtYes) (wOp gSub (wV 12) (wCB gInt (waCons (wOp gIn (wOp gAdd (wV 11) (wC (.int 1))) (wV 9)) waNil))) [11, 12])) waNil)))) (wsIf (wAnd (wB (wOp gGe (wCB gMin (waCons (wV 10) waNil)) (wC (.int 0)))) (wOr (wB (wOp gEq (wV 7) (wL (wLst (waNil))))) (wB (wOp gLeT (wOp gIx (wV 7) (wUn gNeg (wC (.int 1)))) (wV 9))))) (wsApp 6 (wTup (waCons (wOp gAdd (wV 7) (wL (wLst (waCons (wV 9) (waNil))))) (waCons (wV 10) (waNil))))) (wNil))))) (wsFrz 6 (wsSet 4 (wvD (wV 6))))))) (wsRet (wL (wCL gSorted (waCons (wL (wLc (wiSeq (wV 4)) (wgTup2 (wgName 7) (wgName 8)) (wB (wOp gEq (wCB gMax (waCons (wV 8) waNil)) (wC (.int 0)))) (wV 7) [7, 8])) waNil)))))
def N_lw_which_refused : List Str := [("flight" : Str), ("wear" : Str), ("many" : Str), ("walk" : Str), ("bad" : Str), ("made" : Str)]
def S_lw_which_refused : FS := fs4 fun a b c d Q E => ∃ s l wear, ∃ m : Nat, ∃ walk, a = p2 s l ∧ b = tI wear ∧ c = .int m ∧ d = tI walk ∧ FlOk s l ∧ WrOk s wear ∧ m ≤ 9 ∧ walk.length ≤ 8 ∧ goodWalk s l walk = true ∧ Q (.bool true)
def w_lw_which_refused_0_0 : WS := wsSet 5 (wvL (wLst (waCons (wTold (wCall S_at_most_so (wsCons (wV 0) (wsCons (wV 1) (wsCons (wV 2) (wsCons (wV 4) (wsNil))))))) (waNil))))
def w_lw_which_refused_0_1 : WS := wsApp 5 (wTold (wCall S_rest_of (wsCons (wV 0) (wsCons (wV 1) (wsCons (wV 2) (wsCons (wV 4) (wsNil)))))))
def w_lw_which_refused_0_2a_0 : WS := wsRet (wC (.bool false))
def w_lw_which_refused_0_2 : WS := wsIfV (wB (wOp gNe (wOp gAdd (wV 5) (wL (wLst (waCons (wTold (wCall S_bag_with_walk (wsCons (wV 0) (wsCons (wV 1) (wsCons (wV 2) (wsCons (wV 4) (wsCons (wC .none) (wsNil)))))))) (waNil))))) (wL (wOpL gRepL (wL (wLst (waCons (wTup (waCons (wC (.str "refused")) (waCons (wC (.str "BadWalk")) (waNil)))) (waNil)))) (wC (.int 3)))))) (w_lw_which_refused_0_2a_0) (wNil)
def w_lw_which_refused_0 : WS := wsFor (wiSeq (wL (wLst (waCons (wC .none) (waCons (wC (.int 5)) (waCons (wL (wLst (waNil))) (waCons (wTup (waCons (wC (.int 0)) (waNil))) (waCons (wTup (waCons (wOp gAdd (wOp gIx (wV 0) (wC (.int 0))) (wC (.int 1))) (waNil))) (waCons (wTup (waCons (wC (.int 1)) (waCons (wC (.int 1)) (waNil)))) (waCons (wC (.str "1")) (waNil))))))))))) (wgName 4) (wSeq (w_lw_which_refused_0_0) (wSeq (w_lw_which_refused_0_1) (w_lw_which_refused_0_2)))
def w_lw_which_refused_1_0a_0 : WS := wsRet (wC (.bool false))
def w_lw_which_refused_1_0 : WS := wsIf (wB (wOp gNe (wTold (wCall S_bag_with_walk (wsCons (wV 0) (wsCons (wV 1) (wsCons (wV 2) (wsCons (wV 3) (wsCons (wV 4) (wsNil)))))))) (wTup (waCons (wC (.str "refused")) (waCons (wC (.str "BadNumber")) (waNil)))))) (w_lw_which_refused_1_0a_0) (wNil)
def w_lw_which_refused_1_1a_0 : WS := wsRet (wC (.bool false))
def w_lw_which_refused_1_1 : WS := wsIf (wB (wOp gNe (wTold (wCall S_may_go (wsCons (wV 0) (wsCons (wV 1) (wsCons (wV 4) (wsNil)))))) (wTup (waCons (wC (.str "refused")) (waCons (wC (.str "BadNumber")) (waNil)))))) (w_lw_which_refused_1_1a_0) (wNil)
def w_lw_which_refused_1 : WS := wsFor (wiSeq (wL (wLst (waCons (wUn gNeg (wC (.int 1))) (waCons (wC (.int 10)) (waCons (wC (.bool true)) (waCons (wC .none) (waNil)))))))) (wgName 4) (wSeq (w_lw_which_refused_1_0) (w_lw_which_refused_1_1))
def w_lw_which_refused_2 : WS := wsRet (wOp gEq (wTold (wCall S_may_go (wsCons (wV 0) (wsCons (wC .none) (wsCons (wV 2) (wsNil)))))) (wTup (waCons (wC (.str "refused")) (waCons (wC (.str "BadWear")) (waNil)))))
def w_lw_which_refused : WS := wSeq (w_lw_which_refused_0) (wSeq (w_lw_which_refused_1) (w_lw_which_refused_2))
def N_law : List Str := [("script" : Str), ("dice" : Str), ("flight" : Str), ("many" : Str), ("wear" : Str), ("walk" : Str), ("every" : Str), ("made" : Str), ("gone" : Str), ("bag" : Str), ("often" : Str), ("times_here" : Str), ("found" : Str)]
def w_law_0 : WS := wsUnp (wgTup2 (wgName 2) (wgName 3)) (wTup (waCons (wCall S_lw_any_flight (wsDice 1 (wsCons (wC (.int 5)) (wsNil)))) (waCons (wCall S_lw_roll (wsDice 1 (wsCons (wC (.int 4)) (wsNil)))) (waNil))))
def w_law_1 : WS := wsUnp (wgTup2 (wgName 4) (wgName 5)) (wTup (waCons (wCall S_lw_any_wear (wsDice 1 (wsCons (wV 2) (wsCons (wV 3) (wsNil))))) (waCons (wOp gIx (wCall S_lw_any_walks (wsDice 1 (wsCons (wV 2) (wsCons (wC (.int 1)) (wsNil))))) (wC (.int 0))) (waNil))))
def w_law_2 : WS := wsSet 6 (wvD (wCall S_lw_bags (wsCons (wV 2) (wsCons (wV 4) (wsCons (wV 3) (wsNil))))))
def w_law_3a_0 : WS := wsSet 7 (wvL (wLst (waCons (wTold (wCall S_may_go (wsCons (wV 2) (wsCons (wV 4) (wsCons (wV 3) (wsNil)))))) (waNil))))
def w_law_3a_1 : WS := wsApp 7 (wTold (wCall S_at_most_so (wsCons (wV 2) (wsCons (wV 4) (wsCons (wV 3) (wsCons (wV 5) (wsNil)))))))
def w_law_3a_2 : WS := wsApp 7 (wTold (wCall S_bag_with_walk (wsCons (wV 2) (wsCons (wV 4) (wsCons (wV 3) (wsCons (wV 5) (wsCons (wC (.int 0)) (wsNil))))))))
def w_law_3a_3a_0 : WS := wsRet (wC (.bool false))
def w_law_3a_3 : WS := wsIfV (wB (wOp gNe (wOp gAdd (wV 7) (wL (wLst (waCons (wTold (wCall S_rest_of (wsCons (wV 2) (wsCons (wV 4) (wsCons (wV 3) (wsCons (wV 5) (wsNil))))))) (waNil))))) (wL (wOpL gRepL (wL (wLst (waCons (wTup (waCons (wC (.str "refused")) (waCons (wC (.str "Nothing")) (waNil)))) (waNil)))) (wC (.int 4)))))) (w_law_3a_3a_0) (wNil)
def w_law_3b_0 : WS := wsSet 8 (wvD (wL (wLst (waNil))))
def w_law_3b_1_0 : WS := wsSet 8 (wvD (wOp gAdd (wV 8) (wV 9)))
def w_law_3b_1 : WS := wsFor (wiSeq (wV 6)) (wgName 9) (w_law_3b_1_0)
def w_law_3b_2a_0 : WS := wsRet (wC (.bool false))
def w_law_3b_2 : WS := wsIf (wB (wOp gNe (wCall S_may_go (wsCons (wV 2) (wsCons (wV 4) (wsCons (wV 3) (wsNil))))) (wL (wSSD (wV 8))))) (w_law_3b_2a_0) (wNil)
def w_law_3b_3 : WS := wsSet 10 (wvD (wCB gMax (waCons (wL (wLc (wiSeq (wV 6)) (wgName 9) (wtYes) (wCnt (wV 9) (wV 5)) [9])) waNil)))
def w_law_3b_4a_0 : WS := wsRet (wC (.bool false))
def w_law_3b_4 : WS := wsIf (wB (wOp gNe (wCall S_at_most_so (wsCons (wV 2) (wsCons (wV 4) (wsCons (wV 3) (wsCons (wV 5) (wsNil)))))) (wV 10))) (w_law_3b_4a_0) (wNil)
def w_law_3b_5a_0 : WS := wsRet (wC (.bool false))
def w_law_3b_5 : WS := wsIf (wB (wOp gNe (wCall S_rest_of (wsCons (wV 2) (wsCons (wV 4) (wsCons (wV 3) (wsCons (wV 5) (wsNil)))))) (wL (wlRng1 (wOp gAdd (wV 10) (wC (.int 1))))))) (w_law_3b_5a_0) (wNil)
def w_law_3b_6_0 : WS := wsSet 12 (wvD (wCall S_bag_with_walk (wsCons (wV 2) (wsCons (wV 4) (wsCons (wV 3) (wsCons (wV 5) (wsCons (wV 11) (wsNil))))))))
def w_law_3b_6_1a_0 : WS := wsRet (wC (.bool false))
def w_law_3b_6_1 : WS := wsIf (wB (wOp gNe (wOp gIs (wV 12) (wC .none)) (wOp gGt (wV 11) (wV 10)))) (w_law_3b_6_1a_0) (wNil)
def w_law_3b_6_2a_0 : WS := wsRet (wC (.bool false))
def w_law_3b_6_2 : WS := wsIf (wAnd (wB (wOp gIsN (wV 12) (wC .none))) (wOr (wB (wOp gNotIn (wL (wCL gSorted (waCons (wV 12) waNil))) (wV 6))) (wB (wOp gLt (wCnt (wV 12) (wV 5)) (wV 11))))) (w_law_3b_6_2a_0) (wNil)
def w_law_3b_6 : WS := wsFor (wiRng1 (wC (.int 5))) (wgName 11) (wSeq (w_law_3b_6_0) (wSeq (w_law_3b_6_1) (w_law_3b_6_2)))
def w_law_3 : WS := wsIf (wB (wOp gEq (wV 6) (wL (wLst (waNil))))) (wSeq (w_law_3a_0) (wSeq (w_law_3a_1) (wSeq (w_law_3a_2) (w_law_3a_3)))) (wSeq (w_law_3b_0) (wSeq (w_law_3b_1) (wSeq (w_law_3b_2) (wSeq (w_law_3b_3) (wSeq (w_law_3b_4) (wSeq (w_law_3b_5) (w_law_3b_6)))))))
def w_law_4a_0 : WS := wsRet (wC (.bool false))
def w_law_4 : WS := wsIf (wNot (wB (wCall S_lw_which_refused (wsCons (wV 2) (wsCons (wV 4) (wsCons (wV 3) (wsCons (wV 5) (wsNil)))))))) (w_law_4a_0) (wNil)
def w_law : WS := wSeq (w_law_0) (wSeq (w_law_1) (wSeq (w_law_2) (wSeq (w_law_3) (w_law_4))))
section
variable {P : Program} {w : World} {K : PySem.W.Frag} {mg : Str → Option Value} {base : Heap} {T : List (Addr × Str)}
theorem sc_is_whole : FnScope N_is_whole [("thing" : Str), ("low" : Str), ("high" : Str)] (defScope (top 16)) := ⟨rfl, rfl, rfl, by decide +kernel, rfl, by decide +kernel, by decide +kernel⟩
theorem drv_is_whole (B : BM mg) (S : FnScope N_is_whole [("thing" : Str), ("low" : Str), ("high" : Str)] (defScope (top 16))) {f : Addr} (cdv : Value) (A : Around) (outer : List Env) (s : Shared) (H : Hp) (E : XK) (gd : Good (cxOf (L2N.CX P w) P w K mg base N_is_whole "is_whole" (defScope (top 16)) f cdv A outer s H E) ⟨T, mg, E⟩) (hr : Room 0 (A.deeper (envOfC "is_whole" (defScope (top 16)) s.heap.objs.size f cdv))) :
    DSs (cxOf (L2N.CX P w) P w K mg base N_is_whole "is_whole" (defScope (top 16)) f cdv A outer s H E) ⟨T, mg, E⟩ (defBody (top 16)) w_is_whole :=
  ss_one (s_ret (d_and (d_isa B.isinstance B.int (d_var 0)) (d_and (d_not (d_isa B.isinstance B.bool (d_var 0))) (d_one (d_chain op_le op_le dop_le dop_le (d_var 1) (d_var 0) (d_var 2))))))
theorem sc_is_flight : FnScope N_is_flight [("thing" : Str)] (defScope (top 17)) := ⟨rfl, rfl, rfl, by decide +kernel, rfl, by decide +kernel, by decide +kernel⟩
theorem drv_is_flight (B : BM mg) (c_is_whole : CallOk P w K mg base T 1 "is_whole" [("thing" : Str), ("low" : Str), ("high" : Str)] S_is_whole) (S : FnScope N_is_flight [("thing" : Str)] (defScope (top 17))) {f : Addr} (cdv : Value) (A : Around) (outer : List Env) (s : Shared) (H : Hp) (E : XK) (gd : Good (cxOf (L2N.CX P w) P w K mg base N_is_flight "is_flight" (defScope (top 17)) f cdv A outer s H E) ⟨T, mg, E⟩) (hr : Room 1 (A.deeper (envOfC "is_flight" (defScope (top 17)) s.heap.objs.size f cdv))) :
    DSs (cxOf (L2N.CX P w) P w K mg base N_is_flight "is_flight" (defScope (top 17)) f cdv A outer s H E) ⟨T, mg, E⟩ (defBody (top 17)) w_is_flight :=
  ss_one (s_ret (d_and (d_isa B.isinstance B.tuple (d_var 0)) (d_and (d_eq hr (d_len B.len (d_var 0)) (d_int)) (d_and (d_call gd hr c_is_whole (by decide) (sl_cons (d_ix (d_var 0) (d_int)) (sl_cons (d_int) (sl_cons (d_int) (sl_nil))))) (d_one (d_call gd hr c_is_whole (by decide) (sl_cons (d_ix (d_var 0) (d_int)) (sl_cons (d_int) (sl_cons (d_int) (sl_nil))))))))))
theorem sc_need_flight : FnScope N_need_flight [("thing" : Str)] (defScope (top 18)) := ⟨rfl, rfl, rfl, by decide +kernel, rfl, by decide +kernel, by decide +kernel⟩
theorem drv_need_flight (B : BM mg) (c_is_flight : CallOk P w K mg base T 2 "is_flight" [("thing" : Str)] S_is_flight) (e_BadFlight : ExcOk K mg "BadFlight") (S : FnScope N_need_flight [("thing" : Str)] (defScope (top 18))) {f : Addr} (cdv : Value) (A : Around) (outer : List Env) (s : Shared) (H : Hp) (E : XK) (gd : Good (cxOf (L2N.CX P w) P w K mg base N_need_flight "need_flight" (defScope (top 18)) f cdv A outer s H E) ⟨T, mg, E⟩) (hr : Room 2 (A.deeper (envOfC "need_flight" (defScope (top 18)) s.heap.objs.size f cdv))) :
    DSs (cxOf (L2N.CX P w) P w K mg base N_need_flight "need_flight" (defScope (top 18)) f cdv A outer s H E) ⟨T, mg, E⟩ (defBody (top 18)) w_need_flight :=
  ss_one (s_if (t_not (t_val (d_call gd hr c_is_flight (by decide) (sl_cons (d_var 0) (sl_nil))))) (ss_one (s_raise gd e_BadFlight)) (ss_nil))
theorem sc_every_walk : FnScope N_every_walk [("flight" : Str)] (defScope (top 19)) := ⟨rfl, rfl, rfl, by decide +kernel, rfl, by decide +kernel, by decide +kernel⟩
theorem drv_every_walk (B : BM mg) (S : FnScope N_every_walk [("flight" : Str)] (defScope (top 19))) {f : Addr} (cdv : Value) (A : Around) (outer : List Env) (s : Shared) (H : Hp) (E : XK) (gd : Good (cxOf (L2N.CX P w) P w K mg base N_every_walk "every_walk" (defScope (top 19)) f cdv A outer s H E) ⟨T, mg, E⟩) (hr : Room 0 (A.deeper (envOfC "every_walk" (defScope (top 19)) s.heap.objs.size f cdv))) :
    DSs (cxOf (L2N.CX P w) P w K mg base N_every_walk "every_walk" (defScope (top 19)) f cdv A outer s H E) ⟨T, mg, E⟩ (defBody (top 19)) w_every_walk :=
  ss_cons (s_unp (vs := [1, 2]) (d_var 0) (pg_tup rfl (pgs_cons (pg_name (i := 1) S.nd rfl (Or.inl rfl)) (pgs_cons (pg_name (i := 2) S.nd rfl (Or.inl rfl)) (pgs_nil)))) (tg_tup2 (tg_name (by decide)) (tg_name (by decide))))
    (ss_cons (s_par (i := 3) (j := 4) gd S.nd (v_l (l_lst (a_nil))) (v_l (l_lst (a_cons (d_tup (a_nil)) (a_nil)))))
    (ss_cons (s_while gd (t_ne hr (d_var 4) (d_ofL (l_lst (a_nil)))) (ss_cons (s_pop (i := 5) (j := 4) S.nd)
    (ss_cons (s_set (i := 6) S.nd (v_d (d_ifExp (t_ne hr (d_var 5) (d_tup (a_nil))) (d_ix (d_var 5) (d_neg (d_int))) (d_int))))
    (ss_cons (s_if (t_le (d_sub (d_add (d_var 1) (d_int)) (d_var 6)) (d_var 2)) (ss_one (s_app (i := 3) (d_var 5))) (ss_nil))
    (ss_one (s_for gd (vs := [7]) (i_rng2 B.range (d_add (d_var 6) (d_int)) (d_add (d_min2 gd B.min (d_var 1) (d_add (d_var 6) (d_var 2))) (d_int))) (pg_name (i := 7) S.nd rfl (Or.inl rfl)) (tg_name (by decide)) (ss_one (s_app (i := 4) (d_add (d_var 5) (d_tup (a_cons (d_var 7) (a_nil))))))))))))
    (ss_one (s_retV (d_ofL (l_sorted hr B.sorted (d_var 3)))))))
theorem sc_strides_of : FnScope N_strides_of [("flight" : Str), ("walk" : Str)] (defScope (top 20)) := ⟨rfl, rfl, rfl, by decide +kernel, rfl, by decide +kernel, by decide +kernel⟩
theorem drv_strides_of (B : BM mg) (S : FnScope N_strides_of [("flight" : Str), ("walk" : Str)] (defScope (top 20))) {f : Addr} (cdv : Value) (A : Around) (outer : List Env) (s : Shared) (H : Hp) (E : XK) (gd : Good (cxOf (L2N.CX P w) P w K mg base N_strides_of "strides_of" (defScope (top 20)) f cdv A outer s H E) ⟨T, mg, E⟩) (hr : Room 0 (A.deeper (envOfC "strides_of" (defScope (top 20)) s.heap.objs.size f cdv))) :
    DSs (cxOf (L2N.CX P w) P w K mg base N_strides_of "strides_of" (defScope (top 20)) f cdv A outer s H E) ⟨T, mg, E⟩ (defBody (top 20)) w_strides_of :=
  ss_cons (s_set (i := 2) S.nd (v_d (d_add (d_add (d_tup (a_cons (d_int) (a_nil))) (d_var 1)) (d_tup (a_cons (d_add (d_ix (d_var 0) (d_int)) (d_int)) (a_nil))))))
    (ss_one (s_ret (d_tuple B.tuple (d_ofL (l_lc gd S.nd (own := [("one", 3), ("other", 4)]) (i_zip B.zip (d_var 2) (d_cut (d_var 2) (o_some (d_int)) (o_none))) (blkOk_by (N := N_strides_of) (sc := defScope (top 20)) (by decide +kernel)) (tg_tup2 (tg_name (by decide)) (tg_name (by decide))) (fun _ _ _ _ _ => pg_tup rfl (pgs_cons (pg_name (i := 3) S.nd rfl (Or.inl rfl)) (pgs_cons (pg_name (i := 4) S.nd rfl (Or.inl rfl)) (pgs_nil)))) (fun _ _ _ _ _ g1 => ts_nil) (fun _ _ _ _ _ g1 => d_sub (d_var 4) (d_var 3)))))))
theorem sc_is_good_walk : FnScope N_is_good_walk [("flight" : Str), ("thing" : Str)] (defScope (top 21)) := ⟨rfl, rfl, rfl, by decide +kernel, rfl, by decide +kernel, by decide +kernel⟩
theorem drv_is_good_walk (B : BM mg) (c_is_whole : CallOk P w K mg base T 1 "is_whole" [("thing" : Str), ("low" : Str), ("high" : Str)] S_is_whole) (c_strides_of : CallOk P w K mg base T 1 "strides_of" [("flight" : Str), ("walk" : Str)] S_strides_of) (S : FnScope N_is_good_walk [("flight" : Str), ("thing" : Str)] (defScope (top 21))) {f : Addr} (cdv : Value) (A : Around) (outer : List Env) (s : Shared) (H : Hp) (E : XK) (gd : Good (cxOf (L2N.CX P w) P w K mg base N_is_good_walk "is_good_walk" (defScope (top 21)) f cdv A outer s H E) ⟨T, mg, E⟩) (hr : Room 1 (A.deeper (envOfC "is_good_walk" (defScope (top 21)) s.heap.objs.size f cdv))) :
    DSs (cxOf (L2N.CX P w) P w K mg base N_is_good_walk "is_good_walk" (defScope (top 21)) f cdv A outer s H E) ⟨T, mg, E⟩ (defBody (top 21)) w_is_good_walk :=
  ss_cons (s_if (t_w (w_or (t_not (t_val (d_isa B.isinstance B.tuple (d_var 1)))) (w_or1 (t_not (t_val (d_all gd B.all (d_ofL (l_lc gd S.nd (own := [("one", 2)]) (i_seq (d_var 1)) (blkOk_by (N := N_is_good_walk) (sc := defScope (top 21)) (by decide +kernel)) (tg_name (by decide)) (fun _ _ _ _ _ => pg_name (i := 2) S.nd rfl (Or.inl rfl)) (fun _ _ _ _ _ g1 => ts_nil) (fun _ _ _ _ _ g1 => d_call g1 hr c_is_whole (by decide) (sl_cons (d_var 2) (sl_cons (d_int) (sl_cons (d_ix (d_var 0) (d_int)) (sl_nil))))))))))))) (ss_one (s_ret (d_bool))) (ss_nil))
    (ss_one (s_ret (d_all gd B.all (d_ofL (l_lc gd S.nd (own := [("one", 2)]) (i_seq (d_call gd hr c_strides_of (by decide) (sl_cons (d_var 0) (sl_cons (d_var 1) (sl_nil))))) (blkOk_by (N := N_is_good_walk) (sc := defScope (top 21)) (by decide +kernel)) (tg_name (by decide)) (fun _ _ _ _ _ => pg_name (i := 2) S.nd rfl (Or.inl rfl)) (fun _ _ _ _ _ g1 => ts_nil) (fun _ _ _ _ _ g1 => d_chain op_le op_le dop_le dop_le (d_int) (d_var 2) (d_ix (d_var 0) (d_int))))))))
theorem sc_need_walk : FnScope N_need_walk [("flight" : Str), ("walk" : Str)] (defScope (top 22)) := ⟨rfl, rfl, rfl, by decide +kernel, rfl, by decide +kernel, by decide +kernel⟩
theorem drv_need_walk (B : BM mg) (c_is_good_walk : CallOk P w K mg base T 2 "is_good_walk" [("flight" : Str), ("thing" : Str)] S_is_good_walk) (e_BadWalk : ExcOk K mg "BadWalk") (S : FnScope N_need_walk [("flight" : Str), ("walk" : Str)] (defScope (top 22))) {f : Addr} (cdv : Value) (A : Around) (outer : List Env) (s : Shared) (H : Hp) (E : XK) (gd : Good (cxOf (L2N.CX P w) P w K mg base N_need_walk "need_walk" (defScope (top 22)) f cdv A outer s H E) ⟨T, mg, E⟩) (hr : Room 2 (A.deeper (envOfC "need_walk" (defScope (top 22)) s.heap.objs.size f cdv))) :
    DSs (cxOf (L2N.CX P w) P w K mg base N_need_walk "need_walk" (defScope (top 22)) f cdv A outer s H E) ⟨T, mg, E⟩ (defBody (top 22)) w_need_walk :=
  ss_one (s_if (t_not (t_val (d_call gd hr c_is_good_walk (by decide) (sl_cons (d_var 0) (sl_cons (d_var 1) (sl_nil)))))) (ss_one (s_raise gd e_BadWalk)) (ss_nil))
theorem sc_is_good_wear : FnScope N_is_good_wear [("steps" : Str), ("thing" : Str)] (defScope (top 23)) := ⟨rfl, rfl, rfl, by decide +kernel, rfl, by decide +kernel, by decide +kernel⟩
theorem drv_is_good_wear (B : BM mg) (c_MOST : ∃ t, mg "MOST" = some (.int 9 t)) (c_is_whole : CallOk P w K mg base T 1 "is_whole" [("thing" : Str), ("low" : Str), ("high" : Str)] S_is_whole) (S : FnScope N_is_good_wear [("steps" : Str), ("thing" : Str)] (defScope (top 23))) {f : Addr} (cdv : Value) (A : Around) (outer : List Env) (s : Shared) (H : Hp) (E : XK) (gd : Good (cxOf (L2N.CX P w) P w K mg base N_is_good_wear "is_good_wear" (defScope (top 23)) f cdv A outer s H E) ⟨T, mg, E⟩) (hr : Room 1 (A.deeper (envOfC "is_good_wear" (defScope (top 23)) s.heap.objs.size f cdv))) :
    DSs (cxOf (L2N.CX P w) P w K mg base N_is_good_wear "is_good_wear" (defScope (top 23)) f cdv A outer s H E) ⟨T, mg, E⟩ (defBody (top 23)) w_is_good_wear :=
  ss_one (s_ret (d_and (d_isa B.isinstance B.tuple (d_var 1)) (d_and (d_eq hr (d_len B.len (d_var 1)) (d_var 0)) (d_one (d_all gd B.all (d_ofL (l_lc gd S.nd (own := [("one", 2)]) (i_seq (d_var 1)) (blkOk_by (N := N_is_good_wear) (sc := defScope (top 23)) (by decide +kernel)) (tg_name (by decide)) (fun _ _ _ _ _ => pg_name (i := 2) S.nd rfl (Or.inl rfl)) (fun _ _ _ _ _ g1 => ts_nil) (fun _ _ _ _ _ g1 => d_call g1 hr c_is_whole (by decide) (sl_cons (d_var 2) (sl_cons (d_int) (sl_cons (d_glob c_MOST) (sl_nil))))))))))))
theorem sc_need_wear : FnScope N_need_wear [("flight" : Str), ("wear" : Str)] (defScope (top 24)) := ⟨rfl, rfl, rfl, by decide +kernel, rfl, by decide +kernel, by decide +kernel⟩
theorem drv_need_wear (B : BM mg) (c_need_flight : CallOk P w K mg base T 3 "need_flight" [("thing" : Str)] S_need_flight) (c_is_good_wear : CallOk P w K mg base T 2 "is_good_wear" [("steps" : Str), ("thing" : Str)] S_is_good_wear) (e_BadWear : ExcOk K mg "BadWear") (S : FnScope N_need_wear [("flight" : Str), ("wear" : Str)] (defScope (top 24))) {f : Addr} (cdv : Value) (A : Around) (outer : List Env) (s : Shared) (H : Hp) (E : XK) (gd : Good (cxOf (L2N.CX P w) P w K mg base N_need_wear "need_wear" (defScope (top 24)) f cdv A outer s H E) ⟨T, mg, E⟩) (hr : Room 3 (A.deeper (envOfC "need_wear" (defScope (top 24)) s.heap.objs.size f cdv))) :
    DSs (cxOf (L2N.CX P w) P w K mg base N_need_wear "need_wear" (defScope (top 24)) f cdv A outer s H E) ⟨T, mg, E⟩ (defBody (top 24)) w_need_wear :=
  ss_cons (s_expr (d_call gd hr c_need_flight (by decide) (sl_cons (d_var 0) (sl_nil))))
    (ss_one (s_if (t_not (t_val (d_call gd hr c_is_good_wear (by decide) (sl_cons (d_ix (d_var 0) (d_int)) (sl_cons (d_var 1) (sl_nil)))))) (ss_one (s_raise gd e_BadWear)) (ss_nil)))
theorem sc_need_many : FnScope N_need_many [("many" : Str)] (defScope (top 25)) := ⟨rfl, rfl, rfl, by decide +kernel, rfl, by decide +kernel, by decide +kernel⟩
theorem drv_need_many (B : BM mg) (c_MOST : ∃ t, mg "MOST" = some (.int 9 t)) (c_is_whole : CallOk P w K mg base T 1 "is_whole" [("thing" : Str), ("low" : Str), ("high" : Str)] S_is_whole) (e_BadNumber : ExcOk K mg "BadNumber") (S : FnScope N_need_many [("many" : Str)] (defScope (top 25))) {f : Addr} (cdv : Value) (A : Around) (outer : List Env) (s : Shared) (H : Hp) (E : XK) (gd : Good (cxOf (L2N.CX P w) P w K mg base N_need_many "need_many" (defScope (top 25)) f cdv A outer s H E) ⟨T, mg, E⟩) (hr : Room 1 (A.deeper (envOfC "need_many" (defScope (top 25)) s.heap.objs.size f cdv))) :
    DSs (cxOf (L2N.CX P w) P w K mg base N_need_many "need_many" (defScope (top 25)) f cdv A outer s H E) ⟨T, mg, E⟩ (defBody (top 25)) w_need_many :=
  ss_one (s_if (t_not (t_val (d_call gd hr c_is_whole (by decide) (sl_cons (d_var 0) (sl_cons (d_int) (sl_cons (d_glob c_MOST) (sl_nil))))))) (ss_one (s_raise gd e_BadNumber)) (ss_nil))
theorem sc_need_both : FnScope N_need_both [("flight" : Str), ("wear" : Str), ("many" : Str)] (defScope (top 26)) := ⟨rfl, rfl, rfl, by decide +kernel, rfl, by decide +kernel, by decide +kernel⟩
theorem drv_need_both (B : BM mg) (c_need_wear : CallOk P w K mg base T 4 "need_wear" [("flight" : Str), ("wear" : Str)] S_need_wear) (c_need_many : CallOk P w K mg base T 2 "need_many" [("many" : Str)] S_need_many) (S : FnScope N_need_both [("flight" : Str), ("wear" : Str), ("many" : Str)] (defScope (top 26))) {f : Addr} (cdv : Value) (A : Around) (outer : List Env) (s : Shared) (H : Hp) (E : XK) (gd : Good (cxOf (L2N.CX P w) P w K mg base N_need_both "need_both" (defScope (top 26)) f cdv A outer s H E) ⟨T, mg, E⟩) (hr : Room 4 (A.deeper (envOfC "need_both" (defScope (top 26)) s.heap.objs.size f cdv))) :
    DSs (cxOf (L2N.CX P w) P w K mg base N_need_both "need_both" (defScope (top 26)) f cdv A outer s H E) ⟨T, mg, E⟩ (defBody (top 26)) w_need_both :=
  ss_cons (s_expr (d_call gd hr c_need_wear (by decide) (sl_cons (d_var 0) (sl_cons (d_var 1) (sl_nil)))))
    (ss_one (s_expr (d_call gd hr c_need_many (by decide) (sl_cons (d_var 2) (sl_nil)))))
theorem sc_rows_of : FnScope N_rows_of [("steps" : Str), ("longest" : Str)] (defScope (top 28)) := ⟨rfl, rfl, rfl, by decide +kernel, rfl, by decide +kernel, by decide +kernel⟩
theorem drv_rows_of (B : BM mg) (S : FnScope N_rows_of [("steps" : Str), ("longest" : Str)] (defScope (top 28))) {f : Addr} (cdv : Value) (A : Around) (outer : List Env) (s : Shared) (H : Hp) (E : XK) (gd : Good (cxOf (L2N.CX P w) P w K mg base N_rows_of "rows_of" (defScope (top 28)) f cdv A outer s H E) ⟨T, mg, E⟩) (hr : Room 0 (A.deeper (envOfC "rows_of" (defScope (top 28)) s.heap.objs.size f cdv))) :
    DSs (cxOf (L2N.CX P w) P w K mg base N_rows_of "rows_of" (defScope (top 28)) f cdv A outer s H E) ⟨T, mg, E⟩ (defBody (top 28)) w_rows_of :=
  ss_one (s_ret (d_ofL (l_rng2 gd B.list B.range (d_int) (d_add (d_sub (d_var 0) (d_var 1)) (d_int)))))
theorem sc_within : FnScope N_within [("row" : Str), ("longest" : Str), ("first" : Str)] (defScope (top 29)) := ⟨rfl, rfl, rfl, by decide +kernel, rfl, by decide +kernel, by decide +kernel⟩
theorem drv_within (B : BM mg) (S : FnScope N_within [("row" : Str), ("longest" : Str), ("first" : Str)] (defScope (top 29))) {f : Addr} (cdv : Value) (A : Around) (outer : List Env) (s : Shared) (H : Hp) (E : XK) (gd : Good (cxOf (L2N.CX P w) P w K mg base N_within "within" (defScope (top 29)) f cdv A outer s H E) ⟨T, mg, E⟩) (hr : Room 0 (A.deeper (envOfC "within" (defScope (top 29)) s.heap.objs.size f cdv))) :
    DSs (cxOf (L2N.CX P w) P w K mg base N_within "within" (defScope (top 29)) f cdv A outer s H E) ⟨T, mg, E⟩ (defBody (top 29)) w_within :=
  ss_one (s_ret (d_sum gd B.sum (d_cut (d_var 0) (o_some (d_sub (d_var 2) (d_int))) (o_some (d_add (d_sub (d_var 2) (d_int)) (d_var 1))))))
theorem sc_bar_of : FnScope N_bar_of [("flight" : Str), ("lows" : Str), ("highs" : Str), ("many" : Str)] (defScope (top 30)) := ⟨rfl, rfl, rfl, by decide +kernel, rfl, by decide +kernel, by decide +kernel⟩
theorem drv_bar_of (B : BM mg) (c_rows_of : CallOk P w K mg base T 1 "rows_of" [("steps" : Str), ("longest" : Str)] S_rows_of) (c_within : CallOk P w K mg base T 1 "within" [("row" : Str), ("longest" : Str), ("first" : Str)] S_within) (S : FnScope N_bar_of [("flight" : Str), ("lows" : Str), ("highs" : Str), ("many" : Str)] (defScope (top 30))) {f : Addr} (cdv : Value) (A : Around) (outer : List Env) (s : Shared) (H : Hp) (E : XK) (gd : Good (cxOf (L2N.CX P w) P w K mg base N_bar_of "bar_of" (defScope (top 30)) f cdv A outer s H E) ⟨T, mg, E⟩) (hr : Room 1 (A.deeper (envOfC "bar_of" (defScope (top 30)) s.heap.objs.size f cdv))) :
    DSs (cxOf (L2N.CX P w) P w K mg base N_bar_of "bar_of" (defScope (top 30)) f cdv A outer s H E) ⟨T, mg, E⟩ (defBody (top 30)) w_bar_of :=
  ss_cons (s_unp (vs := [4, 5]) (d_var 0) (pg_tup rfl (pgs_cons (pg_name (i := 4) S.nd rfl (Or.inl rfl)) (pgs_cons (pg_name (i := 5) S.nd rfl (Or.inr rfl)) (pgs_nil)))) (tg_tup2 (tg_name (by decide)) (tg_name (by decide))))
    (ss_cons (s_lcAny (i := 6) gd S.nd (own := [("step", 9)]) (i_rng2 B.range (d_int) (d_add (d_var 4) (d_int))) (blkOk_by (N := N_bar_of) (sc := defScope (top 30)) (by decide +kernel)) (tg_name (by decide)) (fun _ _ _ _ _ => pg_name (i := 9) S.nd rfl (Or.inl rfl)) (fun _ _ _ _ _ g1 => ts_one (t_gt (d_ix (d_var 1) (d_sub (d_var 9) (d_int))) (d_var 3))) (fun _ _ _ _ _ g1 => d_var 9) lc_data (sw_true rfl rfl rfl (by decide +kernel)))
    (ss_cons (s_if (t_ne hr (d_var 6) (d_ofL (l_lst (a_nil)))) (ss_one (s_ret (d_tup (a_cons (d_str) (a_cons (d_ix (d_var 6) (d_int)) (a_nil)))))) (ss_nil))
    (ss_cons (s_set (i := 7) S.nd (v_d (d_ofL (l_lc gd S.nd (own := [("one", 10)]) (i_seq (d_var 2)) (blkOk_by (N := N_bar_of) (sc := defScope (top 30)) (by decide +kernel)) (tg_name (by decide)) (fun _ _ _ _ _ => pg_name (i := 10) S.nd rfl (Or.inl rfl)) (fun _ _ _ _ _ g1 => ts_nil) (fun _ _ _ _ _ g1 => d_min2 g1 B.min (d_var 10) (d_var 3))))))
    (ss_cons (s_lcAny (i := 8) gd S.nd (own := [("first", 11)]) (i_seq (d_call gd hr c_rows_of (by decide) (sl_cons (d_var 4) (sl_cons (d_var 5) (sl_nil))))) (blkOk_by (N := N_bar_of) (sc := defScope (top 30)) (by decide +kernel)) (tg_name (by decide)) (fun _ _ _ _ _ => pg_name (i := 11) S.nd rfl (Or.inl rfl)) (fun _ _ _ _ _ g1 => ts_one (t_lt (d_call g1 hr c_within (by decide) (sl_cons (d_var 7) (sl_cons (d_var 5) (sl_cons (d_var 11) (sl_nil))))) (d_var 3))) (fun _ _ _ _ _ g1 => d_var 11) lc_data (sw_true rfl rfl rfl (by decide +kernel)))
    (ss_one (s_ret (d_ifExp (t_ne hr (d_var 8) (d_ofL (l_lst (a_nil)))) (d_tup (a_cons (d_str) (a_cons (d_ix (d_var 8) (d_int)) (a_nil)))) (d_none))))))))
theorem sc_do_make : FnScope N_do_make [("flight" : Str), ("wear" : Str), ("many" : Str)] (defScope (top 31)) := ⟨rfl, rfl, rfl, by decide +kernel, rfl, by decide +kernel, by decide +kernel⟩
theorem drv_do_make (B : BM mg) (c_bar_of : CallOk P w K mg base T 2 "bar_of" [("flight" : Str), ("lows" : Str), ("highs" : Str), ("many" : Str)] S_bar_of) (S : FnScope N_do_make [("flight" : Str), ("wear" : Str), ("many" : Str)] (defScope (top 31))) {f : Addr} (cdv : Value) (A : Around) (outer : List Env) (s : Shared) (H : Hp) (E : XK) (gd : Good (cxOf (L2N.CX P w) P w K mg base N_do_make "do_make" (defScope (top 31)) f cdv A outer s H E) ⟨T, mg, E⟩) (hr : Room 2 (A.deeper (envOfC "do_make" (defScope (top 31)) s.heap.objs.size f cdv))) :
    DSs (cxOf (L2N.CX P w) P w K mg base N_do_make "do_make" (defScope (top 31)) f cdv A outer s H E) ⟨T, mg, E⟩ (defBody (top 31)) w_do_make :=
  ss_one (s_ret (d_is (d_call gd hr c_bar_of (by decide) (sl_cons (d_var 0) (sl_cons (d_var 1) (sl_cons (d_var 1) (sl_cons (d_var 2) (sl_nil)))))) (d_none)))
theorem sc_turns_of : FnScope N_turns_of [("flight" : Str), ("wear" : Str), ("many" : Str)] (defScope (top 33)) := ⟨rfl, rfl, rfl, by decide +kernel, rfl, by decide +kernel, by decide +kernel⟩
theorem drv_turns_of (B : BM mg) (S : FnScope N_turns_of [("flight" : Str), ("wear" : Str), ("many" : Str)] (defScope (top 33))) {f : Addr} (cdv : Value) (A : Around) (outer : List Env) (s : Shared) (H : Hp) (E : XK) (gd : Good (cxOf (L2N.CX P w) P w K mg base N_turns_of "turns_of" (defScope (top 33)) f cdv A outer s H E) ⟨T, mg, E⟩) (hr : Room 0 (A.deeper (envOfC "turns_of" (defScope (top 33)) s.heap.objs.size f cdv))) :
    DSs (cxOf (L2N.CX P w) P w K mg base N_turns_of "turns_of" (defScope (top 33)) f cdv A outer s H E) ⟨T, mg, E⟩ (defBody (top 33)) w_turns_of :=
  ss_cons (s_par (i := 3) (j := 4) gd S.nd (v_d (d_ofL (l_rng1 gd B.list B.range (d_var 2)))) (v_l (l_lc gd S.nd (own := [("turn", 9)]) (i_rng1 B.range (d_var 2)) (blkOk_by (N := N_turns_of) (sc := defScope (top 33)) (by decide +kernel)) (tg_name (by decide)) (fun _ _ _ _ _ => pg_name (i := 9) S.nd rfl (Or.inl rfl)) (fun _ _ _ _ _ g1 => ts_nil) (fun _ _ _ _ _ g1 => d_tup (a_nil)))))
    (ss_cons (s_for gd (vs := [5, 6]) (i_enum B.enumerate (d_var 1)) (pg_tup rfl (pgs_cons (pg_name (i := 5) S.nd rfl (Or.inl rfl)) (pgs_cons (pg_name (i := 6) S.nd rfl (Or.inl rfl)) (pgs_nil)))) (tg_tup2 (tg_name (by decide)) (tg_name (by decide))) (ss_cons (s_set (i := 7) S.nd (v_d (d_cut (d_var 3) (o_none) (o_some (d_var 6)))))
    (ss_cons (s_for gd (vs := [8]) (i_seq (d_var 7)) (pg_name (i := 8) S.nd rfl (Or.inl rfl)) (tg_name (by decide)) (ss_one (s_put (i := 4) (d_add (d_ix (d_var 4) (d_var 8)) (d_tup (a_cons (d_add (d_var 5) (d_int)) (a_nil)))) (d_var 8))))
    (ss_one (s_set (i := 3) S.nd (v_d (d_add (d_cut (d_var 3) (o_some (d_var 6)) (o_none)) (d_var 7))))))))
    (ss_one (s_retV (d_var 4))))
theorem sc_less : FnScope N_less [("wear" : Str), ("walk" : Str)] (defScope (top 34)) := ⟨rfl, rfl, rfl, by decide +kernel, rfl, by decide +kernel, by decide +kernel⟩
theorem drv_less (B : BM mg) (S : FnScope N_less [("wear" : Str), ("walk" : Str)] (defScope (top 34))) {f : Addr} (cdv : Value) (A : Around) (outer : List Env) (s : Shared) (H : Hp) (E : XK) (gd : Good (cxOf (L2N.CX P w) P w K mg base N_less "less" (defScope (top 34)) f cdv A outer s H E) ⟨T, mg, E⟩) (hr : Room 0 (A.deeper (envOfC "less" (defScope (top 34)) s.heap.objs.size f cdv))) :
    DSs (cxOf (L2N.CX P w) P w K mg base N_less "less" (defScope (top 34)) f cdv A outer s H E) ⟨T, mg, E⟩ (defBody (top 34)) w_less :=
  ss_cons (s_set (i := 2) S.nd (v_d (d_tuple B.tuple (d_ofL (l_lc gd S.nd (own := [("step", 3), ("worn", 4)]) (i_enum B.enumerate (d_var 0)) (blkOk_by (N := N_less) (sc := defScope (top 34)) (by decide +kernel)) (tg_tup2 (tg_name (by decide)) (tg_name (by decide))) (fun _ _ _ _ _ => pg_tup rfl (pgs_cons (pg_name (i := 3) S.nd rfl (Or.inl rfl)) (pgs_cons (pg_name (i := 4) S.nd rfl (Or.inl rfl)) (pgs_nil)))) (fun _ _ _ _ _ g1 => ts_nil) (fun _ _ _ _ _ g1 => d_sub (d_var 4) (d_intOf B.int (d_in hr (d_add (d_var 3) (d_int)) (d_var 1)))))))))
    (ss_one (s_ret (d_ifExp (t_ge (d_min gd hr B.min (d_var 2)) (d_int)) (d_var 2) (d_none))))
theorem sc_need_made : FnScope N_need_made [("flight" : Str), ("wear" : Str), ("many" : Str)] (defScope (top 36)) := ⟨rfl, rfl, rfl, by decide +kernel, rfl, by decide +kernel, by decide +kernel⟩
theorem drv_need_made (B : BM mg) (c_do_make : CallOk P w K mg base T 3 "do_make" [("flight" : Str), ("wear" : Str), ("many" : Str)] S_do_make) (e_Nothing : ExcOk K mg "Nothing") (S : FnScope N_need_made [("flight" : Str), ("wear" : Str), ("many" : Str)] (defScope (top 36))) {f : Addr} (cdv : Value) (A : Around) (outer : List Env) (s : Shared) (H : Hp) (E : XK) (gd : Good (cxOf (L2N.CX P w) P w K mg base N_need_made "need_made" (defScope (top 36)) f cdv A outer s H E) ⟨T, mg, E⟩) (hr : Room 3 (A.deeper (envOfC "need_made" (defScope (top 36)) s.heap.objs.size f cdv))) :
    DSs (cxOf (L2N.CX P w) P w K mg base N_need_made "need_made" (defScope (top 36)) f cdv A outer s H E) ⟨T, mg, E⟩ (defBody (top 36)) w_need_made :=
  ss_one (s_if (t_not (t_val (d_call gd hr c_do_make (by decide) (sl_cons (d_var 0) (sl_cons (d_var 1) (sl_cons (d_var 2) (sl_nil))))))) (ss_one (s_raise gd e_Nothing)) (ss_nil))
theorem sc_left_behind : FnScope N_left_behind [("wear" : Str), ("walk" : Str), ("times" : Str)] (defScope (top 37)) := ⟨rfl, rfl, rfl, by decide +kernel, rfl, by decide +kernel, by decide +kernel⟩
theorem drv_left_behind (B : BM mg) (c_less : CallOk P w K mg base T 1 "less" [("wear" : Str), ("walk" : Str)] S_less) (S : FnScope N_left_behind [("wear" : Str), ("walk" : Str), ("times" : Str)] (defScope (top 37))) {f : Addr} (cdv : Value) (A : Around) (outer : List Env) (s : Shared) (H : Hp) (E : XK) (gd : Good (cxOf (L2N.CX P w) P w K mg base N_left_behind "left_behind" (defScope (top 37)) f cdv A outer s H E) ⟨T, mg, E⟩) (hr : Room 1 (A.deeper (envOfC "left_behind" (defScope (top 37)) s.heap.objs.size f cdv))) :
    DSs (cxOf (L2N.CX P w) P w K mg base N_left_behind "left_behind" (defScope (top 37)) f cdv A outer s H E) ⟨T, mg, E⟩ (defBody (top 37)) w_left_behind :=
  ss_cons (s_for gd (vs := [3]) (i_rng1 B.range (d_var 2)) (pg_name (i := 3) S.nd rfl (Or.inl rfl)) (tg_name (by decide)) (ss_one (s_if (t_isN (d_var 0) (d_none)) (ss_one (s_set (i := 0) S.nd (v_d (d_call gd hr c_less (by decide) (sl_cons (d_var 0) (sl_cons (d_var 1) (sl_nil))))))) (ss_nil))))
    (ss_one (s_ret (d_var 0)))
theorem sc_has_so_many : FnScope N_has_so_many [("flight" : Str), ("wear" : Str), ("many" : Str), ("walk" : Str), ("times" : Str)] (defScope (top 38)) := ⟨rfl, rfl, rfl, by decide +kernel, rfl, by decide +kernel, by decide +kernel⟩
theorem drv_has_so_many (B : BM mg) (c_left_behind : CallOk P w K mg base T 2 "left_behind" [("wear" : Str), ("walk" : Str), ("times" : Str)] S_left_behind) (c_do_make : CallOk P w K mg base T 3 "do_make" [("flight" : Str), ("wear" : Str), ("many" : Str)] S_do_make) (S : FnScope N_has_so_many [("flight" : Str), ("wear" : Str), ("many" : Str), ("walk" : Str), ("times" : Str)] (defScope (top 38))) {f : Addr} (cdv : Value) (A : Around) (outer : List Env) (s : Shared) (H : Hp) (E : XK) (gd : Good (cxOf (L2N.CX P w) P w K mg base N_has_so_many "has_so_many" (defScope (top 38)) f cdv A outer s H E) ⟨T, mg, E⟩) (hr : Room 3 (A.deeper (envOfC "has_so_many" (defScope (top 38)) s.heap.objs.size f cdv))) :
    DSs (cxOf (L2N.CX P w) P w K mg base N_has_so_many "has_so_many" (defScope (top 38)) f cdv A outer s H E) ⟨T, mg, E⟩ (defBody (top 38)) w_has_so_many :=
  ss_cons (s_set (i := 5) S.nd (v_d (d_call gd hr c_left_behind (by decide) (sl_cons (d_var 1) (sl_cons (d_var 3) (sl_cons (d_var 4) (sl_nil)))))))
    (ss_one (s_ret (d_and (d_le (d_var 4) (d_var 2)) (d_and (d_isN (d_var 5) (d_none)) (d_one (d_call gd hr c_do_make (by decide) (sl_cons (d_var 0) (sl_cons (d_var 5) (sl_cons (d_sub (d_var 2) (d_var 4)) (sl_nil))))))))))
theorem sc_may_go : FnScope N_may_go [("flight" : Str), ("wear" : Str), ("many" : Str)] (defScope (top 39)) := ⟨rfl, rfl, rfl, by decide +kernel, rfl, by decide +kernel, by decide +kernel⟩
theorem drv_may_go (B : BM mg) (c_need_both : CallOk P w K mg base T 5 "need_both" [("flight" : Str), ("wear" : Str), ("many" : Str)] S_need_both) (c_need_made : CallOk P w K mg base T 4 "need_made" [("flight" : Str), ("wear" : Str), ("many" : Str)] S_need_made) (c_every_walk : CallOk P w K mg base T 1 "every_walk" [("flight" : Str)] S_every_walk) (c_has_so_many : CallOk P w K mg base T 4 "has_so_many" [("flight" : Str), ("wear" : Str), ("many" : Str), ("walk" : Str), ("times" : Str)] S_has_so_many) (S : FnScope N_may_go [("flight" : Str), ("wear" : Str), ("many" : Str)] (defScope (top 39))) {f : Addr} (cdv : Value) (A : Around) (outer : List Env) (s : Shared) (H : Hp) (E : XK) (gd : Good (cxOf (L2N.CX P w) P w K mg base N_may_go "may_go" (defScope (top 39)) f cdv A outer s H E) ⟨T, mg, E⟩) (hr : Room 5 (A.deeper (envOfC "may_go" (defScope (top 39)) s.heap.objs.size f cdv))) :
    DSs (cxOf (L2N.CX P w) P w K mg base N_may_go "may_go" (defScope (top 39)) f cdv A outer s H E) ⟨T, mg, E⟩ (defBody (top 39)) w_may_go :=
  ss_cons (s_expr (d_call gd hr c_need_both (by decide) (sl_cons (d_var 0) (sl_cons (d_var 1) (sl_cons (d_var 2) (sl_nil))))))
    (ss_cons (s_expr (d_call gd hr c_need_made (by decide) (sl_cons (d_var 0) (sl_cons (d_var 1) (sl_cons (d_var 2) (sl_nil))))))
    (ss_one (s_ret (d_ofL (l_lc gd S.nd (own := [("walk", 3)]) (i_seq (d_call gd hr c_every_walk (by decide) (sl_cons (d_var 0) (sl_nil)))) (blkOk_by (N := N_may_go) (sc := defScope (top 39)) (by decide +kernel)) (tg_name (by decide)) (fun _ _ _ _ _ => pg_name (i := 3) S.nd rfl (Or.inl rfl)) (fun _ _ _ _ _ g1 => ts_one (t_val (d_call g1 hr c_has_so_many (by decide) (sl_cons (d_var 0) (sl_cons (d_var 1) (sl_cons (d_var 2) (sl_cons (d_var 3) (sl_cons (d_int) (sl_nil))))))))) (fun _ _ _ _ _ g1 => d_var 3))))))
theorem sc_all_times : FnScope N_all_times [("flight" : Str), ("wear" : Str), ("many" : Str), ("walk" : Str)] (defScope (top 40)) := ⟨rfl, rfl, rfl, by decide +kernel, rfl, by decide +kernel, by decide +kernel⟩
theorem drv_all_times (B : BM mg) (c_has_so_many : CallOk P w K mg base T 4 "has_so_many" [("flight" : Str), ("wear" : Str), ("many" : Str), ("walk" : Str), ("times" : Str)] S_has_so_many) (S : FnScope N_all_times [("flight" : Str), ("wear" : Str), ("many" : Str), ("walk" : Str)] (defScope (top 40))) {f : Addr} (cdv : Value) (A : Around) (outer : List Env) (s : Shared) (H : Hp) (E : XK) (gd : Good (cxOf (L2N.CX P w) P w K mg base N_all_times "all_times" (defScope (top 40)) f cdv A outer s H E) ⟨T, mg, E⟩) (hr : Room 4 (A.deeper (envOfC "all_times" (defScope (top 40)) s.heap.objs.size f cdv))) :
    DSs (cxOf (L2N.CX P w) P w K mg base N_all_times "all_times" (defScope (top 40)) f cdv A outer s H E) ⟨T, mg, E⟩ (defBody (top 40)) w_all_times :=
  ss_one (s_ret (d_ofL (l_lc gd S.nd (own := [("times", 4)]) (i_rng1 B.range (d_add (d_var 2) (d_int))) (blkOk_by (N := N_all_times) (sc := defScope (top 40)) (by decide +kernel)) (tg_name (by decide)) (fun _ _ _ _ _ => pg_name (i := 4) S.nd rfl (Or.inl rfl)) (fun _ _ _ _ _ g1 => ts_one (t_val (d_call g1 hr c_has_so_many (by decide) (sl_cons (d_var 0) (sl_cons (d_var 1) (sl_cons (d_var 2) (sl_cons (d_var 3) (sl_cons (d_var 4) (sl_nil))))))))) (fun _ _ _ _ _ g1 => d_var 4))))
theorem sc_at_most_so : FnScope N_at_most_so [("flight" : Str), ("wear" : Str), ("many" : Str), ("walk" : Str)] (defScope (top 41)) := ⟨rfl, rfl, rfl, by decide +kernel, rfl, by decide +kernel, by decide +kernel⟩
theorem drv_at_most_so (B : BM mg) (c_need_both : CallOk P w K mg base T 5 "need_both" [("flight" : Str), ("wear" : Str), ("many" : Str)] S_need_both) (c_need_walk : CallOk P w K mg base T 3 "need_walk" [("flight" : Str), ("walk" : Str)] S_need_walk) (c_need_made : CallOk P w K mg base T 4 "need_made" [("flight" : Str), ("wear" : Str), ("many" : Str)] S_need_made) (c_all_times : CallOk P w K mg base T 5 "all_times" [("flight" : Str), ("wear" : Str), ("many" : Str), ("walk" : Str)] S_all_times) (S : FnScope N_at_most_so [("flight" : Str), ("wear" : Str), ("many" : Str), ("walk" : Str)] (defScope (top 41))) {f : Addr} (cdv : Value) (A : Around) (outer : List Env) (s : Shared) (H : Hp) (E : XK) (gd : Good (cxOf (L2N.CX P w) P w K mg base N_at_most_so "at_most_so" (defScope (top 41)) f cdv A outer s H E) ⟨T, mg, E⟩) (hr : Room 5 (A.deeper (envOfC "at_most_so" (defScope (top 41)) s.heap.objs.size f cdv))) :
    DSs (cxOf (L2N.CX P w) P w K mg base N_at_most_so "at_most_so" (defScope (top 41)) f cdv A outer s H E) ⟨T, mg, E⟩ (defBody (top 41)) w_at_most_so :=
  ss_cons (s_expr (d_call gd hr c_need_both (by decide) (sl_cons (d_var 0) (sl_cons (d_var 1) (sl_cons (d_var 2) (sl_nil))))))
    (ss_cons (s_expr (d_call gd hr c_need_walk (by decide) (sl_cons (d_var 0) (sl_cons (d_var 3) (sl_nil)))))
    (ss_cons (s_expr (d_call gd hr c_need_made (by decide) (sl_cons (d_var 0) (sl_cons (d_var 1) (sl_cons (d_var 2) (sl_nil))))))
    (ss_one (s_ret (d_ix (d_call gd hr c_all_times (by decide) (sl_cons (d_var 0) (sl_cons (d_var 1) (sl_cons (d_var 2) (sl_cons (d_var 3) (sl_nil)))))) (d_neg (d_int)))))))
theorem sc_bag_with_walk : FnScope N_bag_with_walk [("flight" : Str), ("wear" : Str), ("many" : Str), ("walk" : Str), ("times" : Str)] (defScope (top 42)) := ⟨rfl, rfl, rfl, by decide +kernel, rfl, by decide +kernel, by decide +kernel⟩
theorem drv_bag_with_walk (B : BM mg) (c_MOST : ∃ t, mg "MOST" = some (.int 9 t)) (c_need_both : CallOk P w K mg base T 5 "need_both" [("flight" : Str), ("wear" : Str), ("many" : Str)] S_need_both) (c_need_walk : CallOk P w K mg base T 3 "need_walk" [("flight" : Str), ("walk" : Str)] S_need_walk) (c_is_whole : CallOk P w K mg base T 1 "is_whole" [("thing" : Str), ("low" : Str), ("high" : Str)] S_is_whole) (c_need_made : CallOk P w K mg base T 4 "need_made" [("flight" : Str), ("wear" : Str), ("many" : Str)] S_need_made) (c_has_so_many : CallOk P w K mg base T 4 "has_so_many" [("flight" : Str), ("wear" : Str), ("many" : Str), ("walk" : Str), ("times" : Str)] S_has_so_many) (c_turns_of : CallOk P w K mg base T 1 "turns_of" [("flight" : Str), ("wear" : Str), ("many" : Str)] S_turns_of) (c_left_behind : CallOk P w K mg base T 2 "left_behind" [("wear" : Str), ("walk" : Str), ("times" : Str)] S_left_behind) (e_BadNumber : ExcOk K mg "BadNumber") (S : FnScope N_bag_with_walk [("flight" : Str), ("wear" : Str), ("many" : Str), ("walk" : Str), ("times" : Str)] (defScope (top 42))) {f : Addr} (cdv : Value) (A : Around) (outer : List Env) (s : Shared) (H : Hp) (E : XK) (gd : Good (cxOf (L2N.CX P w) P w K mg base N_bag_with_walk "bag_with_walk" (defScope (top 42)) f cdv A outer s H E) ⟨T, mg, E⟩) (hr : Room 5 (A.deeper (envOfC "bag_with_walk" (defScope (top 42)) s.heap.objs.size f cdv))) :
    DSs (cxOf (L2N.CX P w) P w K mg base N_bag_with_walk "bag_with_walk" (defScope (top 42)) f cdv A outer s H E) ⟨T, mg, E⟩ (defBody (top 42)) w_bag_with_walk :=
  ss_cons (s_expr (d_call gd hr c_need_both (by decide) (sl_cons (d_var 0) (sl_cons (d_var 1) (sl_cons (d_var 2) (sl_nil))))))
    (ss_cons (s_expr (d_call gd hr c_need_walk (by decide) (sl_cons (d_var 0) (sl_cons (d_var 3) (sl_nil)))))
    (ss_cons (s_if (t_not (t_val (d_call gd hr c_is_whole (by decide) (sl_cons (d_var 4) (sl_cons (d_int) (sl_cons (d_glob c_MOST) (sl_nil))))))) (ss_one (s_raise gd e_BadNumber)) (ss_nil))
    (ss_cons (s_expr (d_call gd hr c_need_made (by decide) (sl_cons (d_var 0) (sl_cons (d_var 1) (sl_cons (d_var 2) (sl_nil))))))
    (ss_cons (s_if (t_not (t_val (d_call gd hr c_has_so_many (by decide) (sl_cons (d_var 0) (sl_cons (d_var 1) (sl_cons (d_var 2) (sl_cons (d_var 3) (sl_cons (d_var 4) (sl_nil))))))))) (ss_one (s_ret (d_none))) (ss_nil))
    (ss_one (s_ret (d_add (d_ofL (l_rep (d_ofL (l_lst (a_cons (d_var 3) (a_nil)))) (d_var 4))) (d_call gd hr c_turns_of (by decide) (sl_cons (d_var 0) (sl_cons (d_call gd hr c_left_behind (by decide) (sl_cons (d_var 1) (sl_cons (d_var 3) (sl_cons (d_var 4) (sl_nil))))) (sl_cons (d_sub (d_var 2) (d_var 4)) (sl_nil))))))))))))
theorem sc_rest_of : FnScope N_rest_of [("flight" : Str), ("wear" : Str), ("many" : Str), ("walk" : Str)] (defScope (top 43)) := ⟨rfl, rfl, rfl, by decide +kernel, rfl, by decide +kernel, by decide +kernel⟩
theorem drv_rest_of (B : BM mg) (c_need_both : CallOk P w K mg base T 5 "need_both" [("flight" : Str), ("wear" : Str), ("many" : Str)] S_need_both) (c_need_walk : CallOk P w K mg base T 3 "need_walk" [("flight" : Str), ("walk" : Str)] S_need_walk) (c_need_made : CallOk P w K mg base T 4 "need_made" [("flight" : Str), ("wear" : Str), ("many" : Str)] S_need_made) (c_all_times : CallOk P w K mg base T 5 "all_times" [("flight" : Str), ("wear" : Str), ("many" : Str), ("walk" : Str)] S_all_times) (S : FnScope N_rest_of [("flight" : Str), ("wear" : Str), ("many" : Str), ("walk" : Str)] (defScope (top 43))) {f : Addr} (cdv : Value) (A : Around) (outer : List Env) (s : Shared) (H : Hp) (E : XK) (gd : Good (cxOf (L2N.CX P w) P w K mg base N_rest_of "rest_of" (defScope (top 43)) f cdv A outer s H E) ⟨T, mg, E⟩) (hr : Room 5 (A.deeper (envOfC "rest_of" (defScope (top 43)) s.heap.objs.size f cdv))) :
    DSs (cxOf (L2N.CX P w) P w K mg base N_rest_of "rest_of" (defScope (top 43)) f cdv A outer s H E) ⟨T, mg, E⟩ (defBody (top 43)) w_rest_of :=
  ss_cons (s_expr (d_call gd hr c_need_both (by decide) (sl_cons (d_var 0) (sl_cons (d_var 1) (sl_cons (d_var 2) (sl_nil))))))
    (ss_cons (s_expr (d_call gd hr c_need_walk (by decide) (sl_cons (d_var 0) (sl_cons (d_var 3) (sl_nil)))))
    (ss_cons (s_expr (d_call gd hr c_need_made (by decide) (sl_cons (d_var 0) (sl_cons (d_var 1) (sl_cons (d_var 2) (sl_nil))))))
    (ss_one (s_ret (d_call gd hr c_all_times (by decide) (sl_cons (d_var 0) (sl_cons (d_var 1) (sl_cons (d_var 2) (sl_cons (d_var 3) (sl_nil))))))))))
theorem sc_lw_drawn : FnScope N_lw_drawn [("cell" : Str), ("k" : Str)] (defScope (top 46)) := ⟨rfl, rfl, rfl, by decide +kernel, rfl, by decide +kernel, by decide +kernel⟩
theorem drv_lw_drawn (B : BM mg) (S : FnScope N_lw_drawn [("cell" : Str), ("k" : Str)] (defScope (top 46))) {f : Addr} (cdv : Value) (A : Around) (outer : List Env) (s : Shared) (H : Hp) (E : XK) (gd : Good (cxOf (L2N.CX P w) P w K mg base N_lw_drawn "_law_drawn" (defScope (top 46)) f cdv A outer s H E) ⟨T, mg, E⟩) (hr : Room 0 (A.deeper (envOfC "_law_drawn" (defScope (top 46)) s.heap.objs.size f cdv))) :
    DSs (cxOf (L2N.CX P w) P w K mg base N_lw_drawn "_law_drawn" (defScope (top 46)) f cdv A outer s H E) ⟨T, mg, E⟩ (defBody (top 46)) w_lw_drawn :=
  ss_cons (s_set (i := 2) S.nd (v_d (d_mod (d_add (d_mulA (d_var 0) (d_int)) (d_mulA (d_add (d_var 1) (d_int)) (d_int))) (d_int))))
    (ss_cons (s_set (i := 2) S.nd (v_d (d_mod (d_mulA (d_var 2) (d_var 2)) (d_int))))
    (ss_cons (s_set (i := 2) S.nd (v_d (d_mulA (d_mulA (d_add (d_mod (d_var 2) (d_int)) (d_int)) (d_add (d_divA (d_var 2) (d_int)) (d_int))) (d_var 2))))
    (ss_one (s_ret (d_mod (d_var 2) (d_int))))))
theorem sc_lw_roll : FnScope N_lw_roll [("dice" : Str), ("many" : Str)] (defScope (top 47)) := ⟨rfl, rfl, rfl, by decide +kernel, rfl, by decide +kernel, by decide +kernel⟩
theorem drv_lw_roll (B : BM mg) (c_lw_drawn : CallOk P w K mg base T 1 "_law_drawn" [("cell" : Str), ("k" : Str)] S_lw_drawn) (S : FnScope N_lw_roll [("dice" : Str), ("many" : Str)] (defScope (top 47))) {f : Addr} (cdv : Value) (A : Around) (outer : List Env) (s : Shared) (H : Hp) (E : XK) (gd : Good (cxOf (L2N.CX P w) P w K mg base N_lw_roll "_law_roll" (defScope (top 47)) f cdv A outer s H E) ⟨T, mg, E⟩) (hr : Room 1 (A.deeper (envOfC "_law_roll" (defScope (top 47)) s.heap.objs.size f cdv))) :
    DSs (cxOf (L2N.CX P w) P w K mg base N_lw_roll "_law_roll" (defScope (top 47)) f cdv A outer s H E) ⟨T, mg, E⟩ (defBody (top 47)) w_lw_roll :=
  ss_cons (s_if (t_ge (d_die 0) (d_pow (d_int) (d_int))) (ss_cons (s_set (i := 2) S.nd (v_d (d_mod (d_die 0) (d_var 1))))
    (ss_cons (s_die (i := 0) (d_divA (d_die 0) (d_var 1)))
    (ss_one (s_ret (d_var 2))))) (ss_nil))
    (ss_cons (s_die (i := 0) (d_add (d_die 0) (d_int)))
    (ss_one (s_ret (d_mod (d_divA (d_call gd hr c_lw_drawn (by decide) (sl_cons (d_die 0) (sl_cons (d_die 0) (sl_nil)))) (d_int)) (d_var 1)))))
theorem sc_lw_any_flight : FnScope N_lw_any_flight [("dice" : Str), ("high" : Str)] (defScope (top 51)) := ⟨rfl, rfl, rfl, by decide +kernel, rfl, by decide +kernel, by decide +kernel⟩
theorem drv_lw_any_flight (B : BM mg) (c_lw_roll : CallOk P w K mg base T 2 "_law_roll" [("dice" : Str), ("many" : Str)] S_lw_roll) (S : FnScope N_lw_any_flight [("dice" : Str), ("high" : Str)] (defScope (top 51))) {f : Addr} (cdv : Value) (A : Around) (outer : List Env) (s : Shared) (H : Hp) (E : XK) (gd : Good (cxOf (L2N.CX P w) P w K mg base N_lw_any_flight "_law_any_flight" (defScope (top 51)) f cdv A outer s H E) ⟨T, mg, E⟩) (hr : Room 2 (A.deeper (envOfC "_law_any_flight" (defScope (top 51)) s.heap.objs.size f cdv))) :
    DSs (cxOf (L2N.CX P w) P w K mg base N_lw_any_flight "_law_any_flight" (defScope (top 51)) f cdv A outer s H E) ⟨T, mg, E⟩ (defBody (top 51)) w_lw_any_flight :=
  ss_one (s_ret (d_tup (a_cons (d_add (d_int) (d_call gd hr c_lw_roll (by decide) (sl_dice 0 (sl_cons (d_var 1) (sl_nil))))) (a_cons (d_add (d_int) (d_call gd hr c_lw_roll (by decide) (sl_dice 0 (sl_cons (d_int) (sl_nil))))) (a_nil)))))
theorem sc_lw_walks : FnScope N_lw_walks [("flight" : Str)] (defScope (top 52)) := ⟨rfl, rfl, rfl, by decide +kernel, rfl, by decide +kernel, by decide +kernel⟩
theorem drv_lw_walks (B : BM mg) (S : FnScope N_lw_walks [("flight" : Str)] (defScope (top 52))) {f : Addr} (cdv : Value) (A : Around) (outer : List Env) (s : Shared) (H : Hp) (E : XK) (gd : Good (cxOf (L2N.CX P w) P w K mg base N_lw_walks "_law_walks" (defScope (top 52)) f cdv A outer s H E) ⟨T, mg, E⟩) (hr : Room 0 (A.deeper (envOfC "_law_walks" (defScope (top 52)) s.heap.objs.size f cdv))) :
    DSs (cxOf (L2N.CX P w) P w K mg base N_lw_walks "_law_walks" (defScope (top 52)) f cdv A outer s H E) ⟨T, mg, E⟩ (defBody (top 52)) w_lw_walks :=
  ss_cons (s_unp (vs := [1, 2]) (d_var 0) (pg_tup rfl (pgs_cons (pg_name (i := 1) S.nd rfl (Or.inl rfl)) (pgs_cons (pg_name (i := 2) S.nd rfl (Or.inl rfl)) (pgs_nil)))) (tg_tup2 (tg_name (by decide)) (tg_name (by decide))))
    (ss_cons (s_par (i := 3) (j := 4) gd S.nd (v_d (d_ofL (l_lst (a_cons (d_tup (a_nil)) (a_nil))))) (v_l (l_lst (a_nil))))
    (ss_cons (s_for gd (vs := [5]) (i_rng2 B.range (d_int) (d_add (d_var 1) (d_int))) (pg_name (i := 5) S.nd rfl (Or.inr rfl)) (tg_name (by decide)) (ss_one (s_set (i := 3) S.nd (v_d (d_add (d_var 3) (d_ofL (l_lc gd S.nd (own := [("row", 6)]) (i_seq (d_var 3)) (blkOk_by (N := N_lw_walks) (sc := defScope (top 52)) (by decide +kernel)) (tg_name (by decide)) (fun _ _ _ _ _ => pg_name (i := 6) S.nd rfl (Or.inl rfl)) (fun _ _ _ _ _ g1 => ts_nil) (fun _ _ _ _ _ g1 => d_add (d_var 6) (d_tup (a_cons (d_var 5) (a_nil)))))))))))
    (ss_cons (s_for gd (vs := [6]) (i_seq (d_var 3)) (pg_name (i := 6) S.nd rfl (Or.inl rfl)) (tg_name (by decide)) (ss_cons (s_set (i := 7) S.nd (v_d (d_add (d_add (d_tup (a_cons (d_int) (a_nil))) (d_var 6)) (d_tup (a_cons (d_add (d_var 1) (d_int)) (a_nil))))))
    (ss_one (s_if (t_le (d_max gd hr B.max (d_ofL (l_lc gd S.nd (own := [("one", 8), ("other", 9)]) (i_zip B.zip (d_var 7) (d_cut (d_var 7) (o_some (d_int)) (o_none))) (blkOk_by (N := N_lw_walks) (sc := defScope (top 52)) (by decide +kernel)) (tg_tup2 (tg_name (by decide)) (tg_name (by decide))) (fun _ _ _ _ _ => pg_tup rfl (pgs_cons (pg_name (i := 8) S.nd rfl (Or.inl rfl)) (pgs_cons (pg_name (i := 9) S.nd rfl (Or.inl rfl)) (pgs_nil)))) (fun _ _ _ _ _ g1 => ts_nil) (fun _ _ _ _ _ g1 => d_sub (d_var 9) (d_var 8))))) (d_var 2)) (ss_one (s_app (i := 4) (d_var 6))) (ss_nil)))))
    (ss_one (s_retV (d_ofL (l_sorted hr B.sorted (d_var 4))))))))
theorem sc_lw_wear : FnScope N_lw_wear [("steps" : Str), ("walks" : Str)] (defScope (top 53)) := ⟨rfl, rfl, rfl, by decide +kernel, rfl, by decide +kernel, by decide +kernel⟩
theorem drv_lw_wear (B : BM mg) (S : FnScope N_lw_wear [("steps" : Str), ("walks" : Str)] (defScope (top 53))) {f : Addr} (cdv : Value) (A : Around) (outer : List Env) (s : Shared) (H : Hp) (E : XK) (gd : Good (cxOf (L2N.CX P w) P w K mg base N_lw_wear "_law_wear" (defScope (top 53)) f cdv A outer s H E) ⟨T, mg, E⟩) (hr : Room 0 (A.deeper (envOfC "_law_wear" (defScope (top 53)) s.heap.objs.size f cdv))) :
    DSs (cxOf (L2N.CX P w) P w K mg base N_lw_wear "_law_wear" (defScope (top 53)) f cdv A outer s H E) ⟨T, mg, E⟩ (defBody (top 53)) w_lw_wear :=
  ss_one (s_ret (d_tuple B.tuple (d_ofL (l_lc gd S.nd (own := [("step", 2)]) (i_rng2 B.range (d_int) (d_add (d_var 0) (d_int))) (blkOk_by (N := N_lw_wear) (sc := defScope (top 53)) (by decide +kernel)) (tg_name (by decide)) (fun _ _ _ _ _ => pg_name (i := 2) S.nd rfl (Or.inr rfl)) (fun _ _ _ _ _ g1 => ts_nil) (fun _ _ _ _ _ g1 => d_len B.len (d_ofL (l_lc g1 S.nd (own := [("walk", 3)]) (i_seq (d_var 1)) (blkOk_by (N := N_lw_wear) (sc := relS _ (defScope (top 53))) (by decide +kernel)) (tg_name (by decide)) (fun _ _ _ _ _ => pg_name (i := 3) S.nd rfl (Or.inl rfl)) (fun _ _ _ _ _ g2 => ts_one (t_in hr (d_var 2) (d_var 3))) (fun _ _ _ _ _ g2 => d_var 3))))))))
theorem sc_lw_any_walks : FnScope N_lw_any_walks [("dice" : Str), ("flight" : Str), ("many" : Str)] (defScope (top 54)) := ⟨rfl, rfl, rfl, by decide +kernel, rfl, by decide +kernel, by decide +kernel⟩
theorem drv_lw_any_walks (B : BM mg) (c_lw_walks : CallOk P w K mg base T 1 "_law_walks" [("flight" : Str)] S_lw_walks) (c_lw_roll : CallOk P w K mg base T 2 "_law_roll" [("dice" : Str), ("many" : Str)] S_lw_roll) (S : FnScope N_lw_any_walks [("dice" : Str), ("flight" : Str), ("many" : Str)] (defScope (top 54))) {f : Addr} (cdv : Value) (A : Around) (outer : List Env) (s : Shared) (H : Hp) (E : XK) (gd : Good (cxOf (L2N.CX P w) P w K mg base N_lw_any_walks "_law_any_walks" (defScope (top 54)) f cdv A outer s H E) ⟨T, mg, E⟩) (hr : Room 2 (A.deeper (envOfC "_law_any_walks" (defScope (top 54)) s.heap.objs.size f cdv))) :
    DSs (cxOf (L2N.CX P w) P w K mg base N_lw_any_walks "_law_any_walks" (defScope (top 54)) f cdv A outer s H E) ⟨T, mg, E⟩ (defBody (top 54)) w_lw_any_walks :=
  ss_cons (s_set (i := 3) S.nd (v_d (d_call gd hr c_lw_walks (by decide) (sl_cons (d_var 1) (sl_nil)))))
    (ss_one (s_ret (d_ofL (l_lc gd S.nd (own := [("turn", 4)]) (i_rng1 B.range (d_var 2)) (blkOk_by (N := N_lw_any_walks) (sc := defScope (top 54)) (by decide +kernel)) (tg_name (by decide)) (fun _ _ _ _ _ => pg_name (i := 4) S.nd rfl (Or.inl rfl)) (fun _ _ _ _ _ g1 => ts_nil) (fun _ _ _ _ _ g1 => d_ix (d_var 3) (d_call g1 hr c_lw_roll (by decide) (sl_dice 0 (sl_cons (d_len B.len (d_var 3)) (sl_nil)))))))))
theorem sc_lw_any_wear : FnScope N_lw_any_wear [("dice" : Str), ("flight" : Str), ("many" : Str)] (defScope (top 55)) := ⟨rfl, rfl, rfl, by decide +kernel, rfl, by decide +kernel, by decide +kernel⟩
theorem drv_lw_any_wear (B : BM mg) (c_lw_wear : CallOk P w K mg base T 1 "_law_wear" [("steps" : Str), ("walks" : Str)] S_lw_wear) (c_lw_any_walks : CallOk P w K mg base T 3 "_law_any_walks" [("dice" : Str), ("flight" : Str), ("many" : Str)] S_lw_any_walks) (c_lw_roll : CallOk P w K mg base T 2 "_law_roll" [("dice" : Str), ("many" : Str)] S_lw_roll) (S : FnScope N_lw_any_wear [("dice" : Str), ("flight" : Str), ("many" : Str)] (defScope (top 55))) {f : Addr} (cdv : Value) (A : Around) (outer : List Env) (s : Shared) (H : Hp) (E : XK) (gd : Good (cxOf (L2N.CX P w) P w K mg base N_lw_any_wear "_law_any_wear" (defScope (top 55)) f cdv A outer s H E) ⟨T, mg, E⟩) (hr : Room 3 (A.deeper (envOfC "_law_any_wear" (defScope (top 55)) s.heap.objs.size f cdv))) :
    DSs (cxOf (L2N.CX P w) P w K mg base N_lw_any_wear "_law_any_wear" (defScope (top 55)) f cdv A outer s H E) ⟨T, mg, E⟩ (defBody (top 55)) w_lw_any_wear :=
  ss_cons (s_set (i := 3) S.nd (v_d (d_call gd hr c_lw_wear (by decide) (sl_cons (d_ix (d_var 1) (d_int)) (sl_cons (d_call gd hr c_lw_any_walks (by decide) (sl_dice 0 (sl_cons (d_var 1) (sl_cons (d_var 2) (sl_nil))))) (sl_nil))))))
    (ss_cons (s_if (t_eq hr (d_call gd hr c_lw_roll (by decide) (sl_dice 0 (sl_cons (d_int) (sl_nil)))) (d_int)) (ss_cons (s_set (i := 4) S.nd (v_d (d_call gd hr c_lw_roll (by decide) (sl_dice 0 (sl_cons (d_ix (d_var 1) (d_int)) (sl_nil))))))
    (ss_cons (s_set (i := 5) S.nd (v_d (d_mod (d_add (d_add (d_ix (d_var 3) (d_var 4)) (d_int)) (d_call gd hr c_lw_roll (by decide) (sl_dice 0 (sl_cons (d_int) (sl_nil))))) (d_add (d_var 2) (d_int)))))
    (ss_one (s_set (i := 3) S.nd (v_d (d_add (d_add (d_cut (d_var 3) (o_none) (o_some (d_var 4))) (d_tup (a_cons (d_var 5) (a_nil)))) (d_cut (d_var 3) (o_some (d_add (d_var 4) (d_int))) (o_none)))))))) (ss_nil))
    (ss_one (s_ret (d_var 3))))
theorem sc_lw_bags : FnScope N_lw_bags [("flight" : Str), ("wear" : Str), ("many" : Str)] (defScope (top 56)) := ⟨rfl, rfl, rfl, by decide +kernel, rfl, by decide +kernel, by decide +kernel⟩
theorem drv_lw_bags (B : BM mg) (c_lw_walks : CallOk P w K mg base T 1 "_law_walks" [("flight" : Str)] S_lw_walks) (S : FnScope N_lw_bags [("flight" : Str), ("wear" : Str), ("many" : Str)] (defScope (top 56))) {f : Addr} (cdv : Value) (A : Around) (outer : List Env) (s : Shared) (H : Hp) (E : XK) (gd : Good (cxOf (L2N.CX P w) P w K mg base N_lw_bags "_law_bags" (defScope (top 56)) f cdv A outer s H E) ⟨T, mg, E⟩) (hr : Room 1 (A.deeper (envOfC "_law_bags" (defScope (top 56)) s.heap.objs.size f cdv))) :
    DSs (cxOf (L2N.CX P w) P w K mg base N_lw_bags "_law_bags" (defScope (top 56)) f cdv A outer s H E) ⟨T, mg, E⟩ (defBody (top 56)) w_lw_bags :=
  ss_cons (s_par (i := 3) (j := 4) gd S.nd (v_d (d_call gd hr c_lw_walks (by decide) (sl_cons (d_var 0) (sl_nil)))) (v_d (d_ofL (l_lst (a_cons (d_tup (a_cons (d_ofL (l_lst (a_nil))) (a_cons (d_var 1) (a_nil)))) (a_nil))))))
    (ss_cons (s_for gd (vs := [5]) (i_rng1 B.range (d_var 2)) (pg_name (i := 5) S.nd rfl (Or.inl rfl)) (tg_name (by decide)) (ss_cons (s_set (i := 6) S.nd (v_l (l_lst (a_nil))))
    (ss_cons (s_for gd (vs := [7, 8]) (i_seq (d_var 4)) (pg_tup rfl (pgs_cons (pg_name (i := 7) S.nd rfl (Or.inl rfl)) (pgs_cons (pg_name (i := 8) S.nd rfl (Or.inl rfl)) (pgs_nil)))) (tg_tup2 (tg_name (by decide)) (tg_name (by decide))) (ss_one (s_for gd (vs := [9]) (i_seq (d_var 3)) (pg_name (i := 9) S.nd rfl (Or.inr rfl)) (tg_name (by decide)) (ss_cons (s_set (i := 10) S.nd (v_d (d_tuple B.tuple (d_ofL (l_lc gd S.nd (own := [("at", 11), ("worn", 12)]) (i_enum B.enumerate (d_var 8)) (blkOk_by (N := N_lw_bags) (sc := defScope (top 56)) (by decide +kernel)) (tg_tup2 (tg_name (by decide)) (tg_name (by decide))) (fun _ _ _ _ _ => pg_tup rfl (pgs_cons (pg_name (i := 11) S.nd rfl (Or.inl rfl)) (pgs_cons (pg_name (i := 12) S.nd rfl (Or.inl rfl)) (pgs_nil)))) (fun _ _ _ _ _ g1 => ts_nil) (fun _ _ _ _ _ g1 => d_sub (d_var 12) (d_intOf B.int (d_in hr (d_add (d_var 11) (d_int)) (d_var 9)))))))))
    (ss_one (s_if (t_w (w_and (t_ge (d_min gd hr B.min (d_var 10)) (d_int)) (w_and1 (t_w (w_or (t_eq hr (d_var 7) (d_ofL (l_lst (a_nil)))) (w_or1 (t_leT hr (d_ix (d_var 7) (d_neg (d_int))) (d_var 9)))))))) (ss_one (s_app (i := 6) (d_tup (a_cons (d_add (d_var 7) (d_ofL (l_lst (a_cons (d_var 9) (a_nil))))) (a_cons (d_var 10) (a_nil)))))) (ss_nil)))))))
    (ss_one (s_frz (s_set (i := 4) S.nd (v_d (d_var 6))))))))
    (ss_one (s_ret (d_ofL (l_sorted hr B.sorted (d_ofL (l_lc gd S.nd (own := [("bag", 7), ("left", 8)]) (i_seq (d_var 4)) (blkOk_by (N := N_lw_bags) (sc := defScope (top 56)) (by decide +kernel)) (tg_tup2 (tg_name (by decide)) (tg_name (by decide))) (fun _ _ _ _ _ => pg_tup rfl (pgs_cons (pg_name (i := 7) S.nd rfl (Or.inl rfl)) (pgs_cons (pg_name (i := 8) S.nd rfl (Or.inl rfl)) (pgs_nil)))) (fun _ _ _ _ _ g1 => ts_one (t_eq hr (d_max g1 hr B.max (d_var 8)) (d_int))) (fun _ _ _ _ _ g1 => d_var 7))))))))
theorem sc_lw_which_refused : FnScope N_lw_which_refused [("flight" : Str), ("wear" : Str), ("many" : Str), ("walk" : Str)] (defScope (top 57)) := ⟨rfl, rfl, rfl, by decide +kernel, rfl, by decide +kernel, by decide +kernel⟩
theorem drv_lw_which_refused (B : BM mg) (c_at_most_so : CallOk P w K mg base T 6 "at_most_so" [("flight" : Str), ("wear" : Str), ("many" : Str), ("walk" : Str)] S_at_most_so) (c_rest_of : CallOk P w K mg base T 6 "rest_of" [("flight" : Str), ("wear" : Str), ("many" : Str), ("walk" : Str)] S_rest_of) (c_bag_with_walk : CallOk P w K mg base T 6 "bag_with_walk" [("flight" : Str), ("wear" : Str), ("many" : Str), ("walk" : Str), ("times" : Str)] S_bag_with_walk) (c_may_go : CallOk P w K mg base T 6 "may_go" [("flight" : Str), ("wear" : Str), ("many" : Str)] S_may_go) {C : Nat → Addr} (TD : ToldD K mg C) (TT : TermD P w K mg base C) (TB : LamX.TabB base mg (He.codeOf K (("_law_which_refused" : Str), none)) (He.tabOf K (He.codeOf K (("_law_which_refused" : Str), none)))) (mT : (He.tabOf K (He.codeOf K (("_law_which_refused" : Str), none)), lamQ "_law_which_refused") ∈ T) (uT : ∀ p ∈ T, p.1 = He.tabOf K (He.codeOf K (("_law_which_refused" : Str), none)) → p.2 = lamQ "_law_which_refused") (S : FnScope N_lw_which_refused [("flight" : Str), ("wear" : Str), ("many" : Str), ("walk" : Str)] (defScope (top 57))) (A : Around) (outer : List Env) (s : Shared) (H : Hp) (E : XK) (gd : Good (cxOf (L2N.CX P w) P w K mg base N_lw_which_refused "_law_which_refused" (defScope (top 57)) (He.fAd K (("_law_which_refused" : Str), none)) (.ref (He.codeOf K (("_law_which_refused" : Str), none))) A outer s H E) ⟨T, mg, E⟩) (hr : Room 8 (A.deeper (envOfC "_law_which_refused" (defScope (top 57)) s.heap.objs.size (He.fAd K (("_law_which_refused" : Str), none)) (.ref (He.codeOf K (("_law_which_refused" : Str), none)))))) :
    DSs (cxOf (L2N.CX P w) P w K mg base N_lw_which_refused "_law_which_refused" (defScope (top 57)) (He.fAd K (("_law_which_refused" : Str), none)) (.ref (He.codeOf K (("_law_which_refused" : Str), none))) A outer s H E) ⟨T, mg, E⟩ (defBody (top 57)) w_lw_which_refused :=
  ss_cons (s_for gd (vs := [4]) (i_seq (d_ofL (l_lst (a_cons (d_none) (a_cons (d_int) (a_cons (d_ofL (l_lst (a_nil))) (a_cons (d_tup (a_cons (d_int) (a_nil))) (a_cons (d_tup (a_cons (d_add (d_ix (d_var 0) (d_int)) (d_int)) (a_nil))) (a_cons (d_tup (a_cons (d_int) (a_cons (d_int) (a_nil)))) (a_cons (d_str) (a_nil))))))))))) (pg_name (i := 4) S.nd rfl (Or.inr rfl)) (tg_name (by decide)) (ss_cons (s_set (i := 5) S.nd (v_l (l_lst (a_cons (d_told (k := 6) gd (hr.mono (by decide)) TD TT TB rfl mT uT (LamX.lamS_by (sc := defScope (top 57)) (by decide +kernel)) rfl (fun _ _ _ _ _ => rfl) (fun _ _ _ _ _ _ _ hl gl => d_call gl hl c_at_most_so (by decide) (sl_cons (d_var 0) (sl_cons (d_var 1) (sl_cons (d_var 2) (sl_cons (d_var 4) (sl_nil))))))) (a_nil)))))
    (ss_cons (s_app (i := 5) (d_told (k := 6) gd (hr.mono (by decide)) TD TT TB rfl mT uT (LamX.lamS_by (sc := defScope (top 57)) (by decide +kernel)) rfl (fun _ _ _ _ _ => rfl) (fun _ _ _ _ _ _ _ hl gl => d_call gl hl c_rest_of (by decide) (sl_cons (d_var 0) (sl_cons (d_var 1) (sl_cons (d_var 2) (sl_cons (d_var 4) (sl_nil))))))))
    (ss_one (s_ifV (t_ne hr (d_add (d_var 5) (d_ofL (l_lst (a_cons (d_told (k := 6) gd (hr.mono (by decide)) TD TT TB rfl mT uT (LamX.lamS_by (sc := defScope (top 57)) (by decide +kernel)) rfl (fun _ _ _ _ _ => rfl) (fun _ _ _ _ _ _ _ hl gl => d_call gl hl c_bag_with_walk (by decide) (sl_cons (d_var 0) (sl_cons (d_var 1) (sl_cons (d_var 2) (sl_cons (d_var 4) (sl_cons (d_none) (sl_nil)))))))) (a_nil))))) (d_ofL (l_rep (d_ofL (l_lst (a_cons (d_tup (a_cons (d_str) (a_cons (d_str) (a_nil)))) (a_nil)))) (d_int)))) (ss_one (s_ret (d_bool))) (ss_nil))))))
    (ss_cons (s_for gd (vs := [4]) (i_seq (d_ofL (l_lst (a_cons (d_neg (d_int)) (a_cons (d_int) (a_cons (d_bool) (a_cons (d_none) (a_nil)))))))) (pg_name (i := 4) S.nd rfl (Or.inr rfl)) (tg_name (by decide)) (ss_cons (s_if (t_ne hr (d_told (k := 6) gd (hr.mono (by decide)) TD TT TB rfl mT uT (LamX.lamS_by (sc := defScope (top 57)) (by decide +kernel)) rfl (fun _ _ _ _ _ => rfl) (fun _ _ _ _ _ _ _ hl gl => d_call gl hl c_bag_with_walk (by decide) (sl_cons (d_var 0) (sl_cons (d_var 1) (sl_cons (d_var 2) (sl_cons (d_var 3) (sl_cons (d_var 4) (sl_nil)))))))) (d_tup (a_cons (d_str) (a_cons (d_str) (a_nil))))) (ss_one (s_ret (d_bool))) (ss_nil))
    (ss_one (s_if (t_ne hr (d_told (k := 6) gd (hr.mono (by decide)) TD TT TB rfl mT uT (LamX.lamS_by (sc := defScope (top 57)) (by decide +kernel)) rfl (fun _ _ _ _ _ => rfl) (fun _ _ _ _ _ _ _ hl gl => d_call gl hl c_may_go (by decide) (sl_cons (d_var 0) (sl_cons (d_var 1) (sl_cons (d_var 4) (sl_nil)))))) (d_tup (a_cons (d_str) (a_cons (d_str) (a_nil))))) (ss_one (s_ret (d_bool))) (ss_nil)))))
    (ss_one (s_ret (d_eq hr (d_told (k := 6) gd (hr.mono (by decide)) TD TT TB rfl mT uT (LamX.lamS_by (sc := defScope (top 57)) (by decide +kernel)) rfl (fun _ _ _ _ _ => rfl) (fun _ _ _ _ _ _ _ hl gl => d_call gl hl c_may_go (by decide) (sl_cons (d_var 0) (sl_cons (d_none) (sl_cons (d_var 2) (sl_nil)))))) (d_tup (a_cons (d_str) (a_cons (d_str) (a_nil))))))))
theorem sc_law : FnScope N_law [("script" : Str)] (defScope (top 58)) := ⟨rfl, rfl, rfl, by decide +kernel, rfl, by decide +kernel, by decide +kernel⟩
theorem drv_law (B : BM mg) (c_lw_roll : CallOk P w K mg base T 2 "_law_roll" [("dice" : Str), ("many" : Str)] S_lw_roll) (c_lw_any_flight : CallOk P w K mg base T 3 "_law_any_flight" [("dice" : Str), ("high" : Str)] S_lw_any_flight) (c_lw_any_walks : CallOk P w K mg base T 3 "_law_any_walks" [("dice" : Str), ("flight" : Str), ("many" : Str)] S_lw_any_walks) (c_lw_any_wear : CallOk P w K mg base T 4 "_law_any_wear" [("dice" : Str), ("flight" : Str), ("many" : Str)] S_lw_any_wear) (c_lw_bags : CallOk P w K mg base T 2 "_law_bags" [("flight" : Str), ("wear" : Str), ("many" : Str)] S_lw_bags) (c_may_go : CallOk P w K mg base T 6 "may_go" [("flight" : Str), ("wear" : Str), ("many" : Str)] S_may_go) (c_at_most_so : CallOk P w K mg base T 6 "at_most_so" [("flight" : Str), ("wear" : Str), ("many" : Str), ("walk" : Str)] S_at_most_so) (c_bag_with_walk : CallOk P w K mg base T 6 "bag_with_walk" [("flight" : Str), ("wear" : Str), ("many" : Str), ("walk" : Str), ("times" : Str)] S_bag_with_walk) (c_rest_of : CallOk P w K mg base T 6 "rest_of" [("flight" : Str), ("wear" : Str), ("many" : Str), ("walk" : Str)] S_rest_of) (c_lw_which_refused : CallOk P w K mg base T 9 "_law_which_refused" [("flight" : Str), ("wear" : Str), ("many" : Str), ("walk" : Str)] S_lw_which_refused) {C : Nat → Addr} (TD : ToldD K mg C) (TT : TermD P w K mg base C) (TB : LamX.TabB base mg (He.codeOf K (("law" : Str), none)) (He.tabOf K (He.codeOf K (("law" : Str), none)))) (mT : (He.tabOf K (He.codeOf K (("law" : Str), none)), lamQ "law") ∈ T) (uT : ∀ p ∈ T, p.1 = He.tabOf K (He.codeOf K (("law" : Str), none)) → p.2 = lamQ "law") (S : FnScope N_law [("script" : Str)] (defScope (top 58))) (A : Around) (outer : List Env) (s : Shared) (H : Hp) (E : XK) (gd : Good (cxOf (L2N.CX P w) P w K mg base N_law "law" (defScope (top 58)) (He.fAd K (("law" : Str), none)) (.ref (He.codeOf K (("law" : Str), none))) A outer s H E) ⟨T, mg, E⟩) (hr : Room 9 (A.deeper (envOfC "law" (defScope (top 58)) s.heap.objs.size (He.fAd K (("law" : Str), none)) (.ref (He.codeOf K (("law" : Str), none)))))) :
    DSs (cxOf (L2N.CX P w) P w K mg base N_law "law" (defScope (top 58)) (He.fAd K (("law" : Str), none)) (.ref (He.codeOf K (("law" : Str), none))) A outer s H E) ⟨T, mg, E⟩ (forBody (defBody (top 58))) w_law :=
  ss_cons (s_unp (vs := [2, 3]) (d_tup (a_cons (d_call gd hr c_lw_any_flight (by decide) (sl_dice 1 (sl_cons (d_int) (sl_nil)))) (a_cons (d_call gd hr c_lw_roll (by decide) (sl_dice 1 (sl_cons (d_int) (sl_nil)))) (a_nil)))) (pg_tup rfl (pgs_cons (pg_name (i := 2) S.nd rfl (Or.inr rfl)) (pgs_cons (pg_name (i := 3) S.nd rfl (Or.inr rfl)) (pgs_nil)))) (tg_tup2 (tg_name (by decide)) (tg_name (by decide))))
    (ss_cons (s_unp (vs := [4, 5]) (d_tup (a_cons (d_call gd hr c_lw_any_wear (by decide) (sl_dice 1 (sl_cons (d_var 2) (sl_cons (d_var 3) (sl_nil))))) (a_cons (d_ix (d_call gd hr c_lw_any_walks (by decide) (sl_dice 1 (sl_cons (d_var 2) (sl_cons (d_int) (sl_nil))))) (d_int)) (a_nil)))) (pg_tup rfl (pgs_cons (pg_name (i := 4) S.nd rfl (Or.inr rfl)) (pgs_cons (pg_name (i := 5) S.nd rfl (Or.inr rfl)) (pgs_nil)))) (tg_tup2 (tg_name (by decide)) (tg_name (by decide))))
    (ss_cons (s_set (i := 6) S.nd (v_d (d_call gd hr c_lw_bags (by decide) (sl_cons (d_var 2) (sl_cons (d_var 4) (sl_cons (d_var 3) (sl_nil)))))))
    (ss_cons (s_if (t_eq hr (d_var 6) (d_ofL (l_lst (a_nil)))) (ss_cons (s_set (i := 7) S.nd (v_l (l_lst (a_cons (d_told (k := 7) gd (hr.mono (by decide)) TD TT TB rfl mT uT (LamX.lamS_by (sc := defScope (top 58)) (by decide +kernel)) rfl (fun _ _ _ _ _ => rfl) (fun _ _ _ _ _ _ _ hl gl => d_call gl hl c_may_go (by decide) (sl_cons (d_var 2) (sl_cons (d_var 4) (sl_cons (d_var 3) (sl_nil)))))) (a_nil)))))
    (ss_cons (s_app (i := 7) (d_told (k := 7) gd (hr.mono (by decide)) TD TT TB rfl mT uT (LamX.lamS_by (sc := defScope (top 58)) (by decide +kernel)) rfl (fun _ _ _ _ _ => rfl) (fun _ _ _ _ _ _ _ hl gl => d_call gl hl c_at_most_so (by decide) (sl_cons (d_var 2) (sl_cons (d_var 4) (sl_cons (d_var 3) (sl_cons (d_var 5) (sl_nil))))))))
    (ss_cons (s_app (i := 7) (d_told (k := 7) gd (hr.mono (by decide)) TD TT TB rfl mT uT (LamX.lamS_by (sc := defScope (top 58)) (by decide +kernel)) rfl (fun _ _ _ _ _ => rfl) (fun _ _ _ _ _ _ _ hl gl => d_call gl hl c_bag_with_walk (by decide) (sl_cons (d_var 2) (sl_cons (d_var 4) (sl_cons (d_var 3) (sl_cons (d_var 5) (sl_cons (d_int) (sl_nil)))))))))
    (ss_one (s_ifV (t_ne hr (d_add (d_var 7) (d_ofL (l_lst (a_cons (d_told (k := 7) gd (hr.mono (by decide)) TD TT TB rfl mT uT (LamX.lamS_by (sc := defScope (top 58)) (by decide +kernel)) rfl (fun _ _ _ _ _ => rfl) (fun _ _ _ _ _ _ _ hl gl => d_call gl hl c_rest_of (by decide) (sl_cons (d_var 2) (sl_cons (d_var 4) (sl_cons (d_var 3) (sl_cons (d_var 5) (sl_nil))))))) (a_nil))))) (d_ofL (l_rep (d_ofL (l_lst (a_cons (d_tup (a_cons (d_str) (a_cons (d_str) (a_nil)))) (a_nil)))) (d_int)))) (ss_one (s_ret (d_bool))) (ss_nil)))))) (ss_cons (s_set (i := 8) S.nd (v_d (d_ofL (l_lst (a_nil)))))
    (ss_cons (s_for gd (vs := [9]) (i_seq (d_var 6)) (pg_name (i := 9) S.nd rfl (Or.inl rfl)) (tg_name (by decide)) (ss_one (s_set (i := 8) S.nd (v_d (d_add (d_var 8) (d_var 9))))))
    (ss_cons (s_if (t_ne hr (d_call gd hr c_may_go (by decide) (sl_cons (d_var 2) (sl_cons (d_var 4) (sl_cons (d_var 3) (sl_nil))))) (d_ofL (l_sortSetD gd hr B.sorted B.set (d_var 8)))) (ss_one (s_ret (d_bool))) (ss_nil))
    (ss_cons (s_set (i := 10) S.nd (v_d (d_max gd hr B.max (d_ofL (l_lc gd S.nd (own := [("bag", 9)]) (i_seq (d_var 6)) (blkOk_by (N := N_law) (sc := defScope (top 58)) (by decide +kernel)) (tg_name (by decide)) (fun _ _ _ _ _ => pg_name (i := 9) S.nd rfl (Or.inl rfl)) (fun _ _ _ _ _ g1 => ts_nil) (fun _ _ _ _ _ g1 => d_count hr (d_var 9) (d_var 5)))))))
    (ss_cons (s_if (t_ne hr (d_call gd hr c_at_most_so (by decide) (sl_cons (d_var 2) (sl_cons (d_var 4) (sl_cons (d_var 3) (sl_cons (d_var 5) (sl_nil)))))) (d_var 10)) (ss_one (s_ret (d_bool))) (ss_nil))
    (ss_cons (s_if (t_ne hr (d_call gd hr c_rest_of (by decide) (sl_cons (d_var 2) (sl_cons (d_var 4) (sl_cons (d_var 3) (sl_cons (d_var 5) (sl_nil)))))) (d_ofL (l_rng1 gd B.list B.range (d_add (d_var 10) (d_int))))) (ss_one (s_ret (d_bool))) (ss_nil))
    (ss_one (s_for gd (vs := [11]) (i_rng1 B.range (d_int)) (pg_name (i := 11) S.nd rfl (Or.inl rfl)) (tg_name (by decide)) (ss_cons (s_set (i := 12) S.nd (v_d (d_call gd hr c_bag_with_walk (by decide) (sl_cons (d_var 2) (sl_cons (d_var 4) (sl_cons (d_var 3) (sl_cons (d_var 5) (sl_cons (d_var 11) (sl_nil)))))))))
    (ss_cons (s_if (t_ne hr (d_is (d_var 12) (d_none)) (d_gt (d_var 11) (d_var 10))) (ss_one (s_ret (d_bool))) (ss_nil))
    (ss_one (s_if (t_w (w_and (t_isN (d_var 12) (d_none)) (w_and1 (t_w (w_or (t_notIn hr (d_ofL (l_sorted hr B.sorted (d_var 12))) (d_var 6)) (w_or1 (t_lt (d_count hr (d_var 12) (d_var 5)) (d_var 11)))))))) (ss_one (s_ret (d_bool))) (ss_nil))))))))))))))
    (ss_one (s_if (t_not (t_val (d_call gd hr c_lw_which_refused (by decide) (sl_cons (d_var 2) (sl_cons (d_var 4) (sl_cons (d_var 3) (sl_cons (d_var 5) (sl_nil)))))))) (ss_one (s_ret (d_bool))) (ss_nil))))))
end
theorem g_is_whole : ∀ as Q E, S_is_whole as Q E → w_is_whole (startE N_is_whole as) ⟨fun _ => Q .none, Q, E⟩ := by
  rintro as Q E ⟨a, b, c, rfl, lo, hi, rfl, rfl, h⟩
  change w_is_whole [.dat a, .dat (.int lo), .dat (.int hi)] _
  cases a <;> simp only [w_is_whole, wsRet, wAndV, wUn, gIsa, isaOf, wV, wNotV, wChain, gLe, gI0, List.getElem?_cons_zero, List.getElem?_cons_succ, List.set_cons_zero, List.set_cons_succ, ex_bool, ex_dat, ex_own, ex_own2, ex_int, ex_int2, ex_pair, ex_three, fs1_at, fs2_at, fs3_at, fs4_at, fs5_at, fs6_at, fd1_at, fd2_at, fd3_at, List.map_cons, List.map_nil, List.length_map, PyData.isInt, PyData.isBool]
  all_goals (simp [isWhole] at h ⊢)
  all_goals (first | exact h | (split <;> simp_all))
theorem g_is_flight : ∀ as Q E, S_is_flight as Q E → w_is_flight (startE N_is_flight as) ⟨fun _ => Q .none, Q, E⟩ := by
  rintro as Q E ⟨a, rfl, h⟩
  change w_is_flight [.dat a] _
  cases a <;> simp only [w_is_flight, wsRet, wAndV, wUn, gIsa, isaOf, wV, wOp, gEq_ii, gEq_tt, gEq_ll, gEq_l0, gEq_ww, gEq_bb, wCB, gLen, waCons, waNil, wC, wCall, wsCons, gIx_l, gIx_t, wsNil, List.getElem?_cons_zero, List.getElem?_cons_succ, List.set_cons_zero, List.set_cons_succ, ex_bool, ex_dat, ex_own, ex_own2, ex_int, ex_int2, ex_pair, ex_three, fs1_at, fs2_at, fs3_at, fs4_at, fs5_at, fs6_at, fd1_at, fd2_at, fd3_at, List.map_cons, List.map_nil, List.length_map, PyData.isTuple, u_is_whole] <;> simp only [Bool.false_eq_true, if_false, if_true]
  case tuple ds =>
    match ds, h with
    | [], h => exact h
    | [x], h => exact h
    | [x, y], h =>
      refine ⟨_, rfl, ?_⟩
      have h' : Q (.bool (isWhole x 1 8 && isWhole y 1 5)) := h
      split
      · rename_i hx
        rw [hx, Bool.true_and] at h'
        exact ⟨_, rfl, h'⟩
      · rename_i hx
        rw [Bool.eq_false_iff.mpr hx, Bool.false_and] at h'
        exact h'
    | x :: y :: z :: r, h =>
      rw [if_neg (by simp; omega)]
      exact h
  all_goals exact h
theorem g_need_flight : ∀ as Q E, S_need_flight as Q E → w_need_flight (startE N_need_flight as) ⟨fun _ => Q .none, Q, E⟩ := by
  rintro as Q E ⟨a, rfl, h⟩
  change w_need_flight [.dat a] _
  simp only [w_need_flight, wsIf, wNot, wB, wCall, wsCons, wV, wsNil, wsRaise, wNil, List.getElem?_cons_zero, List.getElem?_cons_succ, List.set_cons_zero, List.set_cons_succ, ex_bool, ex_dat, ex_own, ex_own2, ex_int, ex_int2, ex_pair, ex_three, fs1_at, fs2_at, fs3_at, fs4_at, fs5_at, fs6_at, fd1_at, fd2_at, fd3_at, List.map_cons, List.map_nil, List.length_map, S_is_flight]
  cases h1 : isFlight a
  · exact h.2 h1
  · exact h.1 h1
theorem g_every_walk : ∀ as Q E, S_every_walk as Q E → w_every_walk (startE N_every_walk as) ⟨fun _ => Q .none, Q, E⟩ := by
  rintro as Q E ⟨a, rfl, s, l, rfl, hf, h⟩
  change w_every_walk [.dat (p2 s l), .un, .un, .un, .un, .un, .un, .un] _
  obtain ⟨f1, f2, f3, f4⟩ := id hf
  have hpow : 2 ^ s.toNat ≤ 256 := by
    have := Nat.pow_le_pow_right (n := 2) (by decide) (show s.toNat ≤ 8 by omega)
    simpa using this
  unfold w_every_walk
  simp only [wSeq]
  simp only [w_every_walk_0, w_every_walk_1, wsUnp, wgTup2, wgName, wV, wsPar, wvL, wLst, waNil, waCons, wTup, List.getElem?_cons_zero, List.getElem?_cons_succ, List.set_cons_zero, List.set_cons_succ, ex_bool, ex_dat, ex_own, ex_own2, ex_int, ex_int2, ex_pair, ex_three, fs1_at, fs2_at, fs3_at, fs4_at, fs5_at, fs6_at, fd1_at, fd2_at, fd3_at, List.map_cons, List.map_nil, List.length_map]
  refine ⟨by simp [szl], by simp [szl], by simp [szl], ?_⟩
  have loop : ∀ (n : Nat) (found work : List (List Int)) (y5 y6 y7 : Sl), EInv s l found work → wt s work < n → whL (wB (wOp gNe (wV 4) (wL (wLst (waNil))))) (wSeq (w_every_walk_2_0) (wSeq (w_every_walk_2_1) (wSeq (w_every_walk_2_2) (w_every_walk_2_3)))) ⟨fun env' => w_every_walk_3 env' ⟨fun _ => Q .none, Q, E⟩, Q, E⟩ n [.dat (p2 s l), .dat (.int s), .dat (.int l), .own (found.map tI), .own (work.map tI), y5, y6, y7] := by
    intro n
    induction n with
    | zero => intro found work y5 y6 y7 _ h; exact absurd h (Nat.not_lt_zero _)
    | succ n ih =>
      intro found work y5 y6 y7 I hwt
      unfold whL
      simp only [wB, wOp, wV, wL, wLst, waNil, vwE, vwS, List.map_cons, List.map_nil, List.getElem?_cons_zero, List.getElem?_cons_succ, ex_dat]
      refine ⟨by simp [szl], gNe_w0.mpr ⟨_, rfl, ?_⟩⟩
      cases hlast : work.getLast? with
      | none =>
        have hnil := List.getLast?_eq_none_iff.mp hlast
        subst hnil
        simp only [decide_true, Bool.not_true, Bool.false_eq_true, if_false]
        simp only [w_every_walk_3, wsRetV, vwE, vwS, wL, wCL, gSorted, waCons, wV, waNil, List.getElem?_cons_zero, List.getElem?_cons_succ, List.set_cons_zero, List.set_cons_succ, ex_bool, ex_dat, ex_own, ex_own2, ex_int, ex_int2, ex_pair, ex_three, fs1_at, fs2_at, fs3_at, fs4_at, fs5_at, fs6_at, fd1_at, fd2_at, fd3_at, List.map_cons, List.map_nil, List.length_map]
        obtain ⟨s1, s2, s3⟩ := sort_ok found
        refine ⟨s1, s2, s3, ?_⟩
        rw [sortD_W, einv_end hf I]
        exact h
      | some p =>
        obtain ⟨pre, rfl⟩ := List.getLast?_eq_some_iff.mp hlast
        have hne : pre ++ [p] ≠ [] := by simp
        simp only [hne, decide_false, Bool.not_false, if_true]
        obtain ⟨I', w', few⟩ := einv_step hf I
        have hp := I.wp p (List.mem_append_right _ (List.mem_singleton.mpr rfl))
        have hl0 : 0 ≤ lastOf p ∧ lastOf p ≤ s := ⟨by
          cases hw : p.getLast? with
          | none => unfold lastOf; rw [hw]; exact Int.le_refl _
          | some z =>
            have := rise_of p hp.1 z (List.mem_of_getLast? hw)
            unfold lastOf
            rw [hw]
            show 0 ≤ z
            omega, hp.2⟩
        simp only [wSeq, w_every_walk_2_0, wsPop]
        refine ⟨pre.map tI, tI p, by simp, ?_⟩
        simp only [List.set_cons_zero, List.set_cons_succ]
        have hlen : p.length ≤ 8 := by
          have : ∀ q : List Int, (∀ d ∈ diffs (0 :: q), 1 ≤ d ∧ d ≤ l) → (q.length : Int) ≤ lastOf q := by
            intro q
            induction q using snocRec with
            | nil => intro _; exact Int.le_refl _
            | append_singleton q y ihq =>
              intro hd
              rw [diffs_last] at hd
              have h1 := ihq fun d hd' => hd d (List.mem_append_left _ hd')
              have h2 := hd (y - lastOf q) (List.mem_append_right _ (List.mem_singleton.mpr rfl))
              rw [lastOf_snoc, List.length_append, List.length_singleton]
              omega
          have := this p hp.1
          omega
        have wb : (pre ++ kids s l p).length ≤ 256 := by
          have h1 : ∀ q : List (List Int), q.length ≤ wt s q := fun q => by
            unfold wt
            induction q with
            | nil => simp
            | cons a q ihq =>
              rw [List.map_cons, List.sum_cons, List.length_cons]
              have : 1 ≤ 2 ^ (s - lastOf a).toNat := Nat.one_le_two_pow
              omega
          have h2 := h1 (pre ++ kids s l p)
          have h3 := I'.few
          omega
        have tail : ∀ (fd : List (List Int)), EInv s l fd (pre ++ kids s l p) → w_every_walk_2_3 [.dat (p2 s l), .dat (.int s), .dat (.int l), .own (fd.map tI), .own (pre.map tI), .dat (tI p), .dat (.int (lastOf p)), y7] ⟨fun env' => whL (wB (wOp gNe (wV 4) (wL (wLst (waNil))))) (wSeq (w_every_walk_2_0) (wSeq (w_every_walk_2_1) (wSeq (w_every_walk_2_2) (w_every_walk_2_3)))) ⟨fun env' => w_every_walk_3 env' ⟨fun _ => Q .none, Q, E⟩, Q, E⟩ n env', Q, E⟩ := by
          intro fd J
          simp only [w_every_walk_2_3, wsFor, wiRng2, wOp, gAdd, wV, wC, wCB, gMin2, waCons, waNil, wgName, List.getElem?_cons_zero, List.getElem?_cons_succ, List.set_cons_zero, List.set_cons_succ, ex_bool, ex_dat, ex_own, ex_own2, ex_int, ex_int2, ex_pair, ex_three, fs1_at, fs2_at, fs3_at, fs4_at, fs5_at, fs6_at, fd1_at, fd2_at, fd3_at, List.map_cons, List.map_nil, List.length_map]
          refine ⟨⟨by omega, by omega⟩, ⟨by split <;> omega, by split <;> omega⟩, ?_⟩
          rw [rgD_I]
          refine forL_ind (fun ds env => ∃ (xs : List Int) (acc : List (List Int)) (z7 : Sl), ds = xs.map .int ∧ acc ++ xs.map (fun x => p ++ [x]) = pre ++ kids s l p ∧ env = [.dat (p2 s l), .dat (.int s), .dat (.int l), .own (fd.map tI), .own (acc.map tI), .dat (tI p), .dat (.int (lastOf p)), z7]) ?_ ?_ _ _ ⟨_, pre, y7, rfl, rfl, rfl⟩
          · rintro env ⟨xs, acc, z7, e1, e2, rfl⟩
            cases xs with
            | cons _ _ => simp at e1
            | nil =>
              have e3 : acc = pre ++ kids s l p := by simpa using e2
              subst e3
              exact ih _ _ _ _ _ J (by omega)
          · rintro d ds env ⟨xs, acc, z7, e1, e2, rfl⟩ nx hnx
            cases xs with
            | nil => simp at e1
            | cons x xs =>
              rw [List.map_cons] at e1
              obtain ⟨rfl, rfl⟩ := List.cons.inj e1
              simp only [wgName, wgTup2, wgTup3, wB, wOp, wV, wC, wCall, wsCons, wsDice, wsNil, wCB, wCL, waCons, waNil, wTup, wL, wLst, wNot, wAnd, wOr, wAndV, wOrV, wNotV, wUn, wChain, wIf, wipeE, List.set_cons_zero, List.set_cons_succ, List.getElem?_cons_succ, List.getElem?_cons_zero, ex_dat, ex_own, ex_own2, ex_bool, ex_int, ex_int2, ex_pair, ex_three, gI0, gI, gIx_t, gIx_l, gMin2, gMax2, gLen, gAdd, gIn_t, gEq_ii, gEq_tt, gNe_ii, gNe_tt, List.length_map, fs1_at, fs2_at, fs3_at, fs4_at, fs5_at, fs6_at, fd1_at, fd2_at, fd3_at, w_every_walk_2_3_0, wsApp, wOp, gAdd, wV, wTup, waCons, waNil, List.getElem?_cons_zero, List.getElem?_cons_succ, List.set_cons_zero, List.set_cons_succ, ex_bool, ex_dat, ex_own, ex_own2, ex_int, ex_int2, ex_pair, ex_three, fs1_at, fs2_at, fs3_at, fs4_at, fs5_at, fs6_at, fd1_at, fd2_at, fd3_at, List.map_cons, List.map_nil, List.length_map]
              have hal : acc.length < 1000 := by
                have := congrArg List.length e2
                rw [List.length_append, List.length_map, List.length_cons] at this
                omega
              refine ⟨by rw [szl]; omega, by simp [szl], by rw [szl]; simp; omega, ?_⟩
              rw [show p.map PyData.int ++ [PyData.int x] = (p ++ [x]).map .int by simp]
              refine hnx _ ⟨xs, acc ++ [p ++ [x]], .dat (.int x), rfl, by rw [← e2]; simp, ?_⟩
              rw [List.map_append (f := tI)]
              rfl
        have mid : w_every_walk_2_2 [.dat (p2 s l), .dat (.int s), .dat (.int l), .own (found.map tI), .own (pre.map tI), .dat (tI p), .dat (.int (lastOf p)), y7] ⟨fun env' => w_every_walk_2_3 env' ⟨fun env' => whL (wB (wOp gNe (wV 4) (wL (wLst (waNil))))) (wSeq (w_every_walk_2_0) (wSeq (w_every_walk_2_1) (wSeq (w_every_walk_2_2) (w_every_walk_2_3)))) ⟨fun env' => w_every_walk_3 env' ⟨fun _ => Q .none, Q, E⟩, Q, E⟩ n env', Q, E⟩, Q, E⟩ := by
          simp only [w_every_walk_2_2, wsIf, wB, wOp, gLe, gI0, SD.gSub, gAdd, wV, wC, wNil, List.getElem?_cons_zero, List.getElem?_cons_succ, List.set_cons_zero, List.set_cons_succ, ex_bool, ex_dat, ex_own, ex_own2, ex_int, ex_int2, ex_pair, ex_three, fs1_at, fs2_at, fs3_at, fs4_at, fs5_at, fs6_at, fd1_at, fd2_at, fd3_at, List.map_cons, List.map_nil, List.length_map]
          by_cases hc : s + 1 - lastOf p ≤ l
          · rw [if_pos hc] at I'
            rw [decide_eq_true hc]
            simp only [if_true]
            simp only [w_every_walk_2_2a_0, wsApp, wV, List.getElem?_cons_zero, List.getElem?_cons_succ, List.set_cons_zero, List.set_cons_succ, ex_bool, ex_dat, ex_own, ex_own2, ex_int, ex_int2, ex_pair, ex_three, fs1_at, fs2_at, fs3_at, fs4_at, fs5_at, fs6_at, fd1_at, fd2_at, fd3_at, List.map_cons, List.map_nil, List.length_map]
            refine ⟨by rw [szl]; omega, ?_⟩
            have := tail (found ++ [p]) I'
            rw [List.map_append] at this
            exact this
          · rw [if_neg hc] at I'
            rw [decide_eq_false hc]
            simp only [Bool.false_eq_true, if_false, wNil]
            exact tail found I'
        simp only [w_every_walk_2_1, wsSet, wvD, wIf, wB, wOp, gNe_ii, gNe_tt, gNe_l0, gNe_ww, gNe_bb, wV, wTup, waNil, gIx_l, gIx_t, wUn, gNeg, wC, List.getElem?_cons_zero, List.getElem?_cons_succ, List.set_cons_zero, List.set_cons_succ, ex_bool, ex_dat, ex_own, ex_own2, ex_int, ex_int2, ex_pair, ex_three, fs1_at, fs2_at, fs3_at, fs4_at, fs5_at, fs6_at, fd1_at, fd2_at, fd3_at, List.map_cons, List.map_nil, List.length_map]
        refine ⟨by simp [szl], ?_⟩
        have hg0 : ∀ K : D → Prop, K (.bool (!decide (p = []))) → gNe (tI p) (.tuple []) K := fun K hK => gNe_tt (j := []) |>.mpr hK
        refine hg0 _ ?_
        cases hpl : p.getLast? with
        | none =>
          have hnil := List.getLast?_eq_none_iff.mp hpl
          subst hnil
          refine ⟨_, rfl, ?_⟩
          simp only [decide_true, Bool.not_true, Bool.false_eq_true, if_false]
          exact mid
        | some z =>
          obtain ⟨q, hq⟩ := List.getLast?_eq_some_iff.mp hpl
          have hne2 : p ≠ [] := by rw [hq]; simp
          refine ⟨_, rfl, ?_⟩
          simp only [hne2, decide_false, Bool.not_false, if_true]
          refine ⟨.int (lastOf p), ?_, mid⟩
          have : lastOf p = z := by unfold lastOf; rw [hpl]; rfl
          rw [this, hq, List.map_append]
          exact atI_last _ _
  unfold w_every_walk_2
  exact ⟨257, loop 257 [] [[]] _ _ _ (einv_start hf) (by have := (einv_start hf).few; simp at this; omega)⟩

theorem g_strides_of : ∀ as Q E, S_strides_of as Q E → w_strides_of (startE N_strides_of as) ⟨fun _ => Q .none, Q, E⟩ := by
  rintro as Q E ⟨a, b, rfl, s, l, w, rfl, rfl, hl, h⟩
  change w_strides_of [.dat (p2 s l), .dat (tI w), .un, .un, .un] _
  simp only [w_strides_of, wSeq, wsSet, wvD, wOp, gAdd, wTup, waCons, wC, waNil, wV, gIx_l, gIx_t, wsRet, wCB, gTuple_l, gTuple_t, wL, wLc, wipeE, wiZip, gZip_t, gZip_l, wCut, gCut, woSome, woNone, wgTup2, wgName, wtYes, SD.gSub, gI0, List.getElem?_cons_zero, List.getElem?_cons_succ, List.set_cons_zero, List.set_cons_succ, ex_bool, ex_dat, ex_own, ex_own2, ex_int, ex_int2, ex_pair, ex_three, fs1_at, fs2_at, fs3_at, fs4_at, fs5_at, fs6_at, fd1_at, fd2_at, fd3_at, List.map_cons, List.map_nil, List.length_map]
  refine ⟨by simp [szl], by simp [szl]; omega, .int s, rfl, by simp [szl], by simp [szl]; omega, ?_⟩
  have e : [PyData.int 0] ++ w.map PyData.int ++ [PyData.int (s + 1)] = (0 :: (w ++ [s + 1])).map .int := by simp
  rw [e, cutD_I]
  have e2 := cutI_from (0 :: (w ++ [s + 1])) (i := 1) (by decide)
  unfold cutI at e2
  rw [e2, zipD_I]
  refine lcL_map (fun p : Int × Int => p2 p.1 p.2) (fun p => .int (p.2 - p.1)) _ [] _ (fun p _ K hK => ?_) ?_ ?_
  · simp only [ex_pair, wgName, wOp, wV, List.set_cons_zero, List.set_cons_succ, List.getElem?_cons_succ, List.getElem?_cons_zero, ex_dat, gI0, wgTup2]
    exact hK
  · simp [szl]
    omega
  · rw [List.nil_append]
    have e3 : ((0 :: (w ++ [s + 1])).zip (List.drop (1 : Int).toNat (0 :: (w ++ [s + 1])))).map (fun p : Int × Int => PyData.int (p.2 - p.1)) = (stridesI s w).map .int := by
      unfold stridesI diffs
      rw [List.map_map]
      rfl
    rw [e3]
    exact h
theorem g_is_good_walk : ∀ as Q E, S_is_good_walk as Q E → w_is_good_walk (startE N_is_good_walk as) ⟨fun _ => Q .none, Q, E⟩ := by
  rintro as Q E ⟨a, b, rfl, s, l, rfl, hl, h⟩
  change w_is_good_walk [.dat (p2 s l), .dat b, .un] _
  cases b <;> simp only [w_is_good_walk, wSeq, wsIf, wOr, wNot, wB, wUn, gIsa, isaOf, wV, wCB, gAll_l, waCons, wL, wLc, wipeE, wiSeq, ex_seqL, ex_seqT, wgName, wtYes, wCall, wsCons, wC, wOp, gIx_l, gIx_t, wsNil, waNil, wsRet, wNil, wChain, gLe, gI0, List.getElem?_cons_zero, List.getElem?_cons_succ, List.set_cons_zero, List.set_cons_succ, ex_bool, ex_dat, ex_own, ex_own2, ex_int, ex_int2, ex_pair, ex_three, fs1_at, fs2_at, fs3_at, fs4_at, fs5_at, fs6_at, fd1_at, fd2_at, fd3_at, List.map_cons, List.map_nil, List.length_map, PyData.isTuple] <;> simp only [Bool.not_false, Bool.not_true, Bool.false_eq_true, if_false, if_true]
  case tuple ds =>
    have hl' : ds.length ≤ 1000 := hl
    have e0 : ds = ds.map fun d => d := by simp
    rw [e0]
    refine lcL_map (fun d => d) (fun d => .bool (isWhole d 1 s)) ds [] _ (fun d _ K hK => ?_) (by simp [szl]; omega) ?_
    · simp only [wgName, List.set_cons_zero, List.set_cons_succ, wCall, wsCons, wsNil, wV, wC, wOp, List.getElem?_cons_succ, List.getElem?_cons_zero, ex_dat, gIx_t, u_is_whole]
      exact ⟨_, rfl, by rw [u_is_whole]; exact hK⟩
    · rw [List.nil_append, show ds.map (fun d => PyData.bool (isWhole d 1 s)) = (ds.map fun d => isWhole d 1 s).map .bool by rw [List.map_map]; rfl, gAll_l]
      have h' : Q (.bool (ds.all (fun x => isWhole x 1 s) && (stridesI s (intsOf ds)).all fun x => decide (1 ≤ x ∧ x ≤ l))) := h
      have e1 : (ds.map fun d => isWhole d 1 s).all id = ds.all fun x => isWhole x 1 s := by rw [List.all_map]; rfl
      rw [e1]
      cases hw : ds.all fun x => isWhole x 1 s with
      | false =>
        rw [hw, Bool.false_and] at h'
        exact ⟨_, rfl, h'⟩
      | true =>
        rw [hw, Bool.true_and] at h'
        have e2 := ints_of_whole hw
        refine ⟨_, rfl, ?_⟩
        rw [if_neg (by decide)]
        rw [List.map_id'] 
        rw [e2]
        refine u_strides_of (by unfold intsOf; rw [List.length_map]; exact hl') ?_
        rw [ex_seqT]
        refine lcL_map .int (fun x => .bool (decide (1 ≤ x ∧ x ≤ l))) _ [] _ (fun x _ K hK => ?_) ?_ ?_
        · simp only [wgName, List.set_cons_zero, List.set_cons_succ, wChain, gLe, gI0, wV, wC, wOp, List.getElem?_cons_succ, List.getElem?_cons_zero, ex_dat, ex_bool, gIx_t]
          by_cases hx : 1 ≤ x
          · simp only [hx, decide_true, if_true]
            exact ⟨_, rfl, by simpa [hx] using hK⟩
          · simp only [hx, decide_false, Bool.false_eq_true, if_false]
            simpa [hx] using hK
        · simp [szl, stridesI, diffs, intsOf]
          omega
        · rw [List.nil_append, show (stridesI s (intsOf ds)).map (fun x => PyData.bool (decide (1 ≤ x ∧ x ≤ l))) = ((stridesI s (intsOf ds)).map fun x => decide (1 ≤ x ∧ x ≤ l)).map .bool by rw [List.map_map]; rfl, gAll_l]
          have e3 : ((stridesI s (intsOf ds)).map fun x => decide (1 ≤ x ∧ x ≤ l)).all id = (stridesI s (intsOf ds)).all fun x => decide (1 ≤ x ∧ x ≤ l) := by rw [List.all_map]; rfl
          rw [e3]
          exact h'
  all_goals exact h
theorem g_need_walk : ∀ as Q E, S_need_walk as Q E → w_need_walk (startE N_need_walk as) ⟨fun _ => Q .none, Q, E⟩ := by
  rintro as Q E ⟨a, b, rfl, s, l, rfl, hb, h⟩
  change w_need_walk [.dat (p2 s l), .dat b] _
  simp only [w_need_walk, wsIf, wNot, wB, wCall, wsCons, wV, wsNil, wsRaise, wNil, List.getElem?_cons_zero, List.getElem?_cons_succ, List.set_cons_zero, List.set_cons_succ, ex_bool, ex_dat, ex_own, ex_own2, ex_int, ex_int2, ex_pair, ex_three, fs1_at, fs2_at, fs3_at, fs4_at, fs5_at, fs6_at, fd1_at, fd2_at, fd3_at, List.map_cons, List.map_nil, List.length_map]
  refine u_is_good_walk hb ⟨_, rfl, ?_⟩
  cases h1 : isGoodWalk s l b
  · exact h.2 h1
  · exact h.1 h1
theorem g_is_good_wear : ∀ as Q E, S_is_good_wear as Q E → w_is_good_wear (startE N_is_good_wear as) ⟨fun _ => Q .none, Q, E⟩ := by
  rintro as Q E ⟨a, b, rfl, s, rfl, hb, h⟩
  change w_is_good_wear [.dat (.int s), .dat b, .un] _
  cases b <;> simp only [w_is_good_wear, wsRet, wAndV, wUn, gIsa, isaOf, wV, wOp, gEq_ii, gEq_tt, gEq_ll, gEq_l0, gEq_ww, gEq_bb, wCB, gLen, waCons, waNil, gAll_l, wL, wLc, wipeE, wiSeq, ex_seqL, ex_seqT, wgName, wtYes, wCall, wsCons, wC, wsNil, List.getElem?_cons_zero, List.getElem?_cons_succ, List.set_cons_zero, List.set_cons_succ, ex_bool, ex_dat, ex_own, ex_own2, ex_int, ex_int2, ex_pair, ex_three, fs1_at, fs2_at, fs3_at, fs4_at, fs5_at, fs6_at, fd1_at, fd2_at, fd3_at, List.map_cons, List.map_nil, List.length_map, PyData.isTuple] <;> simp only [Bool.false_eq_true, if_false, if_true]
  case tuple ds =>
    have hl' : ds.length ≤ 1000 := hb
    have h' : Q (.bool (decide ((ds.length : Int) = s) && ds.all fun x => isWhole x 0 9)) := h
    by_cases hs : (ds.length : Int) = s
    · simp only [hs, decide_true, if_true]
      simp only [hs, decide_true, Bool.true_and] at h'
      have e0 : ds = ds.map fun d => d := by simp
      rw [e0]
      refine lcL_map (fun d => d) (fun d => .bool (isWhole d 0 9)) ds [] _ (fun d _ K hK => ?_) (by simp [szl]; omega) ?_
      · simp only [wgName, List.set_cons_zero, List.set_cons_succ, wCall, wsCons, wsNil, wV, wC, List.getElem?_cons_succ, List.getElem?_cons_zero, ex_dat, u_is_whole]
        exact hK
      · rw [List.nil_append, show ds.map (fun d => PyData.bool (isWhole d 0 9)) = (ds.map fun d => isWhole d 0 9).map .bool by rw [List.map_map]; rfl, gAll_l]
        have e1 : (ds.map fun d => isWhole d 0 9).all id = ds.all fun x => isWhole x 0 9 := by rw [List.all_map]; rfl
        rw [e1]
        exact h'
    · simp only [hs, decide_false, Bool.false_eq_true, if_false]
      simpa [hs] using h'
  all_goals exact h
theorem g_need_wear : ∀ as Q E, S_need_wear as Q E → w_need_wear (startE N_need_wear as) ⟨fun _ => Q .none, Q, E⟩ := by
  rintro as Q E ⟨a, b, rfl, hb, h1, h2, h3⟩
  change w_need_wear [.dat a, .dat b] _
  simp only [w_need_wear, wSeq, wsExpr, wCall, wsCons, wV, wsNil, wsIf, wNot, wB, wOp, gIx_l, gIx_t, wC, wsRaise, wNil, List.getElem?_cons_zero, List.getElem?_cons_succ, List.set_cons_zero, List.set_cons_succ, ex_bool, ex_dat, ex_own, ex_own2, ex_int, ex_int2, ex_pair, ex_three, fs1_at, fs2_at, fs3_at, fs4_at, fs5_at, fs6_at, fd1_at, fd2_at, fd3_at, List.map_cons, List.map_nil, List.length_map, S_need_flight]
  refine ⟨fun hf0 => ?_, h1⟩
  obtain ⟨s, l, rfl, hf⟩ := isFlight_inv hf0
  refine gIx_t.mpr ⟨.int s, rfl, _, _, rfl, s, rfl, hb, _, rfl, ?_⟩
  cases hw : goodWear s b with
  | false => exact h2 s l rfl hf hw
  | true =>
    obtain ⟨wear, rfl, hw2⟩ := goodWear_inv hw
    exact h3 s l wear rfl hf rfl hw2
theorem g_need_many : ∀ as Q E, S_need_many as Q E → w_need_many (startE N_need_many as) ⟨fun _ => Q .none, Q, E⟩ := by
  rintro as Q E ⟨a, rfl, h⟩
  change w_need_many [.dat a] _
  simp only [w_need_many, wsIf, wNot, wB, wCall, wsCons, wV, wC, wsNil, wsRaise, wNil, List.getElem?_cons_zero, List.getElem?_cons_succ, List.set_cons_zero, List.set_cons_succ, ex_bool, ex_dat, ex_own, ex_own2, ex_int, ex_int2, ex_pair, ex_three, fs1_at, fs2_at, fs3_at, fs4_at, fs5_at, fs6_at, fd1_at, fd2_at, fd3_at, List.map_cons, List.map_nil, List.length_map, u_is_whole]
  cases h1 : isWhole a 0 9
  · exact h.2 h1
  · exact h.1 h1
theorem g_need_both : ∀ as Q E, S_need_both as Q E → w_need_both (startE N_need_both as) ⟨fun _ => Q .none, Q, E⟩ := by
  rintro as Q E ⟨a, b, c, rfl, hb, h1, h2, h3⟩
  change w_need_both [.dat a, .dat b, .dat c] _
  simp only [w_need_both, wSeq, wsExpr, wCall, wsCons, wV, wsNil, List.getElem?_cons_zero, List.getElem?_cons_succ, List.set_cons_zero, List.set_cons_succ, ex_bool, ex_dat, ex_own, ex_own2, ex_int, ex_int2, ex_pair, ex_three, fs1_at, fs2_at, fs3_at, fs4_at, fs5_at, fs6_at, fd1_at, fd2_at, fd3_at, List.map_cons, List.map_nil, List.length_map]
  refine ⟨_, _, rfl, hb, h1, h2, fun s l wear ea hf eb hw => ?_⟩
  simp only [S_need_many, fs1_at]
  obtain ⟨k1, k2⟩ := h3 s l wear ea hf eb hw
  refine ⟨fun hc => ?_, k1⟩
  obtain ⟨m, rfl, m0, m9⟩ := isWhole_int hc
  exact k2 m rfl m0 m9
theorem g_rows_of : ∀ as Q E, S_rows_of as Q E → w_rows_of (startE N_rows_of as) ⟨fun _ => Q .none, Q, E⟩ := by
  rintro as Q E ⟨a, b, rfl, s, l, rfl, rfl, hf, h⟩
  change w_rows_of [.dat (.int s), .dat (.int l)] _
  simp only [w_rows_of, wsRet, wL, wlRng2, gRg, wC, wOp, gAdd, SD.gSub, gI0, wV, List.getElem?_cons_zero, List.getElem?_cons_succ, List.set_cons_zero, List.set_cons_succ, ex_bool, ex_dat, ex_own, ex_own2, ex_int, ex_int2, ex_pair, ex_three, fs1_at, fs2_at, fs3_at, fs4_at, fs5_at, fs6_at, fd1_at, fd2_at, fd3_at, List.map_cons, List.map_nil, List.length_map]
  obtain ⟨f1, f2, f3, f4⟩ := hf
  refine ⟨⟨by omega, by omega, by omega, by omega, by omega⟩, ?_⟩
  rw [rgD_I]
  exact h
theorem g_within : ∀ as Q E, S_within as Q E → w_within (startE N_within as) ⟨fun _ => Q .none, Q, E⟩ := by
  rintro as Q E ⟨a, b, c, rfl, row, l, f, e, rfl, rfl, h⟩
  change w_within [.dat a, .dat (.int l), .dat (.int f)] _
  cases a with
  | list ds =>
    have e' : ds = row.map .int := Option.some.inj e
    subst e'
    simp only [w_within, wsRet, wCB, gSum_l, gSum_t, waCons, wCut, gCut, wV, woSome, wOp, SD.gSub, gI0, wC, gAdd, waNil, List.getElem?_cons_zero, List.getElem?_cons_succ, List.set_cons_zero, List.set_cons_succ, ex_bool, ex_dat, ex_own, ex_own2, ex_int, ex_int2, ex_pair, ex_three, fs1_at, fs2_at, fs3_at, fs4_at, fs5_at, fs6_at, fd1_at, fd2_at, fd3_at, List.map_cons, List.map_nil, List.length_map, cutD_I]
    exact h
  | tuple ds =>
    have e' : ds = row.map .int := Option.some.inj e
    subst e'
    simp only [w_within, wsRet, wCB, gSum_l, gSum_t, waCons, wCut, gCut, wV, woSome, wOp, SD.gSub, gI0, wC, gAdd, waNil, List.getElem?_cons_zero, List.getElem?_cons_succ, List.set_cons_zero, List.set_cons_succ, ex_bool, ex_dat, ex_own, ex_own2, ex_int, ex_int2, ex_pair, ex_three, fs1_at, fs2_at, fs3_at, fs4_at, fs5_at, fs6_at, fd1_at, fd2_at, fd3_at, List.map_cons, List.map_nil, List.length_map, cutD_I]
    exact h
  | _ => exact nomatch e
theorem g_bar_of : ∀ as Q E, S_bar_of as Q E → w_bar_of (startE N_bar_of as) ⟨fun _ => Q .none, Q, E⟩ := by
  rintro as Q E ⟨a, b, c, d, rfl, s, l, lows, highs, many, rfl, rfl, rfl, rfl, hf, h1, h2, h⟩
  change w_bar_of [.dat (p2 s l), .dat (tI lows), .dat (tI highs), .dat (.int many), .un, .un, .un, .un, .un, .un, .un, .un] _
  simp only [w_bar_of, wSeq, wsUnp, wgTup2, wgName, wV, wsSet, wvD, wL, wLc, wipeE, wiRng2, wC, wOp, gAdd, wB, gGt, gI0, gIx_l, gIx_t, SD.gSub, wsIf, gNe_ii, gNe_tt, gNe_l0, gNe_ww, gNe_bb, wLst, waNil, wsRet, wTup, waCons, wNil, wiSeq, ex_seqL, ex_seqT, wtYes, wCB, gMin2, wCall, wsCons, wsNil, gLt, wIf, List.getElem?_cons_zero, List.getElem?_cons_succ, List.set_cons_zero, List.set_cons_succ, ex_bool, ex_dat, ex_own, ex_own2, ex_int, ex_int2, ex_pair, ex_three, fs1_at, fs2_at, fs3_at, fs4_at, fs5_at, fs6_at, fd1_at, fd2_at, fd3_at, List.map_cons, List.map_nil, List.length_map]
  obtain ⟨f1, f2, f3, f4⟩ := id hf
  refine ⟨⟨by decide, by decide⟩, ⟨by omega, by omega⟩, ?_⟩
  rw [rgD_I]
  refine lcL_fm .int (fun st => decide (many < lows.getD (st - 1).toNat 0)) .int _ [] _ (fun st hst K1 K2 k1 k2 => ?_) (by rw [rgI_len, szl]; simp; omega) ?_
  · simp only [wgName, wgTup2, wgTup3, wB, wOp, wV, wC, wCall, wsCons, wsDice, wsNil, wCB, wCL, waCons, waNil, wTup, wL, wLst, wNot, wAnd, wOr, wAndV, wOrV, wNotV, wUn, wChain, wIf, wipeE, List.set_cons_zero, List.set_cons_succ, List.getElem?_cons_succ, List.getElem?_cons_zero, ex_dat, ex_own, ex_own2, ex_bool, ex_int, ex_int2, ex_pair, ex_three, gI0, gI, gIx_t, gIx_l, gMin2, gMax2, gLen, gAdd, gIn_t, gEq_ii, gEq_tt, gNe_ii, gNe_tt, List.length_map, fs1_at, fs2_at, fs3_at, fs4_at, fs5_at, fs6_at, fd1_at, fd2_at, fd3_at]
    have hm := mem_rgI.mp hst
    refine ⟨.int (lows.getD (st - 1).toNat 0), ?_, ?_⟩
    · rw [atI_map .int (by omega) (by omega), List.getD_eq_getElem?_getD, List.getElem?_eq_getElem (by omega)]
      rfl
    · simp only [gI0, ex_bool]
      split
      · rename_i hx
        exact k1 hx
      · rename_i hx
        exact k2 (Bool.eq_false_iff.mpr hx)
  rw [List.nil_append]
  rw [show (rgI 1 (s + 1)).filter (fun st => decide (many < lows.getD (st - 1).toNat 0)) = aboveI s lows many from rfl, gNe_l0]
  refine ⟨by simp [szl], ?_⟩
  unfold barD at h
  simp only [ex_bool]
  cases ha : aboveI s lows many with
  | cons a as =>
    rw [ha] at h
    exact ⟨.int a, atI_zero, by simp [szl], h⟩
  | nil =>
    rw [ha] at h
    simp only [decide_true, Bool.not_true, Bool.false_eq_true, if_false]
    refine lcL_map .int (fun one => .int (if many < one then many else one)) highs [] _ (fun x _ K hK => ?_) (by rw [szl]; simp; omega) ?_
    · simp only [wgName, wgTup2, wgTup3, wB, wOp, wV, wC, wCall, wsCons, wsDice, wsNil, wCB, wCL, waCons, waNil, wTup, wL, wLst, wNot, wAnd, wOr, wAndV, wOrV, wNotV, wUn, wChain, wIf, wipeE, List.set_cons_zero, List.set_cons_succ, List.getElem?_cons_succ, List.getElem?_cons_zero, ex_dat, ex_own, ex_own2, ex_bool, ex_int, ex_int2, ex_pair, ex_three, gI0, gI, gIx_t, gIx_l, gMin2, gMax2, gLen, gAdd, gIn_t, gEq_ii, gEq_tt, gNe_ii, gNe_tt, List.length_map, fs1_at, fs2_at, fs3_at, fs4_at, fs5_at, fs6_at, fd1_at, fd2_at, fd3_at]
      exact hK
    rw [List.nil_append]
    refine ⟨_, _, rfl, s, l, rfl, rfl, hf, _, rfl, ?_⟩
    have et : highs.map (fun one => PyData.int (if many < one then many else one)) = (topsI highs many).map .int := by
      unfold topsI
      rw [List.map_map]
      rfl
    rw [et]
    refine lcL_fm .int (fun f => decide (withinI (topsI highs many) l f < many)) .int _ [] _ (fun f _ K1 K2 k1 k2 => ?_) (by unfold rowsI; rw [rgI_len, szl]; simp; omega) ?_
    · simp only [wgName, wgTup2, wgTup3, wB, wOp, wV, wC, wCall, wsCons, wsDice, wsNil, wCB, wCL, waCons, waNil, wTup, wL, wLst, wNot, wAnd, wOr, wAndV, wOrV, wNotV, wUn, wChain, wIf, wipeE, List.set_cons_zero, List.set_cons_succ, List.getElem?_cons_succ, List.getElem?_cons_zero, ex_dat, ex_own, ex_own2, ex_bool, ex_int, ex_int2, ex_pair, ex_three, gI0, gI, gIx_t, gIx_l, gMin2, gMax2, gLen, gAdd, gIn_t, gEq_ii, gEq_tt, gNe_ii, gNe_tt, List.length_map, fs1_at, fs2_at, fs3_at, fs4_at, fs5_at, fs6_at, fd1_at, fd2_at, fd3_at]
      refine ⟨_, _, _, rfl, _, l, f, rfl, rfl, rfl, ?_⟩
      simp only [gI0, ex_bool]
      split
      · rename_i hx
        exact k1 hx
      · rename_i hx
        exact k2 (Bool.eq_false_iff.mpr hx)
    rw [List.nil_append]
    rw [show (rowsI s l).filter (fun f => decide (withinI (topsI highs many) l f < many)) = lackI s l (topsI highs many) many from rfl, gNe_l0]
    refine ⟨by simp [szl], ?_⟩
    simp only [ex_bool]
    cases hb : lackI s l (topsI highs many) many with
    | cons a as =>
      rw [hb] at h
      exact ⟨.int a, atI_zero, by simp [szl], h⟩
    | nil =>
      rw [hb] at h
      exact h
theorem g_do_make : ∀ as Q E, S_do_make as Q E → w_do_make (startE N_do_make as) ⟨fun _ => Q .none, Q, E⟩ := by
  rintro as Q E ⟨a, b, c, rfl, s, l, wear, many, rfl, rfl, rfl, hf, hw, h⟩
  change w_do_make [.dat (p2 s l), .dat (tI wear), .dat (.int many)] _
  simp only [w_do_make, wsRet, wOp, gIs, isNone_n, isNone_l, isNone_t, isNone_i, isNone_b, wCall, wsCons, wV, wsNil, wC, List.getElem?_cons_zero, List.getElem?_cons_succ, List.set_cons_zero, List.set_cons_succ, ex_bool, ex_dat, ex_own, ex_own2, ex_int, ex_int2, ex_pair, ex_three, fs1_at, fs2_at, fs3_at, fs4_at, fs5_at, fs6_at, fd1_at, fd2_at, fd3_at, List.map_cons, List.map_nil, List.length_map]
  refine ⟨_, _, _, _, rfl, s, l, wear, wear, many, rfl, rfl, rfl, rfl, hf, hw, hw, ?_⟩
  unfold doMake at h
  exact h
theorem g_turns_of : ∀ as Q E, S_turns_of as Q E → w_turns_of (startE N_turns_of as) ⟨fun _ => Q .none, Q, E⟩ := by
  rintro as Q E ⟨a, b, c, rfl, wear, many, rfl, rfl, hl, h0, m0, m1, h⟩
  change w_turns_of [.dat a, .dat (tI wear), .dat (.int many), .un, .un, .un, .un, .un, .un, .un] _
  simp only [w_turns_of, wSeq, wsPar, wvD, wL, wlRng1, gRg, wV, wvL, wLc, wipeE, wiRng1, wgName, wtYes, wTup, waNil, wsFor, wiEnum, ex_seqL, ex_seqT, wgTup2, wsSet, wCut, gCut, woNone, woSome, wiSeq, wsPut, vwE, vwS, nolist, nolists, wOp, gAdd, gIx_l, gIx_t, waCons, wC, wsRetV, List.getElem?_cons_zero, List.getElem?_cons_succ, List.set_cons_zero, List.set_cons_succ, ex_bool, ex_dat, ex_own, ex_own2, ex_int, ex_int2, ex_pair, ex_three, fs1_at, fs2_at, fs3_at, fs4_at, fs5_at, fs6_at, fd1_at, fd2_at, fd3_at, List.map_cons, List.map_nil, List.length_map]
  refine ⟨⟨by decide, by decide, by omega, by omega, by omega⟩, ⟨by omega, by omega⟩, ?_⟩
  rw [rgD_I]
  refine lcL_map .int (fun _ => tI []) _ [] _ (fun _ _ K hK => ?_) (by rw [rgI_len, szl]; simp; omega) ?_
  · simp only [wgName, wgTup2, wgTup3, wB, wOp, wV, wC, wCall, wsCons, wsDice, wsNil, wCB, wCL, waCons, waNil, wTup, wL, wLst, wNot, wAnd, wOr, wAndV, wOrV, wNotV, wUn, wChain, wIf, wipeE, List.set_cons_zero, List.set_cons_succ, List.getElem?_cons_succ, List.getElem?_cons_zero, ex_dat, ex_own, ex_own2, ex_bool, ex_int, ex_int2, ex_pair, ex_three, gI0, gI, gIx_t, gIx_l, gMin2, gMax2, gLen, gAdd, gIn_t, gEq_ii, gEq_tt, gNe_ii, gNe_tt, List.length_map, fs1_at, fs2_at, fs3_at, fs4_at, fs5_at, fs6_at, fd1_at, fd2_at, fd3_at]
    exact ⟨by simp [szl], hK⟩
  rw [List.nil_append, map_const_rep, Int.sub_zero, enumD_I, show List.replicate many.toNat (tI []) = (List.replicate many.toNat []).map tI by rw [List.map_replicate]]
  refine forL_ind (fun ds env => ∃ (ns : List Int) (k : Nat) (line : List Int) (found : List (List Int)) (x5 x6 x7 x8 x9 : Sl), ds = (ns.zipIdx k).map (fun p => p2 (p.2 : Nat) p.1) ∧
      env = [.dat a, .dat (tI wear), .dat (.int many), .dat (lI line), .own (found.map tI), x5, x6, x7, x8, x9] ∧ (∀ x ∈ ns, 0 ≤ x) ∧ k + ns.length ≤ 1000 ∧ (∀ w ∈ line, 0 ≤ w ∧ w < found.length) ∧ line.length ≤ 1000 ∧ (∀ f ∈ found, f.length ≤ 1000 * k) ∧
      ((ns.zipIdx k).foldl turnStep (line, found)).2 = turnsI wear many) ?_ ?_ _ _ ⟨wear, 0, rgI 0 many, List.replicate many.toNat [], .un, .un, .un, .un, .un, rfl, rfl, h0, by omega, ?_, ?_, ?_, rfl⟩
  · rintro env ⟨ns, k, line, found, x5, x6, x7, x8, x9, e1, rfl, -, -, -, -, -, e2⟩
    cases ns with
    | cons _ _ => simp at e1
    | nil =>
      refine ⟨_, rfl, ?_⟩
      have e3 : found = turnsI wear many := e2
      rw [e3]
      exact h
  · rintro d ds env ⟨ns, k, line, found, x5, x6, x7, x8, x9, e1, rfl, p0, pk, pl, pz, pf, e2⟩ nx hnx
    cases ns with
    | nil => simp at e1
    | cons n ns =>
      rw [List.zipIdx_cons, List.map_cons] at e1
      obtain ⟨rfl, rfl⟩ := List.cons.inj e1
      have n0 : 0 ≤ n := p0 n List.mem_cons_self
      have hc : cutD (line.map PyData.int) none (some n) = (line.take n.toNat).map .int := by
        have := cutI_to line n0
        unfold cutI at this
        rw [cutD_I, this]
      have hd : cutD (line.map PyData.int) (some n) none = (line.drop n.toNat).map .int := by
        have := cutI_from line n0
        unfold cutI at this
        rw [cutD_I, this]
      simp only [wgName, wgTup2, wgTup3, wB, wOp, wV, wC, wCall, wsCons, wsDice, wsNil, wCB, wCL, waCons, waNil, wTup, wL, wLst, wNot, wAnd, wOr, wAndV, wOrV, wNotV, wUn, wChain, wIf, wipeE, List.set_cons_zero, List.set_cons_succ, List.getElem?_cons_succ, List.getElem?_cons_zero, ex_dat, ex_own, ex_own2, ex_bool, ex_int, ex_int2, ex_pair, ex_three, gI0, gI, gIx_t, gIx_l, gMin2, gMax2, gLen, gAdd, gIn_t, gEq_ii, gEq_tt, gNe_ii, gNe_tt, List.length_map, fs1_at, fs2_at, fs3_at, fs4_at, fs5_at, fs6_at, fd1_at, fd2_at, fd3_at, wSeq, wsSet, wvD, wCut, woNone, woSome, gCut, wsFor, wiSeq, ex_seqL, hc]
      refine forL_ind (fun ds env => ∃ (ws : List Int) (fd : List (List Int)) (B : Nat) (y8 : Sl), ds = ws.map .int ∧
        env = [.dat a, .dat (tI wear), .dat (.int many), .dat (lI line), .own (fd.map tI), .dat (.int (k : Nat)), .dat (.int n), .dat (lI (line.take n.toNat)), y8, x9] ∧ (∀ w ∈ ws, 0 ≤ w ∧ w < fd.length) ∧ fd.length = found.length ∧ (∀ f ∈ fd, f.length ≤ B) ∧ B + ws.length ≤ 1000 * (k + 1) ∧
        ws.foldl (putW k) fd = (line.take n.toNat).foldl (putW k) found) ?_ ?_ _ _ ⟨line.take n.toNat, found, 1000 * k, x8, rfl, rfl, fun w hw => pl w (List.mem_of_mem_take hw), rfl, pf, ?_, rfl⟩
      · rintro env ⟨ws, fd, B, y8, e3, rfl, -, e6, e7, e8, e9⟩
        cases ws with
        | cons _ _ => simp at e3
        | nil =>
          have e10 : fd = (line.take n.toNat).foldl (putW k) found := e9
          simp only [wgName, wgTup2, wgTup3, wB, wOp, wV, wC, wCall, wsCons, wsDice, wsNil, wCB, wCL, waCons, waNil, wTup, wL, wLst, wNot, wAnd, wOr, wAndV, wOrV, wNotV, wUn, wChain, wIf, wipeE, List.set_cons_zero, List.set_cons_succ, List.getElem?_cons_succ, List.getElem?_cons_zero, ex_dat, ex_own, ex_own2, ex_bool, ex_int, ex_int2, ex_pair, ex_three, gI0, gI, gIx_t, gIx_l, gMin2, gMax2, gLen, gAdd, gIn_t, gEq_ii, gEq_tt, gNe_ii, gNe_tt, List.length_map, fs1_at, fs2_at, fs3_at, fs4_at, fs5_at, fs6_at, fd1_at, fd2_at, fd3_at, wsSet, wvD, wCut, woNone, woSome, gCut, hd]
          refine ⟨by rw [szl]; simp; omega, hnx _ ⟨ns, k + 1, line.drop n.toNat ++ line.take n.toNat, fd, _, _, _, y8, x9, rfl, by rw [← List.map_append], fun x hx => p0 x (List.mem_cons_of_mem _ hx), by rw [List.length_cons] at pk; omega, fun w hw => ?_, ?_, fun f hf => ?_, ?_⟩⟩
          · rw [e6]
            rcases List.mem_append.mp hw with hw | hw
            · exact pl w (List.mem_of_mem_drop hw)
            · exact pl w (List.mem_of_mem_take hw)
          · rw [List.length_append, List.length_drop, List.length_take]
            omega
          · have := e7 f hf
            simp at e8
            omega
          · rw [List.zipIdx_cons, List.foldl_cons, turnStep_eq] at e2
            rw [e10]
            exact e2
      · rintro d ds env ⟨ws, fd, B, y8, e3, rfl, e5, e6, e7, e8, e9⟩ nx2 hnx2
        cases ws with
        | nil => simp at e3
        | cons v ws =>
          rw [List.map_cons] at e3
          obtain ⟨rfl, rfl⟩ := List.cons.inj e3
          obtain ⟨v0, v1⟩ := e5 v List.mem_cons_self
          have hv : v.toNat < fd.length := by omega
          have hat : atI (fd.map tI) v = some (tI (fd.getD v.toNat [])) := by
            rw [atI_map tI v0 v1, List.getD_eq_getElem?_getD, List.getElem?_eq_getElem hv]
            rfl
          simp only [wgName, wgTup2, wgTup3, wB, wOp, wV, wC, wCall, wsCons, wsDice, wsNil, wCB, wCL, waCons, waNil, wTup, wL, wLst, wNot, wAnd, wOr, wAndV, wOrV, wNotV, wUn, wChain, wIf, wipeE, List.set_cons_zero, List.set_cons_succ, List.getElem?_cons_succ, List.getElem?_cons_zero, ex_dat, ex_own, ex_own2, ex_bool, ex_int, ex_int2, ex_pair, ex_three, gI0, gI, gIx_t, gIx_l, gMin2, gMax2, gLen, gAdd, gIn_t, gEq_ii, gEq_tt, gNe_ii, gNe_tt, List.length_map, fs1_at, fs2_at, fs3_at, fs4_at, fs5_at, fs6_at, fd1_at, fd2_at, fd3_at, wsPut, vwE, vwS, List.map_cons, List.map_nil]
          have hB := e7 _ (List.getElem_mem hv)
          have hgd : fd.getD v.toNat [] = fd[v.toNat] := by rw [List.getD_eq_getElem?_getD, List.getElem?_eq_getElem hv]; rfl
          refine ⟨_, hat, by simp [szl], ?_⟩
          simp only [gAdd]
          refine ⟨by rw [szl, List.length_map, hgd]; simp only [List.length_cons, List.length_nil]; omega, ?_⟩
          have ed : (fd.getD v.toNat []).map PyData.int ++ [PyData.int ((k : Int) + 1)] = (fd.getD v.toNat [] ++ [(k : Int) + 1]).map .int := by simp
          rw [ed]
          refine ⟨nolist_tI _, v, v.toNat, rfl, ixN_at v0 v1, hnx2 _ ⟨ws, putW k fd v, B + 1, .dat (.int v), rfl, ?_, fun w hw => ?_, by rw [putW_len]; exact e6, putW_bound e7, by rw [List.length_cons] at e8; omega, e9⟩⟩
          · unfold putW
            rw [List.map_set]
          · rw [putW_len]
            exact e5 w (List.mem_cons_of_mem _ hw)
      · rw [List.length_take]
        omega
  · intro w hw
    have := mem_rgI.mp hw
    rw [List.length_replicate]
    omega
  · rw [rgI_len]
    omega
  · intro f hf
    rw [List.eq_of_mem_replicate hf]
    simp
theorem g_less : ∀ as Q E, S_less as Q E → w_less (startE N_less as) ⟨fun _ => Q .none, Q, E⟩ := by
  rintro as Q E ⟨a, b, rfl, wear, walk, rfl, rfl, hne, hl, h⟩
  change w_less [.dat (tI wear), .dat (tI walk), .un, .un, .un] _
  simp only [w_less, wSeq, wsSet, wvD, wCB, gTuple_l, gTuple_t, waCons, wL, wLc, wipeE, wiEnum, ex_seqL, ex_seqT, wV, wgTup2, wgName, wtYes, wOp, SD.gSub, gI0, gInt, gIn_t, gIn_l, gAdd, wC, waNil, wsRet, wIf, wB, gGe, gMin_l, gMin_t, List.getElem?_cons_zero, List.getElem?_cons_succ, List.set_cons_zero, List.set_cons_succ, ex_bool, ex_dat, ex_own, ex_own2, ex_int, ex_int2, ex_pair, ex_three, fs1_at, fs2_at, fs3_at, fs4_at, fs5_at, fs6_at, fd1_at, fd2_at, fd3_at, List.map_cons, List.map_nil, List.length_map, enumD_I]
  refine lcL_map (fun p : Int × Nat => p2 (p.2 : Nat) p.1) (fun p => .int (p.1 - hasI walk p.2)) _ [] _ (fun p _ K hK => ?_) (by rw [szl]; simp; omega) ?_
  · simp only [wgName, wgTup2, wgTup3, wB, wOp, wV, wC, wCall, wsCons, wsDice, wsNil, wCB, wCL, waCons, waNil, wTup, wL, wLst, wNot, wAnd, wOr, wAndV, wOrV, wNotV, wUn, wChain, wIf, wipeE, List.set_cons_zero, List.set_cons_succ, List.getElem?_cons_succ, List.getElem?_cons_zero, ex_dat, ex_own, ex_own2, ex_bool, ex_int, ex_int2, ex_pair, ex_three, gI0, gI, gIx_t, gIx_l, gMin2, gMax2, gLen, gAdd, gIn_t, gEq_ii, gEq_tt, gNe_ii, gNe_tt, List.length_map, fs1_at, fs2_at, fs3_at, fs4_at, fs5_at, fs6_at, fd1_at, fd2_at, fd3_at, SD.gSub, gInt]
    exact hK
  rw [List.nil_append, show wear.zipIdx.map (fun p => PyData.int (p.1 - hasI walk p.2)) = (subW wear walk).map .int by unfold subW; rw [List.map_map]; rfl]
  have hsl := subW_len wear walk
  cases hsw : subW wear walk with
  | nil =>
    rw [hsw, List.length_nil] at hsl
    exact absurd (List.eq_nil_of_length_eq_zero hsl.symm) hne
  | cons y ys =>
    rw [hsw] at h
    rw [gMin_t]
    simp only [gI0, ex_bool]
    rw [min_nonneg]
    by_cases hn : nonneg (y :: ys) = true
    · rw [if_pos hn] at h ⊢
      exact h
    · rw [if_neg hn] at h ⊢
      exact h
theorem g_need_made : ∀ as Q E, S_need_made as Q E → w_need_made (startE N_need_made as) ⟨fun _ => Q .none, Q, E⟩ := by
  rintro as Q E ⟨a, b, c, rfl, s, l, wear, many, rfl, rfl, rfl, hf, hs, h1, h2⟩
  change w_need_made [.dat (p2 s l), .dat (tI wear), .dat (.int many)] _
  simp only [w_need_made, wsIf, wNot, wB, wCall, wsCons, wV, wsNil, wsRaise, wNil, List.getElem?_cons_zero, List.getElem?_cons_succ, List.set_cons_zero, List.set_cons_succ, ex_bool, ex_dat, ex_own, ex_own2, ex_int, ex_int2, ex_pair, ex_three, fs1_at, fs2_at, fs3_at, fs4_at, fs5_at, fs6_at, fd1_at, fd2_at, fd3_at, List.map_cons, List.map_nil, List.length_map]
  refine ⟨_, _, _, rfl, s, l, wear, many, rfl, rfl, rfl, hf, hs, _, rfl, ?_⟩
  cases hd : doMake s l wear many with
  | false => exact h1 hd
  | true => exact h2 hd

theorem g_left_behind : ∀ as Q E, S_left_behind as Q E → w_left_behind (startE N_left_behind as) ⟨fun _ => Q .none, Q, E⟩ := by
  rintro as Q E ⟨a, b, c, rfl, wear, walk, t, rfl, rfl, rfl, hne, hl, ht, h⟩
  change w_left_behind [.dat (tI wear), .dat (tI walk), .dat (.int (t : Nat)), .un] _
  unfold w_left_behind
  simp only [wSeq]
  simp only [w_left_behind_0, wsFor, wiRng1, wV, wgName, List.getElem?_cons_zero, List.getElem?_cons_succ, List.set_cons_zero, List.set_cons_succ, ex_bool, ex_dat, ex_own, ex_own2, ex_int, ex_int2, ex_pair, ex_three, fs1_at, fs2_at, fs3_at, fs4_at, fs5_at, fs6_at, fd1_at, fd2_at, fd3_at, List.map_cons, List.map_nil, List.length_map]
  refine ⟨⟨by omega, by omega⟩, ?_⟩
  rw [rgD_I]
  refine forL_ind (fun ds env => ∃ (n : Nat) (y3 : Sl), n ≤ t ∧ ds = ((rgI 0 (t : Int)).drop n).map .int ∧ env = [.dat (optD (leftN wear walk n)), .dat (tI walk), .dat (.int (t : Nat)), y3]) ?_ ?_ _ _ ⟨0, .un, by omega, rfl, rfl⟩
  · rintro env ⟨n, y3, hn, e1, rfl⟩
    have hnm : n = t := by
      have := congrArg List.length e1
      simp [rgI_len] at this
      omega
    subst hnm
    simp only [w_left_behind_1, wsRet, wV, List.getElem?_cons_zero, List.getElem?_cons_succ, List.set_cons_zero, List.set_cons_succ, ex_bool, ex_dat, ex_own, ex_own2, ex_int, ex_int2, ex_pair, ex_three, fs1_at, fs2_at, fs3_at, fs4_at, fs5_at, fs6_at, fd1_at, fd2_at, fd3_at, List.map_cons, List.map_nil, List.length_map]
    exact h
  · rintro d ds env ⟨n, y3, hn, e1, rfl⟩ nx hnx
    have hnt : n < t := by
      apply Nat.lt_of_not_le
      intro z
      rw [List.drop_of_length_le (by rw [rgI_len]; omega)] at e1
      cases e1
    have hjr : n < (rgI 0 (t : Int)).length := by rw [rgI_len]; omega
    rw [List.drop_eq_getElem_cons hjr, List.map_cons] at e1
    obtain ⟨rfl, rfl⟩ := List.cons.inj e1
    have fin : ∀ y3, nx [.dat (optD (leftN wear walk (n + 1))), .dat (tI walk), .dat (.int (t : Nat)), y3] := fun y3 => hnx _ ⟨n + 1, y3, by omega, rfl, rfl⟩
    unfold leftN at fin
    simp only [wgName, wgTup2, wgTup3, wB, wOp, wV, wC, wCall, wsCons, wsDice, wsNil, wCB, wCL, waCons, waNil, wTup, wL, wLst, wNot, wAnd, wOr, wAndV, wOrV, wNotV, wUn, wChain, wIf, wipeE, List.set_cons_zero, List.set_cons_succ, List.getElem?_cons_succ, List.getElem?_cons_zero, ex_dat, ex_own, ex_own2, ex_bool, ex_int, ex_int2, ex_pair, ex_three, gI0, gI, gIx_t, gIx_l, gMin2, gMax2, gLen, gAdd, gIn_t, gEq_ii, gEq_tt, gNe_ii, gNe_tt, List.length_map, fs1_at, fs2_at, fs3_at, fs4_at, fs5_at, fs6_at, fd1_at, fd2_at, fd3_at, w_left_behind_0_0, wsIf, wB, wOp, gIsN, isNone_n, isNone_l, isNone_t, isNone_i, isNone_b, wV, wC, wNil, List.getElem?_cons_zero, List.getElem?_cons_succ, List.set_cons_zero, List.set_cons_succ, ex_bool, ex_dat, ex_own, ex_own2, ex_int, ex_int2, ex_pair, ex_three, fs1_at, fs2_at, fs3_at, fs4_at, fs5_at, fs6_at, fd1_at, fd2_at, fd3_at, List.map_cons, List.map_nil, List.length_map]
    cases e : leftN wear walk n with
    | none =>
      rw [e] at fin
      exact fin _
    | some w =>
      rw [e] at fin
      have hwl := leftN_len e
      simp only [optD, isNone_t, Bool.not_false, if_true]
      simp only [w_left_behind_0_0a_0, wsSet, wvD, wCall, wsCons, wV, wsNil, List.getElem?_cons_zero, List.getElem?_cons_succ, List.set_cons_zero, List.set_cons_succ, ex_bool, ex_dat, ex_own, ex_own2, ex_int, ex_int2, ex_pair, ex_three, fs1_at, fs2_at, fs3_at, fs4_at, fs5_at, fs6_at, fd1_at, fd2_at, fd3_at, List.map_cons, List.map_nil, List.length_map]
      refine ⟨_, _, rfl, w, walk, rfl, rfl, fun z => hne (List.eq_nil_of_length_eq_zero (by rw [← hwl, z]; rfl)), by omega, ?_⟩
      have := fin (.dat (.int (rgI 0 (t : Int))[n]))
      dsimp only at this
      by_cases hn2 : nonneg (subW w walk) = true
      · rw [if_pos hn2] at this ⊢
        exact this
      · rw [if_neg hn2] at this ⊢
        exact this
theorem g_has_so_many : ∀ as Q E, S_has_so_many as Q E → w_has_so_many (startE N_has_so_many as) ⟨fun _ => Q .none, Q, E⟩ := by
  rintro as Q E ⟨a, b, c, d, e, rfl, s, l, wear, many, walk, t, rfl, rfl, rfl, rfl, rfl, hf, hs, ht, h⟩
  change w_has_so_many [.dat (p2 s l), .dat (tI wear), .dat (.int many), .dat (tI walk), .dat (.int (t : Nat)), .un] _
  obtain ⟨f1, f2, f3, f4⟩ := id hf
  simp only [w_has_so_many, wSeq, wsSet, wvD, wCall, wsCons, wV, wsNil, wsRet, wAndV, wOp, gLe, gI0, gIsN, isNone_n, isNone_l, isNone_t, isNone_i, isNone_b, wC, SD.gSub, List.getElem?_cons_zero, List.getElem?_cons_succ, List.set_cons_zero, List.set_cons_succ, ex_bool, ex_dat, ex_own, ex_own2, ex_int, ex_int2, ex_pair, ex_three, fs1_at, fs2_at, fs3_at, fs4_at, fs5_at, fs6_at, fd1_at, fd2_at, fd3_at, List.map_cons, List.map_nil, List.length_map]
  have hne : wear ≠ [] := fun z => by rw [z] at hs; simp at hs; omega
  refine ⟨_, _, _, rfl, wear, walk, t, rfl, rfl, rfl, hne, by omega, ht, ?_⟩
  unfold hasMany at h
  by_cases htm : (t : Int) ≤ many
  · rw [decide_eq_true htm] at h ⊢
    rw [Bool.true_and] at h
    simp only [if_true]
    cases el : leftN wear walk t with
    | none =>
      rw [el] at h
      exact h
    | some w =>
      rw [el] at h
      have hwl := leftN_len el
      simp only [optD, isNone_t, Bool.not_false, if_true]
      exact ⟨_, _, _, rfl, s, l, w, many - t, rfl, rfl, rfl, hf, by omega, h⟩
  · rw [decide_eq_false htm] at h ⊢
    rw [Bool.false_and] at h
    exact h
theorem g_may_go : ∀ as Q E, S_may_go as Q E → w_may_go (startE N_may_go as) ⟨fun _ => Q .none, Q, E⟩ := by
  rintro as Q E ⟨a, b, c, rfl, hb, h1, h2, h3⟩
  change w_may_go [.dat a, .dat b, .dat c, .un] _
  simp only [w_may_go, wSeq, wsExpr, wCall, wsCons, wV, wsNil, wsRet, wL, wLc, wipeE, wiSeq, ex_seqL, ex_seqT, wgName, wB, wC, List.getElem?_cons_zero, List.getElem?_cons_succ, List.set_cons_zero, List.set_cons_succ, ex_bool, ex_dat, ex_own, ex_own2, ex_int, ex_int2, ex_pair, ex_three, fs1_at, fs2_at, fs3_at, fs4_at, fs5_at, fs6_at, fd1_at, fd2_at, fd3_at, List.map_cons, List.map_nil, List.length_map]
  refine ⟨_, _, _, rfl, hb, h1, h2, fun s l wear ea hf eb hw => ⟨(h3 s l wear ea hf eb hw).1, fun m ec m0 m9 => ?_⟩⟩
  have k := (h3 s l wear ea hf eb hw).2 m ec m0 m9
  subst ea eb ec
  refine ⟨_, _, _, rfl, s, l, wear, m, rfl, rfl, rfl, hf, hw.1, k.1, fun hd => ⟨_, rfl, s, l, rfl, hf, _, rfl, ?_⟩⟩
  refine lcL_fm tI (fun w => hasMany s l wear m w 1) tI _ [] _ (fun w _ K1 K2 k1 k2 => ?_) (by rw [szl]; simp; have := walks_len hf; omega) ?_
  · simp only [wgName, wgTup2, wgTup3, wB, wOp, wV, wC, wCall, wsCons, wsDice, wsNil, wCB, wCL, waCons, waNil, wTup, wL, wLst, wNot, wAnd, wOr, wAndV, wOrV, wNotV, wUn, wChain, wIf, wipeE, List.set_cons_zero, List.set_cons_succ, List.getElem?_cons_succ, List.getElem?_cons_zero, ex_dat, ex_own, ex_own2, ex_bool, ex_int, ex_int2, ex_pair, ex_three, gI0, gI, gIx_t, gIx_l, gMin2, gMax2, gLen, gAdd, gIn_t, gEq_ii, gEq_tt, gNe_ii, gNe_tt, List.length_map, fs1_at, fs2_at, fs3_at, fs4_at, fs5_at, fs6_at, fd1_at, fd2_at, fd3_at]
    refine ⟨_, _, _, _, _, rfl, s, l, wear, m, w, 1, rfl, rfl, rfl, rfl, rfl, hf, hw.1, by omega, _, rfl, ?_⟩
    split
    · rename_i hx
      exact k1 hx
    · rename_i hx
      exact k2 (Bool.eq_false_iff.mpr hx)
  · rw [List.nil_append]
    exact k.2 hd
theorem g_all_times : ∀ as Q E, S_all_times as Q E → w_all_times (startE N_all_times as) ⟨fun _ => Q .none, Q, E⟩ := by
  rintro as Q E ⟨a, b, c, d, rfl, s, l, wear, many, walk, rfl, rfl, rfl, rfl, hf, hs, m0, m9, h⟩
  change w_all_times [.dat (p2 s l), .dat (tI wear), .dat (.int many), .dat (tI walk), .un] _
  simp only [w_all_times, wsRet, wL, wLc, wipeE, wiRng1, wOp, gAdd, wV, wC, wgName, wB, wCall, wsCons, wsNil, List.getElem?_cons_zero, List.getElem?_cons_succ, List.set_cons_zero, List.set_cons_succ, ex_bool, ex_dat, ex_own, ex_own2, ex_int, ex_int2, ex_pair, ex_three, fs1_at, fs2_at, fs3_at, fs4_at, fs5_at, fs6_at, fd1_at, fd2_at, fd3_at, List.map_cons, List.map_nil, List.length_map]
  refine ⟨⟨by omega, by omega⟩, ?_⟩
  rw [rgD_I]
  refine lcL_fm .int (fun t => hasMany s l wear many walk t.toNat) .int _ [] _ (fun t ht K1 K2 k1 k2 => ?_) (by rw [rgI_len, szl]; simp; omega) ?_
  · simp only [wgName, wgTup2, wgTup3, wB, wOp, wV, wC, wCall, wsCons, wsDice, wsNil, wCB, wCL, waCons, waNil, wTup, wL, wLst, wNot, wAnd, wOr, wAndV, wOrV, wNotV, wUn, wChain, wIf, wipeE, List.set_cons_zero, List.set_cons_succ, List.getElem?_cons_succ, List.getElem?_cons_zero, ex_dat, ex_own, ex_own2, ex_bool, ex_int, ex_int2, ex_pair, ex_three, gI0, gI, gIx_t, gIx_l, gMin2, gMax2, gLen, gAdd, gIn_t, gEq_ii, gEq_tt, gNe_ii, gNe_tt, List.length_map, fs1_at, fs2_at, fs3_at, fs4_at, fs5_at, fs6_at, fd1_at, fd2_at, fd3_at]
    have := mem_rgI.mp ht
    refine ⟨_, _, _, _, _, rfl, s, l, wear, many, walk, t.toNat, rfl, rfl, rfl, rfl, by rw [show ((t.toNat : Nat) : Int) = t by omega], hf, hs, by omega, _, rfl, ?_⟩
    split
    · rename_i hx
      exact k1 hx
    · rename_i hx
      exact k2 (Bool.eq_false_iff.mpr hx)
  · rw [List.nil_append]
    exact h
theorem isGoodWalk_inv {s l : Int} {d : D} (h : isGoodWalk s l d = true) : ∃ w, d = tI w ∧ goodWalk s l w = true := by
  cases d <;> simp only [isGoodWalk] at h <;> try cases h
  rename_i ds
  rw [Bool.and_eq_true] at h
  have e := ints_of_whole h.1
  refine ⟨intsOf ds, congrArg PyData.tuple e, ?_⟩
  rw [← isGoodWalk_int]
  show isGoodWalk s l (.tuple ((intsOf ds).map .int)) = true
  rw [← e]
  unfold isGoodWalk
  rw [Bool.and_eq_true]
  exact h
theorem g_at_most_so : ∀ as Q E, S_at_most_so as Q E → w_at_most_so (startE N_at_most_so as) ⟨fun _ => Q .none, Q, E⟩ := by
  rintro as Q E ⟨a, b, c, d, rfl, hd, hb, h1, h2, h3⟩
  change w_at_most_so [.dat a, .dat b, .dat c, .dat d] _
  simp only [w_at_most_so, wSeq, wsExpr, wCall, wsCons, wV, wsNil, wsRet, wOp, gIx_l, gIx_t, wUn, gNeg, wC, List.getElem?_cons_zero, List.getElem?_cons_succ, List.set_cons_zero, List.set_cons_succ, ex_bool, ex_dat, ex_own, ex_own2, ex_int, ex_int2, ex_pair, ex_three, fs1_at, fs2_at, fs3_at, fs4_at, fs5_at, fs6_at, fd1_at, fd2_at, fd3_at, List.map_cons, List.map_nil, List.length_map]
  refine ⟨_, _, _, rfl, hb, h1, h2, fun s l wear ea hf eb hw => ⟨(h3 s l wear ea hf eb hw).1, fun m ec m0 m9 => ?_⟩⟩
  have k := (h3 s l wear ea hf eb hw).2 m ec m0 m9
  subst ea eb ec
  refine ⟨_, _, rfl, s, l, rfl, hd, fun hg => ?_, k.1⟩
  obtain ⟨walk, rfl, hgw⟩ := isGoodWalk_inv hg
  obtain ⟨k1, k2⟩ := k.2 walk rfl hgw
  refine ⟨_, _, _, rfl, s, l, wear, m, rfl, rfl, rfl, hf, hw.1, k1, fun hdm => ?_⟩
  obtain ⟨r, t, e, hq⟩ := k2 hdm
  refine ⟨_, _, _, _, rfl, s, l, wear, m, walk, rfl, rfl, rfl, rfl, hf, hw.1, m0, m9, ?_⟩
  simp only [gNeg]
  rw [e]
  refine gIx_l.mpr ⟨.int t, by rw [List.map_append]; exact atI_last _ _, hq⟩
theorem g_bag_with_walk : ∀ as Q E, S_bag_with_walk as Q E → w_bag_with_walk (startE N_bag_with_walk as) ⟨fun _ => Q .none, Q, E⟩ := by
  rintro as Q E ⟨a, b, c, d, e, rfl, hd, hb, h1, h2, h3⟩
  change w_bag_with_walk [.dat a, .dat b, .dat c, .dat d, .dat e] _
  unfold w_bag_with_walk
  simp only [wSeq]
  simp only [w_bag_with_walk_0, wsExpr, wCall, wsCons, wV, wsNil, List.getElem?_cons_zero, List.getElem?_cons_succ, List.set_cons_zero, List.set_cons_succ, ex_bool, ex_dat, ex_own, ex_own2, ex_int, ex_int2, ex_pair, ex_three, fs1_at, fs2_at, fs3_at, fs4_at, fs5_at, fs6_at, fd1_at, fd2_at, fd3_at, List.map_cons, List.map_nil, List.length_map]
  refine ⟨_, _, _, rfl, hb, h1, h2, fun s l wear ea hf eb hw => ⟨(h3 s l wear ea hf eb hw).1, fun m ec m0 m9 => ?_⟩⟩
  have k := (h3 s l wear ea hf eb hw).2 m ec m0 m9
  subst ea eb ec
  simp only [w_bag_with_walk_1, wsExpr, wCall, wsCons, wV, wsNil, List.getElem?_cons_zero, List.getElem?_cons_succ, List.set_cons_zero, List.set_cons_succ, ex_bool, ex_dat, ex_own, ex_own2, ex_int, ex_int2, ex_pair, ex_three, fs1_at, fs2_at, fs3_at, fs4_at, fs5_at, fs6_at, fd1_at, fd2_at, fd3_at, List.map_cons, List.map_nil, List.length_map]
  refine ⟨_, _, rfl, s, l, rfl, hd, fun hg => ?_, k.1⟩
  obtain ⟨walk, rfl, hgw⟩ := isGoodWalk_inv hg
  obtain ⟨k1, k2⟩ := k.2 walk rfl hgw
  simp only [w_bag_with_walk_2, wsIf, wNot, wB, wCall, wsCons, wV, wC, wsNil, wNil, List.getElem?_cons_zero, List.getElem?_cons_succ, List.set_cons_zero, List.set_cons_succ, ex_bool, ex_dat, ex_own, ex_own2, ex_int, ex_int2, ex_pair, ex_three, fs1_at, fs2_at, fs3_at, fs4_at, fs5_at, fs6_at, fd1_at, fd2_at, fd3_at, List.map_cons, List.map_nil, List.length_map, u_is_whole]
  cases he : isWhole e 0 9 with
  | false =>
    simp only [Bool.not_false, if_true]
    simp only [w_bag_with_walk_2a_0, wsRaise, List.getElem?_cons_zero, List.getElem?_cons_succ, List.set_cons_zero, List.set_cons_succ, ex_bool, ex_dat, ex_own, ex_own2, ex_int, ex_int2, ex_pair, ex_three, fs1_at, fs2_at, fs3_at, fs4_at, fs5_at, fs6_at, fd1_at, fd2_at, fd3_at, List.map_cons, List.map_nil, List.length_map]
    exact k1 he
  | true =>
    obtain ⟨ti, rfl, t0, t9⟩ := isWhole_int he
    obtain ⟨t, rfl⟩ : ∃ t : Nat, ti = t := ⟨ti.toNat, by omega⟩
    obtain ⟨k3, k4⟩ := k2 t rfl (by omega)
    simp only [Bool.not_true, Bool.false_eq_true, if_false, wNil]
    simp only [w_bag_with_walk_3, wsExpr, wCall, wsCons, wV, wsNil, List.getElem?_cons_zero, List.getElem?_cons_succ, List.set_cons_zero, List.set_cons_succ, ex_bool, ex_dat, ex_own, ex_own2, ex_int, ex_int2, ex_pair, ex_three, fs1_at, fs2_at, fs3_at, fs4_at, fs5_at, fs6_at, fd1_at, fd2_at, fd3_at, List.map_cons, List.map_nil, List.length_map]
    refine ⟨_, _, _, rfl, s, l, wear, m, rfl, rfl, rfl, hf, hw.1, k3, fun hdm => ?_⟩
    obtain ⟨k5, k6⟩ := k4 hdm
    simp only [w_bag_with_walk_4, wsIf, wNot, wB, wCall, wsCons, wV, wsNil, wNil, List.getElem?_cons_zero, List.getElem?_cons_succ, List.set_cons_zero, List.set_cons_succ, ex_bool, ex_dat, ex_own, ex_own2, ex_int, ex_int2, ex_pair, ex_three, fs1_at, fs2_at, fs3_at, fs4_at, fs5_at, fs6_at, fd1_at, fd2_at, fd3_at, List.map_cons, List.map_nil, List.length_map]
    refine ⟨_, _, _, _, _, rfl, s, l, wear, m, walk, t, rfl, rfl, rfl, rfl, rfl, hf, hw.1, by omega, _, rfl, ?_⟩
    cases hh : hasMany s l wear m walk t with
    | false =>
      simp only [Bool.not_false, if_true]
      simp only [w_bag_with_walk_4a_0, wsRet, wC, List.getElem?_cons_zero, List.getElem?_cons_succ, List.set_cons_zero, List.set_cons_succ, ex_bool, ex_dat, ex_own, ex_own2, ex_int, ex_int2, ex_pair, ex_three, fs1_at, fs2_at, fs3_at, fs4_at, fs5_at, fs6_at, fd1_at, fd2_at, fd3_at, List.map_cons, List.map_nil, List.length_map]
      exact k5 hh
    | true =>
      obtain ⟨mn, rfl⟩ : ∃ n : Nat, m = n := ⟨m.toNat, by omega⟩
      obtain ⟨left, hl, htm, hmk, hll, hln⟩ := bag_of_has hf hw.1 (fun x hx => (hw.2 x hx).1) hh
      have hne : wear ≠ [] := fun z => by
        have := hw.1
        have := hf.1
        rw [z] at *
        simp at *
        omega
      simp only [Bool.not_true, Bool.false_eq_true, if_false, wNil]
      simp only [w_bag_with_walk_5, wsRet, wOp, gAdd, wL, wOpL, gRepL, wLst, waCons, wV, waNil, wCall, wsCons, wsNil, SD.gSub, gI0, List.getElem?_cons_zero, List.getElem?_cons_succ, List.set_cons_zero, List.set_cons_succ, ex_bool, ex_dat, ex_own, ex_own2, ex_int, ex_int2, ex_pair, ex_three, fs1_at, fs2_at, fs3_at, fs4_at, fs5_at, fs6_at, fd1_at, fd2_at, fd3_at, List.map_cons, List.map_nil, List.length_map]
      have hwl : wear.length ≤ 8 := by have := hw.1; have := hf.2.1; omega
      refine ⟨by simp [szl], by omega, by omega, by rw [szl]; simp; omega, _, _, _, rfl, wear, walk, t, rfl, rfl, rfl, hne, by omega, by omega, ?_⟩
      rw [hl]
      refine ⟨_, _, _, rfl, left, (mn : Int) - t, rfl, rfl, by have := leftN_len hl; omega, hln, by omega, by omega, ?_⟩
      have e1 : (List.replicate ((t : Nat) : Int).toNat [tI walk]).flatten = (List.replicate t walk).map tI := by
        rw [Int.toNat_natCast, List.map_replicate]
        have : ∀ n : Nat, (List.replicate n [tI walk]).flatten = List.replicate n (tI walk) := fun n => by
          induction n with
          | zero => rfl
          | succ n ih => rw [List.replicate_succ, List.flatten_cons, ih, List.replicate_succ]; rfl
        exact this t
      have e2 := turns_len left (mn - t) fun x hx => ⟨hln x hx, hmk.1 x hx⟩
      rw [show ((mn - t : Nat) : Int) = (mn : Int) - t by omega] at e2
      rw [e1]
      refine ⟨by rw [szl]; simp [e2]; omega, ?_⟩
      rw [← List.map_append]
      exact k6 left hh hl

theorem g_rest_of : ∀ as Q E, S_rest_of as Q E → w_rest_of (startE N_rest_of as) ⟨fun _ => Q .none, Q, E⟩ := by
  rintro as Q E ⟨a, b, c, d, rfl, hd, hb, h1, h2, h3⟩
  change w_rest_of [.dat a, .dat b, .dat c, .dat d] _
  simp only [w_rest_of, wSeq, wsExpr, wCall, wsCons, wV, wsNil, wsRet, List.getElem?_cons_zero, List.getElem?_cons_succ, List.set_cons_zero, List.set_cons_succ, ex_bool, ex_dat, ex_own, ex_own2, ex_int, ex_int2, ex_pair, ex_three, fs1_at, fs2_at, fs3_at, fs4_at, fs5_at, fs6_at, fd1_at, fd2_at, fd3_at, List.map_cons, List.map_nil, List.length_map]
  refine ⟨_, _, _, rfl, hb, h1, h2, fun s l wear ea hf eb hw => ⟨(h3 s l wear ea hf eb hw).1, fun m ec m0 m9 => ?_⟩⟩
  have k := (h3 s l wear ea hf eb hw).2 m ec m0 m9
  subst ea eb ec
  refine ⟨_, _, rfl, s, l, rfl, hd, fun hg => ?_, k.1⟩
  obtain ⟨walk, rfl, hgw⟩ := isGoodWalk_inv hg
  obtain ⟨k1, k2⟩ := k.2 walk rfl hgw
  refine ⟨_, _, _, rfl, s, l, wear, m, rfl, rfl, rfl, hf, hw.1, k1, fun hdm => ?_⟩
  exact ⟨_, _, _, _, rfl, s, l, wear, m, walk, rfl, rfl, rfl, rfl, hf, hw.1, m0, m9, k2 hdm⟩
theorem g_lw_drawn : ∀ as Q E, S_lw_drawn as Q E → w_lw_drawn (startE N_lw_drawn as) ⟨fun _ => Q .none, Q, E⟩ := by
  rintro as Q E ⟨a, b, rfl, c, k, rfl, rfl, h⟩
  change w_lw_drawn [.dat (.int c), .dat (.int k), .un] _
  simp only [w_lw_drawn, wSeq, wsSet, wvD, wOp, gMod, gI, gAdd, gMulA, wV, wC, gDivA, wsRet, List.getElem?_cons_zero, List.getElem?_cons_succ, List.set_cons_zero, List.set_cons_succ, ex_bool, ex_dat, ex_own, ex_own2, ex_int, ex_int2, ex_pair, ex_three, fs1_at, fs2_at, fs3_at, fs4_at, fs5_at, fs6_at, fd1_at, fd2_at, fd3_at, List.map_cons, List.map_nil, List.length_map]
  refine ⟨.inl (.inr ⟨by decide, by decide⟩), .inl (.inr ⟨by decide, by decide⟩), by decide, ?_⟩
  generalize hm : (c * 6364136223846793005 + (k + 1) * 1442695040888963407) % 340282366920938463463374607431768211507 = m
  have m0 : m.natAbs < 2 ^ 129 := by omega
  refine ⟨.inr (wide_mul m0 m0 (by decide) (by decide) (by decide)), by decide, ?_⟩
  generalize hn : m * m % 340282366920938463463374607431768211297 = n
  have n0 : n.natAbs < 2 ^ 129 := by omega
  have n1 : 0 ≤ n := by omega
  refine ⟨by decide, .inr ⟨by decide, by decide⟩, ?_, ?_, by decide, h _⟩
  · exact .inr (wide_mul (a := 66) (b := 130) (by omega) (by omega) (by decide) (by decide) (by decide))
  · exact .inr (wide_mul (a := 196) (b := 129) (wide_lt (a := 66) (b := 130) (by omega) (by omega)) n0 (by decide) (by decide) (by decide))
theorem g_lw_roll : ∀ as Q E, S_lw_roll as Q E → w_lw_roll (startE N_lw_roll as) ⟨fun _ => Q .none, Q, E⟩ := by
  rintro as Q E ⟨a, rfl, m, rfl, h1, h2, h⟩
  change w_lw_roll [.dice, .dat (.int m), .un] _
  simp only [w_lw_roll, wSeq, wsIf, wB, wOp, gGe, gI0, wDie, gPow, gI, wC, wsSet, wvD, gMod, wV, wsDie, gDivA, wsRet, wNil, gAdd, wCall, wsCons, wsNil, List.getElem?_cons_zero, List.getElem?_cons_succ, List.set_cons_zero, List.set_cons_succ, ex_bool, ex_dat, ex_own, ex_own2, ex_int, ex_int2, ex_pair, ex_three, fs1_at, fs2_at, fs3_at, fs4_at, fs5_at, fs6_at, fd1_at, fd2_at, fd3_at, List.map_cons, List.map_nil, List.length_map]
  refine ⟨trivial, fun n => ⟨⟨by decide, by decide, by decide⟩, ?_⟩⟩
  split
  · exact ⟨trivial, fun n => ⟨by omega, trivial, trivial, fun _ => ⟨.inl ⟨by omega, by omega⟩, h _ (Int.emod_nonneg _ (by omega)) (Int.emod_lt_of_pos _ (by omega))⟩⟩⟩
  · refine ⟨trivial, trivial, fun n => ⟨trivial, fun c => ⟨trivial, fun k => ?_⟩⟩⟩
    exact ⟨_, _, rfl, c, k, rfl, rfl, fun r => ⟨.inl ⟨by decide, by decide⟩, by omega, h _ (Int.emod_nonneg _ (by omega)) (Int.emod_lt_of_pos _ (by omega))⟩⟩
theorem g_lw_any_flight : ∀ as Q E, S_lw_any_flight as Q E → w_lw_any_flight (startE N_lw_any_flight as) ⟨fun _ => Q .none, Q, E⟩ := by
  rintro as Q E ⟨a, rfl, m, rfl, h1, h2, h⟩
  change w_lw_any_flight [.dice, .dat (.int m)] _
  simp only [w_lw_any_flight, wsRet, wTup, waCons, wOp, gAdd, wC, wCall, wsDice, wsCons, wV, wsNil, waNil, List.getElem?_cons_zero, List.getElem?_cons_succ, List.set_cons_zero, List.set_cons_succ, ex_bool, ex_dat, ex_own, ex_own2, ex_int, ex_int2, ex_pair, ex_three, fs1_at, fs2_at, fs3_at, fs4_at, fs5_at, fs6_at, fd1_at, fd2_at, fd3_at, List.map_cons, List.map_nil, List.length_map]
  refine ⟨trivial, u_roll h1 (by omega) fun r r0 r1 => ⟨trivial, u_roll (by decide) (by decide) fun q q0 q1 => ?_⟩⟩
  simp only [gAdd]
  exact ⟨by simp [szl], h _ _ ⟨by omega, by omega, by omega, by omega⟩ (by omega)⟩
theorem g_lw_walks : ∀ as Q E, S_lw_walks as Q E → w_lw_walks (startE N_lw_walks as) ⟨fun _ => Q .none, Q, E⟩ := by
  rintro as Q E ⟨a, rfl, s, l, rfl, hf, h⟩
  change w_lw_walks [.dat (p2 s l), .un, .un, .un, .un, .un, .un, .un, .un, .un] _
  simp only [w_lw_walks, wSeq, wsUnp, wgTup2, wgName, wV, wsPar, wvD, wL, wLst, waCons, wTup, waNil, wvL, wsFor, wiRng2, wC, wOp, gAdd, wsSet, wLc, wipeE, wiSeq, ex_seqL, ex_seqT, wtYes, wsIf, wB, gLe, gI0, wCB, gMax_l, gMax_t, wiZip, gZip_t, gZip_l, wCut, gCut, woSome, woNone, SD.gSub, wsApp, wNil, wsRetV, vwE, vwS, wCL, gSorted, List.getElem?_cons_zero, List.getElem?_cons_succ, List.set_cons_zero, List.set_cons_succ, ex_bool, ex_dat, ex_own, ex_own2, ex_int, ex_int2, ex_pair, ex_three, fs1_at, fs2_at, fs3_at, fs4_at, fs5_at, fs6_at, fd1_at, fd2_at, fd3_at, List.map_cons, List.map_nil, List.length_map]
  obtain ⟨f1, f2, f3, f4⟩ := id hf
  refine ⟨by simp [szl], by simp [szl], by simp [szl], ⟨by decide, by decide⟩, ⟨by omega, by omega⟩, ?_⟩
  rw [rgD_I]
  refine forL_ind (fun ds env => ∃ (st : List Int) (rows : List (List Int)) (x5 x6 x7 x8 x9 : Sl), ds = st.map .int ∧ env = [.dat (p2 s l), .dat (.int s), .dat (.int l), .dat (lW rows), .own [], x5, x6, x7, x8, x9] ∧
    st.foldl (fun rows st => rows ++ rows.map fun r => r ++ [st]) rows = allRows s ∧ rows.length * 2 ^ st.length ≤ 256 ∧ ∀ r ∈ rows, r.length + st.length ≤ 8) ?_ ?_ _ _ ⟨rgI 1 (s + 1), [[]], .un, .un, .un, .un, .un, rfl, rfl, rfl, ?_, fun r hr => ?_⟩
  · rintro env ⟨st, rows, x5, x6, x7, x8, x9, e1, rfl, e2, e3, e4⟩
    cases st with
    | cons _ _ => simp at e1
    | nil =>
      have e2' : rows = allRows s := e2
      subst e2'
      simp only [wgName, wgTup2, wgTup3, wB, wOp, wV, wC, wCall, wsCons, wsDice, wsNil, wCB, wCL, waCons, waNil, wTup, wL, wLst, wNot, wAnd, wOr, wAndV, wOrV, wNotV, wUn, wChain, wIf, wipeE, List.set_cons_zero, List.set_cons_succ, List.getElem?_cons_succ, List.getElem?_cons_zero, ex_dat, ex_own, ex_own2, ex_bool, ex_int, ex_int2, ex_pair, ex_three, gI0, gI, gIx_t, gIx_l, gMin2, gMax2, gLen, gAdd, gIn_t, gEq_ii, gEq_tt, gNe_ii, gNe_tt, List.length_map, fs1_at, fs2_at, fs3_at, fs4_at, fs5_at, fs6_at, fd1_at, fd2_at, fd3_at, ex_seqL]
      have e3' : (allRows s).length ≤ 256 := by simpa using e3
      have e4' : ∀ r ∈ allRows s, r.length ≤ 8 := fun r hr => by simpa using e4 r hr
      refine forL_ind (fun ds env => ∃ (rs fd : List (List Int)) (y6 y7 y8 y9 : Sl), ds = rs.map tI ∧ env = [.dat (p2 s l), .dat (.int s), .dat (.int l), .dat (lW (allRows s)), .own (fd.map tI), x5, y6, y7, y8, y9] ∧
        fd ++ rs.filter (fun r => decide (maxStride s r ≤ l)) = (allRows s).filter (fun r => decide (maxStride s r ≤ l)) ∧ fd.length + rs.length ≤ 256 ∧ ∀ r ∈ rs, r.length ≤ 8) ?_ ?_ _ _ ⟨allRows s, [], x6, x7, x8, x9, rfl, rfl, rfl, by simpa using e3', e4'⟩
      · rintro env ⟨rs, fd, y6, y7, y8, y9, e5, rfl, e6, e7, e8⟩
        cases rs with
        | cons _ _ => simp at e5
        | nil =>
          simp only [List.filter_nil, List.append_nil] at e6
          refine ⟨_, rfl, ?_⟩
          obtain ⟨s1, s2, s3⟩ := sort_ok fd
          refine ⟨s1, s2, s3, ?_⟩
          rw [sortD_W, e6]
          exact h
      · rintro d ds env ⟨rs, fd, y6, y7, y8, y9, e5, rfl, e6, e7, e8⟩ nx hnx
        cases rs with
        | nil => simp at e5
        | cons r rs =>
          rw [List.map_cons] at e5
          obtain ⟨rfl, rfl⟩ := List.cons.inj e5
          have hr8 := e8 r List.mem_cons_self
          simp only [wgName, wgTup2, wgTup3, wB, wOp, wV, wC, wCall, wsCons, wsDice, wsNil, wCB, wCL, waCons, waNil, wTup, wL, wLst, wNot, wAnd, wOr, wAndV, wOrV, wNotV, wUn, wChain, wIf, wipeE, List.set_cons_zero, List.set_cons_succ, List.getElem?_cons_succ, List.getElem?_cons_zero, ex_dat, ex_own, ex_own2, ex_bool, ex_int, ex_int2, ex_pair, ex_three, gI0, gI, gIx_t, gIx_l, gMin2, gMax2, gLen, gAdd, gIn_t, gEq_ii, gEq_tt, gNe_ii, gNe_tt, List.length_map, fs1_at, fs2_at, fs3_at, fs4_at, fs5_at, fs6_at, fd1_at, fd2_at, fd3_at, wSeq, wsSet, wvD, wsIf, wsApp, wNil]
          refine ⟨by simp [szl], by rw [szl]; simp; omega, by simp [szl], ?_⟩
          have e : [PyData.int 0] ++ r.map PyData.int ++ [PyData.int (s + 1)] = (0 :: (r ++ [s + 1])).map .int := by simp
          rw [e]
          refine ⟨by rw [szl]; simp; omega, ?_⟩
          simp only [wgName, wgTup2, wgTup3, wB, wOp, wV, wC, wCall, wsCons, wsDice, wsNil, wCB, wCL, waCons, waNil, wTup, wL, wLst, wNot, wAnd, wOr, wAndV, wOrV, wNotV, wUn, wChain, wIf, wipeE, List.set_cons_zero, List.set_cons_succ, List.getElem?_cons_succ, List.getElem?_cons_zero, ex_dat, ex_own, ex_own2, ex_bool, ex_int, ex_int2, ex_pair, ex_three, gI0, gI, gIx_t, gIx_l, gMin2, gMax2, gLen, gAdd, gIn_t, gEq_ii, gEq_tt, gNe_ii, gNe_tt, List.length_map, fs1_at, fs2_at, fs3_at, fs4_at, fs5_at, fs6_at, fd1_at, fd2_at, fd3_at, wLc, wiZip, wCut, gCut, woSome, woNone, cutD_I, gZip_t]
          have e2 := cutI_from (0 :: (r ++ [s + 1])) (i := 1) (by decide)
          unfold cutI at e2
          rw [e2, zipD_I]
          refine lcL_map (fun p : Int × Int => p2 p.1 p.2) (fun p => .int (p.2 - p.1)) _ [] _ (fun p _ K hK => ?_) ?_ ?_
          · simp only [wgName, wgTup2, wgTup3, wB, wOp, wV, wC, wCall, wsCons, wsDice, wsNil, wCB, wCL, waCons, waNil, wTup, wL, wLst, wNot, wAnd, wOr, wAndV, wOrV, wNotV, wUn, wChain, wIf, wipeE, List.set_cons_zero, List.set_cons_succ, List.getElem?_cons_succ, List.getElem?_cons_zero, ex_dat, ex_own, ex_own2, ex_bool, ex_int, ex_int2, ex_pair, ex_three, gI0, gI, gIx_t, gIx_l, gMin2, gMax2, gLen, gAdd, gIn_t, gEq_ii, gEq_tt, gNe_ii, gNe_tt, List.length_map, fs1_at, fs2_at, fs3_at, fs4_at, fs5_at, fs6_at, fd1_at, fd2_at, fd3_at]
            exact hK
          · rw [szl]
            simp
            omega
          · rw [List.nil_append]
            have e3 : ((0 :: (r ++ [s + 1])).zip (List.drop (1 : Int).toNat (0 :: (r ++ [s + 1])))).map (fun p : Int × Int => PyData.int (p.2 - p.1)) = (stridesI s r).map .int := by
              unfold stridesI diffs
              rw [List.map_map]
              rfl
            obtain ⟨n, ns, en⟩ := strides_cons s r
            have em : maxStride s r = ns.foldl max n := by
              unfold maxStride
              rw [en]
              rfl
            rw [e3, en, gMax_l]
            simp only [gI0, ex_bool]
            rw [← em]
            by_cases hm : maxStride s r ≤ l
            · rw [decide_eq_true hm]
              simp only [if_true]
              refine ⟨by rw [szl]; rw [List.length_cons] at e7; omega, hnx _ ⟨rs, fd ++ [r], _, _, y8, y9, rfl, by rw [List.map_append]; rfl, ?_, by rw [List.length_append]; rw [List.length_cons] at e7; simp; omega, fun r hr => e8 r (List.mem_cons_of_mem _ hr)⟩⟩
              rw [← e6, List.filter_cons_of_pos (by simpa using hm), List.append_assoc]
              rfl
            · rw [decide_eq_false hm]
              simp only [Bool.false_eq_true, if_false]
              refine hnx _ ⟨rs, fd, _, _, y8, y9, rfl, rfl, ?_, by rw [List.length_cons] at e7; omega, fun r hr => e8 r (List.mem_cons_of_mem _ hr)⟩
              rw [← e6, List.filter_cons_of_neg (by simpa using hm)]
  · rintro d ds env ⟨st, rows, x5, x6, x7, x8, x9, e1, rfl, e2, e3, e4⟩ nx hnx
    cases st with
    | nil => simp at e1
    | cons a st =>
      rw [List.map_cons] at e1
      obtain ⟨rfl, rfl⟩ := List.cons.inj e1
      have hrl : rows.length ≤ 256 := by
        have : 1 ≤ 2 ^ (a :: st).length := Nat.one_le_two_pow
        exact Nat.le_trans (Nat.le_mul_of_pos_right _ this) e3
      simp only [wgName, wgTup2, wgTup3, wB, wOp, wV, wC, wCall, wsCons, wsDice, wsNil, wCB, wCL, waCons, waNil, wTup, wL, wLst, wNot, wAnd, wOr, wAndV, wOrV, wNotV, wUn, wChain, wIf, wipeE, List.set_cons_zero, List.set_cons_succ, List.getElem?_cons_succ, List.getElem?_cons_zero, ex_dat, ex_own, ex_own2, ex_bool, ex_int, ex_int2, ex_pair, ex_three, gI0, gI, gIx_t, gIx_l, gMin2, gMax2, gLen, gAdd, gIn_t, gEq_ii, gEq_tt, gNe_ii, gNe_tt, List.length_map, fs1_at, fs2_at, fs3_at, fs4_at, fs5_at, fs6_at, fd1_at, fd2_at, fd3_at, wsSet, wvD, wLc, wiSeq, ex_seqL]
      refine lcL_map tI (fun r => tI (r ++ [a])) rows [] _ (fun r hr K hK => ?_) (by rw [szl]; simp; omega) ?_
      · simp only [wgName, wgTup2, wgTup3, wB, wOp, wV, wC, wCall, wsCons, wsDice, wsNil, wCB, wCL, waCons, waNil, wTup, wL, wLst, wNot, wAnd, wOr, wAndV, wOrV, wNotV, wUn, wChain, wIf, wipeE, List.set_cons_zero, List.set_cons_succ, List.getElem?_cons_succ, List.getElem?_cons_zero, ex_dat, ex_own, ex_own2, ex_bool, ex_int, ex_int2, ex_pair, ex_three, gI0, gI, gIx_t, gIx_l, gMin2, gMax2, gLen, gAdd, gIn_t, gEq_ii, gEq_tt, gNe_ii, gNe_tt, List.length_map, fs1_at, fs2_at, fs3_at, fs4_at, fs5_at, fs6_at, fd1_at, fd2_at, fd3_at]
        have := e4 r hr
        refine ⟨by simp [szl], by rw [szl, List.length_singleton]; omega, ?_⟩
        rw [show r.map PyData.int ++ [PyData.int a] = (r ++ [a]).map .int by simp]
        exact hK
      · rw [List.nil_append]
        refine ⟨by rw [szl]; simp; omega, hnx _ ⟨st, rows ++ rows.map (fun r => r ++ [a]), .dat (.int a), x6, x7, x8, x9, rfl, ?_, e2, ?_, fun r hr => ?_⟩⟩
        · simp only [lW, List.map_append, List.map_map]
          rfl
        · rw [List.length_append, List.length_map, ← Nat.two_mul, Nat.mul_comm 2, Nat.mul_assoc, Nat.mul_comm 2]
          rw [List.length_cons, Nat.pow_succ] at e3
          exact e3
        · rcases List.mem_append.mp hr with hr | hr
          · have := e4 r hr
            rw [List.length_cons] at this
            omega
          · obtain ⟨r', hr', rfl⟩ := List.mem_map.mp hr
            have := e4 r' hr'
            rw [List.length_cons] at this
            rw [List.length_append, List.length_singleton]
            omega
  · rw [rgI_len]
    have : (s + 1 - 1).toNat ≤ 8 := by omega
    have := Nat.pow_le_pow_right (n := 2) (by decide) this
    simpa using this
  · rw [List.mem_singleton.mp hr, rgI_len]
    simp
    omega
theorem g_lw_wear : ∀ as Q E, S_lw_wear as Q E → w_lw_wear (startE N_lw_wear as) ⟨fun _ => Q .none, Q, E⟩ := by
  rintro as Q E ⟨a, b, rfl, s, ws, rfl, rfl, h0, h1, hl, h⟩
  change w_lw_wear [.dat (.int s), .dat (lW ws), .un, .un] _
  simp only [w_lw_wear, wsRet, wCB, gTuple_l, gTuple_t, waCons, wL, wLc, wipeE, wiRng2, wC, wOp, gAdd, wV, wgName, wtYes, gLen, wiSeq, ex_seqL, ex_seqT, wB, gIn_t, gIn_l, waNil, List.getElem?_cons_zero, List.getElem?_cons_succ, List.set_cons_zero, List.set_cons_succ, ex_bool, ex_dat, ex_own, ex_own2, ex_int, ex_int2, ex_pair, ex_three, fs1_at, fs2_at, fs3_at, fs4_at, fs5_at, fs6_at, fd1_at, fd2_at, fd3_at, List.map_cons, List.map_nil, List.length_map]
  refine ⟨⟨by decide, by decide⟩, ⟨by omega, by omega⟩, ?_⟩
  rw [rgD_I]
  refine lcL_map .int (fun st => .int ((ws.filter fun w => decide (st ∈ w)).length : Nat)) _ [] _ (fun st _ K hK => ?_) (by rw [rgI_len, szl]; simp; omega) ?_
  · simp only [wgName, wgTup2, wgTup3, wB, wOp, wV, wC, wCall, wsCons, wsDice, wsNil, wCB, wCL, waCons, waNil, wTup, wL, wLst, wNot, wAnd, wOr, wAndV, wOrV, wNotV, wUn, wChain, wIf, wipeE, List.set_cons_zero, List.set_cons_succ, List.getElem?_cons_succ, List.getElem?_cons_zero, ex_dat, ex_own, ex_own2, ex_bool, ex_int, ex_int2, ex_pair, ex_three, gI0, gI, gIx_t, gIx_l, gMin2, gMax2, gLen, gAdd, gIn_t, gEq_ii, gEq_tt, gNe_ii, gNe_tt, List.length_map, fs1_at, fs2_at, fs3_at, fs4_at, fs5_at, fs6_at, fd1_at, fd2_at, fd3_at, wLc, wiSeq, ex_seqL]
    refine lcL_fm tI (fun w => decide (st ∈ w)) tI ws [] _ (fun w _ K1 K2 h1 h2 => ?_) (by simp [szl]; omega) ?_
    · simp only [wgName, wgTup2, wgTup3, wB, wOp, wV, wC, wCall, wsCons, wsDice, wsNil, wCB, wCL, waCons, waNil, wTup, wL, wLst, wNot, wAnd, wOr, wAndV, wOrV, wNotV, wUn, wChain, wIf, wipeE, List.set_cons_zero, List.set_cons_succ, List.getElem?_cons_succ, List.getElem?_cons_zero, ex_dat, ex_own, ex_own2, ex_bool, ex_int, ex_int2, ex_pair, ex_three, gI0, gI, gIx_t, gIx_l, gMin2, gMax2, gLen, gAdd, gIn_t, gEq_ii, gEq_tt, gNe_ii, gNe_tt, List.length_map, fs1_at, fs2_at, fs3_at, fs4_at, fs5_at, fs6_at, fd1_at, fd2_at, fd3_at]
      split
      · rename_i hx
        exact h1 hx
      · rename_i hx
        exact h2 (Bool.eq_false_iff.mpr hx)
    · simp only [List.nil_append, gLen, List.length_map]
      exact hK
  · rw [List.nil_append]
    unfold sumOf at h
    rw [show (rgI 1 (s + 1)).map (fun st => PyData.int ((ws.filter fun w => decide (st ∈ w)).length : Nat)) = ((rgI 1 (s + 1)).map fun st => ((ws.filter fun w => decide (st ∈ w)).length : Int)).map .int by rw [List.map_map]; rfl]
    exact h
theorem g_lw_any_walks : ∀ as Q E, S_lw_any_walks as Q E → w_lw_any_walks (startE N_lw_any_walks as) ⟨fun _ => Q .none, Q, E⟩ := by
  rintro as Q E ⟨a, b, rfl, s, l, many, rfl, rfl, hf, m0, m1, h⟩
  change w_lw_any_walks [.dice, .dat (p2 s l), .dat (.int many), .un, .un] _
  simp only [w_lw_any_walks, wSeq, wsSet, wvD, wCall, wsCons, wV, wsNil, wsRet, wL, wLc, wipeE, wiRng1, wgName, wtYes, wOp, gIx_l, gIx_t, wsDice, wCB, gLen, waCons, waNil, List.getElem?_cons_zero, List.getElem?_cons_succ, List.set_cons_zero, List.set_cons_succ, ex_bool, ex_dat, ex_own, ex_own2, ex_int, ex_int2, ex_pair, ex_three, fs1_at, fs2_at, fs3_at, fs4_at, fs5_at, fs6_at, fd1_at, fd2_at, fd3_at, List.map_cons, List.map_nil, List.length_map]
  refine ⟨_, rfl, s, l, rfl, hf, ⟨by omega, by omega⟩, ?_⟩
  have hlen : (walksI s l).length ≤ 256 := walks_len hf
  have hpos : 0 < (walksI s l).length := walks_pos hf
  refine lcL_any (fun y => ∃ w, w ∈ walksI s l ∧ y = tI w) _ [] _ (fun d hd K hK => ?_) (by rw [rgD_I, szl]; simp [rgI_len]; omega) fun ys h1 h2 => ?_
  · rw [rgD_I] at hd
    obtain ⟨i, _, rfl⟩ := List.mem_map.mp hd
    simp only [wgName, wgTup2, wgTup3, wB, wOp, wV, wC, wCall, wsCons, wsDice, wsNil, wCB, wCL, waCons, waNil, wTup, wL, wLst, wNot, wAnd, wOr, wAndV, wOrV, wNotV, wUn, wChain, wIf, wipeE, List.set_cons_zero, List.set_cons_succ, List.getElem?_cons_succ, List.getElem?_cons_zero, ex_dat, ex_own, ex_own2, ex_bool, ex_int, ex_int2, ex_pair, ex_three, gI0, gI, gIx_t, gIx_l, gMin2, gMax2, gLen, gAdd, gIn_t, gEq_ii, gEq_tt, gNe_ii, gNe_tt, List.length_map, fs1_at, fs2_at, fs3_at, fs4_at, fs5_at, fs6_at, fd1_at, fd2_at, fd3_at]
    refine ⟨trivial, u_roll (by omega) (by omega) fun r r0 r1 => ?_⟩
    rw [gIx_l]
    have hr : r.toNat < (walksI s l).length := by omega
    exact ⟨_, by rw [atI_map tI r0 (by omega), List.getElem?_eq_getElem hr] <;> rfl, hK _ ⟨_, List.getElem_mem hr, rfl⟩⟩
  · obtain ⟨ws, rfl, hws⟩ := unmap h2
    rw [List.nil_append]
    refine h ws ?_ hws
    rw [List.length_map, rgD_I, List.length_map, rgI_len] at h1
    omega
theorem g_lw_any_wear : ∀ as Q E, S_lw_any_wear as Q E → w_lw_any_wear (startE N_lw_any_wear as) ⟨fun _ => Q .none, Q, E⟩ := by
  rintro as Q E ⟨a, b, rfl, s, l, many, rfl, rfl, hf, m0, m1, h⟩
  change w_lw_any_wear [.dice, .dat (p2 s l), .dat (.int many), .un, .un, .un] _
  simp only [w_lw_any_wear, wSeq, wsSet, wvD, wCall, wsCons, wOp, gIx_l, gIx_t, wV, wC, wsDice, wsNil, wsIf, wB, gEq_ii, gEq_tt, gEq_ll, gEq_l0, gEq_ww, gEq_bb, gMod, gI, gAdd, wCut, gCut, woNone, woSome, wTup, waCons, waNil, wNil, wsRet, List.getElem?_cons_zero, List.getElem?_cons_succ, List.set_cons_zero, List.set_cons_succ, ex_bool, ex_dat, ex_own, ex_own2, ex_int, ex_int2, ex_pair, ex_three, fs1_at, fs2_at, fs3_at, fs4_at, fs5_at, fs6_at, fd1_at, fd2_at, fd3_at, List.map_cons, List.map_nil, List.length_map]
  obtain ⟨f1, f2, f3, f4⟩ := id hf
  refine ⟨.int s, rfl, trivial, _, _, rfl, s, l, many, rfl, rfl, hf, m0, by omega, fun ws hl hw => ⟨_, _, rfl, s, ws, rfl, rfl, by omega, by omega, by omega, ⟨trivial, u_roll (by decide) (by decide) fun r r0 r1 => ?_⟩⟩⟩
  rw [gEq_ii]
  have hsl : ((sumOf s ws).length : Int) = s := by
    unfold sumOf
    rw [List.length_map, rgI_len]
    omega
  have hsw : ∀ x ∈ sumOf s ws, 0 ≤ x ∧ x ≤ many + 2 := fun x hx => by
    unfold sumOf at hx
    obtain ⟨st, _, rfl⟩ := List.mem_map.mp hx
    have := List.length_filter_le (fun w : List Int => decide (st ∈ w)) ws
    omega
  refine ⟨_, rfl, ?_⟩
  split
  · refine ⟨trivial, .int s, rfl, u_roll f1 (by omega) fun r r0 r1 => gIx_t.mpr ?_⟩
    have hr : r.toNat < (sumOf s ws).length := by omega
    refine ⟨.int (sumOf s ws)[r.toNat], by rw [atI_map .int r0 (by omega), List.getElem?_eq_getElem hr] <;> rfl, ?_⟩
    refine ⟨trivial, u_roll (by decide) (by decide) fun q q0 q1 => ?_⟩
    refine ⟨by omega, r, rfl, by simp [szl], ?_⟩
    have c1 : cutD ((sumOf s ws).map PyData.int) none (some r) = ((sumOf s ws).take r.toNat).map .int := by
      have := cutI_to (sumOf s ws) r0
      unfold cutI at this
      rw [cutD_I, this]
    have c2 : cutD ((sumOf s ws).map PyData.int) (some (r + 1)) none = ((sumOf s ws).drop (r + 1).toNat).map .int := by
      have := cutI_from (sumOf s ws) (i := r + 1) (by omega)
      unfold cutI at this
      rw [cutD_I, this]
    generalize hb : ((sumOf s ws)[r.toNat] + 1 + q) % (many + 3) = bent
    have b0 : 0 ≤ bent := by
      rw [← hb]
      exact Int.emod_nonneg _ (by omega)
    have b1 : bent < many + 3 := by
      rw [← hb]
      exact Int.emod_lt_of_pos _ (by omega)
    rw [c1]
    refine ⟨by rw [szl]; simp; omega, r + 1, rfl, ?_⟩
    simp only [tI, c2]
    refine ⟨by rw [szl]; simp; omega, ?_⟩
    have e : ((sumOf s ws).take r.toNat).map PyData.int ++ [PyData.int bent] ++ ((sumOf s ws).drop (r + 1).toNat).map .int = ((sumOf s ws).take r.toNat ++ [bent] ++ (sumOf s ws).drop (r + 1).toNat).map .int := by simp
    rw [e]
    refine h _ ?_ fun x hx => ?_
    · rw [List.length_append, List.length_append, List.length_take, List.length_drop, List.length_singleton]
      omega
    · rcases List.mem_append.mp hx with hx | hx
      · rcases List.mem_append.mp hx with hx | hx
        · exact hsw x (List.mem_of_mem_take hx)
        · rw [List.mem_singleton.mp hx]
          omega
      · exact hsw x (List.mem_of_mem_drop hx)
  · exact h _ hsl hsw
theorem g_lw_bags : ∀ as Q E, S_lw_bags as Q E → w_lw_bags (startE N_lw_bags as) ⟨fun _ => Q .none, Q, E⟩ := by
  rintro as Q E ⟨a, b, c, rfl, s, l, wear, m, rfl, rfl, rfl, hf, hs5, hs, h0, m3, h⟩
  change w_lw_bags [.dat (p2 s l), .dat (tI wear), .dat (.int (m : Nat)), .un, .un, .un, .un, .un, .un, .un, .un, .un, .un] _
  obtain ⟨f1, f2, f3, f4⟩ := id hf
  have hW := walks_len5 (l := l) hs5
  have hpow : ∀ n, n ≤ 3 → (walksI s l).length ^ n ≤ 32768 := fun n hn => by
    have h1 := Nat.pow_le_pow_left hW n
    have h2 := Nat.pow_le_pow_right (n := 32) (by decide) hn
    exact Nat.le_trans h1 h2
  have hlen : ∀ n, n ≤ 3 → (workB (walksI s l) wear n).length ≤ 32768 := fun n hn => Nat.le_trans (workB_len n) (hpow n hn)
  unfold w_lw_bags
  simp only [wSeq, wsPar, wvD, wCall, wsCons, wsNil, wV, wL, wLst, waCons, waNil, wTup, List.getElem?_cons_zero, List.getElem?_cons_succ, ex_dat, List.set_cons_zero, List.set_cons_succ]
  refine ⟨_, rfl, s, l, rfl, hf, by simp [szl], by simp [szl], by simp [szl], ?_⟩
  simp only [wsFor, wiRng1, wV, List.getElem?_cons_zero, List.getElem?_cons_succ, ex_dat, ex_int, rgOk]
  refine ⟨⟨by omega, by omega⟩, ?_⟩
  rw [rgD_I]
  refine forL_ind (fun ds env => ∃ (n : Nat) (x5 x6 x7 x8 x9 x10 x11 x12 : Sl), n ≤ m ∧ ds = ((rgI 0 m).drop n).map .int ∧
    env = [.dat (p2 s l), .dat (tI wear), .dat (.int (m : Nat)), .dat (lW (walksI s l)), .dat (.list ((workB (walksI s l) wear n).map encW)), x5, x6, x7, x8, x9, x10, x11, x12]) ?_ ?_ _ _ ⟨0, .un, .un, .un, .un, .un, .un, .un, .un, by omega, rfl, rfl⟩
  · rintro env ⟨n, x5, x6, x7, x8, x9, x10, x11, x12, hn, e1, rfl⟩
    have hnm : n = m := by
      have := congrArg List.length e1
      simp [rgI_len] at this
      omega
    subst hnm
    simp only [wsRet, wL, wCL, waCons, waNil, wLc, wiSeq, wV, wipeE, List.getElem?_cons_zero, List.getElem?_cons_succ, List.set_cons_zero, List.set_cons_succ, ex_dat, ex_seqL]
    refine lcL_fm encW (fun p => decide (p.2.tail.foldl max (p.2.headD 0) = 0)) (fun p => lW p.1) _ [] _ (fun p hp K1 K2 k1 k2 => ?_) (by have := hlen n m3; rw [szl]; simp; omega) ?_
    · obtain ⟨a1, a2, a3, a4, a5⟩ := (mem_workB h0 n p).mp hp
      obtain ⟨bag, left⟩ := p
      have a4' : left.length = wear.length := a4
      cases left with
      | nil =>
        rw [List.length_nil] at a4'
        omega
      | cons y ys =>
        simp only [wgName, wgTup2, wgTup3, wB, wOp, wV, wC, wCall, wsCons, wsDice, wsNil, wCB, wCL, waCons, waNil, wTup, wL, wLst, wNot, wAnd, wOr, wAndV, wOrV, wNotV, wUn, wChain, wIf, wipeE, List.set_cons_zero, List.set_cons_succ, List.getElem?_cons_succ, List.getElem?_cons_zero, ex_dat, ex_own, ex_own2, ex_bool, ex_int, ex_int2, ex_pair, ex_three, gI0, gI, gIx_t, gIx_l, gMin2, gMax2, gLen, gAdd, gIn_t, gEq_ii, gEq_tt, gNe_ii, gNe_tt, List.length_map, fs1_at, fs2_at, fs3_at, fs4_at, fs5_at, fs6_at, fd1_at, fd2_at, fd3_at, gMax_t]
        split
        · rename_i hx
          exact k1 hx
        · rename_i hx
          exact k2 (Bool.eq_false_iff.mpr hx)
    · rw [List.nil_append]
      have e : ((workB (walksI s l) wear n).filter fun p => decide (p.2.tail.foldl max (p.2.headD 0) = 0)).map (fun p => lW p.1) = (foundB (walksI s l) wear n).map lW := by
        unfold foundB
        rw [List.map_map]
        rfl
      rw [e]
      obtain ⟨s1, s2, s3⟩ := sort_okB (foundB (walksI s l) wear n)
      exact ⟨s1, s2, s3, h⟩
  · rintro d ds env ⟨n, x5, x6, x7, x8, x9, x10, x11, x12, hn, e1, rfl⟩ nx hnx
    have hnm : n < m := by
      apply Nat.lt_of_not_le
      intro z
      rw [List.drop_of_length_le (by rw [rgI_len]; omega)] at e1
      cases e1
    have hjr : n < (rgI 0 (m : Int)).length := by rw [rgI_len]; omega
    rw [List.drop_eq_getElem_cons hjr, List.map_cons] at e1
    obtain ⟨rfl, rfl⟩ := List.cons.inj e1
    generalize (rgI 0 (m : Int))[n] = t5
    simp only [wgName, wgTup2, wgTup3, wB, wOp, wV, wC, wCall, wsCons, wsDice, wsNil, wCB, wCL, waCons, waNil, wTup, wL, wLst, wNot, wAnd, wOr, wAndV, wOrV, wNotV, wUn, wChain, wIf, wipeE, List.set_cons_zero, List.set_cons_succ, List.getElem?_cons_succ, List.getElem?_cons_zero, ex_dat, ex_own, ex_own2, ex_bool, ex_int, ex_int2, ex_pair, ex_three, gI0, gI, gIx_t, gIx_l, gMin2, gMax2, gLen, gAdd, gIn_t, gEq_ii, gEq_tt, gNe_ii, gNe_tt, List.length_map, fs1_at, fs2_at, fs3_at, fs4_at, fs5_at, fs6_at, fd1_at, fd2_at, fd3_at, wSeq, wsSet, wvL, wsFor, wiSeq, ex_seqL]
    refine ⟨by simp [szl], ?_⟩
    refine forL_ind (fun ds env => ∃ (rest acc : List Wk2) (y7 y8 y9 y10 y11 y12 : Sl), ds = rest.map encW ∧ (∀ p ∈ rest, p ∈ workB (walksI s l) wear n) ∧
      env = [.dat (p2 s l), .dat (tI wear), .dat (.int (m : Nat)), .dat (lW (walksI s l)), .dat (.list ((workB (walksI s l) wear n).map encW)), .dat (.int t5), .own (acc.map encW), y7, y8, y9, y10, y11, y12] ∧
      acc ++ stepB (walksI s l) rest = workB (walksI s l) wear (n + 1)) ?_ ?_ _ _ ⟨workB (walksI s l) wear n, [], x7, x8, x9, x10, x11, x12, rfl, fun p h => h, rfl, rfl⟩
    · rintro env ⟨rest, acc, y7, y8, y9, y10, y11, y12, e2, -, rfl, e3⟩
      cases rest with
      | cons _ _ => simp at e2
      | nil =>
        have e4 : acc = workB (walksI s l) wear (n + 1) := by simpa [stepB] using e3
        subst e4
        simp only [wgName, wgTup2, wgTup3, wB, wOp, wV, wC, wCall, wsCons, wsDice, wsNil, wCB, wCL, waCons, waNil, wTup, wL, wLst, wNot, wAnd, wOr, wAndV, wOrV, wNotV, wUn, wChain, wIf, wipeE, List.set_cons_zero, List.set_cons_succ, List.getElem?_cons_succ, List.getElem?_cons_zero, ex_dat, ex_own, ex_own2, ex_bool, ex_int, ex_int2, ex_pair, ex_three, gI0, gI, gIx_t, gIx_l, gMin2, gMax2, gLen, gAdd, gIn_t, gEq_ii, gEq_tt, gNe_ii, gNe_tt, List.length_map, fs1_at, fs2_at, fs3_at, fs4_at, fs5_at, fs6_at, fd1_at, fd2_at, fd3_at, wsFrz, wsSet, wvD]
        exact hnx _ ⟨n + 1, _, _, y7, y8, y9, y10, y11, y12, by omega, rfl, rfl⟩
    · rintro d ds env ⟨rest, acc, y7, y8, y9, y10, y11, y12, e2, e5, rfl, e3⟩ nx2 hnx2
      cases rest with
      | nil => simp at e2
      | cons p rest =>
        rw [List.map_cons] at e2
        obtain ⟨rfl, rfl⟩ := List.cons.inj e2
        obtain ⟨a1, a2, a3, a4, a5⟩ := (mem_workB h0 n p).mp (e5 p List.mem_cons_self)
        obtain ⟨bag, left⟩ := p
        have a4' : left.length = wear.length := a4
        have a1' : bag.length = n := a1
        simp only [wgName, wgTup2, wgTup3, wB, wOp, wV, wC, wCall, wsCons, wsDice, wsNil, wCB, wCL, waCons, waNil, wTup, wL, wLst, wNot, wAnd, wOr, wAndV, wOrV, wNotV, wUn, wChain, wIf, wipeE, List.set_cons_zero, List.set_cons_succ, List.getElem?_cons_succ, List.getElem?_cons_zero, ex_dat, ex_own, ex_own2, ex_bool, ex_int, ex_int2, ex_pair, ex_three, gI0, gI, gIx_t, gIx_l, gMin2, gMax2, gLen, gAdd, gIn_t, gEq_ii, gEq_tt, gNe_ii, gNe_tt, List.length_map, fs1_at, fs2_at, fs3_at, fs4_at, fs5_at, fs6_at, fd1_at, fd2_at, fd3_at, wsFor, wiSeq, ex_seqL]
        have hst : stepB (walksI s l) ((bag, left) :: rest) = ((walksI s l).filter fun walk => nonneg (subW left walk) && fits bag walk).map (fun walk => (bag ++ [walk], subW left walk)) ++ stepB (walksI s l) rest := rfl
        refine forL_ind (fun ds env => ∃ (ws : List (List Int)) (ac2 : List Wk2) (z9 z10 z11 z12 : Sl), ds = ws.map tI ∧
          env = [.dat (p2 s l), .dat (tI wear), .dat (.int (m : Nat)), .dat (lW (walksI s l)), .dat (.list ((workB (walksI s l) wear n).map encW)), .dat (.int t5), .own (ac2.map encW), .dat (lW bag), .dat (tI left), z9, z10, z11, z12] ∧
          ac2 ++ (ws.filter fun walk => nonneg (subW left walk) && fits bag walk).map (fun walk => (bag ++ [walk], subW left walk)) ++ stepB (walksI s l) rest = workB (walksI s l) wear (n + 1)) ?_ ?_ _ _ ⟨walksI s l, acc, y9, y10, y11, y12, rfl, rfl, by rw [← e3, hst, List.append_assoc]⟩
        · rintro env ⟨ws, ac2, z9, z10, z11, z12, e6, rfl, e7⟩
          cases ws with
          | cons _ _ => simp at e6
          | nil => exact hnx2 _ ⟨rest, ac2, _, _, z9, z10, z11, z12, rfl, fun q hq => e5 q (List.mem_cons_of_mem _ hq), rfl, by simpa using e7⟩
        · rintro d ds env ⟨ws, ac2, z9, z10, z11, z12, e6, rfl, e7⟩ nx3 hnx3
          cases ws with
          | nil => simp at e6
          | cons walk ws =>
            rw [List.map_cons] at e6
            obtain ⟨rfl, rfl⟩ := List.cons.inj e6
            simp only [wgName, wgTup2, wgTup3, wB, wOp, wV, wC, wCall, wsCons, wsDice, wsNil, wCB, wCL, waCons, waNil, wTup, wL, wLst, wNot, wAnd, wOr, wAndV, wOrV, wNotV, wUn, wChain, wIf, wipeE, List.set_cons_zero, List.set_cons_succ, List.getElem?_cons_succ, List.getElem?_cons_zero, ex_dat, ex_own, ex_own2, ex_bool, ex_int, ex_int2, ex_pair, ex_three, gI0, gI, gIx_t, gIx_l, gMin2, gMax2, gLen, gAdd, gIn_t, gEq_ii, gEq_tt, gNe_ii, gNe_tt, List.length_map, fs1_at, fs2_at, fs3_at, fs4_at, fs5_at, fs6_at, fd1_at, fd2_at, fd3_at, wSeq, wsSet, wvD, wLc, wiEnum, ex_seqT, enumD_I]
            refine lcL_map (fun p : Int × Nat => p2 (p.2 : Nat) p.1) (fun p => .int (p.1 - hasI walk p.2)) _ [] _ (fun p _ K hK => ?_) (by rw [szl]; simp; omega) ?_
            · simp only [wgName, wgTup2, wgTup3, wB, wOp, wV, wC, wCall, wsCons, wsDice, wsNil, wCB, wCL, waCons, waNil, wTup, wL, wLst, wNot, wAnd, wOr, wAndV, wOrV, wNotV, wUn, wChain, wIf, wipeE, List.set_cons_zero, List.set_cons_succ, List.getElem?_cons_succ, List.getElem?_cons_zero, ex_dat, ex_own, ex_own2, ex_bool, ex_int, ex_int2, ex_pair, ex_three, gI0, gI, gIx_t, gIx_l, gMin2, gMax2, gLen, gAdd, gIn_t, gEq_ii, gEq_tt, gNe_ii, gNe_tt, List.length_map, fs1_at, fs2_at, fs3_at, fs4_at, fs5_at, fs6_at, fd1_at, fd2_at, fd3_at, SD.gSub, gInt]
              exact hK
            rw [List.nil_append, gTuple_l, show left.zipIdx.map (fun p => PyData.int (p.1 - hasI walk p.2)) = (subW left walk).map .int by unfold subW; rw [List.map_map]; rfl]
            have hsl := subW_len left walk
            cases hsw : subW left walk with
            | nil =>
              rw [hsw, List.length_nil] at hsl
              omega
            | cons y ys =>
              have hk := min_nonneg y ys
              rw [← hsw] at hk
              simp only [wsIf, wAnd, wOr, wgName, wgTup2, wgTup3, wB, wOp, wV, wC, wCall, wsCons, wsDice, wsNil, wCB, wCL, waCons, waNil, wTup, wL, wLst, wNot, wAnd, wOr, wAndV, wOrV, wNotV, wUn, wChain, wIf, wipeE, List.set_cons_zero, List.set_cons_succ, List.getElem?_cons_succ, List.getElem?_cons_zero, ex_dat, ex_own, ex_own2, ex_bool, ex_int, ex_int2, ex_pair, ex_three, gI0, gI, gIx_t, gIx_l, gMin2, gMax2, gLen, gAdd, gIn_t, gEq_ii, gEq_tt, gNe_ii, gNe_tt, List.length_map, fs1_at, fs2_at, fs3_at, fs4_at, fs5_at, fs6_at, fd1_at, fd2_at, fd3_at, gMin_t, gGe]
              cases hnn : nonneg (subW left walk) with
              | false =>
                rw [hnn] at hk
                simp only [hk, Bool.false_eq_true, if_false, wNil]
                refine hnx3 _ ⟨ws, ac2, _, _, z11, z12, rfl, rfl, ?_⟩
                rw [← e7, List.filter_cons_of_neg (by simp [hnn])]
              | true =>
                rw [hnn] at hk
                simp only [hk, if_true, gEq_w0]
                have hbl : ac2.length < sizeLine := by
                  have h1 := congrArg List.length e7
                  simp only [List.length_append, List.length_map] at h1
                  have h2 := hlen (n + 1) (by omega)
                  rw [szl]
                  omega
                have fin : fits bag walk = true → nx3 [.dat (p2 s l), .dat (tI wear), .dat (.int (m : Nat)), .dat (lW (walksI s l)), .dat (.list ((workB (walksI s l) wear n).map encW)), .dat (.int t5), .own ((ac2 ++ [(bag ++ [walk], subW left walk)]).map encW), .dat (lW bag), .dat (tI left), .dat (tI walk), .dat (tI (y :: ys)), z11, z12] := fun hft => by
                  refine hnx3 _ ⟨ws, ac2 ++ [(bag ++ [walk], subW left walk)], _, _, z11, z12, rfl, rfl, ?_⟩
                  rw [← e7, List.filter_cons_of_pos (by simp [hnn, hft])]
                  simp
                have app : fits bag walk = true → wsApp 6 (wTup (waCons (wOp gAdd (wV 7) (wL (wLst (waCons (wV 9) (waNil))))) (waCons (wV 10) (waNil)))) [.dat (p2 s l), .dat (tI wear), .dat (.int (m : Nat)), .dat (lW (walksI s l)), .dat (.list ((workB (walksI s l) wear n).map encW)), .dat (.int t5), .own (ac2.map encW), .dat (lW bag), .dat (tI left), .dat (tI walk), .dat (tI (y :: ys)), z11, z12] ⟨nx3, Q, E⟩ := fun hft => by
                  simp only [wsApp, wgName, wgTup2, wgTup3, wB, wOp, wV, wC, wCall, wsCons, wsDice, wsNil, wCB, wCL, waCons, waNil, wTup, wL, wLst, wNot, wAnd, wOr, wAndV, wOrV, wNotV, wUn, wChain, wIf, wipeE, List.set_cons_zero, List.set_cons_succ, List.getElem?_cons_succ, List.getElem?_cons_zero, ex_dat, ex_own, ex_own2, ex_bool, ex_int, ex_int2, ex_pair, ex_three, gI0, gI, gIx_t, gIx_l, gMin2, gMax2, gLen, gAdd, gIn_t, gEq_ii, gEq_tt, gNe_ii, gNe_tt, List.length_map, fs1_at, fs2_at, fs3_at, fs4_at, fs5_at, fs6_at, fd1_at, fd2_at, fd3_at]
                  refine ⟨hbl, by simp [szl], by rw [szl]; simp; omega, by simp [szl], ?_⟩
                  have := fin hft
                  rw [hsw] at this
                  simpa [encW, lW] using this
                refine ⟨by simp [szl], _, rfl, ?_⟩
                cases hb : bag.getLast? with
                | none =>
                  rw [List.getLast?_eq_none_iff] at hb
                  simp only [hb, decide_true, if_true]
                  have := app (by rw [hb]; rfl)
                  rw [hb] at this
                  exact this
                | some bl =>
                  obtain ⟨pre, hb'⟩ := List.getLast?_eq_some_iff.mp hb
                  have hne : bag ≠ [] := by rw [hb']; simp
                  simp only [hne, decide_false, Bool.false_eq_true, if_false, gNeg]
                  refine gIx_l.mpr ⟨tI bl, ?_, ?_⟩
                  · rw [hb', List.map_append]
                    exact atI_last _ _
                  · rw [gLeT_t]
                    have hft : fits bag walk = decide (bl ≤ walk) := by rw [hb', fits_cat]
                    refine ⟨_, rfl, ?_⟩
                    by_cases hle : bl ≤ walk
                    · rw [decide_eq_true hle, if_pos rfl]
                      exact app (by rw [hft]; exact decide_eq_true hle)
                    · rw [decide_eq_false hle]
                      simp only [Bool.false_eq_true, if_false, wNil]
                      refine hnx3 _ ⟨ws, ac2, _, _, z11, z12, rfl, rfl, ?_⟩
                      rw [← e7, List.filter_cons_of_neg (by rw [hnn, hft, decide_eq_false hle]; simp)]

theorem walk_bad {s l : Int} {d : D} {X : Prop} {R : List Int → Prop} (h : isGoodWalk s l d = false) (hX : X) : (isGoodWalk s l d = false → X) ∧ ∀ walk, d = tI walk → goodWalk s l walk = true → R walk := ⟨fun _ => hX, fun walk e hg => by
  rw [e, isGoodWalk_int, hg] at h
  cases h⟩
theorem walk_ok {s l : Int} {w : List Int} {X : Prop} {R : List Int → Prop} (h : goodWalk s l w = true) (hR : R w) : (isGoodWalk s l (tI w) = false → X) ∧ ∀ walk, tI w = tI walk → goodWalk s l walk = true → R walk := ⟨fun z => (by rw [isGoodWalk_int, h] at z; cases z), fun walk e _ => by rw [← tI_eq e]; exact hR⟩
theorem num_bad {d : D} {X : Prop} {R : Nat → Prop} (h : isWhole d 0 9 = false) (hX : X) : (isWhole d 0 9 = false → X) ∧ ∀ t : Nat, d = .int t → t ≤ 9 → R t := ⟨fun _ => hX, fun t e ht => by
  rw [e, isWhole_at (by omega) (by omega)] at h
  cases h⟩
theorem num_ok {t : Nat} {X : Prop} {R : Nat → Prop} (h : t ≤ 9) (hR : R t) : (isWhole (.int (t : Nat)) 0 9 = false → X) ∧ ∀ u : Nat, PyData.int (t : Nat) = .int (u : Nat) → u ≤ 9 → R u := by
  refine ⟨fun z => ?_, fun u e _ => ?_⟩
  · rw [isWhole_at (by omega) (by omega)] at z
    cases z
  · have := PyData.int.inj e
    obtain rfl : u = t := by omega
    exact hR
theorem need3_wear {s l : Int} {b c : D} {E : Str → Prop} {K : Int → Int → List Int → Int → Prop} (hf : FlOk s l) (hb : short b) (hg : goodWear s b = false) (h : E "BadWear") : need3 (p2 s l) b c E K := by
  have same : ∀ {s' l' : Int}, p2 s l = p2 s' l' → s' = s := fun e => (PyData.int.inj (List.cons.inj (PyData.tuple.inj e)).1).symm
  refine ⟨hb, fun z => ?_, fun s' l' e _ _ => h, fun s' l' w' e _ e2 hw' => ?_⟩
  · rw [hf.is] at z
    cases z
  · obtain rfl := same e
    rw [e2, hw'.is] at hg
    cases hg
theorem g_lw_which_refused : ∀ as Q E, S_lw_which_refused as Q E → w_lw_which_refused (startE N_lw_which_refused as) ⟨fun _ => Q .none, Q, E⟩ := by
  rintro as Q E ⟨a, b, c, d, rfl, s, l, wear, m, walk, rfl, rfl, rfl, rfl, hf, hw, m9, hl8, hg, h⟩
  change w_lw_which_refused [.dat (p2 s l), .dat (tI wear), .dat (.int (m : Nat)), .dat (tI walk), .un, .un] _
  unfold w_lw_which_refused
  simp only [wSeq]
  obtain ⟨f1, f2, f3, f4⟩ := id hf
  simp only [w_lw_which_refused_0, wsFor, wiSeq, ex_seqL, ex_seqT, wL, wLst, waCons, wC, waNil, wTup, wOp, gAdd, gIx_l, gIx_t, wV, wgName, wSeq, List.getElem?_cons_zero, List.getElem?_cons_succ, List.set_cons_zero, List.set_cons_succ, ex_bool, ex_dat, ex_own, ex_own2, ex_int, ex_int2, ex_pair, ex_three, fs1_at, fs2_at, fs3_at, fs4_at, fs5_at, fs6_at, fd1_at, fd2_at, fd3_at, List.map_cons, List.map_nil, List.length_map]
  refine ⟨by simp [szl], by simp [szl], .int s, rfl, by simp [szl], by simp [szl], by simp [szl], ?_⟩
  refine forL_ind (fun ds env => (∀ d ∈ ds, short d ∧ isGoodWalk s l d = false) ∧ ∃ y4 y5 : Sl, env = [.dat (p2 s l), .dat (tI wear), .dat (.int (m : Nat)), .dat (tI walk), y4, y5]) ?_ ?_ _ _ ⟨?_, .un, .un, rfl⟩
  · rintro env ⟨-, y4, y5, rfl⟩
    simp only [w_lw_which_refused_1, wsFor, wiSeq, ex_seqL, ex_seqT, wL, wLst, waCons, wUn, gNeg, wC, waNil, wgName, wSeq, List.getElem?_cons_zero, List.getElem?_cons_succ, List.set_cons_zero, List.set_cons_succ, ex_bool, ex_dat, ex_own, ex_own2, ex_int, ex_int2, ex_pair, ex_three, fs1_at, fs2_at, fs3_at, fs4_at, fs5_at, fs6_at, fd1_at, fd2_at, fd3_at, List.map_cons, List.map_nil, List.length_map]
    refine ⟨by simp [szl], ?_⟩
    refine forL_ind (fun ds env => (∀ d ∈ ds, isWhole d 0 9 = false) ∧ ∃ y4 y5 : Sl, env = [.dat (p2 s l), .dat (tI wear), .dat (.int (m : Nat)), .dat (tI walk), y4, y5]) ?_ ?_ _ _ ⟨?_, y4, y5, rfl⟩
    · rintro env ⟨-, y4, y5, rfl⟩
      simp only [w_lw_which_refused_2, wsRet, wOp, gEq_ii, gEq_tt, gEq_ll, gEq_l0, gEq_ww, gEq_bb, wTold, wCall, wsCons, wV, wC, wsNil, wTup, waCons, waNil, List.getElem?_cons_zero, List.getElem?_cons_succ, List.set_cons_zero, List.set_cons_succ, ex_bool, ex_dat, ex_own, ex_own2, ex_int, ex_int2, ex_pair, ex_three, fs1_at, fs2_at, fs3_at, fs4_at, fs5_at, fs6_at, fd1_at, fd2_at, fd3_at, List.map_cons, List.map_nil, List.length_map, wTold, S_may_go]
      exact need3_wear hf trivial rfl ⟨3, by decide, rfl, by simp [szl], gEq_same (shp_ref 3 (by decide)) (by decide) h⟩
    · rintro d ds env ⟨g1, y4, y5, rfl⟩ nx hnx
      have hd := g1 d List.mem_cons_self
      simp only [wSeq, wgName, wgTup2, wgTup3, wB, wOp, wV, wC, wCall, wsCons, wsDice, wsNil, wCB, wCL, waCons, waNil, wTup, wL, wLst, wNot, wAnd, wOr, wAndV, wOrV, wNotV, wUn, wChain, wIf, wipeE, List.set_cons_zero, List.set_cons_succ, List.getElem?_cons_succ, List.getElem?_cons_zero, ex_dat, ex_own, ex_own2, ex_bool, ex_int, ex_int2, ex_pair, ex_three, gI0, gI, gIx_t, gIx_l, gMin2, gMax2, gLen, gAdd, gIn_t, gEq_ii, gEq_tt, gNe_ii, gNe_tt, List.length_map, fs1_at, fs2_at, fs3_at, fs4_at, fs5_at, fs6_at, fd1_at, fd2_at, fd3_at]
      simp only [w_lw_which_refused_1_0, wsIf, wB, wOp, gNe_ii, gNe_tt, gNe_l0, gNe_ww, gNe_bb, wTold, wCall, wsCons, wV, wsNil, wTup, waCons, wC, waNil, wNil, List.getElem?_cons_zero, List.getElem?_cons_succ, List.set_cons_zero, List.set_cons_succ, ex_bool, ex_dat, ex_own, ex_own2, ex_int, ex_int2, ex_pair, ex_three, fs1_at, fs2_at, fs3_at, fs4_at, fs5_at, fs6_at, fd1_at, fd2_at, fd3_at, List.map_cons, List.map_nil, List.length_map, wTold, S_bag_with_walk]
      refine ⟨short_tI (by omega), need3_ok hf hw (by omega) (by omega) (walk_ok hg (num_bad hd ⟨4, by decide, rfl, by simp [szl], gNe_same (shp_ref 4 (by decide)) (by decide) ⟨_, rfl, ?_⟩⟩))⟩
      simp only [Bool.false_eq_true, if_false]
      simp only [w_lw_which_refused_1_1, wsIf, wB, wOp, gNe_ii, gNe_tt, gNe_l0, gNe_ww, gNe_bb, wTold, wCall, wsCons, wV, wsNil, wTup, waCons, wC, waNil, wNil, List.getElem?_cons_zero, List.getElem?_cons_succ, List.set_cons_zero, List.set_cons_succ, ex_bool, ex_dat, ex_own, ex_own2, ex_int, ex_int2, ex_pair, ex_three, fs1_at, fs2_at, fs3_at, fs4_at, fs5_at, fs6_at, fd1_at, fd2_at, fd3_at, List.map_cons, List.map_nil, List.length_map, wTold, S_may_go]
      refine need3_num hf hw hd ⟨4, by decide, rfl, by simp [szl], gNe_same (shp_ref 4 (by decide)) (by decide) ⟨_, rfl, ?_⟩⟩
      simp only [Bool.false_eq_true, if_false]
      exact hnx _ ⟨fun d' h' => g1 d' (List.mem_cons_of_mem _ h'), _, _, rfl⟩
    · intro d hd
      simp only [List.mem_cons, List.not_mem_nil, or_false] at hd
      rcases hd with rfl | rfl | rfl | rfl <;> decide
  · rintro d ds env ⟨g1, y4, y5, rfl⟩ nx hnx
    obtain ⟨hs, hd⟩ := g1 d List.mem_cons_self
    simp only [wSeq, wgName, wgTup2, wgTup3, wB, wOp, wV, wC, wCall, wsCons, wsDice, wsNil, wCB, wCL, waCons, waNil, wTup, wL, wLst, wNot, wAnd, wOr, wAndV, wOrV, wNotV, wUn, wChain, wIf, wipeE, List.set_cons_zero, List.set_cons_succ, List.getElem?_cons_succ, List.getElem?_cons_zero, ex_dat, ex_own, ex_own2, ex_bool, ex_int, ex_int2, ex_pair, ex_three, gI0, gI, gIx_t, gIx_l, gMin2, gMax2, gLen, gAdd, gIn_t, gEq_ii, gEq_tt, gNe_ii, gNe_tt, List.length_map, fs1_at, fs2_at, fs3_at, fs4_at, fs5_at, fs6_at, fd1_at, fd2_at, fd3_at]
    simp only [w_lw_which_refused_0_0, wsSet, wvL, wLst, waCons, wTold, wCall, wsCons, wV, wsNil, waNil, List.getElem?_cons_zero, List.getElem?_cons_succ, List.set_cons_zero, List.set_cons_succ, ex_bool, ex_dat, ex_own, ex_own2, ex_int, ex_int2, ex_pair, ex_three, fs1_at, fs2_at, fs3_at, fs4_at, fs5_at, fs6_at, fd1_at, fd2_at, fd3_at, List.map_cons, List.map_nil, List.length_map, wTold, S_at_most_so]
    refine ⟨hs, need3_ok hf hw (by omega) (by omega) (walk_bad hd ⟨1, by decide, rfl, by simp [szl], ?_⟩)⟩
    simp only [w_lw_which_refused_0_1, wsApp, wTold, wCall, wsCons, wV, wsNil, List.getElem?_cons_zero, List.getElem?_cons_succ, List.set_cons_zero, List.set_cons_succ, ex_bool, ex_dat, ex_own, ex_own2, ex_int, ex_int2, ex_pair, ex_three, fs1_at, fs2_at, fs3_at, fs4_at, fs5_at, fs6_at, fd1_at, fd2_at, fd3_at, List.map_cons, List.map_nil, List.length_map, wTold, S_rest_of]
    refine ⟨by simp [szl], hs, need3_ok hf hw (by omega) (by omega) (walk_bad hd ⟨1, by decide, rfl, ?_⟩)⟩
    simp only [w_lw_which_refused_0_2, wsIfV, vwE, vwS, wB, wOp, gNe_ii, gNe_tt, gNe_l0, gNe_ww, gNe_bb, gAdd, wV, wL, wLst, waCons, wTold, wCall, wsCons, wC, wsNil, waNil, wOpL, gRepL, wTup, wNil, List.getElem?_cons_zero, List.getElem?_cons_succ, List.set_cons_zero, List.set_cons_succ, ex_bool, ex_dat, ex_own, ex_own2, ex_int, ex_int2, ex_pair, ex_three, fs1_at, fs2_at, fs3_at, fs4_at, fs5_at, fs6_at, fd1_at, fd2_at, fd3_at, List.map_cons, List.map_nil, List.length_map, wTold, S_bag_with_walk]
    refine ⟨hs, need3_ok hf hw (by omega) (by omega) (walk_bad hd ⟨1, by decide, rfl, ?_⟩)⟩
    refine ⟨by simp [szl], by simp [szl], by simp [szl], by simp [szl], by decide, by decide, by simp [szl], gNe_same (shp_refs 1 3 (by decide)) (by decide) ⟨_, rfl, ?_⟩⟩
    simp only [Bool.false_eq_true, if_false]
    exact hnx _ ⟨fun d' h' => g1 d' (List.mem_cons_of_mem _ h'), _, _, rfl⟩
  · intro d hd
    simp only [List.mem_cons, List.not_mem_nil, or_false] at hd
    rcases hd with rfl | rfl | rfl | rfl | rfl | rfl | rfl
    · exact ⟨trivial, rfl⟩
    · exact ⟨trivial, rfl⟩
    · exact ⟨by simp [short], rfl⟩
    · exact ⟨by simp [short], by simp [isGoodWalk, isWhole]⟩
    · exact ⟨by simp [short], by simp [isGoodWalk, isWhole]; omega⟩
    · refine ⟨by simp [short], ?_⟩
      rw [show (PyData.tuple [.int 1, .int 1]) = tI [1, 1] from rfl, isGoodWalk_int]
      unfold goodWalk stridesI
      simp [diffs]
    · exact ⟨trivial, rfl⟩
abbrev C0 : DC := ⟨fun _ => True, fun _ => False, fun _ => False⟩
theorem law_end {s l : Int} {wear walk : List Int} {m : Nat} (hf : FlOk s l) (hw : WrOk s wear) (m3 : m ≤ 3) (hl8 : walk.length ≤ 8) (hg : goodWalk s l walk = true) {x6 x7 x8 x9 x10 x11 x12 : Sl} : w_law_4 [.un, .dice, .dat (p2 s l), .dat (.int (m : Nat)), .dat (tI wear), .dat (tI walk), x6, x7, x8, x9, x10, x11, x12] C0 := by
  simp only [w_law_4, wsIf, wNot, wB, wCall, wsCons, wV, wsNil, wNil, List.getElem?_cons_zero, List.getElem?_cons_succ, List.set_cons_zero, List.set_cons_succ, ex_bool, ex_dat, ex_own, ex_own2, ex_int, ex_int2, ex_pair, ex_three, fs1_at, fs2_at, fs3_at, fs4_at, fs5_at, fs6_at, fd1_at, fd2_at, fd3_at, List.map_cons, List.map_nil, List.length_map, S_lw_which_refused]
  exact ⟨s, l, wear, m, walk, rfl, rfl, rfl, rfl, hf, hw, by omega, hl8, hg, trivial⟩
theorem law_none {s l : Int} {wear walk : List Int} {m : Nat} (hf : FlOk s l) (hw : WrOk s wear) (m3 : m ≤ 3) (hl8 : walk.length ≤ 8) (hg : goodWalk s l walk = true) (hd : doMake s l wear m = false) {x6 x8 x9 x10 x11 x12 : Sl} {nx : En → Prop} (hnx : ∀ x7, nx [.un, .dice, .dat (p2 s l), .dat (.int (m : Nat)), .dat (tI wear), .dat (tI walk), x6, x7, x8, x9, x10, x11, x12]) :
    wSeq (w_law_3a_0) (wSeq (w_law_3a_1) (wSeq (w_law_3a_2) (w_law_3a_3))) [.un, .dice, .dat (p2 s l), .dat (.int (m : Nat)), .dat (tI wear), .dat (tI walk), x6, .un, x8, x9, x10, x11, x12] ⟨nx, fun _ => False, fun _ => False⟩ := by
  have nd : doMake s l wear m = true → False := fun z => by rw [hd] at z; cases z
  simp only [wSeq]
  simp only [w_law_3a_0, wsSet, wvL, wLst, waCons, wTold, wCall, wsCons, wV, wsNil, waNil, List.getElem?_cons_zero, List.getElem?_cons_succ, List.set_cons_zero, List.set_cons_succ, ex_bool, ex_dat, ex_own, ex_own2, ex_int, ex_int2, ex_pair, ex_three, fs1_at, fs2_at, fs3_at, fs4_at, fs5_at, fs6_at, fd1_at, fd2_at, fd3_at, List.map_cons, List.map_nil, List.length_map, wTold, S_may_go]
  refine need3_ok hf hw (by omega) (by omega) ⟨fun _ => ⟨9, by decide, rfl, by simp [szl], ?_⟩, fun z => (nd z).elim⟩
  simp only [w_law_3a_1, wsApp, wTold, wCall, wsCons, wV, wsNil, List.getElem?_cons_zero, List.getElem?_cons_succ, List.set_cons_zero, List.set_cons_succ, ex_bool, ex_dat, ex_own, ex_own2, ex_int, ex_int2, ex_pair, ex_three, fs1_at, fs2_at, fs3_at, fs4_at, fs5_at, fs6_at, fd1_at, fd2_at, fd3_at, List.map_cons, List.map_nil, List.length_map, wTold, S_at_most_so]
  refine ⟨by simp [szl], short_tI (by omega), need3_ok hf hw (by omega) (by omega) (walk_ok hg ⟨fun _ => ⟨9, by decide, rfl, ?_⟩, fun z => (nd z).elim⟩)⟩
  simp only [w_law_3a_2, wsApp, wTold, wCall, wsCons, wV, wC, wsNil, List.getElem?_cons_zero, List.getElem?_cons_succ, List.set_cons_zero, List.set_cons_succ, ex_bool, ex_dat, ex_own, ex_own2, ex_int, ex_int2, ex_pair, ex_three, fs1_at, fs2_at, fs3_at, fs4_at, fs5_at, fs6_at, fd1_at, fd2_at, fd3_at, List.map_cons, List.map_nil, List.length_map, wTold, S_bag_with_walk]
  refine ⟨by simp [szl], short_tI (by omega), need3_ok hf hw (by omega) (by omega) (walk_ok hg (num_ok (t := 0) (by decide) ⟨fun _ => ⟨9, by decide, rfl, ?_⟩, fun z => (nd z).elim⟩))⟩
  simp only [w_law_3a_3, wsIfV, vwE, vwS, wB, wOp, gNe_ii, gNe_tt, gNe_l0, gNe_ww, gNe_bb, gAdd, wV, wL, wLst, waCons, wTold, wCall, wsCons, wsNil, waNil, wOpL, gRepL, wTup, wC, wNil, List.getElem?_cons_zero, List.getElem?_cons_succ, List.set_cons_zero, List.set_cons_succ, ex_bool, ex_dat, ex_own, ex_own2, ex_int, ex_int2, ex_pair, ex_three, fs1_at, fs2_at, fs3_at, fs4_at, fs5_at, fs6_at, fd1_at, fd2_at, fd3_at, List.map_cons, List.map_nil, List.length_map, wTold, S_rest_of]
  refine ⟨short_tI (by omega), need3_ok hf hw (by omega) (by omega) (walk_ok hg ⟨fun _ => ⟨9, by decide, rfl, ?_⟩, fun z => (nd z).elim⟩)⟩
  refine ⟨by simp [szl], by simp [szl], by simp [szl], by simp [szl], by decide, by decide, by simp [szl], gNe_same (shp_refs 9 4 (by decide)) (by decide) ⟨_, rfl, ?_⟩⟩
  simp only [Bool.false_eq_true, if_false]
  exact hnx _
theorem law_some {s l : Int} {wear walk : List Int} {m : Nat} (hf : FlOk s l) (hs5 : s ≤ 5) (hw : WrOk s wear) (m3 : m ≤ 3) (hl8 : walk.length ≤ 8) (hwk : walk ∈ walksI s l) (hd : doMake s l wear m = true) {bs : List (List (List Int))} (hp : bs.Perm (foundB (walksI s l) wear m)) {x7 x8 x9 x10 x11 x12 : Sl} {nx : En → Prop} (hnx : ∀ x8 x9 x10 x11 x12, nx [.un, .dice, .dat (p2 s l), .dat (.int (m : Nat)), .dat (tI wear), .dat (tI walk), .dat (.list (bs.map lW)), x7, x8, x9, x10, x11, x12]) :
    wSeq (w_law_3b_0) (wSeq (w_law_3b_1) (wSeq (w_law_3b_2) (wSeq (w_law_3b_3) (wSeq (w_law_3b_4) (wSeq (w_law_3b_5) (w_law_3b_6)))))) [.un, .dice, .dat (p2 s l), .dat (.int (m : Nat)), .dat (tI wear), .dat (tI walk), .dat (.list (bs.map lW)), x7, x8, x9, x10, x11, x12] ⟨nx, fun _ => False, fun _ => False⟩ := by
  have hwl := hw.1
  obtain ⟨f1, f2, f3, f4⟩ := id hf
  have hg := (mem_walks_good hf).mp hwk
  have h0 : ∀ x ∈ wear, 0 ≤ x := fun x h => (hw.2 x h).1
  have hne : wear ≠ [] := fun z => by
    rw [z] at hwl
    simp at hwl
    omega
  have nd : doMake s l wear m = false → False := fun z => by rw [hd] at z; cases z
  have hbl : bs.length ≤ 1024 := by rw [hp.length_eq]; exact found_few hf hs5 hwl h0 m3
  have hbm : ∀ b ∈ bs, b.length = m := fun b hb => ((mem_foundB hne h0).mp (hp.mem_iff.mp hb)).1
  have hfl : ∀ bs' : List (List (List Int)), (∀ b ∈ bs', b.length = m) → bs'.flatten.length ≤ 3 * bs'.length := fun bs' h => by
    induction bs' with
    | nil => simp
    | cons b bs' ih =>
      rw [List.flatten_cons, List.length_append, List.length_cons, h b List.mem_cons_self]
      have := ih fun c hc => h c (List.mem_cons_of_mem _ hc)
      omega
  simp only [wSeq]
  simp only [w_law_3b_0, wsSet, wvD, wL, wLst, waNil, List.getElem?_cons_zero, List.getElem?_cons_succ, List.set_cons_zero, List.set_cons_succ, ex_bool, ex_dat, ex_own, ex_own2, ex_int, ex_int2, ex_pair, ex_three, fs1_at, fs2_at, fs3_at, fs4_at, fs5_at, fs6_at, fd1_at, fd2_at, fd3_at, List.map_cons, List.map_nil, List.length_map]
  refine ⟨by simp [szl], ?_⟩
  simp only [w_law_3b_1, wsFor, wiSeq, ex_seqL, ex_seqT, wV, wgName, List.getElem?_cons_zero, List.getElem?_cons_succ, List.set_cons_zero, List.set_cons_succ, ex_bool, ex_dat, ex_own, ex_own2, ex_int, ex_int2, ex_pair, ex_three, fs1_at, fs2_at, fs3_at, fs4_at, fs5_at, fs6_at, fd1_at, fd2_at, fd3_at, List.map_cons, List.map_nil, List.length_map]
  refine forL_ind (fun ds env => ∃ (us vs : List (List (List Int))) (y9 : Sl), us ++ vs = bs ∧ ds = vs.map lW ∧ env = [.un, .dice, .dat (p2 s l), .dat (.int (m : Nat)), .dat (tI wear), .dat (tI walk), .dat (.list (bs.map lW)), x7, .dat (lW us.flatten), y9, x10, x11, x12]) ?_ ?_ _ _ ⟨[], bs, x9, rfl, rfl, rfl⟩
  · rintro env ⟨us, vs, y9, e1, e2, rfl⟩
    cases vs with
    | cons _ _ => cases e2
    | nil =>
    rw [List.append_nil] at e1
    subst e1
    simp only [w_law_3b_2, wsIf, wB, wOp, gNe_ii, gNe_tt, gNe_l0, gNe_ww, gNe_bb, wCall, wsCons, wV, wsNil, wL, wSSD, wNil, List.getElem?_cons_zero, List.getElem?_cons_succ, List.set_cons_zero, List.set_cons_succ, ex_bool, ex_dat, ex_own, ex_own2, ex_int, ex_int2, ex_pair, ex_three, fs1_at, fs2_at, fs3_at, fs4_at, fs5_at, fs6_at, fd1_at, fd2_at, fd3_at, List.map_cons, List.map_nil, List.length_map, S_may_go]
    refine need3_ok hf hw (by omega) (by omega) ⟨fun z => (nd z).elim, fun _ => ⟨us.flatten, walksI s l, rfl, by have := walks_len5 (l := l) hs5; omega, fun x hx => ?_, fun out ho => ?_⟩⟩
    · obtain ⟨b, hb, hxb⟩ := List.mem_flatten.mp hx
      exact ((mem_foundB hne h0).mp (hp.mem_iff.mp hb)).2.1 x hxb
    rw [may_go_set hf hwl h0 (fun w => by
      rw [List.mem_flatten]
      exact ⟨fun ⟨b, hb, hw⟩ => ⟨b, hp.mem_iff.mp hb, hw⟩, fun ⟨b, hb, hw⟩ => ⟨b, hp.mem_iff.mpr hb, hw⟩⟩) ho]
    simp only [decide_true, Bool.not_true, Bool.false_eq_true, if_false]
    simp only [w_law_3b_3, wsSet, wvD, wCB, gMax_l, gMax_t, waCons, wL, wLc, wipeE, wiSeq, ex_seqL, ex_seqT, wV, wgName, wtYes, wCnt, waNil, List.getElem?_cons_zero, List.getElem?_cons_succ, List.set_cons_zero, List.set_cons_succ, ex_bool, ex_dat, ex_own, ex_own2, ex_int, ex_int2, ex_pair, ex_three, fs1_at, fs2_at, fs3_at, fs4_at, fs5_at, fs6_at, fd1_at, fd2_at, fd3_at, List.map_cons, List.map_nil, List.length_map]
    refine lcL_map lW (fun b => .int (cnt walk b : Nat)) _ [] _ (fun b hb K hK => ?_) (by rw [szl]; simp; omega) ?_
    · simp only [wgName, wgTup2, wgTup3, wB, wOp, wV, wC, wCall, wsCons, wsDice, wsNil, wCB, wCL, waCons, waNil, wTup, wL, wLst, wNot, wAnd, wOr, wAndV, wOrV, wNotV, wUn, wChain, wIf, wipeE, List.set_cons_zero, List.set_cons_succ, List.getElem?_cons_succ, List.getElem?_cons_zero, ex_dat, ex_own, ex_own2, ex_bool, ex_int, ex_int2, ex_pair, ex_three, gI0, gI, gIx_t, gIx_l, gMin2, gMax2, gLen, gAdd, gIn_t, gEq_ii, gEq_tt, gNe_ii, gNe_tt, List.length_map, fs1_at, fs2_at, fs3_at, fs4_at, fs5_at, fs6_at, fd1_at, fd2_at, fd3_at, wCnt]
      refine ⟨_, rfl, plain_W b, plain_tI walk, dep_tI walk, ?_⟩
      rw [count_W]
      exact hK
    rw [List.nil_append, show us.map (fun b => PyData.int (cnt walk b : Nat)) = (us.map fun b => ((cnt walk b : Nat) : Int)).map .int by rw [List.map_map]; rfl]
    have hun : us ≠ [] := fun z => by
      have := (found_iff hf hwl h0).mpr ((doMake_iff hwl).mp hd)
      rw [z] at hp
      exact this (List.Perm.nil_eq hp).symm
    obtain ⟨n, ns, en⟩ : ∃ n ns, (us.map fun b => ((cnt walk b : Nat) : Int)) = n :: ns := by
      cases us with
      | nil => exact absurd rfl hun
      | cons b us => exact ⟨_, _, rfl⟩
    rw [en, gMax_l]
    have o1 : ∃ b ∈ foundB (walksI s l) wear m, (cnt walk b : Int) = ns.foldl max n := by
      have := max_mem (ns := ns) (n := n)
      rw [← en] at this
      obtain ⟨b, hb, e⟩ := List.mem_map.mp this
      exact ⟨b, hp.mem_iff.mp hb, e⟩
    have o2 : ∀ b ∈ foundB (walksI s l) wear m, (cnt walk b : Int) ≤ ns.foldl max n := fun b hb => max_ge (by rw [← en]; exact List.mem_map.mpr ⟨b, hp.mem_iff.mpr hb, rfl⟩)
    have o3 : 0 ≤ ns.foldl max n ∧ ns.foldl max n ≤ 3 := by
      obtain ⟨b, hb, e⟩ := o1
      have : cnt walk b ≤ b.length := List.countP_le_length
      have := hbm b (hp.mem_iff.mpr hb)
      omega
    have htm := times_row hf hwl h0 hwk o1 o2
    generalize ns.foldl max n = often at o1 o2 o3 htm
    clear en
    have tm : timesI s l wear m walk = rgI 0 (often + 1) := htm
    simp only [w_law_3b_4, wsIf, wB, wOp, gNe_ii, gNe_tt, gNe_l0, gNe_ww, gNe_bb, wCall, wsCons, wV, wsNil, wNil, List.getElem?_cons_zero, List.getElem?_cons_succ, List.set_cons_zero, List.set_cons_succ, ex_bool, ex_dat, ex_own, ex_own2, ex_int, ex_int2, ex_pair, ex_three, fs1_at, fs2_at, fs3_at, fs4_at, fs5_at, fs6_at, fd1_at, fd2_at, fd3_at, List.map_cons, List.map_nil, List.length_map, S_at_most_so]
    refine ⟨short_tI (by omega), need3_ok hf hw (by omega) (by omega) (walk_ok hg ⟨fun z => (nd z).elim, fun _ => ?_⟩)⟩
    obtain ⟨r, er, q, eq⟩ := rg_ends (lo := 0) (hi := often + 1) (by omega)
    refine ⟨q, often, by rw [tm, eq, show often + 1 - 1 = often by omega], ?_⟩
    simp only [gNe_ii, ex_bool, decide_true, Bool.not_true, Bool.false_eq_true, if_false]
    simp only [w_law_3b_5, wsIf, wB, wOp, gNe_ii, gNe_tt, gNe_l0, gNe_ww, gNe_bb, wCall, wsCons, wV, wsNil, wL, wlRng1, gRg, gAdd, wC, wNil, List.getElem?_cons_zero, List.getElem?_cons_succ, List.set_cons_zero, List.set_cons_succ, ex_bool, ex_dat, ex_own, ex_own2, ex_int, ex_int2, ex_pair, ex_three, fs1_at, fs2_at, fs3_at, fs4_at, fs5_at, fs6_at, fd1_at, fd2_at, fd3_at, List.map_cons, List.map_nil, List.length_map, S_rest_of, gAdd]
    refine ⟨short_tI (by omega), need3_ok hf hw (by omega) (by omega) (walk_ok hg ⟨fun z => (nd z).elim, fun _ => ?_⟩)⟩
    refine ⟨⟨by omega, by omega, by omega, by omega, by omega⟩, ?_⟩
    rw [rgD_I, ← tm]
    refine gNe_same (shp_lI 0 _) (by decide) ⟨_, rfl, ?_⟩
    simp only [Bool.false_eq_true, if_false]
    simp only [w_law_3b_6, wsFor, wiRng1, wC, wgName, wSeq, List.getElem?_cons_zero, List.getElem?_cons_succ, List.set_cons_zero, List.set_cons_succ, ex_bool, ex_dat, ex_own, ex_own2, ex_int, ex_int2, ex_pair, ex_three, fs1_at, fs2_at, fs3_at, fs4_at, fs5_at, fs6_at, fd1_at, fd2_at, fd3_at, List.map_cons, List.map_nil, List.length_map]
    refine ⟨⟨by decide, by decide⟩, ?_⟩
    rw [rgD_I]
    refine forL_ind (fun ds env => (∃ ts : List Int, ds = ts.map .int ∧ ∀ t ∈ ts, 0 ≤ t ∧ t ≤ 4) ∧ ∃ y11 y12 : Sl, env = [.un, .dice, .dat (p2 s l), .dat (.int (m : Nat)), .dat (tI wear), .dat (tI walk), .dat (.list (us.map lW)), x7, .dat (lW us.flatten), y9, .dat (.int often), y11, y12]) ?_ ?_ _ _ ⟨⟨_, rfl, fun t ht => by have := mem_rgI.mp ht; omega⟩, x11, x12, rfl⟩
    · rintro env ⟨-, y11, y12, rfl⟩
      exact hnx _ _ _ _ _
    · rintro d ds env ⟨⟨ts, e3, hts⟩, y11, y12, rfl⟩ nx2 hnx2
      cases ts with
      | nil => cases e3
      | cons ti ts =>
      rw [List.map_cons] at e3
      obtain ⟨rfl, rfl⟩ := List.cons.inj e3
      obtain ⟨t0, t4⟩ := hts ti List.mem_cons_self
      obtain ⟨t, rfl⟩ : ∃ t : Nat, ti = t := ⟨ti.toNat, by omega⟩
      have go : ∀ y12, nx2 [.un, .dice, .dat (p2 s l), .dat (.int (m : Nat)), .dat (tI wear), .dat (tI walk), .dat (.list (us.map lW)), x7, .dat (lW us.flatten), y9, .dat (.int often), .dat (.int (t : Nat)), y12] := fun y12 => hnx2 _ ⟨⟨ts, rfl, fun u hu => hts u (List.mem_cons_of_mem _ hu)⟩, _, y12, rfl⟩
      have hit : hasMany s l wear m walk t = true ↔ (t : Int) ≤ often := by
        rw [has_iff hf hwl h0 hwk]
        constructor
        · rintro ⟨b, hb, ht⟩
          have := o2 b hb
          omega
        · intro ht
          obtain ⟨b, hb, e⟩ := o1
          exact ⟨b, hb, by omega⟩
      simp only [wSeq, wgName, wgTup2, wgTup3, wB, wOp, wV, wC, wCall, wsCons, wsDice, wsNil, wCB, wCL, waCons, waNil, wTup, wL, wLst, wNot, wAnd, wOr, wAndV, wOrV, wNotV, wUn, wChain, wIf, wipeE, List.set_cons_zero, List.set_cons_succ, List.getElem?_cons_succ, List.getElem?_cons_zero, ex_dat, ex_own, ex_own2, ex_bool, ex_int, ex_int2, ex_pair, ex_three, gI0, gI, gIx_t, gIx_l, gMin2, gMax2, gLen, gAdd, gIn_t, gEq_ii, gEq_tt, gNe_ii, gNe_tt, List.length_map, fs1_at, fs2_at, fs3_at, fs4_at, fs5_at, fs6_at, fd1_at, fd2_at, fd3_at]
      simp only [w_law_3b_6_0, wsSet, wvD, wCall, wsCons, wV, wsNil, List.getElem?_cons_zero, List.getElem?_cons_succ, List.set_cons_zero, List.set_cons_succ, ex_bool, ex_dat, ex_own, ex_own2, ex_int, ex_int2, ex_pair, ex_three, fs1_at, fs2_at, fs3_at, fs4_at, fs5_at, fs6_at, fd1_at, fd2_at, fd3_at, List.map_cons, List.map_nil, List.length_map, S_bag_with_walk]
      refine ⟨short_tI (by omega), need3_ok hf hw (by omega) (by omega) (walk_ok hg (num_ok (by omega) ⟨fun z => (nd z).elim, fun _ => ⟨fun hno => ?_, fun left hyes hleft => ?_⟩⟩))⟩
      · have hgt : often < (t : Int) := by
          apply Int.not_le.mp
          intro z
          rw [hit.mpr z] at hno
          cases hno
        simp only [w_law_3b_6_1, wsIf, wB, wOp, gNe_ii, gNe_tt, gNe_l0, gNe_ww, gNe_bb, gIs, isNone_n, isNone_l, isNone_t, isNone_i, isNone_b, wV, wC, gGt, gI0, wNil, List.getElem?_cons_zero, List.getElem?_cons_succ, List.set_cons_zero, List.set_cons_succ, ex_bool, ex_dat, ex_own, ex_own2, ex_int, ex_int2, ex_pair, ex_three, fs1_at, fs2_at, fs3_at, fs4_at, fs5_at, fs6_at, fd1_at, fd2_at, fd3_at, List.map_cons, List.map_nil, List.length_map]
        rw [decide_eq_true hgt]
        simp only [decide_true, Bool.not_true, Bool.false_eq_true, if_false]
        simp only [w_law_3b_6_2, wsIf, wAnd, wB, wOp, gIsN, isNone_n, isNone_l, isNone_t, isNone_i, isNone_b, wV, wC, wOr, gNotIn_t, gNotIn_l, wL, wCL, gSorted, waCons, waNil, gLt, gI0, wCnt, wNil, List.getElem?_cons_zero, List.getElem?_cons_succ, List.set_cons_zero, List.set_cons_succ, ex_bool, ex_dat, ex_own, ex_own2, ex_int, ex_int2, ex_pair, ex_three, fs1_at, fs2_at, fs3_at, fs4_at, fs5_at, fs6_at, fd1_at, fd2_at, fd3_at, List.map_cons, List.map_nil, List.length_map]
        exact go _
      · obtain ⟨left', hl', _, hmk, hll, hln⟩ := bag_of_has hf hwl h0 hyes
        obtain rfl : left' = left := Option.some.inj (hl'.symm.trans hleft)
        have ww := with_wear hf hwl h0 hleft hmk
        have tl := turns_len left' (m - t) fun x hx => ⟨hln x hx, hmk.1 x hx⟩
        have tw := turns_walks hf hll hln hmk
        have htm : t ≤ m := by omega
        rw [show ((m - t : Nat) : Int) = (m : Int) - t by omega] at ww tl tw
        have hF1 : (List.replicate t walk ++ turnsI left' ((m : Int) - t)).length = m := by
          rw [List.length_append, List.length_replicate, tl]
          omega
        have hF2 : ∀ w ∈ List.replicate t walk ++ turnsI left' ((m : Int) - t), w ∈ walksI s l := fun w hw => by
          rcases List.mem_append.mp hw with hw | hw
          · rw [List.eq_of_mem_replicate hw]
            exact hwk
          · exact tw w hw
        have hF3 : t ≤ cnt walk (List.replicate t walk ++ turnsI left' ((m : Int) - t)) := by
          show t ≤ List.countP _ _
          rw [List.countP_append]
          have : (List.replicate t walk).countP (fun w => decide (w = walk)) = t := by
            rw [List.countP_eq_length.mpr fun w hw => by rw [List.eq_of_mem_replicate hw]; simp, List.length_replicate]
          omega
        have hF4 := found_of hf hwl h0 hF2 ww
        rw [hF1] at hF4
        generalize List.replicate t walk ++ turnsI left' ((m : Int) - t) = F at hF1 hF2 hF3 hF4 ⊢
        simp only [w_law_3b_6_1, wsIf, wB, wOp, gNe_ii, gNe_tt, gNe_l0, gNe_ww, gNe_bb, gIs, isNone_n, isNone_l, isNone_t, isNone_i, isNone_b, wV, wC, gGt, gI0, wNil, List.getElem?_cons_zero, List.getElem?_cons_succ, List.set_cons_zero, List.set_cons_succ, ex_bool, ex_dat, ex_own, ex_own2, ex_int, ex_int2, ex_pair, ex_three, fs1_at, fs2_at, fs3_at, fs4_at, fs5_at, fs6_at, fd1_at, fd2_at, fd3_at, List.map_cons, List.map_nil, List.length_map]
        rw [decide_eq_false (show ¬ often < (t : Int) by have := hit.mp hyes; omega)]
        simp only [decide_true, Bool.not_true, Bool.false_eq_true, if_false]
        simp only [w_law_3b_6_2, wsIf, wAnd, wB, wOp, gIsN, isNone_n, isNone_l, isNone_t, isNone_i, isNone_b, wV, wC, wOr, gNotIn_t, gNotIn_l, wL, wCL, gSorted, waCons, waNil, gLt, gI0, wCnt, wNil, List.getElem?_cons_zero, List.getElem?_cons_succ, List.set_cons_zero, List.set_cons_succ, ex_bool, ex_dat, ex_own, ex_own2, ex_int, ex_int2, ex_pair, ex_three, fs1_at, fs2_at, fs3_at, fs4_at, fs5_at, fs6_at, fd1_at, fd2_at, fd3_at, List.map_cons, List.map_nil, List.length_map]
        obtain ⟨s1, s2, s3⟩ := sort_ok F
        simp only [Bool.not_false, if_true]
        refine ⟨s1, s2, s3, ?_⟩
        rw [sortD_W]
        refine ⟨(shp_lW 0 _).ok, (shp_bags us (List.Perm.refl _)).ok, ?_⟩
        rw [any_B, decide_eq_true (hp.mem_iff.mpr hF4)]
        simp only [Bool.not_true, Bool.false_eq_true, if_false]
        refine ⟨_, rfl, plain_W F, plain_tI walk, dep_tI walk, ?_⟩
        rw [count_W]
        rw [if_neg (by rw [decide_eq_true_eq]; have : cnt walk F = F.countP fun d => decide (d = walk) := rfl; omega)]
        exact go _
  · rintro d ds env ⟨us, vs, y9, e1, e2, rfl⟩ nx2 hnx2
    cases vs with
    | nil => cases e2
    | cons v vs =>
    rw [List.map_cons] at e2
    obtain ⟨rfl, rfl⟩ := List.cons.inj e2
    have hv : v.length = m := hbm v (by rw [← e1]; simp)
    have hu := hfl us fun b hb => hbm b (by rw [← e1]; exact List.mem_append_left _ hb)
    have hul : us.length ≤ bs.length := by rw [← e1, List.length_append]; omega
    simp only [wgName, wgTup2, wgTup3, wB, wOp, wV, wC, wCall, wsCons, wsDice, wsNil, wCB, wCL, waCons, waNil, wTup, wL, wLst, wNot, wAnd, wOr, wAndV, wOrV, wNotV, wUn, wChain, wIf, wipeE, List.set_cons_zero, List.set_cons_succ, List.getElem?_cons_succ, List.getElem?_cons_zero, ex_dat, ex_own, ex_own2, ex_bool, ex_int, ex_int2, ex_pair, ex_three, gI0, gI, gIx_t, gIx_l, gMin2, gMax2, gLen, gAdd, gIn_t, gEq_ii, gEq_tt, gNe_ii, gNe_tt, List.length_map, fs1_at, fs2_at, fs3_at, fs4_at, fs5_at, fs6_at, fd1_at, fd2_at, fd3_at, w_law_3b_1_0, wsSet, wvD, wOp, gAdd, wV, List.getElem?_cons_zero, List.getElem?_cons_succ, List.set_cons_zero, List.set_cons_succ, ex_bool, ex_dat, ex_own, ex_own2, ex_int, ex_int2, ex_pair, ex_three, fs1_at, fs2_at, fs3_at, fs4_at, fs5_at, fs6_at, fd1_at, fd2_at, fd3_at, List.map_cons, List.map_nil, List.length_map]
    refine ⟨by rw [szl]; omega, hnx2 _ ⟨us ++ [v], vs, .dat (lW v), by rw [List.append_assoc]; exact e1, rfl, ?_⟩⟩
    rw [show (us ++ [v]).flatten = us.flatten ++ v by simp, ← List.map_append]
theorem g_law : w_law (env0 N_law.length) C0 := by
  change w_law [.un, .dice, .un, .un, .un, .un, .un, .un, .un, .un, .un, .un, .un] _
  unfold w_law
  simp only [w_law_0, wsUnp, wgTup2, wgName, wTup, waCons, wCall, wsDice, wsCons, wC, wsNil, waNil, List.getElem?_cons_zero, List.getElem?_cons_succ, List.set_cons_zero, List.set_cons_succ, ex_bool, ex_dat, ex_own, ex_own2, ex_int, ex_int2, ex_pair, ex_three, fs1_at, fs2_at, fs3_at, fs4_at, fs5_at, fs6_at, fd1_at, fd2_at, fd3_at, List.map_cons, List.map_nil, List.length_map, wSeq]
  refine ⟨trivial, _, rfl, 5, rfl, by decide, by decide, fun s l hf hs5 => ⟨trivial, u_roll (by decide) (by decide) fun mi m0 m1 => ⟨by simp [szl], ?_⟩⟩⟩
  obtain ⟨m, rfl⟩ : ∃ m : Nat, mi = m := ⟨mi.toNat, by omega⟩
  have m3 : m ≤ 3 := by omega
  obtain ⟨f1, f2, f3, f4⟩ := id hf
  simp only [w_law_1, wsUnp, wgTup2, wgName, wTup, waCons, wCall, wsDice, wsCons, wV, wsNil, wOp, gIx_l, gIx_t, wC, waNil, List.getElem?_cons_zero, List.getElem?_cons_succ, List.set_cons_zero, List.set_cons_succ, ex_bool, ex_dat, ex_own, ex_own2, ex_int, ex_int2, ex_pair, ex_three, fs1_at, fs2_at, fs3_at, fs4_at, fs5_at, fs6_at, fd1_at, fd2_at, fd3_at, List.map_cons, List.map_nil, List.length_map, S_lw_any_wear, S_lw_any_walks]
  refine ⟨trivial, s, l, m, rfl, rfl, hf, by omega, by omega, fun wear hwl hx => ⟨trivial, s, l, 1, rfl, rfl, hf, by omega, by omega, fun ws hws hwm => ?_⟩⟩
  have hw : WrOk s wear := ⟨hwl, fun x h => by have := hx x h; omega⟩
  have h0 : ∀ x ∈ wear, 0 ≤ x := fun x h => (hw.2 x h).1
  obtain ⟨walk, rfl⟩ : ∃ walk, ws = [walk] := by
    match ws, hws with
    | [w], _ => exact ⟨w, rfl⟩
    | [], h => simp at h
    | _ :: _ :: _, h => simp at h; omega
  have hwk := hwm walk List.mem_cons_self
  have hg := (mem_walks_good hf).mp hwk
  have hl8 := good_len hf hg
  refine ⟨tI walk, by rfl, by simp [szl], ?_⟩
  simp only [w_law_2, wsSet, wvD, wCall, wsCons, wV, wsNil, List.getElem?_cons_zero, List.getElem?_cons_succ, List.set_cons_zero, List.set_cons_succ, ex_bool, ex_dat, ex_own, ex_own2, ex_int, ex_int2, ex_pair, ex_three, fs1_at, fs2_at, fs3_at, fs4_at, fs5_at, fs6_at, fd1_at, fd2_at, fd3_at, List.map_cons, List.map_nil, List.length_map, S_lw_bags]
  refine ⟨s, l, wear, m, rfl, rfl, rfl, hf, hs5, hwl, h0, m3, ?_⟩
  obtain ⟨bs, e1, hp⟩ := perm_unmap (sortD_perm ((foundB (walksI s l) wear m).map lW))
  rw [e1]
  simp only [w_law_3, wsIf, wB, wOp, gEq_ii, gEq_tt, gEq_ll, gEq_l0, gEq_ww, gEq_bb, wV, wL, wLst, waNil, wSeq, List.getElem?_cons_zero, List.getElem?_cons_succ, List.set_cons_zero, List.set_cons_succ, ex_bool, ex_dat, ex_own, ex_own2, ex_int, ex_int2, ex_pair, ex_three, fs1_at, fs2_at, fs3_at, fs4_at, fs5_at, fs6_at, fd1_at, fd2_at, fd3_at, List.map_cons, List.map_nil, List.length_map]
  refine ⟨by simp [szl], gEq_any0 (shp_bags bs (List.Perm.refl _)) (by decide) ⟨_, rfl, ?_⟩⟩
  by_cases hd : doMake s l wear m = true
  · have hfn := (found_iff hf hwl h0).mpr ((doMake_iff hwl).mp hd)
    rw [decide_eq_false (fun z => hfn (by
      have := List.map_eq_nil_iff.mp z
      rw [this] at hp
      exact (List.Perm.nil_eq hp).symm))]
    simp only [Bool.false_eq_true, if_false]
    exact law_some hf hs5 hw m3 hl8 hwk hd hp fun _ _ _ _ _ => law_end hf hw m3 hl8 hg
  · have hb : bs = [] := by
      have : foundB (walksI s l) wear m = [] := Classical.byContradiction fun z => hd ((doMake_iff hwl).mpr ((found_iff hf hwl h0).mp z))
      rw [this] at hp
      exact hp.eq_nil
    subst hb
    rw [decide_eq_true (by rfl)]
    simp only [if_true]
    exact law_none hf hw m3 hl8 hg (Bool.eq_false_iff.mpr hd) fun _ => law_end hf hw m3 hl8 hg

end HD
namespace HD
open PySem PySem.Spec PyProof.Rows L2 SD HotX L2H LamX
section
variable {P : Program} {w : World} {K : PySem.W.Frag} {mg : Str → Option Value} {base : Heap} {T : List (Addr × Str)}
theorem sc_lw_cell : FnScope [("script" : Str), "k"] [("script" : Str), "k"] (defScope (top 45)) := ⟨rfl, rfl, rfl, by decide +kernel, rfl, by decide +kernel, by decide +kernel⟩
theorem ok_lw_cell (B : BM mg) {f : Addr} {fd : FuncData} (F : FunD K "_law_cell" "_law_cell" (defArgs (top 45)) (defBody (top 45)) (defScope (top 45)) [] [] f fd) (hm : mg "_law_cell" = some (.ref f)) : CallS P w K mg base 1 "_law_cell" [("script" : Str), "k"] (SD.spCell K) := by
  refine ⟨f, fd, hm, F.kp, binds_of F fun _ _ _ _ _ _ us hl => match us, hl with | [_, _], _ => rfl, F.ok sc_lw_cell (fun vs H Q E ⟨_, _, _, e, _⟩ => by rw [e] <;> rfl) fun cdv A outer s H vs Q E hr h => ⟨SD.tCell K, ?_, SD.cell_run h⟩⟩
  exact pss_cons (ps_if (pt_cmpR (op_eqD hr.units) (pe_var (i := 0) rfl (Or.inl rfl)) (pe_lst pa_nil) (nomark _)) (pss_one (ps_ret (pe_op op_mul (pe_var (i := 1) rfl (Or.inl rfl)) pe_int))) pss_nil)
    (pss_one (ps_ret (pe_op op_add (pe_ix ix_seq (pe_var (i := 0) rfl (Or.inl rfl)) (pe_op op_mod (pe_var (i := 1) rfl (Or.inl rfl)) (pe_callB call_len rfl B.len boot_len (pa_cons (pe_var (i := 0) rfl (Or.inl rfl)) pa_nil))) fun _ _ => rfl)
      (pe_op op_mul (pe_op op_fdiv (pe_var (i := 1) rfl (Or.inl rfl)) (pe_callB call_len rfl B.len boot_len (pa_cons (pe_var (i := 0) rfl (Or.inl rfl)) pa_nil))) pe_int))))
def N_lw_rounds : List Str := [("script" : Str), "high", "k"]
theorem sc_lw_rounds : FnScope N_lw_rounds [("script" : Str), "high"] (defScope (top 48)) := ⟨rfl, rfl, rfl, by decide +kernel, rfl, by decide +kernel, by decide +kernel⟩
theorem ok_lw_rounds (B : BM mg) (c_cell : CallS P w K mg base 1 "_law_cell" [("script" : Str), "k"] (SD.spCell K)) {f : Addr} {fd : FuncData} (F : FunD K "_law_rounds" "_law_rounds" (defArgs (top 48)) (defBody (top 48)) (defScope (top 48)) [] [] f fd) (hm : mg "_law_rounds" = some (.ref f)) : CallS P w K mg base 2 "_law_rounds" [("script" : Str), "high"] (spRounds K) := by
  obtain ⟨fc, fdc, c1, c2, c3, c4⟩ := c_cell.ex
  refine ⟨f, fd, hm, F.kp, binds_of F fun _ _ _ _ _ _ us hl => match us, hl with | [_, _], _ => rfl, F.ok sc_lw_rounds (fun vs H Q E ⟨_, _, _, e, _⟩ => by rw [e] <;> rfl) fun cdv A outer s H vs Q E hr h => ⟨SD.tRounds K, ?_, SD.rounds_run h⟩⟩
  exact pss_one (ps_ret (pe_lc (own := [(("k" : Str), 2)]) rfl sc_lw_rounds.nd (pi_range1 rfl B.range (pa_cons (pe_callB (call_max2 rfl) rfl B.max bt_max (pa_cons pe_int (pa_cons (pe_callB (call_min2 rfl) rfl B.min bt_min (pa_cons (pe_var (i := 1) rfl (Or.inl rfl)) (pa_cons (pe_callB call_len rfl B.len boot_len (pa_cons (pe_var (i := 0) rfl (Or.inr (Or.inl rfl))) pa_nil)) pa_nil))) pa_nil))) pa_nil))
    (blkOk_by (N := N_lw_rounds) (sc := defScope (top 48)) (by decide +kernel)) (fun _ _ _ _ _ => pg_name (i := 2) sc_lw_rounds.nd rfl (Or.inl rfl)) (fun _ _ _ _ _ => pts_nil)
    (fun _ _ _ _ _ => pe_lst (pa_cons (pe_call (E := E0) c4 hr rfl c1 c2 c3 .nil passN (pa_cons (pe_var (i := 0) rfl (by first | exact Or.inl rfl | exact Or.inr (Or.inl rfl) | exact Or.inr (Or.inr rfl))) (pa_cons (pe_var (i := 2) rfl (by exact Or.inl rfl)) pa_nil))) (pa_cons pe_int pa_nil)))))
theorem sc_lw_term : FnScope SD.N_t [("e" : Str)] (defScope (top 49)) := ⟨rfl, rfl, rfl, by decide +kernel, rfl, by decide +kernel, by decide +kernel⟩
theorem drv_lw_term (B : BM mg) (kf : KindF K (kC K)) (nm : ∀ i, i < 12 → mg (kindS i) = some (.ref (kC K i))) (hVE : mg "ValueError" = none) {f : Addr} (i : Nat) (hi : i < 12) (cdv : Value) (A : Around) (outer : List Env) (s : Shared) (H : Hp) (a : Addr) (oe : Obj) (hz : Zc (.ref (kC K i)) none oe) (hf : ∃ vs, oe.data = .fields vs) (hot : Hot1 A (a, oe)) (hr : RoomH 0 (A.deeper (envOfC "_law_term" (defScope (top 49)) s.heap.objs.size f cdv))) :
    PSs (cxH C8.CX0 P w K mg base N_t "_law_term" (defScope (top 49)) f cdv A outer s H C8.E0 (a, oe)) (defBody (top 49)) (tTerm K (kC K i) a (kC K)) := by
  have S := sc_lw_term
  have C : ExcC K (kC K i) := kf.exc i hi
  have hp : (a, oe) ∈ (cxH C8.CX0 P w K mg base N_t "_law_term" (defScope (top 49)) f cdv A outer s H C8.E0 (a, oe)).pn := List.mem_singleton.mpr rfl
  have hu : (cxH C8.CX0 P w K mg base N_t "_law_term" (defScope (top 49)) f cdv A outer s H C8.E0 (a, oe)).A.units + 64 < cLine := by
    have := hr.un
    show (A.deeper (envOfC "_law_term" (defScope (top 49)) s.heap.objs.size f cdv)).units + 64 < _
    omega
  exact (pss_cons (ps_set (i := 1) S.nd rfl (Or.inl rfl) (pe_lst (pa_cons (pe_callB (call_isP hp C hz hf) rfl B.isinstance bt_isinstance (pa_cons (pe_var (i := 0) rfl (Or.inl rfl)) (pa_cons (pe_glob rfl (nm 0 (by decide)) rfl) pa_nil))) (pa_cons (pe_callB (call_isP hp C hz hf) rfl B.isinstance bt_isinstance (pa_cons (pe_var (i := 0) rfl (Or.inl rfl)) (pa_cons (pe_glob rfl (nm 1 (by decide)) rfl) pa_nil))) (pa_cons (pe_callB (call_isP hp C hz hf) rfl B.isinstance bt_isinstance (pa_cons (pe_var (i := 0) rfl (Or.inl rfl)) (pa_cons (pe_glob rfl (nm 2 (by decide)) rfl) pa_nil))) (pa_cons (pe_callB (call_isP hp C hz hf) rfl B.isinstance bt_isinstance (pa_cons (pe_var (i := 0) rfl (Or.inl rfl)) (pa_cons (pe_glob rfl (nm 3 (by decide)) rfl) pa_nil))) pa_nil))))))
    (pss_cons (ps_set (i := 1) S.nd rfl (Or.inl rfl) (pe_op op_cat (pe_var (i := 1) rfl (Or.inl rfl)) (pe_lst (pa_cons (pe_callB (call_isP hp C hz hf) rfl B.isinstance bt_isinstance (pa_cons (pe_var (i := 0) rfl (Or.inl rfl)) (pa_cons (pe_glob rfl (nm 4 (by decide)) rfl) pa_nil))) (pa_cons (pe_callB (call_isP hp C hz hf) rfl B.isinstance bt_isinstance (pa_cons (pe_var (i := 0) rfl (Or.inl rfl)) (pa_cons (pe_glob rfl (nm 5 (by decide)) rfl) pa_nil))) (pa_cons (pe_callB (call_isP hp C hz hf) rfl B.isinstance bt_isinstance (pa_cons (pe_var (i := 0) rfl (Or.inl rfl)) (pa_cons (pe_glob rfl (nm 6 (by decide)) rfl) pa_nil))) pa_nil))))))
    (pss_cons (ps_set (i := 1) S.nd rfl (Or.inl rfl) (pe_op op_cat (pe_var (i := 1) rfl (Or.inl rfl)) (pe_lst (pa_cons (pe_callB (call_isP hp C hz hf) rfl B.isinstance bt_isinstance (pa_cons (pe_var (i := 0) rfl (Or.inl rfl)) (pa_cons (pe_glob rfl (nm 7 (by decide)) rfl) pa_nil))) (pa_cons (pe_callB (call_isP hp C hz hf) rfl B.isinstance bt_isinstance (pa_cons (pe_var (i := 0) rfl (Or.inl rfl)) (pa_cons (pe_glob rfl (nm 8 (by decide)) rfl) pa_nil))) (pa_cons (pe_callB (call_isP hp C hz hf) rfl B.isinstance bt_isinstance (pa_cons (pe_var (i := 0) rfl (Or.inl rfl)) (pa_cons (pe_glob rfl (nm 9 (by decide)) rfl) pa_nil))) pa_nil))))))
    (pss_cons (ps_set (i := 1) S.nd rfl (Or.inl rfl) (pe_op op_cat (pe_var (i := 1) rfl (Or.inl rfl)) (pe_lst (pa_cons (pe_callB (call_isP hp C hz hf) rfl B.isinstance bt_isinstance (pa_cons (pe_var (i := 0) rfl (Or.inl rfl)) (pa_cons (pe_glob rfl (nm 10 (by decide)) rfl) pa_nil))) (pa_cons (pe_callB (call_isP hp C hz hf) rfl B.isinstance bt_isinstance (pa_cons (pe_var (i := 0) rfl (Or.inl rfl)) (pa_cons (pe_glob rfl (nm 11 (by decide)) rfl) pa_nil))) pa_nil)))))
    (pss_cons (ps_set (i := 2) S.nd rfl (Or.inl rfl) (pe_lst (pa_cons pe_str (pa_cons pe_str (pa_cons pe_str (pa_cons pe_str (pa_cons pe_str (pa_cons pe_str (pa_cons pe_str (pa_cons pe_str pa_nil))))))))))
    (pss_cons (ps_set (i := 2) S.nd rfl (Or.inl rfl) (pe_op op_cat (pe_var (i := 2) rfl (Or.inl rfl)) (pe_lst (pa_cons pe_str (pa_cons pe_str (pa_cons pe_str (pa_cons pe_str pa_nil)))))))
    (pss_cons (ps_if (PW.pt (pw_or (pt_cmpR (op_neD hu) (pe_callB (cr_sumH ⟨(a, oe), hot, hp⟩) rfl B.sum bt_sum (pa_cons (pe_lcH (own := [(("flag" : Str), 3)]) (i0 := 3) hot hp S.nd (pe_var (i := 1) rfl (Or.inl rfl)) (blkOk_by (N := SD.N_t) (sc := defScope (top 49)) (by decide +kernel)) rfl (fun _ _ _ _ _ => pg_name (i := 3) S.nd rfl (Or.inl rfl)) (fun _ _ _ _ _ => pe_callTy call_int1 rfl B.int bt_int (pa_cons (pe_var (i := 3) rfl (Or.inl rfl)) pa_nil))) pa_nil)) pe_int (nomark _)) (pw_or1 (pt_not (pt_val (pe_callB (call_isP hp C hz hf) rfl B.isinstance bt_isinstance (pa_cons (pe_var (i := 0) rfl (Or.inl rfl)) (pa_cons (pe_bltn rfl hVE bt_ValueError rfl) pa_nil)))))))) (pss_one (ps_ret (pe_tup (pa_cons pe_str (pa_cons pe_str pa_nil))))) pss_nil)
    (pss_one (ps_ret (pe_tup (pa_cons pe_str (pa_cons (pe_ix ix_seq (pe_var (i := 2) rfl (Or.inl rfl)) (pe_bm PySem.F.plainAttrs_list PySem.F.slot_list_index PySem.F.type_list_index mt_index (pe_var (i := 1) rfl (Or.inl rfl)) (pa_cons pe_bl pa_nil)) fun _ _ => rfl) pa_nil))))))))))))
theorem ok_term (B : BM mg) (kf : KindF K (kC K)) (nm : ∀ i, i < 12 → mg (kindS i) = some (.ref (kC K i))) (hVE : mg "ValueError" = none) {f : Addr} {fd : FuncData} (F : FunD K "_law_term" "_law_term" (defArgs (top 49)) (defBody (top 49)) (defScope (top 49)) [] [] f fd) (hm : mg "_law_term" = some (.ref f)) : TermD P w K mg base (kC K) :=
  ⟨⟨f, fd, _, _, _, _, F, hm, binds_of F fun _ _ _ _ _ _ us hl => match us, hl with | [_], _ => rfl, sc_lw_term, fun i hi cdv A outer s H a oe hz hf hot hr => drv_lw_term B kf nm hVE i hi cdv A outer s H a oe hz hf hot hr⟩, kf, nm⟩
theorem sc_lw_told : FnScope SD.N_told [("deed" : Str)] (defScope (top 50)) := ⟨rfl, rfl, rfl, by decide +kernel, rfl, by decide +kernel, by decide +kernel⟩
theorem ok_told (hS : mg "StrideError" = some (.ref (He.ga K "StrideError"))) (ex : ∀ i, i < 12 → PySem.W.exmOne K (.ref (kC K i)) (.ref (He.ga K "StrideError")) = some true) {f : Addr} {fd : FuncData} (F : FunD K "_law_told" "_law_told" (defArgs (top 50)) (defBody (top 50)) (defScope (top 50)) [] [] f fd) (hm : mg "_law_told" = some (.ref f)) : ToldD K mg (kC K) :=
  ⟨f, fd, _, _, _, _, _, _, _, _, _, _, _, _, _, _, F, hm, binds_of F fun _ _ _ _ _ _ us hl => match us, hl with | [_], _ => rfl, sc_lw_told, rfl, rfl, rfl, rfl, hS, ex⟩
theorem ok_is_whole (B : BM mg) {f : Addr} {fd : FuncData} (F : FunD K "is_whole" "is_whole" (defArgs (top 16)) (defBody (top 16)) (defScope (top 16)) [] [] f fd) (hm : mg "is_whole" = some (.ref f)) : CallOk P w K mg base T 1 "is_whole" [("thing" : Str), ("low" : Str), ("high" : Str)] S_is_whole :=
  ⟨f, fd, hm, F.kp, binds_of F fun _ _ _ _ _ _ us hl => match us, hl with | [_, _, _], _ => rfl, fn_data F sc_is_whole (len_fs3 rfl) (fun cdv A outer s H E gd hr => drv_is_whole B sc_is_whole cdv A outer s H E gd hr) g_is_whole⟩
theorem ok_is_flight (B : BM mg) (c_is_whole : CallOk P w K mg base T 1 "is_whole" [("thing" : Str), ("low" : Str), ("high" : Str)] S_is_whole) {f : Addr} {fd : FuncData} (F : FunD K "is_flight" "is_flight" (defArgs (top 17)) (defBody (top 17)) (defScope (top 17)) [] [] f fd) (hm : mg "is_flight" = some (.ref f)) : CallOk P w K mg base T 2 "is_flight" [("thing" : Str)] S_is_flight :=
  ⟨f, fd, hm, F.kp, binds_of F fun _ _ _ _ _ _ us hl => match us, hl with | [_], _ => rfl, fn_data F sc_is_flight (len_fs1 rfl) (fun cdv A outer s H E gd hr => drv_is_flight B c_is_whole sc_is_flight cdv A outer s H E gd hr) g_is_flight⟩
theorem ok_need_flight (B : BM mg) (c_is_flight : CallOk P w K mg base T 2 "is_flight" [("thing" : Str)] S_is_flight) (e_BadFlight : ExcOk K mg "BadFlight") {f : Addr} {fd : FuncData} (F : FunD K "need_flight" "need_flight" (defArgs (top 18)) (defBody (top 18)) (defScope (top 18)) [] [] f fd) (hm : mg "need_flight" = some (.ref f)) : CallOk P w K mg base T 3 "need_flight" [("thing" : Str)] S_need_flight :=
  ⟨f, fd, hm, F.kp, binds_of F fun _ _ _ _ _ _ us hl => match us, hl with | [_], _ => rfl, fn_data F sc_need_flight (len_fs1 rfl) (fun cdv A outer s H E gd hr => drv_need_flight B c_is_flight e_BadFlight sc_need_flight cdv A outer s H E gd hr) g_need_flight⟩
theorem ok_every_walk (B : BM mg) {f : Addr} {fd : FuncData} (F : FunD K "every_walk" "every_walk" (defArgs (top 19)) (defBody (top 19)) (defScope (top 19)) [] [] f fd) (hm : mg "every_walk" = some (.ref f)) : CallOk P w K mg base T 1 "every_walk" [("flight" : Str)] S_every_walk :=
  ⟨f, fd, hm, F.kp, binds_of F fun _ _ _ _ _ _ us hl => match us, hl with | [_], _ => rfl, fn_data F sc_every_walk (len_fs1 rfl) (fun cdv A outer s H E gd hr => drv_every_walk B sc_every_walk cdv A outer s H E gd hr) g_every_walk⟩
theorem ok_strides_of (B : BM mg) {f : Addr} {fd : FuncData} (F : FunD K "strides_of" "strides_of" (defArgs (top 20)) (defBody (top 20)) (defScope (top 20)) [] [] f fd) (hm : mg "strides_of" = some (.ref f)) : CallOk P w K mg base T 1 "strides_of" [("flight" : Str), ("walk" : Str)] S_strides_of :=
  ⟨f, fd, hm, F.kp, binds_of F fun _ _ _ _ _ _ us hl => match us, hl with | [_, _], _ => rfl, fn_data F sc_strides_of (len_fs2 rfl) (fun cdv A outer s H E gd hr => drv_strides_of B sc_strides_of cdv A outer s H E gd hr) g_strides_of⟩
theorem ok_is_good_walk (B : BM mg) (c_is_whole : CallOk P w K mg base T 1 "is_whole" [("thing" : Str), ("low" : Str), ("high" : Str)] S_is_whole) (c_strides_of : CallOk P w K mg base T 1 "strides_of" [("flight" : Str), ("walk" : Str)] S_strides_of) {f : Addr} {fd : FuncData} (F : FunD K "is_good_walk" "is_good_walk" (defArgs (top 21)) (defBody (top 21)) (defScope (top 21)) [] [] f fd) (hm : mg "is_good_walk" = some (.ref f)) : CallOk P w K mg base T 2 "is_good_walk" [("flight" : Str), ("thing" : Str)] S_is_good_walk :=
  ⟨f, fd, hm, F.kp, binds_of F fun _ _ _ _ _ _ us hl => match us, hl with | [_, _], _ => rfl, fn_data F sc_is_good_walk (len_fs2 rfl) (fun cdv A outer s H E gd hr => drv_is_good_walk B c_is_whole c_strides_of sc_is_good_walk cdv A outer s H E gd hr) g_is_good_walk⟩
theorem ok_need_walk (B : BM mg) (c_is_good_walk : CallOk P w K mg base T 2 "is_good_walk" [("flight" : Str), ("thing" : Str)] S_is_good_walk) (e_BadWalk : ExcOk K mg "BadWalk") {f : Addr} {fd : FuncData} (F : FunD K "need_walk" "need_walk" (defArgs (top 22)) (defBody (top 22)) (defScope (top 22)) [] [] f fd) (hm : mg "need_walk" = some (.ref f)) : CallOk P w K mg base T 3 "need_walk" [("flight" : Str), ("walk" : Str)] S_need_walk :=
  ⟨f, fd, hm, F.kp, binds_of F fun _ _ _ _ _ _ us hl => match us, hl with | [_, _], _ => rfl, fn_data F sc_need_walk (len_fs2 rfl) (fun cdv A outer s H E gd hr => drv_need_walk B c_is_good_walk e_BadWalk sc_need_walk cdv A outer s H E gd hr) g_need_walk⟩
theorem ok_is_good_wear (B : BM mg) (c_MOST : ∃ t, mg "MOST" = some (.int 9 t)) (c_is_whole : CallOk P w K mg base T 1 "is_whole" [("thing" : Str), ("low" : Str), ("high" : Str)] S_is_whole) {f : Addr} {fd : FuncData} (F : FunD K "is_good_wear" "is_good_wear" (defArgs (top 23)) (defBody (top 23)) (defScope (top 23)) [] [] f fd) (hm : mg "is_good_wear" = some (.ref f)) : CallOk P w K mg base T 2 "is_good_wear" [("steps" : Str), ("thing" : Str)] S_is_good_wear :=
  ⟨f, fd, hm, F.kp, binds_of F fun _ _ _ _ _ _ us hl => match us, hl with | [_, _], _ => rfl, fn_data F sc_is_good_wear (len_fs2 rfl) (fun cdv A outer s H E gd hr => drv_is_good_wear B c_MOST c_is_whole sc_is_good_wear cdv A outer s H E gd hr) g_is_good_wear⟩
theorem ok_need_wear (B : BM mg) (c_need_flight : CallOk P w K mg base T 3 "need_flight" [("thing" : Str)] S_need_flight) (c_is_good_wear : CallOk P w K mg base T 2 "is_good_wear" [("steps" : Str), ("thing" : Str)] S_is_good_wear) (e_BadWear : ExcOk K mg "BadWear") {f : Addr} {fd : FuncData} (F : FunD K "need_wear" "need_wear" (defArgs (top 24)) (defBody (top 24)) (defScope (top 24)) [] [] f fd) (hm : mg "need_wear" = some (.ref f)) : CallOk P w K mg base T 4 "need_wear" [("flight" : Str), ("wear" : Str)] S_need_wear :=
  ⟨f, fd, hm, F.kp, binds_of F fun _ _ _ _ _ _ us hl => match us, hl with | [_, _], _ => rfl, fn_data F sc_need_wear (len_fs2 rfl) (fun cdv A outer s H E gd hr => drv_need_wear B c_need_flight c_is_good_wear e_BadWear sc_need_wear cdv A outer s H E gd hr) g_need_wear⟩
theorem ok_need_many (B : BM mg) (c_MOST : ∃ t, mg "MOST" = some (.int 9 t)) (c_is_whole : CallOk P w K mg base T 1 "is_whole" [("thing" : Str), ("low" : Str), ("high" : Str)] S_is_whole) (e_BadNumber : ExcOk K mg "BadNumber") {f : Addr} {fd : FuncData} (F : FunD K "need_many" "need_many" (defArgs (top 25)) (defBody (top 25)) (defScope (top 25)) [] [] f fd) (hm : mg "need_many" = some (.ref f)) : CallOk P w K mg base T 2 "need_many" [("many" : Str)] S_need_many :=
  ⟨f, fd, hm, F.kp, binds_of F fun _ _ _ _ _ _ us hl => match us, hl with | [_], _ => rfl, fn_data F sc_need_many (len_fs1 rfl) (fun cdv A outer s H E gd hr => drv_need_many B c_MOST c_is_whole e_BadNumber sc_need_many cdv A outer s H E gd hr) g_need_many⟩
theorem ok_need_both (B : BM mg) (c_need_wear : CallOk P w K mg base T 4 "need_wear" [("flight" : Str), ("wear" : Str)] S_need_wear) (c_need_many : CallOk P w K mg base T 2 "need_many" [("many" : Str)] S_need_many) {f : Addr} {fd : FuncData} (F : FunD K "need_both" "need_both" (defArgs (top 26)) (defBody (top 26)) (defScope (top 26)) [] [] f fd) (hm : mg "need_both" = some (.ref f)) : CallOk P w K mg base T 5 "need_both" [("flight" : Str), ("wear" : Str), ("many" : Str)] S_need_both :=
  ⟨f, fd, hm, F.kp, binds_of F fun _ _ _ _ _ _ us hl => match us, hl with | [_, _, _], _ => rfl, fn_data F sc_need_both (len_fs3 rfl) (fun cdv A outer s H E gd hr => drv_need_both B c_need_wear c_need_many sc_need_both cdv A outer s H E gd hr) g_need_both⟩
theorem ok_rows_of (B : BM mg) {f : Addr} {fd : FuncData} (F : FunD K "rows_of" "rows_of" (defArgs (top 28)) (defBody (top 28)) (defScope (top 28)) [] [] f fd) (hm : mg "rows_of" = some (.ref f)) : CallOk P w K mg base T 1 "rows_of" [("steps" : Str), ("longest" : Str)] S_rows_of :=
  ⟨f, fd, hm, F.kp, binds_of F fun _ _ _ _ _ _ us hl => match us, hl with | [_, _], _ => rfl, fn_data F sc_rows_of (len_fs2 rfl) (fun cdv A outer s H E gd hr => drv_rows_of B sc_rows_of cdv A outer s H E gd hr) g_rows_of⟩
theorem ok_within (B : BM mg) {f : Addr} {fd : FuncData} (F : FunD K "within" "within" (defArgs (top 29)) (defBody (top 29)) (defScope (top 29)) [] [] f fd) (hm : mg "within" = some (.ref f)) : CallOk P w K mg base T 1 "within" [("row" : Str), ("longest" : Str), ("first" : Str)] S_within :=
  ⟨f, fd, hm, F.kp, binds_of F fun _ _ _ _ _ _ us hl => match us, hl with | [_, _, _], _ => rfl, fn_data F sc_within (len_fs3 rfl) (fun cdv A outer s H E gd hr => drv_within B sc_within cdv A outer s H E gd hr) g_within⟩
theorem ok_bar_of (B : BM mg) (c_rows_of : CallOk P w K mg base T 1 "rows_of" [("steps" : Str), ("longest" : Str)] S_rows_of) (c_within : CallOk P w K mg base T 1 "within" [("row" : Str), ("longest" : Str), ("first" : Str)] S_within) {f : Addr} {fd : FuncData} (F : FunD K "bar_of" "bar_of" (defArgs (top 30)) (defBody (top 30)) (defScope (top 30)) [] [] f fd) (hm : mg "bar_of" = some (.ref f)) : CallOk P w K mg base T 2 "bar_of" [("flight" : Str), ("lows" : Str), ("highs" : Str), ("many" : Str)] S_bar_of :=
  ⟨f, fd, hm, F.kp, binds_of F fun _ _ _ _ _ _ us hl => match us, hl with | [_, _, _, _], _ => rfl, fn_data F sc_bar_of (len_fs4 rfl) (fun cdv A outer s H E gd hr => drv_bar_of B c_rows_of c_within sc_bar_of cdv A outer s H E gd hr) g_bar_of⟩
theorem ok_do_make (B : BM mg) (c_bar_of : CallOk P w K mg base T 2 "bar_of" [("flight" : Str), ("lows" : Str), ("highs" : Str), ("many" : Str)] S_bar_of) {f : Addr} {fd : FuncData} (F : FunD K "do_make" "do_make" (defArgs (top 31)) (defBody (top 31)) (defScope (top 31)) [] [] f fd) (hm : mg "do_make" = some (.ref f)) : CallOk P w K mg base T 3 "do_make" [("flight" : Str), ("wear" : Str), ("many" : Str)] S_do_make :=
  ⟨f, fd, hm, F.kp, binds_of F fun _ _ _ _ _ _ us hl => match us, hl with | [_, _, _], _ => rfl, fn_data F sc_do_make (len_fs3 rfl) (fun cdv A outer s H E gd hr => drv_do_make B c_bar_of sc_do_make cdv A outer s H E gd hr) g_do_make⟩
theorem ok_turns_of (B : BM mg) {f : Addr} {fd : FuncData} (F : FunD K "turns_of" "turns_of" (defArgs (top 33)) (defBody (top 33)) (defScope (top 33)) [] [] f fd) (hm : mg "turns_of" = some (.ref f)) : CallOk P w K mg base T 1 "turns_of" [("flight" : Str), ("wear" : Str), ("many" : Str)] S_turns_of :=
  ⟨f, fd, hm, F.kp, binds_of F fun _ _ _ _ _ _ us hl => match us, hl with | [_, _, _], _ => rfl, fn_data F sc_turns_of (len_fs3 rfl) (fun cdv A outer s H E gd hr => drv_turns_of B sc_turns_of cdv A outer s H E gd hr) g_turns_of⟩
theorem ok_less (B : BM mg) {f : Addr} {fd : FuncData} (F : FunD K "less" "less" (defArgs (top 34)) (defBody (top 34)) (defScope (top 34)) [] [] f fd) (hm : mg "less" = some (.ref f)) : CallOk P w K mg base T 1 "less" [("wear" : Str), ("walk" : Str)] S_less :=
  ⟨f, fd, hm, F.kp, binds_of F fun _ _ _ _ _ _ us hl => match us, hl with | [_, _], _ => rfl, fn_data F sc_less (len_fs2 rfl) (fun cdv A outer s H E gd hr => drv_less B sc_less cdv A outer s H E gd hr) g_less⟩
theorem ok_need_made (B : BM mg) (c_do_make : CallOk P w K mg base T 3 "do_make" [("flight" : Str), ("wear" : Str), ("many" : Str)] S_do_make) (e_Nothing : ExcOk K mg "Nothing") {f : Addr} {fd : FuncData} (F : FunD K "need_made" "need_made" (defArgs (top 36)) (defBody (top 36)) (defScope (top 36)) [] [] f fd) (hm : mg "need_made" = some (.ref f)) : CallOk P w K mg base T 4 "need_made" [("flight" : Str), ("wear" : Str), ("many" : Str)] S_need_made :=
  ⟨f, fd, hm, F.kp, binds_of F fun _ _ _ _ _ _ us hl => match us, hl with | [_, _, _], _ => rfl, fn_data F sc_need_made (len_fs3 rfl) (fun cdv A outer s H E gd hr => drv_need_made B c_do_make e_Nothing sc_need_made cdv A outer s H E gd hr) g_need_made⟩
theorem ok_left_behind (B : BM mg) (c_less : CallOk P w K mg base T 1 "less" [("wear" : Str), ("walk" : Str)] S_less) {f : Addr} {fd : FuncData} (F : FunD K "left_behind" "left_behind" (defArgs (top 37)) (defBody (top 37)) (defScope (top 37)) [] [] f fd) (hm : mg "left_behind" = some (.ref f)) : CallOk P w K mg base T 2 "left_behind" [("wear" : Str), ("walk" : Str), ("times" : Str)] S_left_behind :=
  ⟨f, fd, hm, F.kp, binds_of F fun _ _ _ _ _ _ us hl => match us, hl with | [_, _, _], _ => rfl, fn_data F sc_left_behind (len_fs3 rfl) (fun cdv A outer s H E gd hr => drv_left_behind B c_less sc_left_behind cdv A outer s H E gd hr) g_left_behind⟩
theorem ok_has_so_many (B : BM mg) (c_left_behind : CallOk P w K mg base T 2 "left_behind" [("wear" : Str), ("walk" : Str), ("times" : Str)] S_left_behind) (c_do_make : CallOk P w K mg base T 3 "do_make" [("flight" : Str), ("wear" : Str), ("many" : Str)] S_do_make) {f : Addr} {fd : FuncData} (F : FunD K "has_so_many" "has_so_many" (defArgs (top 38)) (defBody (top 38)) (defScope (top 38)) [] [] f fd) (hm : mg "has_so_many" = some (.ref f)) : CallOk P w K mg base T 4 "has_so_many" [("flight" : Str), ("wear" : Str), ("many" : Str), ("walk" : Str), ("times" : Str)] S_has_so_many :=
  ⟨f, fd, hm, F.kp, binds_of F fun _ _ _ _ _ _ us hl => match us, hl with | [_, _, _, _, _], _ => rfl, fn_data F sc_has_so_many (len_fs5 rfl) (fun cdv A outer s H E gd hr => drv_has_so_many B c_left_behind c_do_make sc_has_so_many cdv A outer s H E gd hr) g_has_so_many⟩
theorem ok_may_go (B : BM mg) (c_need_both : CallOk P w K mg base T 5 "need_both" [("flight" : Str), ("wear" : Str), ("many" : Str)] S_need_both) (c_need_made : CallOk P w K mg base T 4 "need_made" [("flight" : Str), ("wear" : Str), ("many" : Str)] S_need_made) (c_every_walk : CallOk P w K mg base T 1 "every_walk" [("flight" : Str)] S_every_walk) (c_has_so_many : CallOk P w K mg base T 4 "has_so_many" [("flight" : Str), ("wear" : Str), ("many" : Str), ("walk" : Str), ("times" : Str)] S_has_so_many) {f : Addr} {fd : FuncData} (F : FunD K "may_go" "may_go" (defArgs (top 39)) (defBody (top 39)) (defScope (top 39)) [] [] f fd) (hm : mg "may_go" = some (.ref f)) : CallOk P w K mg base T 6 "may_go" [("flight" : Str), ("wear" : Str), ("many" : Str)] S_may_go :=
  ⟨f, fd, hm, F.kp, binds_of F fun _ _ _ _ _ _ us hl => match us, hl with | [_, _, _], _ => rfl, fn_data F sc_may_go (len_fs3 rfl) (fun cdv A outer s H E gd hr => drv_may_go B c_need_both c_need_made c_every_walk c_has_so_many sc_may_go cdv A outer s H E gd hr) g_may_go⟩
theorem ok_all_times (B : BM mg) (c_has_so_many : CallOk P w K mg base T 4 "has_so_many" [("flight" : Str), ("wear" : Str), ("many" : Str), ("walk" : Str), ("times" : Str)] S_has_so_many) {f : Addr} {fd : FuncData} (F : FunD K "all_times" "all_times" (defArgs (top 40)) (defBody (top 40)) (defScope (top 40)) [] [] f fd) (hm : mg "all_times" = some (.ref f)) : CallOk P w K mg base T 5 "all_times" [("flight" : Str), ("wear" : Str), ("many" : Str), ("walk" : Str)] S_all_times :=
  ⟨f, fd, hm, F.kp, binds_of F fun _ _ _ _ _ _ us hl => match us, hl with | [_, _, _, _], _ => rfl, fn_data F sc_all_times (len_fs4 rfl) (fun cdv A outer s H E gd hr => drv_all_times B c_has_so_many sc_all_times cdv A outer s H E gd hr) g_all_times⟩
theorem ok_at_most_so (B : BM mg) (c_need_both : CallOk P w K mg base T 5 "need_both" [("flight" : Str), ("wear" : Str), ("many" : Str)] S_need_both) (c_need_walk : CallOk P w K mg base T 3 "need_walk" [("flight" : Str), ("walk" : Str)] S_need_walk) (c_need_made : CallOk P w K mg base T 4 "need_made" [("flight" : Str), ("wear" : Str), ("many" : Str)] S_need_made) (c_all_times : CallOk P w K mg base T 5 "all_times" [("flight" : Str), ("wear" : Str), ("many" : Str), ("walk" : Str)] S_all_times) {f : Addr} {fd : FuncData} (F : FunD K "at_most_so" "at_most_so" (defArgs (top 41)) (defBody (top 41)) (defScope (top 41)) [] [] f fd) (hm : mg "at_most_so" = some (.ref f)) : CallOk P w K mg base T 6 "at_most_so" [("flight" : Str), ("wear" : Str), ("many" : Str), ("walk" : Str)] S_at_most_so :=
  ⟨f, fd, hm, F.kp, binds_of F fun _ _ _ _ _ _ us hl => match us, hl with | [_, _, _, _], _ => rfl, fn_data F sc_at_most_so (len_fs4 rfl) (fun cdv A outer s H E gd hr => drv_at_most_so B c_need_both c_need_walk c_need_made c_all_times sc_at_most_so cdv A outer s H E gd hr) g_at_most_so⟩
theorem ok_bag_with_walk (B : BM mg) (c_MOST : ∃ t, mg "MOST" = some (.int 9 t)) (c_need_both : CallOk P w K mg base T 5 "need_both" [("flight" : Str), ("wear" : Str), ("many" : Str)] S_need_both) (c_need_walk : CallOk P w K mg base T 3 "need_walk" [("flight" : Str), ("walk" : Str)] S_need_walk) (c_is_whole : CallOk P w K mg base T 1 "is_whole" [("thing" : Str), ("low" : Str), ("high" : Str)] S_is_whole) (c_need_made : CallOk P w K mg base T 4 "need_made" [("flight" : Str), ("wear" : Str), ("many" : Str)] S_need_made) (c_has_so_many : CallOk P w K mg base T 4 "has_so_many" [("flight" : Str), ("wear" : Str), ("many" : Str), ("walk" : Str), ("times" : Str)] S_has_so_many) (c_turns_of : CallOk P w K mg base T 1 "turns_of" [("flight" : Str), ("wear" : Str), ("many" : Str)] S_turns_of) (c_left_behind : CallOk P w K mg base T 2 "left_behind" [("wear" : Str), ("walk" : Str), ("times" : Str)] S_left_behind) (e_BadNumber : ExcOk K mg "BadNumber") {f : Addr} {fd : FuncData} (F : FunD K "bag_with_walk" "bag_with_walk" (defArgs (top 42)) (defBody (top 42)) (defScope (top 42)) [] [] f fd) (hm : mg "bag_with_walk" = some (.ref f)) : CallOk P w K mg base T 6 "bag_with_walk" [("flight" : Str), ("wear" : Str), ("many" : Str), ("walk" : Str), ("times" : Str)] S_bag_with_walk :=
  ⟨f, fd, hm, F.kp, binds_of F fun _ _ _ _ _ _ us hl => match us, hl with | [_, _, _, _, _], _ => rfl, fn_data F sc_bag_with_walk (len_fs5 rfl) (fun cdv A outer s H E gd hr => drv_bag_with_walk B c_MOST c_need_both c_need_walk c_is_whole c_need_made c_has_so_many c_turns_of c_left_behind e_BadNumber sc_bag_with_walk cdv A outer s H E gd hr) g_bag_with_walk⟩
theorem ok_rest_of (B : BM mg) (c_need_both : CallOk P w K mg base T 5 "need_both" [("flight" : Str), ("wear" : Str), ("many" : Str)] S_need_both) (c_need_walk : CallOk P w K mg base T 3 "need_walk" [("flight" : Str), ("walk" : Str)] S_need_walk) (c_need_made : CallOk P w K mg base T 4 "need_made" [("flight" : Str), ("wear" : Str), ("many" : Str)] S_need_made) (c_all_times : CallOk P w K mg base T 5 "all_times" [("flight" : Str), ("wear" : Str), ("many" : Str), ("walk" : Str)] S_all_times) {f : Addr} {fd : FuncData} (F : FunD K "rest_of" "rest_of" (defArgs (top 43)) (defBody (top 43)) (defScope (top 43)) [] [] f fd) (hm : mg "rest_of" = some (.ref f)) : CallOk P w K mg base T 6 "rest_of" [("flight" : Str), ("wear" : Str), ("many" : Str), ("walk" : Str)] S_rest_of :=
  ⟨f, fd, hm, F.kp, binds_of F fun _ _ _ _ _ _ us hl => match us, hl with | [_, _, _, _], _ => rfl, fn_data F sc_rest_of (len_fs4 rfl) (fun cdv A outer s H E gd hr => drv_rest_of B c_need_both c_need_walk c_need_made c_all_times sc_rest_of cdv A outer s H E gd hr) g_rest_of⟩
theorem ok_lw_drawn (B : BM mg) {f : Addr} {fd : FuncData} (F : FunD K "_law_drawn" "_law_drawn" (defArgs (top 46)) (defBody (top 46)) (defScope (top 46)) [] [] f fd) (hm : mg "_law_drawn" = some (.ref f)) : CallOk P w K mg base T 1 "_law_drawn" [("cell" : Str), ("k" : Str)] S_lw_drawn :=
  ⟨f, fd, hm, F.kp, binds_of F fun _ _ _ _ _ _ us hl => match us, hl with | [_, _], _ => rfl, fn_data F sc_lw_drawn (len_fs2 rfl) (fun cdv A outer s H E gd hr => drv_lw_drawn B sc_lw_drawn cdv A outer s H E gd hr) g_lw_drawn⟩
theorem ok_lw_roll (B : BM mg) (c_lw_drawn : CallOk P w K mg base T 1 "_law_drawn" [("cell" : Str), ("k" : Str)] S_lw_drawn) {f : Addr} {fd : FuncData} (F : FunD K "_law_roll" "_law_roll" (defArgs (top 47)) (defBody (top 47)) (defScope (top 47)) [] [] f fd) (hm : mg "_law_roll" = some (.ref f)) : CallOk P w K mg base T 2 "_law_roll" [("dice" : Str), ("many" : Str)] S_lw_roll :=
  ⟨f, fd, hm, F.kp, binds_of F fun _ _ _ _ _ _ us hl => match us, hl with | [_, _], _ => rfl, fn_data F sc_lw_roll (len_fd1 rfl) (fun cdv A outer s H E gd hr => drv_lw_roll B c_lw_drawn sc_lw_roll cdv A outer s H E gd hr) g_lw_roll⟩
theorem ok_lw_any_flight (B : BM mg) (c_lw_roll : CallOk P w K mg base T 2 "_law_roll" [("dice" : Str), ("many" : Str)] S_lw_roll) {f : Addr} {fd : FuncData} (F : FunD K "_law_any_flight" "_law_any_flight" (defArgs (top 51)) (defBody (top 51)) (defScope (top 51)) [] [] f fd) (hm : mg "_law_any_flight" = some (.ref f)) : CallOk P w K mg base T 3 "_law_any_flight" [("dice" : Str), ("high" : Str)] S_lw_any_flight :=
  ⟨f, fd, hm, F.kp, binds_of F fun _ _ _ _ _ _ us hl => match us, hl with | [_, _], _ => rfl, fn_data F sc_lw_any_flight (len_fd1 rfl) (fun cdv A outer s H E gd hr => drv_lw_any_flight B c_lw_roll sc_lw_any_flight cdv A outer s H E gd hr) g_lw_any_flight⟩
theorem ok_lw_walks (B : BM mg) {f : Addr} {fd : FuncData} (F : FunD K "_law_walks" "_law_walks" (defArgs (top 52)) (defBody (top 52)) (defScope (top 52)) [] [] f fd) (hm : mg "_law_walks" = some (.ref f)) : CallOk P w K mg base T 1 "_law_walks" [("flight" : Str)] S_lw_walks :=
  ⟨f, fd, hm, F.kp, binds_of F fun _ _ _ _ _ _ us hl => match us, hl with | [_], _ => rfl, fn_data F sc_lw_walks (len_fs1 rfl) (fun cdv A outer s H E gd hr => drv_lw_walks B sc_lw_walks cdv A outer s H E gd hr) g_lw_walks⟩
theorem ok_lw_wear (B : BM mg) {f : Addr} {fd : FuncData} (F : FunD K "_law_wear" "_law_wear" (defArgs (top 53)) (defBody (top 53)) (defScope (top 53)) [] [] f fd) (hm : mg "_law_wear" = some (.ref f)) : CallOk P w K mg base T 1 "_law_wear" [("steps" : Str), ("walks" : Str)] S_lw_wear :=
  ⟨f, fd, hm, F.kp, binds_of F fun _ _ _ _ _ _ us hl => match us, hl with | [_, _], _ => rfl, fn_data F sc_lw_wear (len_fs2 rfl) (fun cdv A outer s H E gd hr => drv_lw_wear B sc_lw_wear cdv A outer s H E gd hr) g_lw_wear⟩
theorem ok_lw_any_walks (B : BM mg) (c_lw_walks : CallOk P w K mg base T 1 "_law_walks" [("flight" : Str)] S_lw_walks) (c_lw_roll : CallOk P w K mg base T 2 "_law_roll" [("dice" : Str), ("many" : Str)] S_lw_roll) {f : Addr} {fd : FuncData} (F : FunD K "_law_any_walks" "_law_any_walks" (defArgs (top 54)) (defBody (top 54)) (defScope (top 54)) [] [] f fd) (hm : mg "_law_any_walks" = some (.ref f)) : CallOk P w K mg base T 3 "_law_any_walks" [("dice" : Str), ("flight" : Str), ("many" : Str)] S_lw_any_walks :=
  ⟨f, fd, hm, F.kp, binds_of F fun _ _ _ _ _ _ us hl => match us, hl with | [_, _, _], _ => rfl, fn_data F sc_lw_any_walks (len_fd2 rfl) (fun cdv A outer s H E gd hr => drv_lw_any_walks B c_lw_walks c_lw_roll sc_lw_any_walks cdv A outer s H E gd hr) g_lw_any_walks⟩
theorem ok_lw_any_wear (B : BM mg) (c_lw_wear : CallOk P w K mg base T 1 "_law_wear" [("steps" : Str), ("walks" : Str)] S_lw_wear) (c_lw_any_walks : CallOk P w K mg base T 3 "_law_any_walks" [("dice" : Str), ("flight" : Str), ("many" : Str)] S_lw_any_walks) (c_lw_roll : CallOk P w K mg base T 2 "_law_roll" [("dice" : Str), ("many" : Str)] S_lw_roll) {f : Addr} {fd : FuncData} (F : FunD K "_law_any_wear" "_law_any_wear" (defArgs (top 55)) (defBody (top 55)) (defScope (top 55)) [] [] f fd) (hm : mg "_law_any_wear" = some (.ref f)) : CallOk P w K mg base T 4 "_law_any_wear" [("dice" : Str), ("flight" : Str), ("many" : Str)] S_lw_any_wear :=
  ⟨f, fd, hm, F.kp, binds_of F fun _ _ _ _ _ _ us hl => match us, hl with | [_, _, _], _ => rfl, fn_data F sc_lw_any_wear (len_fd2 rfl) (fun cdv A outer s H E gd hr => drv_lw_any_wear B c_lw_wear c_lw_any_walks c_lw_roll sc_lw_any_wear cdv A outer s H E gd hr) g_lw_any_wear⟩
theorem ok_lw_bags (B : BM mg) (c_lw_walks : CallOk P w K mg base T 1 "_law_walks" [("flight" : Str)] S_lw_walks) {f : Addr} {fd : FuncData} (F : FunD K "_law_bags" "_law_bags" (defArgs (top 56)) (defBody (top 56)) (defScope (top 56)) [] [] f fd) (hm : mg "_law_bags" = some (.ref f)) : CallOk P w K mg base T 2 "_law_bags" [("flight" : Str), ("wear" : Str), ("many" : Str)] S_lw_bags :=
  ⟨f, fd, hm, F.kp, binds_of F fun _ _ _ _ _ _ us hl => match us, hl with | [_, _, _], _ => rfl, fn_data F sc_lw_bags (len_fs3 rfl) (fun cdv A outer s H E gd hr => drv_lw_bags B c_lw_walks sc_lw_bags cdv A outer s H E gd hr) g_lw_bags⟩
theorem ok_lw_which_refused (B : BM mg) (c_at_most_so : CallOk P w K mg base T 6 "at_most_so" [("flight" : Str), ("wear" : Str), ("many" : Str), ("walk" : Str)] S_at_most_so) (c_rest_of : CallOk P w K mg base T 6 "rest_of" [("flight" : Str), ("wear" : Str), ("many" : Str), ("walk" : Str)] S_rest_of) (c_bag_with_walk : CallOk P w K mg base T 6 "bag_with_walk" [("flight" : Str), ("wear" : Str), ("many" : Str), ("walk" : Str), ("times" : Str)] S_bag_with_walk) (c_may_go : CallOk P w K mg base T 6 "may_go" [("flight" : Str), ("wear" : Str), ("many" : Str)] S_may_go) {C : Nat → Addr} (TD : ToldD K mg C) (TT : TermD P w K mg base C) (TB : LamX.TabB base mg (He.codeOf K (("_law_which_refused" : Str), none)) (He.tabOf K (He.codeOf K (("_law_which_refused" : Str), none)))) (mT : (He.tabOf K (He.codeOf K (("_law_which_refused" : Str), none)), lamQ "_law_which_refused") ∈ T) (uT : ∀ p ∈ T, p.1 = He.tabOf K (He.codeOf K (("_law_which_refused" : Str), none)) → p.2 = lamQ "_law_which_refused") {fd : FuncData} (F : FunD K "_law_which_refused" "_law_which_refused" (defArgs (top 57)) (defBody (top 57)) (defScope (top 57)) [] [] (He.fAd K (("_law_which_refused" : Str), none)) fd) (hm : mg "_law_which_refused" = some (.ref (He.fAd K (("_law_which_refused" : Str), none)))) : CallOk P w K mg base T 9 "_law_which_refused" [("flight" : Str), ("wear" : Str), ("many" : Str), ("walk" : Str)] S_lw_which_refused :=
  ⟨_, fd, hm, F.kp, binds_of F fun _ _ _ _ _ _ us hl => match us, hl with | [_, _, _, _], _ => rfl, fn_dataC F sc_lw_which_refused (len_fs4 rfl) (fun A outer s H E gd hr => drv_lw_which_refused B c_at_most_so c_rest_of c_bag_with_walk c_may_go TD TT TB mT uT sc_lw_which_refused A outer s H E gd hr) g_lw_which_refused⟩
theorem ok_law (B : BM mg) (c_lw_roll : CallOk P w K mg base T 2 "_law_roll" [("dice" : Str), ("many" : Str)] S_lw_roll) (c_lw_any_flight : CallOk P w K mg base T 3 "_law_any_flight" [("dice" : Str), ("high" : Str)] S_lw_any_flight) (c_lw_any_walks : CallOk P w K mg base T 3 "_law_any_walks" [("dice" : Str), ("flight" : Str), ("many" : Str)] S_lw_any_walks) (c_lw_any_wear : CallOk P w K mg base T 4 "_law_any_wear" [("dice" : Str), ("flight" : Str), ("many" : Str)] S_lw_any_wear) (c_lw_bags : CallOk P w K mg base T 2 "_law_bags" [("flight" : Str), ("wear" : Str), ("many" : Str)] S_lw_bags) (c_may_go : CallOk P w K mg base T 6 "may_go" [("flight" : Str), ("wear" : Str), ("many" : Str)] S_may_go) (c_at_most_so : CallOk P w K mg base T 6 "at_most_so" [("flight" : Str), ("wear" : Str), ("many" : Str), ("walk" : Str)] S_at_most_so) (c_bag_with_walk : CallOk P w K mg base T 6 "bag_with_walk" [("flight" : Str), ("wear" : Str), ("many" : Str), ("walk" : Str), ("times" : Str)] S_bag_with_walk) (c_rest_of : CallOk P w K mg base T 6 "rest_of" [("flight" : Str), ("wear" : Str), ("many" : Str), ("walk" : Str)] S_rest_of) (c_lw_which_refused : CallOk P w K mg base T 9 "_law_which_refused" [("flight" : Str), ("wear" : Str), ("many" : Str), ("walk" : Str)] S_lw_which_refused) {C : Nat → Addr} (TD : ToldD K mg C) (TT : TermD P w K mg base C) (TB : LamX.TabB base mg (He.codeOf K (("law" : Str), none)) (He.tabOf K (He.codeOf K (("law" : Str), none)))) (mT : (He.tabOf K (He.codeOf K (("law" : Str), none)), lamQ "law") ∈ T) (uT : ∀ p ∈ T, p.1 = He.tabOf K (He.codeOf K (("law" : Str), none)) → p.2 = lamQ "law") (c_rounds : CallS P w K mg base 2 "_law_rounds" [("script" : Str), "high"] (spRounds K)) {fd : FuncData} (F : FunD K "law" "law" (defArgs (top 58)) (defBody (top 58)) (defScope (top 58)) [] [] (He.fAd K (("law" : Str), none)) fd) : FnOk P w K mg base (L2N.CX P w) 10 (He.fAd K (("law" : Str), none)) fd [("script" : Str)] (spScript K T) := by
  obtain ⟨fc, fdc, c1, c2, c3, c4⟩ := c_rounds.ex
  refine fn_lawC F sc_law (fun vs H Q E ⟨_, _, e, _⟩ => by rw [e] <;> rfl) fun A outer s H vs Q E hr h => ⟨_, ?_, law_run (c := ⟨T, mg, E⟩) (N := N_law) (m := 3) (by decide) (by decide) g_law h⟩
  exact pss_cons (ps_for (good_cx (T := T)).own rfl (pi_list (pe_call (E := E0) c4 (hr.mono (by decide)) rfl c1 c2 c3 .nil passN (pa_cons (pe_var (i := 0) rfl (Or.inl rfl)) (pa_cons pe_int pa_nil)))) (pg_name (i := 1) sc_law.nd rfl (Or.inl rfl)) (PSs.len (drv_law B c_lw_roll c_lw_any_flight c_lw_any_walks c_lw_any_wear c_lw_bags c_may_go c_at_most_so c_bag_with_walk c_rest_of c_lw_which_refused TD TT TB mT uT sc_law A outer s H E good_cx (hr.mono (by decide))))) (pss_one (ps_ret pe_bl))
end
def dd (x : Str) (i : Nat) : He.DefD := ⟨(x, none), x, x, defArgs (top i), defBody (top i), defScope (top i), [], []⟩
def da (y x : Str) (i : Nat) : He.DefD := ⟨(y, none), x, x, defArgs (top i), defBody (top i), defScope (top i), [], []⟩
def fn : List He.DefD := [dd "is_whole" 16, dd "is_flight" 17, dd "need_flight" 18, dd "every_walk" 19, dd "strides_of" 20, dd "is_good_walk" 21, dd "need_walk" 22, dd "is_good_wear" 23, dd "need_wear" 24, dd "need_many" 25, dd "need_both" 26, dd "rows_of" 28, dd "within" 29, dd "bar_of" 30, dd "do_make" 31, dd "turns_of" 33, dd "less" 34, dd "need_made" 36, dd "left_behind" 37, dd "has_so_many" 38, dd "may_go" 39, dd "all_times" 40, dd "at_most_so" 41, dd "bag_with_walk" 42, dd "rest_of" 43, dd "_law_cell" 45, dd "_law_drawn" 46, dd "_law_roll" 47, dd "_law_rounds" 48, dd "_law_term" 49, dd "_law_told" 50, dd "_law_any_flight" 51, dd "_law_walks" 52, dd "_law_wear" 53, dd "_law_any_walks" 54, dd "_law_any_wear" 55, dd "_law_bags" 56, dd "_law_which_refused" 57, dd "law" 58]
def fa0 : List He.Fa := [.glo "is_whole", .glo "is_flight", .glo "need_flight", .glo "every_walk", .glo "strides_of", .glo "is_good_walk", .glo "need_walk", .glo "is_good_wear", .glo "need_wear", .glo "need_many", .glo "need_both", .glo "rows_of", .glo "within", .glo "bar_of", .glo "do_make", .glo "turns_of", .glo "less", .glo "need_made", .glo "left_behind", .glo "has_so_many", .glo "may_go", .glo "all_times", .glo "at_most_so", .glo "bag_with_walk", .glo "rest_of", .glo "_law_cell", .glo "_law_drawn", .glo "_law_roll", .glo "_law_rounds", .glo "_law_term", .glo "_law_told", .glo "_law_any_flight", .glo "_law_walks", .glo "_law_wear", .glo "_law_any_walks", .glo "_law_any_wear", .glo "_law_bags", .glo "_law_which_refused", .glo "law", .free "len"]
def fa1 : List He.Fa := [.free "range", .free "zip", .free "enumerate", .free "sum", .free "all", .free "any", .free "max", .free "min", .free "abs", .free "int", .free "bool", .free "tuple", .free "list", .free "str", .free "isinstance", .free "sorted", .free "set", .free "ValueError", .glo "StrideError", .glo "BadFlight", .glo "BadWalk", .glo "BadBag", .glo "BadWear", .glo "BadNumber", .glo "BadStep", .glo "BadRows", .glo "BadKinds", .glo "BadShares", .glo "Nothing", .glo "Full", .glo "BadText", .exc "StrideError", .exc "BadFlight", .exc "BadWalk", .exc "BadBag", .exc "BadWear", .exc "BadNumber", .exc "BadStep", .exc "BadRows", .exc "BadKinds"]
def fa2 : List He.Fa := [.exc "BadShares", .exc "Nothing", .exc "Full", .exc "BadText", .int "MOST" 9]
def fa : List He.Fa := fa0 ++ fa1 ++ fa2
def ls0 : List Str := [("StrideError" : Str), ("BadFlight" : Str), ("BadWalk" : Str), ("BadBag" : Str), ("BadWear" : Str), ("BadNumber" : Str), ("BadStep" : Str), ("BadRows" : Str), ("BadKinds" : Str), ("BadShares" : Str), ("Nothing" : Str), ("Full" : Str), ("BadText" : Str), ("MOST" : Str), ("is_whole" : Str), ("is_flight" : Str), ("need_flight" : Str), ("every_walk" : Str), ("strides_of" : Str), ("is_good_walk" : Str), ("need_walk" : Str), ("is_good_wear" : Str), ("need_wear" : Str), ("need_many" : Str), ("need_both" : Str), ("rows_of" : Str), ("within" : Str), ("bar_of" : Str), ("do_make" : Str), ("turns_of" : Str), ("less" : Str), ("need_made" : Str), ("left_behind" : Str), ("has_so_many" : Str), ("may_go" : Str), ("all_times" : Str), ("at_most_so" : Str), ("bag_with_walk" : Str), ("rest_of" : Str), ("_law_cell" : Str)]
def ls1 : List Str := [("_law_drawn" : Str), ("_law_roll" : Str), ("_law_rounds" : Str), ("_law_term" : Str), ("_law_told" : Str), ("_law_any_flight" : Str), ("_law_walks" : Str), ("_law_wear" : Str), ("_law_any_walks" : Str), ("_law_any_wear" : Str), ("_law_bags" : Str), ("_law_which_refused" : Str)]
def ls : List Str := ls0 ++ ls1
abbrev R : PySem.W.OpenRow := PySem.W.OpenLaw.row PySem.Challenge.rw_strideflight_k16_whole_which_walks
def tf : List He.Defn := [(("_law_which_refused" : Str), none), (("law" : Str), none)]
def ex (K : PySem.W.Frag) : Bool := kindB K && tabsN K tf
abbrev hk : PySem.W.Hook := He.hookX 4 fa fn [] tf ex
def ob (s : PySem.W.SharedT) : He.AlX := He.obsX 4 fa fn [] tf ex (HandSHeadRun.getT s)
theorem ob_eq (s : PySem.W.SharedT) : ob s = hk.obs s.abs := He.obsX_eq (HandSHeadRun.getT_eq s)
theorem run (w : World) : HandSHeadRun.RunEq R (PySem.W.view R.prog [58]) hk ob 12000 ls w := by
  intro os
  kernel_rfl
theorem facts {P : Program} {w : World} {K : PySem.W.Frag} {h : Heap} {mg : Str → Option Value} {f : Addr} (X : K.In h) (G : h.Ns mainGlobals mg) (hfa : mg ("law" : Str) = some (.ref f)) (c : He.SaysD fa fn K) (hX : ex K = true) :
    ∃ fd : FuncData, (∀ (s : Shared) (v : Value), BindsTo s fd ⟨[v], []⟩ [("script", v)]) ∧ ∀ base : Heap, K.In base → base.Ns mainGlobals mg → (∀ p ∈ tf.map (He.cT K), LamX.TabB base mg p.1 p.2) → FnOk P w K mg base (L2N.CX P w) 10 f fd [("script" : Str)] (spScript K (tabT K tf)) := by
  obtain ⟨fd_is_whole, F_is_whole⟩ := c.def_ 0 (d := dd "is_whole" 16) rfl
  obtain ⟨fd_is_flight, F_is_flight⟩ := c.def_ 1 (d := dd "is_flight" 17) rfl
  obtain ⟨fd_need_flight, F_need_flight⟩ := c.def_ 2 (d := dd "need_flight" 18) rfl
  obtain ⟨fd_every_walk, F_every_walk⟩ := c.def_ 3 (d := dd "every_walk" 19) rfl
  obtain ⟨fd_strides_of, F_strides_of⟩ := c.def_ 4 (d := dd "strides_of" 20) rfl
  obtain ⟨fd_is_good_walk, F_is_good_walk⟩ := c.def_ 5 (d := dd "is_good_walk" 21) rfl
  obtain ⟨fd_need_walk, F_need_walk⟩ := c.def_ 6 (d := dd "need_walk" 22) rfl
  obtain ⟨fd_is_good_wear, F_is_good_wear⟩ := c.def_ 7 (d := dd "is_good_wear" 23) rfl
  obtain ⟨fd_need_wear, F_need_wear⟩ := c.def_ 8 (d := dd "need_wear" 24) rfl
  obtain ⟨fd_need_many, F_need_many⟩ := c.def_ 9 (d := dd "need_many" 25) rfl
  obtain ⟨fd_need_both, F_need_both⟩ := c.def_ 10 (d := dd "need_both" 26) rfl
  obtain ⟨fd_rows_of, F_rows_of⟩ := c.def_ 11 (d := dd "rows_of" 28) rfl
  obtain ⟨fd_within, F_within⟩ := c.def_ 12 (d := dd "within" 29) rfl
  obtain ⟨fd_bar_of, F_bar_of⟩ := c.def_ 13 (d := dd "bar_of" 30) rfl
  obtain ⟨fd_do_make, F_do_make⟩ := c.def_ 14 (d := dd "do_make" 31) rfl
  obtain ⟨fd_turns_of, F_turns_of⟩ := c.def_ 15 (d := dd "turns_of" 33) rfl
  obtain ⟨fd_less, F_less⟩ := c.def_ 16 (d := dd "less" 34) rfl
  obtain ⟨fd_need_made, F_need_made⟩ := c.def_ 17 (d := dd "need_made" 36) rfl
  obtain ⟨fd_left_behind, F_left_behind⟩ := c.def_ 18 (d := dd "left_behind" 37) rfl
  obtain ⟨fd_has_so_many, F_has_so_many⟩ := c.def_ 19 (d := dd "has_so_many" 38) rfl
  obtain ⟨fd_may_go, F_may_go⟩ := c.def_ 20 (d := dd "may_go" 39) rfl
  obtain ⟨fd_all_times, F_all_times⟩ := c.def_ 21 (d := dd "all_times" 40) rfl
  obtain ⟨fd_at_most_so, F_at_most_so⟩ := c.def_ 22 (d := dd "at_most_so" 41) rfl
  obtain ⟨fd_bag_with_walk, F_bag_with_walk⟩ := c.def_ 23 (d := dd "bag_with_walk" 42) rfl
  obtain ⟨fd_rest_of, F_rest_of⟩ := c.def_ 24 (d := dd "rest_of" 43) rfl
  obtain ⟨fd_lw_cell, F_lw_cell⟩ := c.def_ 25 (d := dd "_law_cell" 45) rfl
  obtain ⟨fd_lw_drawn, F_lw_drawn⟩ := c.def_ 26 (d := dd "_law_drawn" 46) rfl
  obtain ⟨fd_lw_roll, F_lw_roll⟩ := c.def_ 27 (d := dd "_law_roll" 47) rfl
  obtain ⟨fd_lw_rounds, F_lw_rounds⟩ := c.def_ 28 (d := dd "_law_rounds" 48) rfl
  obtain ⟨fd_lw_term, F_lw_term⟩ := c.def_ 29 (d := dd "_law_term" 49) rfl
  obtain ⟨fd_lw_told, F_lw_told⟩ := c.def_ 30 (d := dd "_law_told" 50) rfl
  obtain ⟨fd_lw_any_flight, F_lw_any_flight⟩ := c.def_ 31 (d := dd "_law_any_flight" 51) rfl
  obtain ⟨fd_lw_walks, F_lw_walks⟩ := c.def_ 32 (d := dd "_law_walks" 52) rfl
  obtain ⟨fd_lw_wear, F_lw_wear⟩ := c.def_ 33 (d := dd "_law_wear" 53) rfl
  obtain ⟨fd_lw_any_walks, F_lw_any_walks⟩ := c.def_ 34 (d := dd "_law_any_walks" 54) rfl
  obtain ⟨fd_lw_any_wear, F_lw_any_wear⟩ := c.def_ 35 (d := dd "_law_any_wear" 55) rfl
  obtain ⟨fd_lw_bags, F_lw_bags⟩ := c.def_ 36 (d := dd "_law_bags" 56) rfl
  obtain ⟨fd_lw_which_refused, F_lw_which_refused⟩ := c.def_ 37 (d := dd "_law_which_refused" 57) rfl
  obtain ⟨fd_law, F_law⟩ := c.def_ 38 (d := dd "law" 58) rfl
  have e := hfa.symm.trans (He.glo_ok X G (c.fact 38 (f := .glo "law") rfl))
  cases e
  have B : BM mg := ⟨He.free_ok X G (c.fact 39 (f := .free "len") rfl), He.free_ok X G (c.fact 40 (f := .free "range") rfl), He.free_ok X G (c.fact 41 (f := .free "zip") rfl), He.free_ok X G (c.fact 42 (f := .free "enumerate") rfl), He.free_ok X G (c.fact 43 (f := .free "sum") rfl), He.free_ok X G (c.fact 44 (f := .free "all") rfl), He.free_ok X G (c.fact 45 (f := .free "any") rfl), He.free_ok X G (c.fact 46 (f := .free "max") rfl), He.free_ok X G (c.fact 47 (f := .free "min") rfl), He.free_ok X G (c.fact 48 (f := .free "abs") rfl), He.free_ok X G (c.fact 49 (f := .free "int") rfl), He.free_ok X G (c.fact 50 (f := .free "bool") rfl), He.free_ok X G (c.fact 51 (f := .free "tuple") rfl), He.free_ok X G (c.fact 52 (f := .free "list") rfl), He.free_ok X G (c.fact 53 (f := .free "str") rfl), He.free_ok X G (c.fact 54 (f := .free "isinstance") rfl), He.free_ok X G (c.fact 55 (f := .free "sorted") rfl), He.free_ok X G (c.fact 56 (f := .free "set") rfl)⟩
  have hVE : mg "ValueError" = none := He.free_ok X G (c.fact 57 (f := .free "ValueError") rfl)
  have c_MOST : ∃ t, mg "MOST" = some (.int 9 t) := He.int_ok X G (c.fact 84 (f := .int "MOST" 9) rfl)
  have e_StrideError : ExcOk K mg "StrideError" := exc_of (He.glo_ok X G (c.fact 58 (f := .glo "StrideError") rfl)) (He.exc_ok (c.fact 71 (f := .exc "StrideError") rfl))
  have e_BadFlight : ExcOk K mg "BadFlight" := exc_of (He.glo_ok X G (c.fact 59 (f := .glo "BadFlight") rfl)) (He.exc_ok (c.fact 72 (f := .exc "BadFlight") rfl))
  have e_BadWalk : ExcOk K mg "BadWalk" := exc_of (He.glo_ok X G (c.fact 60 (f := .glo "BadWalk") rfl)) (He.exc_ok (c.fact 73 (f := .exc "BadWalk") rfl))
  have e_BadBag : ExcOk K mg "BadBag" := exc_of (He.glo_ok X G (c.fact 61 (f := .glo "BadBag") rfl)) (He.exc_ok (c.fact 74 (f := .exc "BadBag") rfl))
  have e_BadWear : ExcOk K mg "BadWear" := exc_of (He.glo_ok X G (c.fact 62 (f := .glo "BadWear") rfl)) (He.exc_ok (c.fact 75 (f := .exc "BadWear") rfl))
  have e_BadNumber : ExcOk K mg "BadNumber" := exc_of (He.glo_ok X G (c.fact 63 (f := .glo "BadNumber") rfl)) (He.exc_ok (c.fact 76 (f := .exc "BadNumber") rfl))
  have e_BadStep : ExcOk K mg "BadStep" := exc_of (He.glo_ok X G (c.fact 64 (f := .glo "BadStep") rfl)) (He.exc_ok (c.fact 77 (f := .exc "BadStep") rfl))
  have e_BadRows : ExcOk K mg "BadRows" := exc_of (He.glo_ok X G (c.fact 65 (f := .glo "BadRows") rfl)) (He.exc_ok (c.fact 78 (f := .exc "BadRows") rfl))
  have e_BadKinds : ExcOk K mg "BadKinds" := exc_of (He.glo_ok X G (c.fact 66 (f := .glo "BadKinds") rfl)) (He.exc_ok (c.fact 79 (f := .exc "BadKinds") rfl))
  have e_BadShares : ExcOk K mg "BadShares" := exc_of (He.glo_ok X G (c.fact 67 (f := .glo "BadShares") rfl)) (He.exc_ok (c.fact 80 (f := .exc "BadShares") rfl))
  have e_Nothing : ExcOk K mg "Nothing" := exc_of (He.glo_ok X G (c.fact 68 (f := .glo "Nothing") rfl)) (He.exc_ok (c.fact 81 (f := .exc "Nothing") rfl))
  have e_Full : ExcOk K mg "Full" := exc_of (He.glo_ok X G (c.fact 69 (f := .glo "Full") rfl)) (He.exc_ok (c.fact 82 (f := .exc "Full") rfl))
  have e_BadText : ExcOk K mg "BadText" := exc_of (He.glo_ok X G (c.fact 70 (f := .glo "BadText") rfl)) (He.exc_ok (c.fact 83 (f := .exc "BadText") rfl))
  have b := FunD.bindsA (ps := [("script" : Str)]) F_law fun _ _ _ _ _ _ us hl => match us, hl with | [_], _ => rfl
  have hX1 : kindB K = true := (Bool.and_eq_true _ _ ▸ hX).1
  have hX2 : tabsN K tf = true := (Bool.and_eq_true _ _ ▸ hX).2
  obtain ⟨kf, exm⟩ := kindB_ok hX1
  have nm : ∀ i, i < 12 → mg (kindS i) = some (.ref (kC K i)) := by
    intro i hi
    match i, hi with
    | 0, _ => exact (He.glo_ok X G (c.fact 59 (f := .glo "BadFlight") rfl))
    | 1, _ => exact (He.glo_ok X G (c.fact 60 (f := .glo "BadWalk") rfl))
    | 2, _ => exact (He.glo_ok X G (c.fact 61 (f := .glo "BadBag") rfl))
    | 3, _ => exact (He.glo_ok X G (c.fact 62 (f := .glo "BadWear") rfl))
    | 4, _ => exact (He.glo_ok X G (c.fact 63 (f := .glo "BadNumber") rfl))
    | 5, _ => exact (He.glo_ok X G (c.fact 64 (f := .glo "BadStep") rfl))
    | 6, _ => exact (He.glo_ok X G (c.fact 65 (f := .glo "BadRows") rfl))
    | 7, _ => exact (He.glo_ok X G (c.fact 66 (f := .glo "BadKinds") rfl))
    | 8, _ => exact (He.glo_ok X G (c.fact 67 (f := .glo "BadShares") rfl))
    | 9, _ => exact (He.glo_ok X G (c.fact 68 (f := .glo "Nothing") rfl))
    | 10, _ => exact (He.glo_ok X G (c.fact 69 (f := .glo "Full") rfl))
    | 11, _ => exact (He.glo_ok X G (c.fact 70 (f := .glo "BadText") rfl))
    | n + 12, h => omega
  refine ⟨fd_law, fun s v => b s [v] rfl, fun base _ _ hTB => ?_⟩
  have TT := ok_term (P := P) (w := w) (base := base) B kf nm hVE F_lw_term (He.glo_ok X G (c.fact 29 (f := .glo "_law_term") rfl))
  have TD := ok_told (He.glo_ok X G (c.fact 58 (f := .glo "StrideError") rfl)) exm F_lw_told (He.glo_ok X G (c.fact 30 (f := .glo "_law_told") rfl))
  have me_lw_which_refused : ((("_law_which_refused" : Str), none) : He.Defn) ∈ tf := by decide +kernel
  have TB_lw_which_refused := hTB (He.cT K (("_law_which_refused" : Str), none)) (List.mem_map.mpr ⟨_, me_lw_which_refused, rfl⟩)
  have mT_lw_which_refused := tab_mem (K := K) me_lw_which_refused
  have uT_lw_which_refused := tab_one hX2 me_lw_which_refused
  have me_law : ((("law" : Str), none) : He.Defn) ∈ tf := by decide +kernel
  have TB_law := hTB (He.cT K (("law" : Str), none)) (List.mem_map.mpr ⟨_, me_law, rfl⟩)
  have mT_law := tab_mem (K := K) me_law
  have uT_law := tab_one hX2 me_law
  have c_is_whole := ok_is_whole (P := P) (w := w) (base := base) (T := (tabT K tf)) B F_is_whole (He.glo_ok X G (c.fact 0 (f := .glo "is_whole") rfl))
  have c_is_flight := ok_is_flight (P := P) (w := w) (base := base) (T := (tabT K tf)) B c_is_whole F_is_flight (He.glo_ok X G (c.fact 1 (f := .glo "is_flight") rfl))
  have c_need_flight := ok_need_flight (P := P) (w := w) (base := base) (T := (tabT K tf)) B c_is_flight e_BadFlight F_need_flight (He.glo_ok X G (c.fact 2 (f := .glo "need_flight") rfl))
  have c_every_walk := ok_every_walk (P := P) (w := w) (base := base) (T := (tabT K tf)) B F_every_walk (He.glo_ok X G (c.fact 3 (f := .glo "every_walk") rfl))
  have c_strides_of := ok_strides_of (P := P) (w := w) (base := base) (T := (tabT K tf)) B F_strides_of (He.glo_ok X G (c.fact 4 (f := .glo "strides_of") rfl))
  have c_is_good_walk := ok_is_good_walk (P := P) (w := w) (base := base) (T := (tabT K tf)) B c_is_whole c_strides_of F_is_good_walk (He.glo_ok X G (c.fact 5 (f := .glo "is_good_walk") rfl))
  have c_need_walk := ok_need_walk (P := P) (w := w) (base := base) (T := (tabT K tf)) B c_is_good_walk e_BadWalk F_need_walk (He.glo_ok X G (c.fact 6 (f := .glo "need_walk") rfl))
  have c_is_good_wear := ok_is_good_wear (P := P) (w := w) (base := base) (T := (tabT K tf)) B c_MOST c_is_whole F_is_good_wear (He.glo_ok X G (c.fact 7 (f := .glo "is_good_wear") rfl))
  have c_need_wear := ok_need_wear (P := P) (w := w) (base := base) (T := (tabT K tf)) B c_need_flight c_is_good_wear e_BadWear F_need_wear (He.glo_ok X G (c.fact 8 (f := .glo "need_wear") rfl))
  have c_need_many := ok_need_many (P := P) (w := w) (base := base) (T := (tabT K tf)) B c_MOST c_is_whole e_BadNumber F_need_many (He.glo_ok X G (c.fact 9 (f := .glo "need_many") rfl))
  have c_need_both := ok_need_both (P := P) (w := w) (base := base) (T := (tabT K tf)) B c_need_wear c_need_many F_need_both (He.glo_ok X G (c.fact 10 (f := .glo "need_both") rfl))
  have c_rows_of := ok_rows_of (P := P) (w := w) (base := base) (T := (tabT K tf)) B F_rows_of (He.glo_ok X G (c.fact 11 (f := .glo "rows_of") rfl))
  have c_within := ok_within (P := P) (w := w) (base := base) (T := (tabT K tf)) B F_within (He.glo_ok X G (c.fact 12 (f := .glo "within") rfl))
  have c_bar_of := ok_bar_of (P := P) (w := w) (base := base) (T := (tabT K tf)) B c_rows_of c_within F_bar_of (He.glo_ok X G (c.fact 13 (f := .glo "bar_of") rfl))
  have c_do_make := ok_do_make (P := P) (w := w) (base := base) (T := (tabT K tf)) B c_bar_of F_do_make (He.glo_ok X G (c.fact 14 (f := .glo "do_make") rfl))
  have c_turns_of := ok_turns_of (P := P) (w := w) (base := base) (T := (tabT K tf)) B F_turns_of (He.glo_ok X G (c.fact 15 (f := .glo "turns_of") rfl))
  have c_less := ok_less (P := P) (w := w) (base := base) (T := (tabT K tf)) B F_less (He.glo_ok X G (c.fact 16 (f := .glo "less") rfl))
  have c_need_made := ok_need_made (P := P) (w := w) (base := base) (T := (tabT K tf)) B c_do_make e_Nothing F_need_made (He.glo_ok X G (c.fact 17 (f := .glo "need_made") rfl))
  have c_left_behind := ok_left_behind (P := P) (w := w) (base := base) (T := (tabT K tf)) B c_less F_left_behind (He.glo_ok X G (c.fact 18 (f := .glo "left_behind") rfl))
  have c_has_so_many := ok_has_so_many (P := P) (w := w) (base := base) (T := (tabT K tf)) B c_left_behind c_do_make F_has_so_many (He.glo_ok X G (c.fact 19 (f := .glo "has_so_many") rfl))
  have c_may_go := ok_may_go (P := P) (w := w) (base := base) (T := (tabT K tf)) B c_need_both c_need_made c_every_walk c_has_so_many F_may_go (He.glo_ok X G (c.fact 20 (f := .glo "may_go") rfl))
  have c_all_times := ok_all_times (P := P) (w := w) (base := base) (T := (tabT K tf)) B c_has_so_many F_all_times (He.glo_ok X G (c.fact 21 (f := .glo "all_times") rfl))
  have c_at_most_so := ok_at_most_so (P := P) (w := w) (base := base) (T := (tabT K tf)) B c_need_both c_need_walk c_need_made c_all_times F_at_most_so (He.glo_ok X G (c.fact 22 (f := .glo "at_most_so") rfl))
  have c_bag_with_walk := ok_bag_with_walk (P := P) (w := w) (base := base) (T := (tabT K tf)) B c_MOST c_need_both c_need_walk c_is_whole c_need_made c_has_so_many c_turns_of c_left_behind e_BadNumber F_bag_with_walk (He.glo_ok X G (c.fact 23 (f := .glo "bag_with_walk") rfl))
  have c_rest_of := ok_rest_of (P := P) (w := w) (base := base) (T := (tabT K tf)) B c_need_both c_need_walk c_need_made c_all_times F_rest_of (He.glo_ok X G (c.fact 24 (f := .glo "rest_of") rfl))
  have c_cell := ok_lw_cell (P := P) (w := w) (base := base) B F_lw_cell (He.glo_ok X G (c.fact 25 (f := .glo "_law_cell") rfl))
  have c_lw_drawn := ok_lw_drawn (P := P) (w := w) (base := base) (T := (tabT K tf)) B F_lw_drawn (He.glo_ok X G (c.fact 26 (f := .glo "_law_drawn") rfl))
  have c_lw_roll := ok_lw_roll (P := P) (w := w) (base := base) (T := (tabT K tf)) B c_lw_drawn F_lw_roll (He.glo_ok X G (c.fact 27 (f := .glo "_law_roll") rfl))
  have c_rounds := ok_lw_rounds (P := P) (w := w) (base := base) B c_cell F_lw_rounds (He.glo_ok X G (c.fact 28 (f := .glo "_law_rounds") rfl))
  have c_lw_any_flight := ok_lw_any_flight (P := P) (w := w) (base := base) (T := (tabT K tf)) B c_lw_roll F_lw_any_flight (He.glo_ok X G (c.fact 31 (f := .glo "_law_any_flight") rfl))
  have c_lw_walks := ok_lw_walks (P := P) (w := w) (base := base) (T := (tabT K tf)) B F_lw_walks (He.glo_ok X G (c.fact 32 (f := .glo "_law_walks") rfl))
  have c_lw_wear := ok_lw_wear (P := P) (w := w) (base := base) (T := (tabT K tf)) B F_lw_wear (He.glo_ok X G (c.fact 33 (f := .glo "_law_wear") rfl))
  have c_lw_any_walks := ok_lw_any_walks (P := P) (w := w) (base := base) (T := (tabT K tf)) B c_lw_walks c_lw_roll F_lw_any_walks (He.glo_ok X G (c.fact 34 (f := .glo "_law_any_walks") rfl))
  have c_lw_any_wear := ok_lw_any_wear (P := P) (w := w) (base := base) (T := (tabT K tf)) B c_lw_wear c_lw_any_walks c_lw_roll F_lw_any_wear (He.glo_ok X G (c.fact 35 (f := .glo "_law_any_wear") rfl))
  have c_lw_bags := ok_lw_bags (P := P) (w := w) (base := base) (T := (tabT K tf)) B c_lw_walks F_lw_bags (He.glo_ok X G (c.fact 36 (f := .glo "_law_bags") rfl))
  have c_lw_which_refused := ok_lw_which_refused (P := P) (w := w) (base := base) (T := (tabT K tf)) B c_at_most_so c_rest_of c_bag_with_walk c_may_go TD TT TB_lw_which_refused mT_lw_which_refused uT_lw_which_refused F_lw_which_refused (He.glo_ok X G (c.fact 37 (f := .glo "_law_which_refused") rfl))
  exact ok_law (T := (tabT K tf)) B c_lw_roll c_lw_any_flight c_lw_any_walks c_lw_any_wear c_lw_bags c_may_go c_at_most_so c_bag_with_walk c_rest_of c_lw_which_refused TD TT TB_law mT_law uT_law c_rounds F_law
end HD
open PySem PySem.W PySem.Calls PyProof.Rows
theorem PySem.Challenge.cw_strideflight_k16_whole_which_walks_holds : PySem.Challenge.rw_strideflight_k16_whole_which_walks.Holds := by
  w_on; o_law
  refine HandSHeadRun.head_any (r := OpenLaw.row PySem.Challenge.rw_strideflight_k16_whole_which_walks) (q := view (OpenLaw.row PySem.Challenge.rw_strideflight_k16_whole_which_walks).prog [58]) (H := HD.hk) (ob := HD.ob) (M := 12000) (loose := HD.ls) (d := HandSHeadRun.topDef (OpenLaw.row PySem.Challenge.rw_strideflight_k16_whole_which_walks).prog 58) (kwd := []) HD.ob_eq
    (by kernel_rfl) (fun s => by kernel_rfl) HD.run (by kernel_rfl) (by kernel_rfl) (by kernel_rfl) (by rfl) (by first | assumption | decide +kernel) (by decide +kernel) ⟨rfl, rfl, rfl, rfl, rfl, by decide +kernel⟩ ?hw ?hc
  case hw => w_witness2
  case hc =>
    refine LamX.walk_ofTsE (l := PySem.Challenge.rw_strideflight_k16_whole_which_walks) (n := 63) (k := 10) (x := "script") (CX := fun w => L2N.CX (PySem.Challenge.rw_strideflight_k16_whole_which_walks).prog w) rfl (by decide) (by kernel_rfl) ⟨rfl, by decide, by decide⟩ ?F (fun _ _ _ _ _ z => SD.cx_none _ _ _ _ z)
    intro w mg fa h Y G hmg0
    obtain ⟨K, KX, c⟩ := Y
    have hmg : mg ("law" : PySem.Str) = some (.ref fa) := by
      have e : (HandSHeadRun.topDef (OpenLaw.row PySem.Challenge.rw_strideflight_k16_whole_which_walks).prog 58).name = ("law" : PySem.Str) := by kernel_rfl
      rw [← e]
      exact hmg0
    obtain ⟨fd, hb, hF⟩ := HD.facts (P := (PySem.Challenge.rw_strideflight_k16_whole_which_walks).prog) (w := w) KX G hmg c.t.d c.more
    refine ⟨K, KX, fd, HD.tf.map (He.cT K), SD.spScript K (SD.tabT K HD.tf), fun p hp => ?_, fun p hp => ?_, fun p hp => ?_, hb, fun H a ns hl _ hT hS => ⟨a, ns, rfl, by omega, SD.tabs_nil hT, hS, fun _ => rfl⟩, hF⟩
    · obtain ⟨q, hq, rfl⟩ := List.mem_map.mp hp
      exact c.empty q hq
    · obtain ⟨q, hq, rfl⟩ := List.mem_map.mp hp
      exact c.out q hq
    · obtain ⟨q, hq, rfl⟩ := List.mem_map.mp hp
      exact PySem.W.codeHd_of_K KX (c.hd q hq)
