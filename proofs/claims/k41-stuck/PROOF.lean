import PyProof.Rows.All
import Wide.All
import OpenK.AllK
import Wide.FinOn
import KE.KStateDown
import Lean
import HandS.Base
import HandS.Call
import HandS.Ends
import HandS.More
import HandS.Words
import HandS.WordsExc
import HandS.Defaults
import HandS.Head0
import HandS.Head1
import HandS.Head2
import HandS.HeadEnd
import HandS.HeadHook1
import HandS.HeadHook2
import HandS.ForMost
import HandS.Wide
import HandS.Sort
import HandS.SortInts
import HandS.Conv
import HandS.TupAny
import HandS.Codes
import HandS.Zip
import KE.GoesEnum
import HandS.Deep
import HandS.TupMul
import HandS.TupLe
import HandS.IsInst
import HandS.Star
import HandS.Style
import HandS.RaiseMore
import PyProof.StrLawsRepr
import KE.GoesMore
import PySem.Challenge.RW_steeredback_k41_whole_stuck_levers_of_al
set_option Elab.async false
set_option linter.all false
set_option maxRecDepth 100000
/-! Sd1: a reading of Python by plain data. Slots hold data (PyData) or an object of one's own (a list that may still change); an expression is a function from the slots to a result and the slots. -/
namespace Sd
open PySem PySem.Spec PyProof.Rows L2

/-- an object that one slot alone knows -/
inductive Ob where
  | lst (l : List PyData)
  | rng (lo hi : Int)
inductive Slot where
  | emp
  | val (d : PyData)
  | own (b : Bool) (o : Ob)
  | frz (d : PyData)
inductive R where
  | imm (d : PyData)
  | tmp (o : Ob)
  | pk (i : Nat)
abbrev Sl := List Slot
abbrev VS := List (Option V)

mutual
/-- what is fixed: atoms, tuples, lists that will not change any more -/
inductive Den (F : Hp) : V → PyData → Prop
  | non : Den F .non .none
  | bl (b : Bool) : Den F (.bl b) (.bool b)
  | int (i : Int) : Den F (.int i) (.int i)
  | str (x : Str) : Den F (.str x) (.str x)
  | lst {a : Addr} {xs : List V} {ds : List PyData} : Rd F a (.lst xs) → DenAll F xs ds → Den F (.ref a) (.list ds)
  | tup {a : Addr} {xs : List V} {ds : List PyData} : Rd F a (.tup xs) → DenAll F xs ds → Den F (.ref a) (.tuple ds)
inductive DenAll (F : Hp) : List V → List PyData → Prop
  | nil : DenAll F [] []
  | cons {v : V} {vs : List V} {d : PyData} {ds : List PyData} : Den F v d → DenAll F vs ds → DenAll F (v :: vs) (d :: ds)
end
def OHo (F : Hp) : Ob → HO → Prop
  | .lst l, .lst vs => DenAll F vs l
  | .rng lo hi, .rng a b => a = lo ∧ b = hi
  | _, _ => False

theorem rd_up {F F' : Hp} {a : Addr} {u : HO} (e : Same F F') (h : Rd F a u) : Rd F' a u := by
  rcases h with h | ⟨o, h⟩
  · exact .inl (e _ _ h)
  · exact .inr ⟨o, e _ _ h⟩
mutual
theorem dp_up {F F' : Hp} (e : Same F F') : ∀ {v : V} {d : PyData}, Den F v d → Den F' v d
  | _, _, .non => .non
  | _, _, .bl b => .bl b
  | _, _, .int i => .int i
  | _, _, .str x => .str x
  | _, _, .lst h hs => .lst (rd_up e h) (dps_up e hs)
  | _, _, .tup h hs => .tup (rd_up e h) (dps_up e hs)
theorem dps_up {F F' : Hp} (e : Same F F') : ∀ {vs : List V} {ds : List PyData}, DenAll F vs ds → DenAll F' vs ds
  | _, _, .nil => .nil
  | _, _, .cons h hs => .cons (dp_up e h) (dps_up e hs)
end
mutual
theorem Den.dp {K : PySem.W.Frag} {F : Hp} : ∀ {v : V} {d : PyData}, Den F v d → Dp K F v d
  | _, _, .non => .non
  | _, _, .bl b => .bl b
  | _, _, .int i => .int i
  | _, _, .str x => .str x
  | _, _, .lst h hs => .lst (.inl h) (DenAll.dp hs)
  | _, _, .tup h hs => .tup (.inl h) (DenAll.dp hs)
theorem DenAll.dp {K : PySem.W.Frag} {F : Hp} : ∀ {vs : List V} {ds : List PyData}, DenAll F vs ds → DpAll K F vs ds
  | _, _, .nil => .nil
  | _, _, .cons h hs => .cons (Den.dp h) (DenAll.dp hs)
end
theorem OHo.up {F F' : Hp} (e : Same F F') {o : Ob} {ho : HO} (h : OHo F o ho) : OHo F' o ho := by
  cases o with
  | lst l => cases ho <;> first | exact dps_up e h | exact h.elim
  | rng lo hi => cases ho <;> first | exact h | exact h.elim
theorem dps_len {F : Hp} : ∀ {vs : List V} {ds : List PyData}, DenAll F vs ds → vs.length = ds.length
  | _, _, .nil => rfl
  | _, _, .cons _ hs => congrArg (· + 1) (dps_len hs)
theorem dps_get {F : Hp} : ∀ {vs : List V} {ds : List PyData} (i : Nat), DenAll F vs ds → ∀ {d : PyData}, ds[i]? = some d → ∃ v, vs[i]? = some v ∧ Den F v d
  | _, _, _, .nil, _, h => by simp at h
  | _, _, 0, .cons h _, _, e => by
    have e : _ = _ := Option.some.inj e
    subst e
    exact ⟨_, rfl, h⟩
  | _, _, i + 1, .cons _ hs, _, e => dps_get i hs e
theorem dps_get' {F : Hp} : ∀ {vs : List V} {ds : List PyData} (i : Nat), DenAll F vs ds → ∀ {v : V}, vs[i]? = some v → ∃ d, ds[i]? = some d ∧ Den F v d
  | _, _, _, .nil, _, h => by simp at h
  | _, _, 0, .cons h _, _, e => by
    have e : _ = _ := Option.some.inj e
    subst e
    exact ⟨_, rfl, h⟩
  | _, _, i + 1, .cons _ hs, _, e => dps_get' i hs e
theorem dps_app {F : Hp} : ∀ {vs ws : List V} {ds es : List PyData}, DenAll F vs ds → DenAll F ws es → DenAll F (vs ++ ws) (ds ++ es)
  | _, _, _, _, .nil, h => h
  | _, _, _, _, .cons a b, h => .cons a (dps_app b h)
theorem dps_take {F : Hp} : ∀ {vs : List V} {ds : List PyData} (n : Nat), DenAll F vs ds → DenAll F (vs.take n) (ds.take n)
  | _, _, 0, _ => .nil
  | _, _, _ + 1, .nil => .nil
  | _, _, n + 1, .cons a b => .cons a (dps_take n b)
theorem dps_drop {F : Hp} : ∀ {vs : List V} {ds : List PyData} (n : Nat), DenAll F vs ds → DenAll F (vs.drop n) (ds.drop n)
  | _, _, 0, h => h
  | _, _, _ + 1, .nil => .nil
  | _, _, n + 1, .cons _ b => dps_drop n b
theorem dps_set {F : Hp} {v : V} {d : PyData} (h : Den F v d) : ∀ {vs : List V} {ds : List PyData} (n : Nat), DenAll F vs ds → DenAll F (vs.set n v) (ds.set n d)
  | _, _, _, .nil => .nil
  | _, _, 0, .cons _ b => .cons h b
  | _, _, n + 1, .cons a b => .cons a (dps_set h n b)

/-! ### the slots and the heap -/
structure Rel (B : VS) (P : Hp) (σ : VS) (ρ : Sl) (F H : Hp) : Prop where
  len : ρ.length = σ.length
  fh : Same F H
  ph : Same P H
  fp : ∀ a o, F a = some o → P a = none
  val : ∀ (i : Nat) (d : PyData), (ρ[i]? = some (.val d) ∨ ρ[i]? = some (.frz d)) → ∃ v, σ[i]? = some (some v) ∧ Den F v d
  own : ∀ (i : Nat) (b : Bool) (o : Ob), ρ[i]? = some (.own b o) → ∃ a ho, σ[i]? = some (some (.ref a)) ∧ H a = some ho ∧ OHo F o ho ∧ F a = none ∧ P a = none
  inj : ∀ (i j : Nat) (a : Addr) (b b' : Bool) (o o' : Ob), ρ[i]? = some (.own b o) → ρ[j]? = some (.own b' o') → σ[i]? = some (some (.ref a)) → σ[j]? = some (some (.ref a)) → i = j
  bor : ∀ (i : Nat), ((∃ o, ρ[i]? = some (.own true o)) ∨ ∃ d, ρ[i]? = some (.frz d)) → σ[i]? = B[i]?
/-- no slot knows the object at a -/
def NotOwn (σ : VS) (ρ : Sl) (a : Addr) : Prop := ∀ (i : Nat) (b : Bool) (o : Ob), ρ[i]? = some (.own b o) → σ[i]? ≠ some (some (.ref a))
def ROk (P : Hp) (σ : VS) (ρ : Sl) (F H : Hp) : R → V → Prop
  | .imm d, v => Den F v d
  | .tmp o, v => ∃ a ho, v = .ref a ∧ H a = some ho ∧ OHo F o ho ∧ F a = none ∧ P a = none ∧ NotOwn σ ρ a
  | .pk i, v => σ[i]? = some (some v)
def Apart : R → R → V → V → Prop
  | .tmp _, .tmp _, x, y => x ≠ y
  | _, _, _, _ => True

theorem none_of {F H : Hp} (h : Same F H) {a : Addr} (e : H a = none) : F a = none := h.free e

section
variable {B : VS} {P P1 : Hp} {σ : VS} {ρ ρ1 ρ2 : Sl} {F F1 F2 H H1 H2 : Hp} {a p : Addr} {o : HO}

theorem same_new (h : H p = none) : Same H (upd H p o) := fun b x e => by
  rw [upd_ne (ne_of_none e h)]
  exact e
theorem Rel.weakP (s : Same P P1) (r : Rel B P1 σ ρ F H) : Rel B P σ ρ F H :=
  ⟨r.len, r.fh, s.trans r.ph, fun a o e => s.free (r.fp a o e), r.val, fun i b o e => by
    obtain ⟨a, ho, h1, h2, h3, h4, h5⟩ := r.own i b o e
    exact ⟨a, ho, h1, h2, h3, h4, s.free h5⟩, r.inj, r.bor⟩
/-- a new object that nothing knows -/
theorem Rel.new (r : Rel B P σ ρ F H) (hp : H p = none) : Rel B P σ ρ F (upd H p o) :=
  ⟨r.len, r.fh.trans (same_new hp), r.ph.trans (same_new hp), r.fp, r.val, fun i b o' e => by
    obtain ⟨a, ho, h1, h2, h3, h4, h5⟩ := r.own i b o' e
    exact ⟨a, ho, h1, same_new hp _ _ h2, h3, h4, h5⟩, r.inj, r.bor⟩
theorem notOwn_new (r : Rel B P σ ρ F H) (hp : H p = none) : NotOwn σ ρ p := fun i b o' e h => by
  obtain ⟨a, ho, h1, h2, _⟩ := r.own i b o' e
  rw [h1] at h
  injection h with h; injection h with h; injection h with h
  rw [h, hp] at h2
  cases h2
/-- an object that no slot knows becomes fixed -/
theorem Rel.fix (r : Rel B P σ ρ F H) (hp : H p = some o) (fn : F p = none) (pn : P p = none) (no : NotOwn σ ρ p) : Rel B P σ ρ (upd F p o) H := by
  have sF : Same F (upd F p o) := same_new fn
  refine ⟨r.len, fun b x e => ?_, r.ph, fun b x e => ?_, fun i d h => ?_, fun i b o' e => ?_, r.inj, r.bor⟩
  · by_cases hb : b = p
    · subst hb; rw [upd_same] at e; cases e; exact hp
    · rw [upd_ne hb] at e; exact r.fh b x e
  · by_cases hb : b = p
    · subst hb; exact pn
    · rw [upd_ne hb] at e; exact r.fp b x e
  · obtain ⟨v, h1, h2⟩ := r.val i d h
    exact ⟨v, h1, dp_up sF h2⟩
  · obtain ⟨a, ho, h1, h2, h3, h4, h5⟩ := r.own i b o' e
    refine ⟨a, ho, h1, h2, h3.up sF, ?_, h5⟩
    rw [upd_ne]
    · exact h4
    · rintro rfl
      exact no i b o' e h1
theorem Rel.newF (r : Rel B P σ ρ F H) (hp : H p = none) : Rel B P σ ρ (upd F p o) (upd H p o) :=
  (r.new (o := o) hp).fix upd_same (r.fh.free hp) (r.ph.free hp) (notOwn_new r hp)
theorem ROk.up {r : R} {x : V} (h : ROk P σ ρ F H r x) (hi : ∀ o, r ≠ .tmp o) (sF : Same F F1) : ROk P1 σ ρ1 F1 H1 r x := by
  cases r with
  | imm d => exact dp_up sF h
  | tmp o => exact absurd rfl (hi o)
  | pk i => exact h
/-- while something else is reckoned, a result is held -/
theorem Rel.hold {r : R} {x : V} (rel : Rel B P σ ρ1 F1 H1) (ok : ROk P σ ρ1 F1 H1 r x) : ∃ P1, Same P P1 ∧ Rel B P1 σ ρ1 F1 H1 ∧ ∀ ρ2 F2 H2, Rel B P1 σ ρ2 F2 H2 → Same F1 F2 →
    Rel B P σ ρ2 F2 H2 ∧ ROk P σ ρ2 F2 H2 r x ∧ ∀ r' y, ROk P1 σ ρ2 F2 H2 r' y → ROk P σ ρ2 F2 H2 r' y ∧ Apart r r' x y := by
  cases r with
  | imm d =>
    refine ⟨P, Same.refl P, rel, fun ρ2 F2 H2 r2 s2 => ⟨r2, dp_up s2 ok, fun r' y h => ⟨h, trivial⟩⟩⟩
  | pk i => exact ⟨P, Same.refl P, rel, fun ρ2 F2 H2 r2 s2 => ⟨r2, ok, fun r' y h => ⟨h, trivial⟩⟩⟩
  | tmp ob =>
    obtain ⟨a, ho, rfl, e2, e3, e4, e5, e6⟩ := ok
    have sP : Same P (upd P a ho) := same_new e5
    refine ⟨upd P a ho, sP, ⟨rel.len, rel.fh, fun b x e => ?_, fun b x e => ?_, rel.val, fun i b o' e => ?_, rel.inj, rel.bor⟩, fun ρ2 F2 H2 r2 s2 => ⟨r2.weakP sP, ?_, fun r' y h => ?_⟩⟩
    · by_cases hb : b = a
      · subst hb; rw [upd_same] at e; cases e; exact e2
      · rw [upd_ne hb] at e; exact rel.ph b x e
    · have nb : b ≠ a := by rintro rfl; rw [e4] at e; cases e
      rw [upd_ne nb]; exact rel.fp b x e
    · obtain ⟨c, ho', h1, h2, h3, h4, h5⟩ := rel.own i b o' e
      refine ⟨c, ho', h1, h2, h3, h4, ?_⟩
      rw [upd_ne]
      · exact h5
      · rintro rfl; exact e6 i b o' e h1
    · refine ⟨a, ho, rfl, r2.ph a ho upd_same, e3.up s2, ?_, e5, fun i b o' e h => ?_⟩
      · cases q : F2 a with
        | none => rfl
        | some u =>
          have := r2.fp a u q
          rw [upd_same] at this; cases this
      · obtain ⟨c, ho', h1, h2, h3, h4, h5⟩ := r2.own i b o' e
        rw [h1] at h
        injection h with h; injection h with h; injection h with h
        rw [h, upd_same] at h5; cases h5
    · cases r' with
      | imm d => exact ⟨h, trivial⟩
      | pk i => exact ⟨h, trivial⟩
      | tmp o' =>
        obtain ⟨c, ho', rfl, f2, f3, f4, f5, f6⟩ := h
        refine ⟨⟨c, ho', rfl, f2, f3, f4, sP.free f5, f6⟩, fun e => ?_⟩
        injection e with e
        rw [← e, upd_same] at f5; cases f5
end

/-! ### expressions -/
abbrev ES := Sl → Option (R × Sl)
abbrev CS := Sl → Option (Bool × Sl)
abbrev AS := Sl → Option (List R × Sl)
def tE (s : ES) : TE := fun σ H Q => ∃ B P ρ F r ρ', Rel B P σ ρ F H ∧ s ρ = some (r, ρ') ∧ ∀ v F' H', Rel B P σ ρ' F' H' → Same F F' → ROk P σ ρ' F' H' r v → Q v H'
def tC' (s : CS) : TT := fun σ H Q => ∃ B P ρ F b ρ', Rel B P σ ρ F H ∧ s ρ = some (b, ρ') ∧ ∀ F' H', Rel B P σ ρ' F' H' → Same F F' → Q b H'
inductive AOk (P : Hp) (σ : VS) (ρ : Sl) (F H : Hp) : List R → List V → Prop where
  | nil : AOk P σ ρ F H [] []
  | cons {r : R} {v : V} {rs : List R} {vs : List V} : ROk P σ ρ F H r v → AOk P σ ρ F H rs vs → (∀ (j : Nat) (r' : R) (v' : V), rs[j]? = some r' → vs[j]? = some v' → Apart r r' v v') → AOk P σ ρ F H (r :: rs) (v :: vs)
def tAs (s : AS) : TA := fun σ H Q => ∃ B P ρ F rs ρ', Rel B P σ ρ F H ∧ s ρ = some (rs, ρ') ∧ ∀ vs F' H', Rel B P σ ρ' F' H' → Same F F' → AOk P σ ρ' F' H' rs vs → Q vs H'
def EE (X : Cx) (e : Expr) (s : ES) : Prop := PE X e (tE s)
def CC (X : Cx) (e : Expr) (s : CS) : Prop := PT X e (tC' s)
def CW (X : Cx) (e : Expr) (s : CS) : Prop := PW X e (tC' s)
def AA (X : Cx) (es : List Expr) (s : AS) : Prop := PA X es (tAs s)
section
variable {X : Cx}
theorem pe_imp {e : Expr} {t t' : TE} (h : PE X e t) (i : ∀ σ H Q, t' σ H Q → t σ H Q) : PE X e t' := ⟨fun pins s σ H Q I q => h.run pins s σ H Q I (i σ H Q q)⟩
theorem pt_imp {e : Expr} {t t' : TT} (h : PT X e t) (i : ∀ σ H Q, t' σ H Q → t σ H Q) : PT X e t' := ⟨fun pins s σ H Q I q => h.run pins s σ H Q I (i σ H Q q)⟩
theorem pw_imp {e : Expr} {t t' : TT} (h : PW X e t) (i : ∀ σ H Q, t' σ H Q → t σ H Q) : PW X e t' := ⟨fun w pins s σ H Q I q => h.run w pins s σ H Q I (i σ H Q q)⟩
theorem pa_imp {es : List Expr} {t t' : TA} (h : PA X es t) (i : ∀ σ H Q, t' σ H Q → t σ H Q) : PA X es t' := ⟨fun pos pins s σ H Q I q => h.run pos pins s σ H Q I (i σ H Q q)⟩
theorem ps_imp {st : Stmt} {t t' : TS} (h : PS X st t) (i : ∀ D σ H, t' D σ H → t D σ H) : PS X st t' := ⟨fun pins s σ H D I q => h.run pins s σ H D I (i D σ H q)⟩
theorem pss_imp {st : List Stmt} {t t' : TS} (h : PSs X st t) (i : ∀ D σ H, t' D σ H → t D σ H) : PSs X st t' := ⟨fun pins s σ H D I q => h.run pins s σ H D I (i D σ H q)⟩
theorem callR_imp {f : Value} {r r' : List V → Hp → VK → Prop} (h : CallR X f r) (i : ∀ xs H Q, r' xs H Q → r xs H Q) : CallR X f r' := fun pins s σ H xs us Q I v q => h pins s σ H xs us Q I v (i xs H Q q)
theorem opR_imp {f : Value → Value → Sem Value} {r r' : R2} (h : OpR X f r) (i : ∀ x y H Q, r' x y H Q → r x y H Q) : OpR X f r' := fun pins s σ H x y v u Q I rx ry q => h pins s σ H x y v u Q I rx ry (i x y H Q q)
end

/-- two in a row -/
theorem two {sa sb : ES} {B : VS} {P : Hp} {σ : VS} {ρ ρ1 ρ2 : Sl} {F H : Hp} {ra rb : R} {k : V → V → Hp → Prop} (rel : Rel B P σ ρ F H) (ha : sa ρ = some (ra, ρ1)) (hb : sb ρ1 = some (rb, ρ2))
    (h : ∀ x y F2 H2, Rel B P σ ρ2 F2 H2 → Same F F2 → ROk P σ ρ2 F2 H2 ra x → ROk P σ ρ2 F2 H2 rb y → Apart ra rb x y → k x y H2) :
    tE sa σ H fun x H1 => tE sb σ H1 fun y H2 => k x y H2 := by
  refine ⟨B, P, ρ, F, ra, ρ1, rel, ha, fun x F1 H1 rel1 s1 ok1 => ?_⟩
  obtain ⟨P1, sP, rel1', back⟩ := rel1.hold ok1
  refine ⟨B, P1, ρ1, F1, rb, ρ2, rel1', hb, fun y F2 H2 rel2 s2 ok2 => ?_⟩
  obtain ⟨r2, okx, ap⟩ := back ρ2 F2 H2 rel2 s2
  obtain ⟨oky, apt⟩ := ap rb y ok2
  exact h x y F2 H2 r2 (s1.trans s2) okx oky apt

/-! ### looking -/
@[simp] def lookS : Option Slot → Option PyData
  | some (.val d) => some d
  | some (.frz d) => some d
  | some (.own _ (.lst l)) => some (.list l)
  | _ => none
@[simp] def look (ρ : Sl) : R → Option PyData
  | .imm d => some d
  | .tmp (.lst l) => some (.list l)
  | .tmp _ => none
  | .pk i => lookS ρ[i]?
@[simp] def lookAll (ρ : Sl) : List R → Option (List PyData)
  | [] => some []
  | r :: rs => (look ρ r).bind fun d => (lookAll ρ rs).bind fun ds => some (d :: ds)
/-- what it is now: fixed, or a list whose items are -/
def Cur (F H : Hp) (v : V) (d : PyData) : Prop := Den F v d ∨ ∃ a vs l, v = .ref a ∧ d = .list l ∧ H a = some (.lst vs) ∧ DenAll F vs l
inductive CurAll (F H : Hp) : List V → List PyData → Prop where
  | nil : CurAll F H [] []
  | cons {v : V} {d : PyData} {vs : List V} {ds : List PyData} : Cur F H v d → CurAll F H vs ds → CurAll F H (v :: vs) (d :: ds)
section
variable {B : VS} {P : Hp} {σ : VS} {ρ : Sl} {F H : Hp}
theorem Rel.cur (rel : Rel B P σ ρ F H) {r : R} {v : V} {d : PyData} (ok : ROk P σ ρ F H r v) (h : look ρ r = some d) : Cur F H v d := by
  cases r with
  | imm d' =>
    have e : d' = d := Option.some.inj h
    subst e; exact .inl ok
  | tmp o =>
    obtain ⟨a, ho, rfl, e2, e3, _⟩ := ok
    cases o with
    | lst l =>
      have e : PyData.list l = d := Option.some.inj h
      subst e
      cases ho with
      | lst vs => exact .inr ⟨a, vs, l, rfl, rfl, e2, e3⟩
      | _ => exact (show False from e3).elim
    | rng lo hi => cases h
  | pk i =>
    have ok : σ[i]? = some (some v) := ok
    have h : lookS ρ[i]? = some d := h
    cases e : ρ[i]? with
    | none => rw [e] at h; cases h
    | some s =>
      rw [e] at h
      cases s with
      | emp => cases h
      | val d' =>
        have e' : d' = d := Option.some.inj h
        subst e'
        obtain ⟨w, h1, h2⟩ := rel.val i d' (.inl e)
        rw [ok] at h1; cases h1
        exact .inl h2
      | frz d' =>
        have e' : d' = d := Option.some.inj h
        subst e'
        obtain ⟨w, h1, h2⟩ := rel.val i d' (.inr e)
        rw [ok] at h1; cases h1
        exact .inl h2
      | own b o =>
        cases o with
        | rng lo hi => cases h
        | lst l =>
          have e' : PyData.list l = d := Option.some.inj h
          subst e'
          obtain ⟨a, ho, h1, h2, h3, _⟩ := rel.own i b _ e
          rw [ok] at h1; cases h1
          cases ho with
          | lst vs => exact .inr ⟨a, vs, l, rfl, rfl, h2, h3⟩
          | _ => exact (show False from h3).elim
theorem Rel.curAll (rel : Rel B P σ ρ F H) : ∀ {rs : List R} {vs : List V} {ds : List PyData}, AOk P σ ρ F H rs vs → lookAll ρ rs = some ds → CurAll F H vs ds
  | _, _, _, .nil, h => by
    have e := Option.some.inj h
    subst e; exact .nil
  | _, _, _, .cons ok oks _, h => by
    obtain ⟨d, h1, h⟩ := Option.bind_eq_some_iff.mp h
    obtain ⟨ds, h2, h⟩ := Option.bind_eq_some_iff.mp h
    have e := Option.some.inj h
    subst e
    exact .cons (rel.cur ok h1) (rel.curAll oks h2)
/-- .. as data over the whole heap -/
theorem Cur.den {v : V} {d : PyData} (s : Same F H) (h : Cur F H v d) : Den H v d := by
  rcases h with h | ⟨a, vs, l, rfl, rfl, h1, h2⟩
  · exact dp_up s h
  · exact .lst (.inl h1) (dps_up s h2)
/-- .. as a list, its items fixed -/
theorem Cur.list {v : V} {l : List PyData} (s : Same F H) (h : Cur F H v (.list l)) : ∃ a vs, v = .ref a ∧ Rd H a (.lst vs) ∧ DenAll F vs l := by
  rcases h with h | ⟨a, vs, l', rfl, e, h1, h2⟩
  · cases h with
    | lst h hs => exact ⟨_, _, rfl, rd_up s h, hs⟩
  · injection e with e; subst e
    exact ⟨a, vs, rfl, .inl h1, h2⟩
theorem Cur.tuple {v : V} {l : List PyData} (s : Same F H) (h : Cur F H v (.tuple l)) : ∃ a vs, v = .ref a ∧ Rd H a (.tup vs) ∧ Rd F a (.tup vs) ∧ DenAll F vs l := by
  rcases h with h | ⟨a, vs, l', rfl, e, h1, h2⟩
  · cases h with
    | tup h hs => exact ⟨_, _, rfl, rd_up s h, h, hs⟩
  · cases e
theorem Cur.int {v : V} {i : Int} (h : Cur F H v (.int i)) : v = .int i := by
  rcases h with h | ⟨a, vs, l', rfl, e, _⟩
  · cases h; rfl
  · cases e
theorem Cur.bool {v : V} {i : Bool} (h : Cur F H v (.bool i)) : v = .bl i := by
  rcases h with h | ⟨a, vs, l', rfl, e, _⟩
  · cases h; rfl
  · cases e
theorem Cur.str {v : V} {i : Str} (h : Cur F H v (.str i)) : v = .str i := by
  rcases h with h | ⟨a, vs, l', rfl, e, _⟩
  · cases h; rfl
  · cases e
theorem Cur.none {v : V} (h : Cur F H v .none) : v = .non := by
  rcases h with h | ⟨a, vs, l', rfl, e, _⟩
  · cases h; rfl
  · cases e
end

/-! ### results of what is built in -/
inductive RR where
  | at (d : PyData)
  | nl (l : List PyData)
  | nt (l : List PyData)
  /-- a tuple, new or not -/
  | tt (l : List PyData)
@[simp] def RR.toR : RR → R
  | .at d => .imm d
  | .nl l => .tmp (.lst l)
  | .nt l => .imm (.tuple l)
  | .tt l => .imm (.tuple l)
def RRk (F H : Hp) (rr : RR) (Q : VK) : Prop := match rr with
  | .at d => ∀ v, Den F v d → Q v H
  | .nl l => ∀ p vs, H p = none → DenAll F vs l → Q (.ref p) (upd H p (.lst vs))
  | .nt l => ∀ p vs, H p = none → DenAll F vs l → Q (.ref p) (upd H p (.tup vs))
  | .tt l => (∀ v, Den F v (.tuple l) → Q v H) ∧ ∀ p vs, H p = none → DenAll F vs l → Q (.ref p) (upd H p (.tup vs))
theorem rr_ok {B : VS} {P : Hp} {σ : VS} {ρ : Sl} {F H : Hp} {rr : RR} {Q : VK} (rel : Rel B P σ ρ F H)
    (h : ∀ v F' H', Rel B P σ ρ F' H' → Same F F' → ROk P σ ρ F' H' rr.toR v → Q v H') : RRk F H rr Q := by
  cases rr with
  | «at» d => exact fun v hv => h v F H rel (Same.refl F) hv
  | nl l => exact fun p vs hp hv => h _ F _ (rel.new hp) (Same.refl F) ⟨p, _, rfl, upd_same, hv, rel.fh.free hp, rel.ph.free hp, notOwn_new rel hp⟩
  | tt l => exact ⟨fun v hv => h v F H rel (Same.refl F) hv, fun p vs hp hv => h _ _ _ (rel.newF hp) (same_new (rel.fh.free hp)) (.tup (.inl upd_same) (dps_up (same_new (rel.fh.free hp)) hv))⟩
  | nt l => exact fun p vs hp hv => h _ _ _ (rel.newF hp) (same_new (rel.fh.free hp)) (.tup (.inl upd_same) (dps_up (same_new (rel.fh.free hp)) hv))
abbrev FB := List PyData → Option RR
abbrev FB2 := PyData → PyData → Option RR
abbrev FB1 := PyData → Option RR
def rB (g : FB) : List V → Hp → VK → Prop := fun xs H Q => ∃ F ds rr, Same F H ∧ CurAll F H xs ds ∧ g ds = some rr ∧ RRk F H rr Q
def rB2 (g : FB2) : R2 := fun x y H Q => ∃ F d1 d2 rr, Same F H ∧ Cur F H x d1 ∧ Cur F H y d2 ∧ g d1 d2 = some rr ∧ RRk F H rr Q
def rB1 (g : FB1) : V → Hp → VK → Prop := fun x H Q => ∃ F d1 rr, Same F H ∧ Cur F H x d1 ∧ g d1 = some rr ∧ RRk F H rr Q
def sOp (g : FB2) (sa sb : ES) : ES := fun ρ => (sa ρ).bind fun a => (sb a.2).bind fun b => (look b.2 a.1).bind fun x => (look b.2 b.1).bind fun y => (g x y).bind fun rr => some (rr.toR, b.2)
def sUn (g : FB1) (sa : ES) : ES := fun ρ => (sa ρ).bind fun a => (look a.2 a.1).bind fun x => (g x).bind fun rr => some (rr.toR, a.2)
def sBlt (g : FB) (sa : AS) : ES := fun ρ => (sa ρ).bind fun a => (lookAll a.2 a.1).bind fun ds => (g ds).bind fun rr => some (rr.toR, a.2)
def sNil : AS := fun ρ => some ([], ρ)
def sCons (sa : ES) (sb : AS) : AS := fun ρ => (sa ρ).bind fun a => (sb a.2).bind fun b => some (a.1 :: b.1, b.2)
def sVar (i : Nat) : ES := fun ρ => match ρ[i]? with
  | some (.val d) => some (.imm d, ρ)
  | some (.frz d) => some (.imm d, ρ)
  | some (.own _ _) => some (.pk i, ρ)
  | _ => none
def sK (d : PyData) : ES := fun ρ => some (.imm d, ρ)
section
variable {X : Cx} {a b e : Expr} {es : List Expr} {sa sb : ES} {ss : AS} {pos : Pos}
theorem bindS {α β : Type} {x : Option α} {f : α → Option β} {b : β} (h : x.bind f = some b) : ∃ a, x = some a ∧ f a = some b := Option.bind_eq_some_iff.mp h
theorem eOp {op : Operator} {g : FB2} (ho : OpR X (binaryOp op) (rB2 g)) (ha : EE X a sa) (hb : EE X b sb) : EE X (.BinOp a op b pos) (sOp g sa sb) := by
  refine pe_imp (pe_op ho ha hb) fun σ H Q q => ?_
  obtain ⟨B, P, ρ, F, r, ρ', rel, hs, k⟩ := q
  obtain ⟨⟨ra, ρ1⟩, h1, hs⟩ := bindS hs
  obtain ⟨⟨rb, ρ2⟩, h2, hs⟩ := bindS hs
  obtain ⟨x, h3, hs⟩ := bindS hs
  obtain ⟨y, h4, hs⟩ := bindS hs
  obtain ⟨rr, h5, hs⟩ := bindS hs
  have e := Option.some.inj hs
  injection e with e1 e2
  subst e1; subst e2
  exact two rel h1 h2 fun vx vy F2 H2 r2 s2 okx oky _ => ⟨F2, x, y, rr, r2.fh, r2.cur okx h3, r2.cur oky h4, h5, rr_ok r2 fun v F' H' r' s' ok => k v F' H' r' (s2.trans s') ok⟩
theorem eCmp {op : CmpOp} {g : FB2} (ho : OpR X (compareOp op) (rB2 g)) (ha : EE X a sa) (hb : EE X b sb) (hm : behindInMarks op b = false := by first | exact nobehind _ (by decide) (by decide) | rfl) : EE X (.Compare a [op] [b] pos) (sOp g sa sb) := by
  refine pe_imp (pe_cmpR ho ha hb hm) fun σ H Q q => ?_
  obtain ⟨B, P, ρ, F, r, ρ', rel, hs, k⟩ := q
  obtain ⟨⟨ra, ρ1⟩, h1, hs⟩ := bindS hs
  obtain ⟨⟨rb, ρ2⟩, h2, hs⟩ := bindS hs
  obtain ⟨x, h3, hs⟩ := bindS hs
  obtain ⟨y, h4, hs⟩ := bindS hs
  obtain ⟨rr, h5, hs⟩ := bindS hs
  have e := Option.some.inj hs
  injection e with e1 e2
  subst e1; subst e2
  exact two rel h1 h2 fun vx vy F2 H2 r2 s2 okx oky _ => ⟨F2, x, y, rr, r2.fh, r2.cur okx h3, r2.cur oky h4, h5, rr_ok r2 fun v F' H' r' s' ok => k v F' H' r' (s2.trans s') ok⟩
theorem eUn {op : UnaryOp} {g : FB1} (ho : UnR X (unaryOp op) (rB1 g)) (ha : EE X a sa) : EE X (.UnaryOp op a pos) (sUn g sa) := by
  refine pe_imp (pe_un ho ha) fun σ H Q q => ?_
  obtain ⟨B, P, ρ, F, r, ρ', rel, hs, k⟩ := q
  obtain ⟨⟨ra, ρ1⟩, h1, hs⟩ := bindS hs
  obtain ⟨x, h3, hs⟩ := bindS hs
  obtain ⟨rr, h5, hs⟩ := bindS hs
  have e := Option.some.inj hs
  injection e with e1 e2
  subst e1; subst e2
  exact ⟨B, P, ρ, F, ra, _, rel, h1, fun v F2 H2 r2 s2 okx => ⟨F2, x, rr, r2.fh, r2.cur okx h3, h5, rr_ok r2 fun v F' H' r' s' ok => k v F' H' r' (s2.trans s') ok⟩⟩
theorem aNil : AA X [] sNil := by
  refine pa_imp pa_nil fun σ H Q q => ?_
  obtain ⟨B, P, ρ, F, r, ρ', rel, hs, k⟩ := q
  have e := Option.some.inj hs
  injection e with e1 e2
  subst e1; subst e2
  exact k [] F H rel (Same.refl F) .nil
theorem aCons (ha : EE X e sa) (hs : AA X es ss) (he : starEach (e :: es) X.env = (false, eval e X.env) :: starEach es X.env := by rfl) : AA X (e :: es) (sCons sa ss) := by
  refine pa_imp (pa_cons ha hs he) fun σ H Q q => ?_
  obtain ⟨B, P, ρ, F, r, ρ', rel, hs, k⟩ := q
  obtain ⟨⟨ra, ρ1⟩, h1, hs⟩ := bindS hs
  obtain ⟨⟨rs, ρ2⟩, h2, hs⟩ := bindS hs
  have e := Option.some.inj hs
  injection e with e1 e2
  subst e1; subst e2
  refine ⟨B, P, ρ, F, ra, ρ1, rel, h1, fun x F1 H1 rel1 s1 ok1 => ?_⟩
  obtain ⟨P1, sP, rel1', back⟩ := rel1.hold ok1
  refine ⟨B, P1, ρ1, F1, rs, ρ2, rel1', h2, fun vs F2 H2 rel2 s2 ok2 => ?_⟩
  obtain ⟨r2, okx, ap⟩ := back ρ2 F2 H2 rel2 s2
  have all : ∀ {rs : List R} {vs : List V}, AOk P1 σ ρ2 F2 H2 rs vs → AOk P σ ρ2 F2 H2 rs vs ∧ ∀ (j : Nat) r' v', rs[j]? = some r' → vs[j]? = some v' → Apart ra r' x v' := by
    intro rs vs h
    induction h with
    | nil => exact ⟨.nil, fun j r' v' h => by simp at h⟩
    | cons h1 h2 h3 ih =>
      obtain ⟨i1, i2⟩ := ih
      obtain ⟨o1, o2⟩ := ap _ _ h1
      refine ⟨.cons o1 i1 h3, fun j r' v' e1 e2 => ?_⟩
      cases j with
      | zero =>
        have e1 := Option.some.inj e1
        have e2 := Option.some.inj e2
        subst e1; subst e2
        exact o2
      | succ j => exact i2 j r' v' e1 e2
  exact k _ _ _ r2 (s1.trans s2) (.cons okx (all ok2).1 (all ok2).2)
end
end Sd


set_option Elab.async false
set_option linter.all false
set_option maxRecDepth 100000
/-! Sd2: names, constants, tests, displays, statements. -/
namespace Sd
open PySem PySem.Spec PyProof.Rows L2

/-! ### freezing -/
@[simp] def fzS (i : Nat) (ρ : Sl) : Option Slot → Option (PyData × Sl)
  | some (.val d) => some (d, ρ)
  | some (.frz d) => some (d, ρ)
  | some (.own b (.lst l)) => some (.list l, ρ.set i (if b = true then .frz (.list l) else .val (.list l)))
  | _ => none
@[simp] def fz : R → Sl → Option (PyData × Sl)
  | .imm d, ρ => some (d, ρ)
  | .tmp (.lst l), ρ => some (.list l, ρ)
  | .tmp _, _ => none
  | .pk i, ρ => fzS i ρ ρ[i]?
@[simp] def fzAll : List R → Sl → Option (List PyData × Sl)
  | [], ρ => some ([], ρ)
  | r :: rs, ρ => (fz r ρ).bind fun a => (fzAll rs a.2).bind fun b => some (a.1 :: b.1, b.2)
section
variable {B : VS} {P P1 : Hp} {σ : VS} {ρ ρ' ρ1 ρ2 : Sl} {F F1 F2 H H1 H2 : Hp} {a p : Addr} {o : HO}
theorem list_set_self {α : Type} {l : List α} {i : Nat} {a b : α} (h : l[i]? = some a) : (l.set i b)[i]? = some b := by
  have : i < l.length := (List.getElem?_eq_some_iff.mp h).1
  rw [List.getElem?_set_self this]
theorem lt_of_some {α : Type} {l : List α} {i : Nat} {a : α} (h : l[i]? = some a) : i < l.length := (List.getElem?_eq_some_iff.mp h).1
/-- a slot's list is fixed where it stands -/
theorem Rel.fixS {i : Nat} {b : Bool} {l : List PyData} (r : Rel B P σ ρ F H) (e : ρ[i]? = some (.own b (.lst l))) :
    ∃ a vs, σ[i]? = some (some (.ref a)) ∧ H a = some (.lst vs) ∧ DenAll F vs l ∧ F a = none ∧ P a = none ∧ Rel B P σ (ρ.set i (if b = true then .frz (.list l) else .val (.list l))) (upd F a (.lst vs)) H ∧
      (∀ c, NotOwn σ ρ c → NotOwn σ (ρ.set i (if b = true then .frz (.list l) else .val (.list l))) c) := by
  obtain ⟨a, ho, h1, h2, h3, h4, h5⟩ := r.own i b _ e
  cases ho with
  | lst vs =>
    have h3 : DenAll F vs l := h3
    have sF : Same F (upd F a (.lst vs)) := same_new h4
    have nw : ∀ (j : Nat) b' o', (ρ.set i (if b = true then Slot.frz (.list l) else Slot.val (.list l)))[j]? = some (.own b' o') → j ≠ i ∧ ρ[j]? = some (.own b' o') := by
      intro j b' o' ej
      by_cases hj : j = i
      · subst hj
        rw [list_set_self e] at ej
        cases b <;> simp at ej
      · rw [List.getElem?_set_ne (Ne.symm hj)] at ej
        exact ⟨hj, ej⟩
    refine ⟨a, vs, h1, h2, h3, h4, h5, ⟨?_, ?_, r.ph, ?_, ?_, ?_, ?_, ?_⟩, fun c hc j b' o' ej => hc j b' o' (nw j b' o' ej).2⟩
    · rw [List.length_set]; exact r.len
    · intro c x ec
      by_cases hc : c = a
      · subst hc; rw [upd_same] at ec; cases ec; exact h2
      · rw [upd_ne hc] at ec; exact r.fh c x ec
    · intro c x ec
      by_cases hc : c = a
      · subst hc; exact h5
      · rw [upd_ne hc] at ec; exact r.fp c x ec
    · intro j d ej
      by_cases hj : j = i
      · subst hj
        rw [list_set_self e] at ej
        have ed : d = .list l := by
          cases b <;> simp at ej <;> exact ej.symm
        subst ed
        exact ⟨.ref a, h1, .lst (.inl upd_same) (dps_up sF h3)⟩
      · rw [List.getElem?_set_ne (Ne.symm hj)] at ej
        obtain ⟨v, g1, g2⟩ := r.val j d ej
        exact ⟨v, g1, dp_up sF g2⟩
    · intro j b' o' ej
      obtain ⟨hj, ej⟩ := nw j b' o' ej
      obtain ⟨c, ho', g1, g2, g3, g4, g5⟩ := r.own j b' o' ej
      refine ⟨c, ho', g1, g2, g3.up sF, ?_, g5⟩
      rw [upd_ne]
      · exact g4
      · rintro rfl
        exact hj (r.inj j i c b' b o' _ ej e g1 h1)
    · intro j k c b' b'' o' o'' e1 e2 s1 s2
      exact r.inj j k c b' b'' o' o'' (nw _ _ _ e1).2 (nw _ _ _ e2).2 s1 s2
    · intro j hj
      by_cases hji : j = i
      · subst hji
        rw [list_set_self e] at hj
        refine r.bor j (.inl ?_)
        cases b with
        | true => exact ⟨_, e⟩
        | false =>
          rcases hj with ⟨o', h⟩ | ⟨d, h⟩ <;> simp at h
      · rw [List.getElem?_set_ne (Ne.symm hji)] at hj
        exact r.bor j hj
  | _ => exact (show False from h3).elim
theorem Rel.fz {r : R} {v : V} {d : PyData} (rel : Rel B P σ ρ F H) (ok : ROk P σ ρ F H r v) (h : fz r ρ = some (d, ρ')) :
    ∃ F', Rel B P σ ρ' F' H ∧ Same F F' ∧ Den F' v d ∧ ∀ r' v', ROk P σ ρ F H r' v' → Apart r r' v v' → ROk P σ ρ' F' H r' v' := by
  cases r with
  | imm d' =>
    have e := Option.some.inj h
    injection e with e1 e2
    subst e1; subst e2
    exact ⟨F, rel, Same.refl F, ok, fun _ _ h _ => h⟩
  | tmp o =>
    cases o with
    | rng lo hi => cases h
    | lst l =>
      have e := Option.some.inj h
      injection e with e1 e2
      subst e1; subst e2
      obtain ⟨a, ho, rfl, e2, e3, e4, e5, e6⟩ := ok
      cases ho with
      | lst vs =>
        have sF : Same F (upd F a (.lst vs)) := same_new e4
        refine ⟨upd F a (.lst vs), rel.fix e2 e4 e5 e6, sF, .lst (.inl upd_same) (dps_up sF e3), fun r' v' h ap => ?_⟩
        cases r' with
        | imm d => exact dp_up sF h
        | pk i => exact h
        | tmp o' =>
          obtain ⟨c, ho', rfl, g2, g3, g4, g5, g6⟩ := h
          have hc : c ≠ a := fun z => ap (by rw [z])
          exact ⟨c, ho', rfl, g2, g3.up sF, by rw [upd_ne hc]; exact g4, g5, g6⟩
      | _ => exact (show False from e3).elim
  | pk i =>
    have ok : σ[i]? = some (some v) := ok
    have h : fzS i ρ ρ[i]? = some (d, ρ') := h
    cases e : ρ[i]? with
    | none => rw [e] at h; cases h
    | some s =>
      rw [e] at h
      cases s with
      | emp => cases h
      | val d' =>
        have e' := Option.some.inj h
        injection e' with e1 e2
        subst e1; subst e2
        obtain ⟨w, h1, h2⟩ := rel.val i d' (.inl e)
        rw [ok] at h1; cases h1
        exact ⟨F, rel, Same.refl F, h2, fun _ _ h _ => h⟩
      | frz d' =>
        have e' := Option.some.inj h
        injection e' with e1 e2
        subst e1; subst e2
        obtain ⟨w, h1, h2⟩ := rel.val i d' (.inr e)
        rw [ok] at h1; cases h1
        exact ⟨F, rel, Same.refl F, h2, fun _ _ h _ => h⟩
      | own b o =>
        cases o with
        | rng lo hi => cases h
        | lst l =>
          have e' := Option.some.inj h
          injection e' with e1 e2
          subst e1; subst e2
          obtain ⟨a, vs, g1, g2, g3, g4, g5, g6, g7⟩ := rel.fixS e
          rw [ok] at g1; cases g1
          have sF : Same F (upd F a (.lst vs)) := same_new g4
          refine ⟨upd F a (.lst vs), g6, sF, .lst (.inl upd_same) (dps_up sF g3), fun r' v' h ap => ?_⟩
          cases r' with
          | imm d => exact dp_up sF h
          | pk i => exact h
          | tmp o' =>
            obtain ⟨c, ho', rfl, k2, k3, k4, k5, k6⟩ := h
            have hc : c ≠ a := by
              rintro rfl
              exact k6 i b _ e ok
            exact ⟨c, ho', rfl, k2, k3.up sF, by rw [upd_ne hc]; exact k4, k5, g7 c k6⟩
theorem Rel.fzAll : ∀ {rs : List R} {vs : List V} {ds : List PyData} {ρ ρ' : Sl} {F : Hp}, Rel B P σ ρ F H → AOk P σ ρ F H rs vs → fzAll rs ρ = some (ds, ρ') →
    ∃ F', Rel B P σ ρ' F' H ∧ Same F F' ∧ DenAll F' vs ds
  | _, _, _, _, _, F, rel, .nil, h => by
    have e := Option.some.inj h
    injection e with e1 e2
    subst e1; subst e2
    exact ⟨F, rel, Same.refl F, .nil⟩
  | _, _, _, ρ0, _, F, rel, .cons (r := r) (v := v) ok oks ap, h => by
    obtain ⟨⟨d, ρ1⟩, h1, h⟩ := bindS h
    obtain ⟨⟨ds, ρ2⟩, h2, h⟩ := bindS h
    have e := Option.some.inj h
    injection e with e1 e2
    subst e1; subst e2
    obtain ⟨F1, rel1, s1, dn, more⟩ := rel.fz ok h1
    have all : ∀ {rs : List R} {vs : List V}, AOk P σ ρ0 F H rs vs → (∀ (j : Nat) (r' : R) (v' : V), rs[j]? = some r' → vs[j]? = some v' → Apart r r' v v') → AOk P σ ρ1 F1 H rs vs := by
      intro rs vs h
      induction h with
      | nil => exact fun _ => .nil
      | cons h1 h2 h3 ih => exact fun ap => .cons (more _ _ h1 (ap 0 _ _ rfl rfl)) (ih fun j r' v' e1 e2 => ap (j + 1) r' v' e1 e2) h3
    obtain ⟨F2, rel2, s2, dns⟩ := Rel.fzAll rel1 (all oks ap) h2
    exact ⟨F2, rel2, s1.trans s2, .cons (dp_up s2 dn) dns⟩
end

/-! ### names, constants -/
section
variable {X : Cx} {a b c e : Expr} {es : List Expr} {sa sb sc se : ES} {ss : AS} {pos : Pos}
theorem eVar (i : Nat) {x : Str} {pos : Pos} (hN : X.N[i]? = some x := by rfl) (hv : Vis X.env.scope x := by first | exact Or.inl rfl | exact Or.inr (Or.inl rfl) | exact Or.inr (Or.inr rfl)) (hd : (x == ("__debug__" : Str)) = false := by decide)
    (hcd : (x == ("__classdict__" : Str)) = false := by decide) : EE X (.Name x pos) (sVar i) := by
  refine pe_imp (pe_var hN hv hd hcd) fun σ H Q q => ?_
  obtain ⟨B, P, ρ, F, r, ρ', rel, hs, k⟩ := q
  unfold sVar at hs
  split at hs
  · rename_i d e
    have e' := Option.some.inj hs
    injection e' with e1 e2
    subst e1; subst e2
    obtain ⟨v, h1, h2⟩ := rel.val i d (.inl e)
    exact ⟨v, h1, k v F H rel (Same.refl F) h2⟩
  · rename_i d e
    have e' := Option.some.inj hs
    injection e' with e1 e2
    subst e1; subst e2
    obtain ⟨v, h1, h2⟩ := rel.val i d (.inr e)
    exact ⟨v, h1, k v F H rel (Same.refl F) h2⟩
  · rename_i b o e
    have e' := Option.some.inj hs
    injection e' with e1 e2
    subst e1; subst e2
    obtain ⟨a, ho, h1, _⟩ := rel.own i _ _ e
    exact ⟨.ref a, h1, k _ F H rel (Same.refl F) h1⟩
  · cases hs
theorem eConst {v : V} {d : PyData} (h : PE X e (tC v)) (hd : ∀ F, Den F v d) : EE X e (sK d) := by
  refine pe_imp h fun σ H Q q => ?_
  obtain ⟨B, P, ρ, F, r, ρ', rel, hs, k⟩ := q
  have e' := Option.some.inj hs
  injection e' with e1 e2
  subst e1; subst e2
  exact k v F H rel (Same.refl F) (hd F)
theorem eInt {i : Int} {j} : EE X (.Constant (.int i) j pos) (sK (.int i)) := eConst pe_int fun _ => .int i
theorem eBool {i : Bool} {j} : EE X (.Constant (.bool i) j pos) (sK (.bool i)) := eConst pe_bl fun _ => .bl i
theorem eNone {j} : EE X (.Constant .none j pos) (sK .none) := eConst pe_non fun _ => .non
theorem eStr {i : Str} {j} : EE X (.Constant (.str i) j pos) (sK (.str i)) := eConst pe_str fun _ => .str i
theorem eGInt {x : Str} {i : Int} (h : ∃ t, X.mg x = some (.int i t)) (hg : Gl X x := by rfl) (hd : (x == ("__debug__" : Str)) = false := by decide) : EE X (.Name x pos) (sK (.int i)) := by
  obtain ⟨t, h⟩ := h
  exact eConst (pe_glob hg h (v := .int i) ⟨t, rfl⟩ hd) fun _ => .int i
theorem eGStr {x : Str} {i : Str} (h : ∃ t, X.mg x = some (.str i t)) (hg : Gl X x := by rfl) (hd : (x == ("__debug__" : Str)) = false := by decide) : EE X (.Name x pos) (sK (.str i)) := by
  obtain ⟨t, h⟩ := h
  exact eConst (pe_glob hg h (v := .str i) ⟨t, rfl⟩ hd) fun _ => .str i

/-! ### and, or, not, if -/
def sTru (se : ES) : CS := fun ρ => (se ρ).bind fun a => match look a.2 a.1 with
  | some (.bool b) => some (b, a.2)
  | _ => none
def sBool (sc : CS) : ES := fun ρ => (sc ρ).bind fun a => some (.imm (.bool a.1), a.2)
def sAnd (sa sb : CS) : CS := fun ρ => (sa ρ).bind fun a => if a.1 = true then sb a.2 else some (false, a.2)
def sOr (sa sb : CS) : CS := fun ρ => (sa ρ).bind fun a => if a.1 = true then some (true, a.2) else sb a.2
def sNot (sa : CS) : CS := fun ρ => (sa ρ).bind fun a => some (!a.1, a.2)
def sIf (sc : CS) (sa sb : ES) : ES := fun ρ => (sc ρ).bind fun c => if c.1 = true then sa c.2 else sb c.2
theorem tru_inv {ρ ρ' : Sl} {b : Bool} (h : sTru se ρ = some (b, ρ')) : ∃ r, se ρ = some (r, ρ') ∧ look ρ' r = some (.bool b) := by
  obtain ⟨⟨r, ρ1⟩, h1, h⟩ := bindS h
  dsimp only at h
  split at h
  · rename_i b' e
    have e' := Option.some.inj h
    injection e' with e1 e2
    subst e1; subst e2
    exact ⟨r, h1, e⟩
  · cases h
theorem tTru_of {t : TE} (i : ∀ σ H Q, tE se σ H Q → t σ H Q) : ∀ σ H (Q : Bool → Hp → Prop), tC' (sTru se) σ H Q → t σ H fun x H1 => ∃ c, x = .bl c ∧ Q c H1 := by
  rintro σ H Q ⟨B, P, ρ, F, b, ρ', rel, hs, k⟩
  obtain ⟨r, h1, h2⟩ := tru_inv hs
  refine i σ H _ ⟨B, P, ρ, F, r, ρ', rel, h1, fun v F' H' rel' s' ok => ?_⟩
  exact ⟨b, (rel'.cur ok h2).bool, k F' H' rel' s'⟩
theorem cVal (h : EE X e se) (he : ∀ whole, isTrue e X.env whole = (do let v ← whole; standAt e.pos; holding [v] (truthy v)) := by intro _; rfl) : CC X e (sTru se) :=
  pt_imp (pt_val h he) fun σ H Q q => tTru_of (fun _ _ _ z => z) σ H Q q
theorem cCmp {op : CmpOp} {g : FB2} (ho : OpR X (compareOp op) (rB2 g)) (ha : EE X a sa) (hb : EE X b sb) (hm : behindInMarks op b = false := by first | exact nobehind _ (by decide) (by decide) | rfl) : CC X (.Compare a [op] [b] pos) (sTru (sOp g sa sb)) := by
  refine pt_imp (pt_cmpR ho ha hb hm) fun σ H Q q => ?_
  refine tTru_of (t := tOp (rB2 g) (tE sa) (tE sb)) (fun σ H Q q => ?_) σ H Q q
  obtain ⟨B, P, ρ, F, r, ρ', rel, hs, k⟩ := q
  obtain ⟨⟨ra, ρ1⟩, h1, hs⟩ := bindS hs
  obtain ⟨⟨rb, ρ2⟩, h2, hs⟩ := bindS hs
  obtain ⟨x, h3, hs⟩ := bindS hs
  obtain ⟨y, h4, hs⟩ := bindS hs
  obtain ⟨rr, h5, hs⟩ := bindS hs
  have e := Option.some.inj hs
  injection e with e1 e2
  subst e1; subst e2
  exact two rel h1 h2 fun vx vy F2 H2 r2 s2 okx oky _ => ⟨F2, x, y, rr, r2.fh, r2.cur okx h3, r2.cur oky h4, h5, rr_ok r2 fun v F' H' r' s' ok => k v F' H' r' (s2.trans s') ok⟩
/-- a test as a value (a comparison, a call) -/
theorem eTru (h : EE X e se) : EE X e (sBool (sTru se)) := by
  refine pe_imp h fun σ H Q q => ?_
  obtain ⟨B, P, ρ, F, r, ρ', rel, hs, k⟩ := q
  obtain ⟨⟨b, ρ1⟩, h1, hs⟩ := bindS hs
  have e := Option.some.inj hs
  injection e with e1 e2
  subst e1; subst e2
  obtain ⟨r, h1, h2⟩ := tru_inv h1
  refine ⟨B, P, ρ, F, r, ρ1, rel, h1, fun v F' H' rel' s' ok => k v F' H' rel' s' ?_⟩
  rw [(rel'.cur ok h2).bool]
  exact .bl b
/-- a or b .. as values: all bools -/
def BV (X : Cx) (e : Expr) (s : CS) : Prop := EE X e (sBool s)
theorem bv1 {op} {s : CS} (h : EE X a (sBool s)) : EE X (.BoolOp op [a] pos) (sBool s) := pe_one h
theorem bool_inv {s : CS} {ρ ρ' : Sl} {r : R} (h : sBool s ρ = some (r, ρ')) : ∃ b, s ρ = some (b, ρ') ∧ r = .imm (.bool b) := by
  obtain ⟨⟨b, ρ1⟩, h1, hs⟩ := bindS h
  have e := Option.some.inj hs
  injection e with e1 e2
  subst e1; subst e2
  exact ⟨b, h1, rfl⟩
theorem bvAnd {s t : CS} {rest : List Expr} (ha : EE X a (sBool s)) (hb : EE X (.BoolOp .And (b :: rest) pos) (sBool t)) : EE X (.BoolOp .And (a :: b :: rest) pos) (sBool (sAnd s t)) := by
  refine pe_imp (pe_and ha hb) fun σ H Q q => ?_
  obtain ⟨B, P, ρ, F, r, ρ', rel, hs, k⟩ := q
  obtain ⟨b, h1, rfl⟩ := bool_inv hs
  obtain ⟨⟨c, ρ1⟩, h1, h2⟩ := bindS h1
  refine ⟨B, P, ρ, F, .imm (.bool c), ρ1, rel, by unfold sBool; rw [h1]; rfl, fun v F1 H1 rel1 s1 ok1 => ⟨c, (rel1.cur ok1 rfl).bool, ?_⟩⟩
  cases c with
  | true =>
    have h2 : t ρ1 = some (b, ρ') := h2
    exact ⟨B, P, ρ1, F1, _, ρ', rel1, by unfold sBool; rw [h2]; rfl, fun v F' H' rel' s' ok => k v F' H' rel' (s1.trans s') ok⟩
  | false =>
    have e := Option.some.inj h2
    injection e with e1 e2
    subst e1; subst e2
    exact k _ F1 H1 rel1 s1 (.bl false)
theorem bvOr {s t : CS} {rest : List Expr} (ha : EE X a (sBool s)) (hb : EE X (.BoolOp .Or (b :: rest) pos) (sBool t)) : EE X (.BoolOp .Or (a :: b :: rest) pos) (sBool (sOr s t)) := by
  refine pe_imp (pe_or ha hb) fun σ H Q q => ?_
  obtain ⟨B, P, ρ, F, r, ρ', rel, hs, k⟩ := q
  obtain ⟨b, h1, rfl⟩ := bool_inv hs
  obtain ⟨⟨c, ρ1⟩, h1, h2⟩ := bindS h1
  refine ⟨B, P, ρ, F, .imm (.bool c), ρ1, rel, by unfold sBool; rw [h1]; rfl, fun v F1 H1 rel1 s1 ok1 => ⟨c, (rel1.cur ok1 rfl).bool, ?_⟩⟩
  cases c with
  | false =>
    have h2 : t ρ1 = some (b, ρ') := h2
    exact ⟨B, P, ρ1, F1, _, ρ', rel1, by unfold sBool; rw [h2]; rfl, fun v F' H' rel' s' ok => k v F' H' rel' (s1.trans s') ok⟩
  | true =>
    have e := Option.some.inj h2
    injection e with e1 e2
    subst e1; subst e2
    exact k _ F1 H1 rel1 s1 (.bl true)
theorem bvNot {s : CS} (ha : EE X a (sBool s)) : EE X (.UnaryOp .Not a pos) (sBool (sNot s)) := by
  refine pe_imp (pe_not ha) fun σ H Q q => ?_
  obtain ⟨B, P, ρ, F, r, ρ', rel, hs, k⟩ := q
  obtain ⟨b, h0, rfl⟩ := bool_inv hs
  obtain ⟨⟨c, ρ1⟩, h1, h2⟩ := bindS h0
  have e := Option.some.inj h2
  injection e with e1 e2
  subst e1; subst e2
  exact ⟨B, P, ρ, F, .imm (.bool c), _, rel, by unfold sBool; rw [h1]; rfl, fun v F1 H1 rel1 s1 ok1 => ⟨c, (rel1.cur ok1 rfl).bool, k _ F1 H1 rel1 s1 (.bl _)⟩⟩
/-- .. as tests -/
theorem cw1A {s : CS} (ha : CC X a s) : CW X (.BoolOp .And [a] pos) s := pw_and1 ha
theorem cw1O {s : CS} (ha : CC X a s) : CW X (.BoolOp .Or [a] pos) s := pw_or1 ha
theorem cwAnd {s t : CS} {rest : List Expr} (ha : CC X a s) (hb : CW X (.BoolOp .And (b :: rest) pos) t) : CW X (.BoolOp .And (a :: b :: rest) pos) (sAnd s t) := by
  refine pw_imp (pw_and ha hb) fun σ H Q q => ?_
  obtain ⟨B, P, ρ, F, b, ρ', rel, hs, k⟩ := q
  obtain ⟨⟨c, ρ1⟩, h1, h2⟩ := bindS hs
  refine ⟨B, P, ρ, F, c, ρ1, rel, h1, fun F1 H1 rel1 s1 => ?_⟩
  cases c with
  | true => exact ⟨B, P, ρ1, F1, b, ρ', rel1, h2, fun F' H' rel' s' => k F' H' rel' (s1.trans s')⟩
  | false =>
    have e := Option.some.inj h2
    injection e with e1 e2
    subst e1; subst e2
    exact k F1 H1 rel1 s1
theorem cwOr {s t : CS} {rest : List Expr} (ha : CC X a s) (hb : CW X (.BoolOp .Or (b :: rest) pos) t) : CW X (.BoolOp .Or (a :: b :: rest) pos) (sOr s t) := by
  refine pw_imp (pw_or ha hb) fun σ H Q q => ?_
  obtain ⟨B, P, ρ, F, b, ρ', rel, hs, k⟩ := q
  obtain ⟨⟨c, ρ1⟩, h1, h2⟩ := bindS hs
  refine ⟨B, P, ρ, F, c, ρ1, rel, h1, fun F1 H1 rel1 s1 => ?_⟩
  cases c with
  | false => exact ⟨B, P, ρ1, F1, b, ρ', rel1, h2, fun F' H' rel' s' => k F' H' rel' (s1.trans s')⟩
  | true =>
    have e := Option.some.inj h2
    injection e with e1 e2
    subst e1; subst e2
    exact k F1 H1 rel1 s1
theorem cOf {s : CS} (h : CW X e s) : CC X e s := PW.pt h
theorem cNot {s : CS} (ha : CC X a s) : CC X (.UnaryOp .Not a pos) (sNot s) := by
  refine pt_imp (pt_not ha) fun σ H Q q => ?_
  obtain ⟨B, P, ρ, F, b, ρ', rel, hs, k⟩ := q
  obtain ⟨⟨c, ρ1⟩, h1, h2⟩ := bindS hs
  have e := Option.some.inj h2
  injection e with e1 e2
  subst e1; subst e2
  exact ⟨B, P, ρ, F, c, ρ1, rel, h1, fun F1 H1 rel1 s1 => k F1 H1 rel1 s1⟩
theorem eIf {s : CS} (hc : CC X c s) (ha : EE X a sa) (hb : EE X b sb) : EE X (.IfExp c a b pos) (sIf s sa sb) := by
  refine pe_imp (pe_ifExp hc ha hb) fun σ H Q q => ?_
  obtain ⟨B, P, ρ, F, r, ρ', rel, hs, k⟩ := q
  obtain ⟨⟨d, ρ1⟩, h1, h2⟩ := bindS hs
  refine ⟨B, P, ρ, F, d, ρ1, rel, h1, fun F1 H1 rel1 s1 => ?_⟩
  cases d with
  | true => exact ⟨B, P, ρ1, F1, r, ρ', rel1, h2, fun v F' H' rel' s' ok => k v F' H' rel' (s1.trans s') ok⟩
  | false => exact ⟨B, P, ρ1, F1, r, ρ', rel1, h2, fun v F' H' rel' s' ok => k v F' H' rel' (s1.trans s') ok⟩

/-! ### a <= b <= c -/
def gB (g : FB2) (x y : PyData) : Option Bool := match g x y with
  | some (.at (.bool b)) => some b
  | _ => none
def sCh (g g' : FB2) (sa sb sc : ES) : CS := fun ρ => (sa ρ).bind fun a => (sb a.2).bind fun b => (look b.2 a.1).bind fun x => (look b.2 b.1).bind fun y => (gB g x y).bind fun k =>
  if k = true then (sc b.2).bind fun c => (look c.2 b.1).bind fun y => (look c.2 c.1).bind fun z => (gB g' y z).bind fun k => some (k, c.2) else some (false, b.2)
theorem gB_inv {g : FB2} {x y : PyData} {b : Bool} (h : gB g x y = some b) : g x y = some (.at (.bool b)) := by
  unfold gB at h
  split at h
  · rename_i b' e
    have e' := Option.some.inj h
    subst e'; exact e
  · cases h
theorem chain_read {g g' : FB2} {σ : VS} {H : Hp} {Q : Bool → Hp → Prop} {Q' : VK} (q : tC' (sCh g g' sa sb sc) σ H Q) (hQ : ∀ b H', Q b H' → Q' (.bl b) H') : tChain (rB2 g) (rB2 g') (tE sa) (tE sb) (tE sc) σ H Q' := by
  obtain ⟨B, P, ρ, F, r, ρ', rel, hs, k⟩ := q
  obtain ⟨⟨ra, ρ1⟩, h1, hs⟩ := bindS hs
  obtain ⟨⟨rb, ρ2⟩, h2, hs⟩ := bindS hs
  obtain ⟨x, h3, hs⟩ := bindS hs
  obtain ⟨y, h4, hs⟩ := bindS hs
  obtain ⟨d, h5, hs⟩ := bindS hs
  refine two rel h1 h2 fun vx vy F2 H2 r2 s2 okx oky _ => ?_
  refine ⟨F2, x, y, _, r2.fh, r2.cur okx h3, r2.cur oky h4, gB_inv h5, fun v hv => ?_⟩
  cases hv
  refine ⟨d, rfl, ?_⟩
  cases d with
  | false =>
    have e := Option.some.inj hs
    injection e with e1 e2
    subst e1; subst e2
    exact hQ _ _ (k F2 H2 r2 s2)
  | true =>
    obtain ⟨⟨rc, ρ3⟩, g1, hs⟩ := bindS hs
    obtain ⟨y', g2, hs⟩ := bindS hs
    obtain ⟨z, g3, hs⟩ := bindS hs
    obtain ⟨d', g4, hs⟩ := bindS hs
    have e := Option.some.inj hs
    injection e with e1 e2
    subst e1; subst e2
    obtain ⟨P1, sP, r2', back⟩ := r2.hold oky
    refine ⟨B, P1, ρ2, F2, rc, _, r2', g1, fun vz F3 H3 r3 s3 ok3 => ?_⟩
    obtain ⟨r3', oky', ap⟩ := back _ F3 H3 r3 s3
    obtain ⟨ok3', _⟩ := ap rc vz ok3
    refine ⟨F3, y', z, _, r3'.fh, r3'.cur oky' g2, r3'.cur ok3' g3, gB_inv g4, fun v hv => ?_⟩
    cases hv
    exact hQ _ _ (k F3 H3 r3' (s2.trans s3))
theorem eChain {op op' : CmpOp} {g g' : FB2} (ho : OpR X (compareOp op) (rB2 g)) (ho' : OpR X (compareOp op') (rB2 g')) (ha : EE X a sa) (hb : EE X b sb) (hc : EE X c sc)
    (hm : lastMarks [op, op'] [b, c] = false := by with_unfolding_all rfl) : EE X (.Compare a [op, op'] [b, c] pos) (sBool (sCh g g' sa sb sc)) := by
  refine pe_imp (pe_chain ho ho' ha hb hc hm) fun σ H Q q => ?_
  obtain ⟨B, P, ρ, F, r, ρ', rel, hs, k⟩ := q
  obtain ⟨b, h1, rfl⟩ := bool_inv hs
  exact chain_read (Q := fun c H' => Q (.bl c) H') ⟨B, P, ρ, F, b, ρ', rel, h1, fun F' H' rel' s' => k _ F' H' rel' s' (.bl b)⟩ fun _ _ z => z
theorem cChain {op op' : CmpOp} {g g' : FB2} (ho : OpR X (compareOp op) (rB2 g)) (ho' : OpR X (compareOp op') (rB2 g')) (ha : EE X a sa) (hb : EE X b sb) (hc : EE X c sc)
    (hm : lastMarks [op, op'] [b, c] = false := by with_unfolding_all rfl) : CC X (.Compare a [op, op'] [b, c] pos) (sCh g g' sa sb sc) :=
  pt_imp (pt_chain ho ho' ha hb hc hm) fun σ H Q q => chain_read q fun _ _ z => ⟨_, rfl, z⟩

/-! ### tuples, lists -/
def sTup (sa : AS) : ES := fun ρ => (sa ρ).bind fun a => (fzAll a.1 a.2).bind fun b => if b.1.length ≤ 1000 then some (.imm (.tuple b.1), b.2) else none
def sLst (sa : AS) : ES := fun ρ => (sa ρ).bind fun a => (fzAll a.1 a.2).bind fun b => if b.1.length ≤ 1000 then some (.tmp (.lst b.1), b.2) else none
theorem le_size {n : Nat} (h : n ≤ 1000) : n ≤ sizeLine := Nat.le_of_lt (small1000 h)
theorem disp_inv {α : Type} {sa : AS} {ρ ρ' : Sl} {mk : List PyData → α} {r : α} (h : ((sa ρ).bind fun a => (fzAll a.1 a.2).bind fun b => if b.1.length ≤ 1000 then some (mk b.1, b.2) else none) = some (r, ρ')) :
    ∃ rs ρ1 ds, sa ρ = some (rs, ρ1) ∧ fzAll rs ρ1 = some (ds, ρ') ∧ ds.length ≤ 1000 ∧ r = mk ds := by
  obtain ⟨⟨rs, ρ1⟩, h1, h⟩ := bindS h
  obtain ⟨⟨ds, ρ2⟩, h2, h⟩ := bindS h
  dsimp only at h
  split at h
  · rename_i hl
    have e := Option.some.inj h
    injection e with e1 e2
    subst e1; subst e2
    exact ⟨rs, ρ1, ds, h1, h2, hl, rfl⟩
  · cases h
theorem eTup (ha : AA X es ss) {x1} : EE X (.Tuple es x1 pos) (sTup ss) := by
  refine pe_imp (pe_tup ha) fun σ H Q q => ?_
  obtain ⟨B, P, ρ, F, r, ρ', rel, hs, k⟩ := q
  obtain ⟨rs, ρ1, ds, h1, h2, hl, rfl⟩ := disp_inv (mk := fun l => R.imm (.tuple l)) hs
  refine ⟨B, P, ρ, F, rs, ρ1, rel, h1, fun vs F1 H1 rel1 s1 ok1 => ?_⟩
  obtain ⟨F2, rel2, s2, dn⟩ := rel1.fzAll ok1 h2
  refine ⟨by rw [dps_len dn]; exact le_size hl, fun p hp => ?_⟩
  exact k _ _ _ (rel2.newF hp) ((s1.trans s2).trans (same_new (rel2.fh.free hp))) (.tup (.inl upd_same) (dps_up (same_new (rel2.fh.free hp)) dn))
theorem eLst (ha : AA X es ss) : EE X (.List es pos) (sLst ss) := by
  refine pe_imp (pe_lst ha) fun σ H Q q => ?_
  obtain ⟨B, P, ρ, F, r, ρ', rel, hs, k⟩ := q
  obtain ⟨rs, ρ1, ds, h1, h2, hl, rfl⟩ := disp_inv (mk := fun l => R.tmp (.lst l)) hs
  refine ⟨B, P, ρ, F, rs, ρ1, rel, h1, fun vs F1 H1 rel1 s1 ok1 => ?_⟩
  obtain ⟨F2, rel2, s2, dn⟩ := rel1.fzAll ok1 h2
  refine ⟨by rw [dps_len dn]; exact le_size hl, fun p hp => ?_⟩
  exact k _ _ _ (rel2.new hp) (s1.trans s2) ⟨p, _, rfl, upd_same, dn, rel2.fh.free hp, rel2.ph.free hp, notOwn_new rel2 hp⟩

/-! ### calls of what is built in -/
theorem eBlt {x : Str} {id : String} {g : FB} {p : Pos} (hc : CallR X (.builtin id) (rB g)) (hm : X.mg x = none) (ha : AA X (e :: es) ss) (hg : Gl X x := by rfl) (hv : bootBuiltins x = some (.builtin id) := by decide +kernel) (hn : x ≠ "__name__" := by decide) (hd : (x == ("__debug__" : Str)) = false := by decide)
    (he : starEach (e :: es) X.env = (false, eval e X.env) :: starEach es X.env := by rfl) (hpl : (backTo pos (starEach es X.env)).any (·.1) = false := by rfl) : EE X (.Call (.Name x p) (e :: es) [] pos) (sBlt g ss) := by
  refine pe_imp (pe_callB hc hg hm hv ha (hn := hn) (hdb := hd) (he := he) (hpl := hpl)) fun σ H Q q => ?_
  obtain ⟨B, P, ρ, F, r, ρ', rel, hs, k⟩ := q
  obtain ⟨⟨rs, ρ1⟩, h1, hs⟩ := bindS hs
  obtain ⟨ds, h2, hs⟩ := bindS hs
  obtain ⟨rr, h3, hs⟩ := bindS hs
  have e := Option.some.inj hs
  injection e with e1 e2
  subst e1; subst e2
  exact ⟨B, P, ρ, F, rs, _, rel, h1, fun vs F1 H1 rel1 s1 ok1 => ⟨F1, ds, rr, rel1.fh, rel1.curAll ok1 h2, h3, rr_ok rel1 fun v F' H' r' s' ok => k v F' H' r' (s1.trans s') ok⟩⟩
theorem eTy {x : Str} {T : String} {g : FB} {p : Pos} (hc : CallR X (.type T) (rB g)) (hm : X.mg x = none) (ha : AA X (e :: es) ss) (hg : Gl X x := by rfl) (hv : bootBuiltins x = some (.type T) := by decide +kernel) (hn : x ≠ "__name__" := by decide) (hd : (x == ("__debug__" : Str)) = false := by decide)
    (he : starEach (e :: es) X.env = (false, eval e X.env) :: starEach es X.env := by rfl) (hpl : (backTo pos (starEach es X.env)).any (·.1) = false := by rfl) : EE X (.Call (.Name x p) (e :: es) [] pos) (sBlt g ss) := by
  refine pe_imp (pe_callTy hc hg hm hv ha (hn := hn) (hdb := hd) (he := he) (hpl := hpl)) fun σ H Q q => ?_
  obtain ⟨B, P, ρ, F, r, ρ', rel, hs, k⟩ := q
  obtain ⟨⟨rs, ρ1⟩, h1, hs⟩ := bindS hs
  obtain ⟨ds, h2, hs⟩ := bindS hs
  obtain ⟨rr, h3, hs⟩ := bindS hs
  have e := Option.some.inj hs
  injection e with e1 e2
  subst e1; subst e2
  exact ⟨B, P, ρ, F, rs, _, rel, h1, fun vs F1 H1 rel1 s1 ok1 => ⟨F1, ds, rr, rel1.fh, rel1.curAll ok1 h2, h3, rr_ok rel1 fun v F' H' r' s' ok => k v F' H' r' (s1.trans s') ok⟩⟩

/-! ### a[i], a[lo:hi] -/
theorem eIx {g : FB2} (hr : IxR X (rB2 g)) (ha : EE X a sa) (hb : EE X b sb) (hs : PlainIx b := by intro _ _; rfl) : EE X (.Subscript a b pos) (sOp g sa sb) := by
  refine pe_imp (pe_ix hr ha hb hs) fun σ H Q q => ?_
  obtain ⟨B, P, ρ, F, r, ρ', rel, hs, k⟩ := q
  obtain ⟨⟨ra, ρ1⟩, h1, hs⟩ := bindS hs
  obtain ⟨⟨rb, ρ2⟩, h2, hs⟩ := bindS hs
  obtain ⟨x, h3, hs⟩ := bindS hs
  obtain ⟨y, h4, hs⟩ := bindS hs
  obtain ⟨rr, h5, hs⟩ := bindS hs
  have e := Option.some.inj hs
  injection e with e1 e2
  subst e1; subst e2
  exact two rel h1 h2 fun vx vy F2 H2 r2 s2 okx oky _ => ⟨F2, x, y, rr, r2.fh, r2.cur okx h3, r2.cur oky h4, h5, rr_ok r2 fun v F' H' r' s' ok => k v F' H' r' (s2.trans s') ok⟩
/-- a bound of a slice -/
abbrev OS := Sl → Option (Option Int × Sl)
def tO (s : OS) : TO := fun σ H Q => ∃ B P ρ F o ρ', Rel B P σ ρ F H ∧ s ρ = some (o, ρ') ∧ ∀ F' H', Rel B P σ ρ' F' H' → Same F F' → Q o H'
def OO (X : Cx) (e : Option Expr) (s : OS) : Prop := PO X e (tO s)
def sNo : OS := fun ρ => some (none, ρ)
def sPart (se : ES) : OS := fun ρ => (se ρ).bind fun a => match look a.2 a.1 with
  | some (.int i) => some (some i, a.2)
  | _ => none
theorem po_imp {e : Option Expr} {t t' : TO} (h : PO X e t) (i : ∀ σ H Q, t' σ H Q → t σ H Q) : PO X e t' := ⟨fun pins s σ H Q I q => h.run pins s σ H Q I (i σ H Q q)⟩
theorem oNo : OO X none sNo := by
  refine po_imp po_none fun σ H Q q => ?_
  obtain ⟨B, P, ρ, F, r, ρ', rel, hs, k⟩ := q
  have e := Option.some.inj hs
  injection e with e1 e2
  subst e1; subst e2
  exact k F H rel (Same.refl F)
theorem oPart (h : EE X e se) : OO X (some e) (sPart se) := by
  refine po_imp (po_some h) fun σ H Q q => ?_
  obtain ⟨B, P, ρ, F, r, ρ', rel, hs, k⟩ := q
  obtain ⟨⟨ra, ρ1⟩, h1, hs⟩ := bindS hs
  dsimp only at hs
  split at hs
  · rename_i i hl
    have e := Option.some.inj hs
    injection e with e1 e2
    subst e1; subst e2
    exact ⟨B, P, ρ, F, ra, _, rel, h1, fun v F1 H1 rel1 s1 ok1 => ⟨i, (rel1.cur ok1 hl).int, k F1 H1 rel1 s1⟩⟩
  · cases hs
abbrev FS := PyData → Option Int → Option Int → Option RR
def rSl (g : FS) : V → Option Int → Option Int → Hp → VK → Prop := fun x lo hi H Q => ∃ F d rr, Same F H ∧ Cur F H x d ∧ g d lo hi = some rr ∧ RRk F H rr Q
def sSl (g : FS) (se : ES) (sl sh : OS) : ES := fun ρ => (se ρ).bind fun a => (sl a.2).bind fun l => (sh l.2).bind fun u => (look u.2 a.1).bind fun d => (g d l.1 u.1).bind fun rr => some (rr.toR, u.2)
theorem eSl {g : FS} {lo hi : Option Expr} {sl sh : OS} {p2 : Pos} (hr : SlR X (rSl g)) (he : EE X e se) (hl : OO X lo sl) (hu : OO X hi sh) : EE X (.Subscript e (.Slice lo hi none p2) pos) (sSl g se sl sh) := by
  refine pe_imp (pe_slice hr he hl hu) fun σ H Q q => ?_
  obtain ⟨B, P, ρ, F, r, ρ', rel, hs, k⟩ := q
  obtain ⟨⟨ra, ρ1⟩, h1, hs⟩ := bindS hs
  obtain ⟨⟨l, ρ2⟩, h2, hs⟩ := bindS hs
  obtain ⟨⟨u, ρ3⟩, h3, hs⟩ := bindS hs
  obtain ⟨d, h4, hs⟩ := bindS hs
  obtain ⟨rr, h5, hs⟩ := bindS hs
  have e := Option.some.inj hs
  injection e with e1 e2
  subst e1; subst e2
  refine ⟨B, P, ρ, F, ra, ρ1, rel, h1, fun x F1 H1 rel1 s1 ok1 => ?_⟩
  obtain ⟨P1, sP, rel1', back⟩ := rel1.hold ok1
  refine ⟨B, P1, ρ1, F1, l, ρ2, rel1', h2, fun F2 H2 rel2 s2 => ?_⟩
  refine ⟨B, P1, ρ2, F2, u, _, rel2, h3, fun F3 H3 rel3 s3 => ?_⟩
  obtain ⟨r3, okx, _⟩ := back _ F3 H3 rel3 (s2.trans s3)
  exact ⟨F3, d, rr, r3.fh, r3.cur okx h4, h5, rr_ok r3 fun v F' H' r' s' ok => k v F' H' r' ((s1.trans (s2.trans s3)).trans s') ok⟩
end
end Sd


set_option Elab.async false
set_option linter.all false
set_option maxRecDepth 100000
/-! Sd3: statements. -/
namespace Sd
open PySem PySem.Spec PyProof.Rows L2

inductive Fl where
  | nx | bk | ct
  | rt (r : R)
abbrev SS := Sl → Option (Fl × Sl)
def FlK (P : Hp) (σ : VS) (ρ : Sl) (F H : Hp) (D : Ends) : Fl → Prop
  | .nx => D.nx σ H
  | .bk => D.bk σ H
  | .ct => D.ct σ H
  | .rt r => ∀ v, ROk P σ ρ F H r v → D.rt v H
def tS (s : SS) : TS := fun D σ H => ∃ B P ρ F fl ρ', Rel B P σ ρ F H ∧ s ρ = some (fl, ρ') ∧ ∀ σ' F' H', Rel B P σ' ρ' F' H' → Same F F' → FlK P σ' ρ' F' H' D fl
def S1 (X : Cx) (st : Stmt) (s : SS) : Prop := PS X st (tS s)
def SB (X : Cx) (st : List Stmt) (s : SS) : Prop := PSs X st (tS s)

/-! ### storing into a slot -/
def canW : Option Slot → Bool
  | some .emp => true
  | some (.val _) => true
  | some (.own false _) => true
  | _ => false
@[simp] def putR (i : Nat) : R → Sl → Option Sl
  | .imm d, ρ => if canW ρ[i]? = true then some (ρ.set i (.val d)) else none
  | .tmp o, ρ => if canW ρ[i]? = true then some (ρ.set i (.own false o)) else none
  | .pk _, _ => none
@[simp] def nrm : R → Sl → Option (R × Sl)
  | .imm d, ρ => some (.imm d, ρ)
  | .tmp o, ρ => some (.tmp o, ρ)
  | .pk i, ρ => (fzS i ρ ρ[i]?).bind fun a => some (.imm a.1, a.2)
@[simp] def giveS (i : Nat) (ρ : Sl) : Option Slot → Option (R × Sl)
  | some (.own false o) => some (.tmp o, ρ.set i .emp)
  | s => (fzS i ρ s).bind fun a => some (.imm a.1, a.2)
@[simp] def give : R → Sl → Option (R × Sl)
  | .imm d, ρ => some (.imm d, ρ)
  | .tmp o, ρ => some (.tmp o, ρ)
  | .pk i, ρ => giveS i ρ ρ[i]?
section
variable {B : VS} {P P1 : Hp} {σ : VS} {ρ ρ' ρ1 ρ2 : Sl} {F F1 F2 H H1 H2 : Hp} {a p : Addr} {o : HO} {i : Nat} {r r' : R} {v : V}
/-- the slot i gets what is said; nothing else changes -/
theorem Rel.setS {s : Slot} (rel : Rel B P σ ρ F H) (cw : canW ρ[i]? = true) (hs : ROk P σ ρ F H r v) (h : (∃ d, r = .imm d ∧ s = .val d) ∨ (∃ o, r = .tmp o ∧ s = .own false o)) : Rel B P (σ.set i (some v)) (ρ.set i s) F H := by
  have hi : i < ρ.length := by
    cases e : ρ[i]? with
    | none => rw [e] at cw; cases cw
    | some s => exact lt_of_some e
  have hi' : i < σ.length := by rw [← rel.len]; exact hi
  have eσ : (σ.set i (some v))[i]? = some (some v) := List.getElem?_set_self hi'
  have eρ : (ρ.set i s)[i]? = some s := List.getElem?_set_self hi
  have nσ : ∀ j, j ≠ i → (σ.set i (some v))[j]? = σ[j]? := fun j hj => List.getElem?_set_ne (Ne.symm hj)
  have nρ : ∀ j, j ≠ i → (ρ.set i s)[j]? = ρ[j]? := fun j hj => List.getElem?_set_ne (Ne.symm hj)
  refine ⟨by rw [List.length_set, List.length_set]; exact rel.len, rel.fh, rel.ph, rel.fp, fun j d e => ?_, fun j b o e => ?_, fun j k a b b' o o' e1 e2 s1 s2 => ?_, fun j hj => ?_⟩
  · by_cases hj : j = i
    · subst hj
      rw [eρ] at e; rw [eσ]
      rcases h with ⟨d', rfl, rfl⟩ | ⟨o, rfl, rfl⟩
      · rcases e with e | e
        · cases e; exact ⟨v, rfl, hs⟩
        · cases e
      · rcases e with e | e <;> cases e
    · rw [nρ j hj] at e; rw [nσ j hj]; exact rel.val j d e
  · by_cases hj : j = i
    · subst hj
      rw [eρ] at e; rw [eσ]
      rcases h with ⟨d', rfl, rfl⟩ | ⟨o', rfl, rfl⟩
      · cases e
      · cases e
        obtain ⟨a, ho, rfl, h2, h3, h4, h5, _⟩ := hs
        exact ⟨a, ho, rfl, h2, h3, h4, h5⟩
    · rw [nρ j hj] at e; rw [nσ j hj]; exact rel.own j b o e
  · have one : ∀ (j k : Nat) (b b' : Bool) (o o' : Ob), j = i → k ≠ i → (ρ.set i s)[j]? = some (.own b o) → ρ[k]? = some (.own b' o') → (σ.set i (some v))[j]? = some (some (.ref a)) → σ[k]? = some (some (.ref a)) → False := by
      clear e1 e2 s1 s2
      rintro m n c c' u u' rfl hk f1 f2 t1 t2
      rw [eρ] at f1; rw [eσ] at t1
      rcases h with ⟨d', rfl, rfl⟩ | ⟨o'', rfl, rfl⟩
      · cases f1
      · obtain ⟨c0, ho, rfl, _, _, _, _, no⟩ := hs
        cases t1
        exact no n c' u' f2 t2
    by_cases hj : j = i
    · by_cases hk : k = i
      · rw [hj, hk]
      · rw [nρ k hk] at e2; rw [nσ k hk] at s2
        exact (one j k b b' o o' hj hk e1 e2 s1 s2).elim
    · by_cases hk : k = i
      · rw [nρ j hj] at e1; rw [nσ j hj] at s1
        exact (one k j b' b o' o hk hj e2 e1 s2 s1).elim
      · rw [nρ j hj] at e1; rw [nσ j hj] at s1
        rw [nρ k hk] at e2; rw [nσ k hk] at s2
        exact rel.inj j k a b b' o o' e1 e2 s1 s2
  · by_cases hji : j = i
    · subst hji
      rw [eρ] at hj
      rcases h with ⟨d', rfl, rfl⟩ | ⟨o'', rfl, rfl⟩
      · rcases hj with ⟨_, z⟩ | ⟨_, z⟩ <;> cases z
      · rcases hj with ⟨_, z⟩ | ⟨_, z⟩ <;> cases z
    · rw [nρ j hji] at hj; rw [nσ j hji]; exact rel.bor j hj
theorem ROk.setS {s : Slot} {v' : V} (rel : Rel B P σ ρ F H) (cw : canW ρ[i]? = true) (hs : ROk P σ ρ F H r v) (h : (∃ d, r = .imm d ∧ s = .val d) ∨ (∃ o, r = .tmp o ∧ s = .own false o)) (ok : ROk P σ ρ F H r' v') (ap : Apart r r' v v') (np : ∀ j, r' ≠ .pk j) :
    ROk P (σ.set i (some v)) (ρ.set i s) F H r' v' := by
  have hi : i < ρ.length := by
    cases e : ρ[i]? with
    | none => rw [e] at cw; cases cw
    | some s => exact lt_of_some e
  have hi' : i < σ.length := by rw [← rel.len]; exact hi
  cases r' with
  | imm d => exact ok
  | pk j => exact absurd rfl (np j)
  | tmp o' =>
    obtain ⟨a, ho, rfl, h2, h3, h4, h5, no⟩ := ok
    refine ⟨a, ho, rfl, h2, h3, h4, h5, fun j b o e q => ?_⟩
    by_cases hj : j = i
    · subst hj
      rw [List.getElem?_set_self hi] at e
      rw [List.getElem?_set_self hi'] at q
      cases q
      rcases h with ⟨d', rfl, rfl⟩ | ⟨o'', rfl, rfl⟩
      · cases e
      · exact ap rfl
    · rw [List.getElem?_set_ne (Ne.symm hj)] at e
      rw [List.getElem?_set_ne (Ne.symm hj)] at q
      exact no j b o e q
theorem put_inv (h : putR i r ρ = some ρ') : canW ρ[i]? = true ∧ ∃ s, ρ' = ρ.set i s ∧ ((∃ d, r = .imm d ∧ s = .val d) ∨ (∃ o, r = .tmp o ∧ s = .own false o)) := by
  cases r with
  | imm d =>
    have h : (if canW ρ[i]? = true then some (ρ.set i (.val d)) else none) = some ρ' := h
    split at h
    · rename_i hc
      exact ⟨hc, _, (Option.some.inj h).symm, .inl ⟨d, rfl, rfl⟩⟩
    · cases h
  | tmp o =>
    have h : (if canW ρ[i]? = true then some (ρ.set i (.own false o)) else none) = some ρ' := h
    split at h
    · rename_i hc
      exact ⟨hc, _, (Option.some.inj h).symm, .inr ⟨o, rfl, rfl⟩⟩
    · cases h
  | pk j => cases h
theorem Rel.put (rel : Rel B P σ ρ F H) (ok : ROk P σ ρ F H r v) (h : putR i r ρ = some ρ') :
    Rel B P (σ.set i (some v)) ρ' F H ∧ ∀ r' v', ROk P σ ρ F H r' v' → Apart r r' v v' → (∀ j, r' ≠ .pk j) → ROk P (σ.set i (some v)) ρ' F H r' v' := by
  obtain ⟨cw, s, rfl, hs⟩ := put_inv h
  exact ⟨rel.setS cw ok hs, fun r' v' ok' ap np => ROk.setS rel cw ok hs ok' ap np⟩
theorem Rel.nrm (rel : Rel B P σ ρ F H) (ok : ROk P σ ρ F H r v) (h : nrm r ρ = some (r', ρ')) :
    ∃ F', Rel B P σ ρ' F' H ∧ Same F F' ∧ ROk P σ ρ' F' H r' v ∧ (∀ j, r' ≠ .pk j) ∧ ∀ r2 v2, ROk P σ ρ F H r2 v2 → Apart r r2 v v2 → ROk P σ ρ' F' H r2 v2 ∧ Apart r' r2 v v2 := by
  cases r with
  | imm d =>
    have e := Option.some.inj h
    injection e with e1 e2
    subst e1; subst e2
    exact ⟨F, rel, Same.refl F, ok, (fun j z => nomatch z), fun r2 v2 h ap => ⟨h, ap⟩⟩
  | tmp o =>
    have e := Option.some.inj h
    injection e with e1 e2
    subst e1; subst e2
    exact ⟨F, rel, Same.refl F, ok, (fun j z => nomatch z), fun r2 v2 h ap => ⟨h, ap⟩⟩
  | pk i =>
    obtain ⟨⟨d, ρ1⟩, h1, h⟩ := bindS h
    have e := Option.some.inj h
    injection e with e1 e2
    subst e1; subst e2
    obtain ⟨F', rel', s', dn, more⟩ := rel.fz ok (show Sd.fz (.pk i) ρ = some (d, ρ1) from h1)
    exact ⟨F', rel', s', dn, (fun j z => nomatch z), fun r2 v2 h ap => ⟨more r2 v2 h trivial, trivial⟩⟩
/-- a slot that may be left is left -/
theorem Rel.leave {ob : Ob} (rel : Rel B P σ ρ F H) (e : ρ[i]? = some (.own false ob)) (ok : σ[i]? = some (some v)) : Rel B P σ (ρ.set i .emp) F H ∧ ROk P σ (ρ.set i .emp) F H (.tmp ob) v := by
  have nw : ∀ (j : Nat) s', (ρ.set i Slot.emp)[j]? = some s' → s' ≠ .emp → j ≠ i ∧ ρ[j]? = some s' := by
    intro j s' ej ns
    by_cases hj : j = i
    · subst hj
      rw [list_set_self e] at ej
      exact absurd (Option.some.inj ej).symm ns
    · rw [List.getElem?_set_ne (Ne.symm hj)] at ej
      exact ⟨hj, ej⟩
  obtain ⟨a, ho, h1, h2, h3, h4, h5⟩ := rel.own i _ _ e
  rw [ok] at h1; cases h1
  refine ⟨⟨by rw [List.length_set]; exact rel.len, rel.fh, rel.ph, rel.fp, fun j d e => rel.val j d ?_, fun j b o e => rel.own j b o (nw j _ e (fun z => nomatch z)).2,
    fun j k c b b' o o' e1 e2 => rel.inj j k c b b' o o' (nw j _ e1 (fun z => nomatch z)).2 (nw k _ e2 (fun z => nomatch z)).2, fun j hj => rel.bor j ?_⟩,
    ⟨a, ho, rfl, h2, h3, h4, h5, fun j b o' ej q => ?_⟩⟩
  · rcases e with e | e
    · exact .inl (nw j _ e (fun z => nomatch z)).2
    · exact .inr (nw j _ e (fun z => nomatch z)).2
  · rcases hj with ⟨o, z⟩ | ⟨d, z⟩
    · exact .inl ⟨o, (nw j _ z (fun z => nomatch z)).2⟩
    · exact .inr ⟨d, (nw j _ z (fun z => nomatch z)).2⟩
  · obtain ⟨hj, ej⟩ := nw j _ ej (fun z => nomatch z)
    exact hj (rel.inj j i a b false o' ob ej e q ok)
theorem Rel.give (rel : Rel B P σ ρ F H) (ok : ROk P σ ρ F H r v) (h : give r ρ = some (r', ρ')) : ∃ F', Rel B P σ ρ' F' H ∧ Same F F' ∧ ROk P σ ρ' F' H r' v := by
  cases r with
  | imm d =>
    have e := Option.some.inj h
    injection e with e1 e2
    subst e1; subst e2
    exact ⟨F, rel, Same.refl F, ok⟩
  | tmp o =>
    have e := Option.some.inj h
    injection e with e1 e2
    subst e1; subst e2
    exact ⟨F, rel, Same.refl F, ok⟩
  | pk i =>
    have h : giveS i ρ ρ[i]? = some (r', ρ') := h
    have other : ∀ s, ρ[i]? = s → ((fzS i ρ s).bind fun a => some (R.imm a.1, a.2)) = some (r', ρ') → ∃ F', Rel B P σ ρ' F' H ∧ Same F F' ∧ ROk P σ ρ' F' H r' v := by
      rintro s rfl h
      obtain ⟨⟨d, ρ1⟩, h1, h⟩ := bindS h
      have e := Option.some.inj h
      injection e with e1 e2
      subst e1; subst e2
      obtain ⟨F', rel', s', dn, more⟩ := rel.fz ok (show Sd.fz (.pk i) ρ = some (d, ρ1) from h1)
      exact ⟨F', rel', s', dn⟩
    cases e : ρ[i]? with
    | none => rw [e] at h; exact other _ e h
    | some s =>
      rw [e] at h
      cases s with
      | emp => exact other _ e h
      | val d => exact other _ e h
      | frz d => exact other _ e h
      | own b o =>
        cases b with
        | true => exact other _ e h
        | false =>
          have e' := Option.some.inj h
          injection e' with e1 e2
          subst e1; subst e2
          obtain ⟨g1, g2⟩ := rel.leave e ok
          exact ⟨F, g1, Same.refl F, g2⟩
end

/-! ### blocks, small statements -/
def sSeq (s t : SS) : SS := fun ρ => (s ρ).bind fun a => match a.1 with
  | .nx => t a.2
  | fl => some (fl, a.2)
def sSkip : SS := fun ρ => some (.nx, ρ)
def sStop : SS := fun _ => none
def sDrop (se : ES) : SS := fun ρ => (se ρ).bind fun a => some (.nx, a.2)
def sRet (se : ES) : SS := fun ρ => (se ρ).bind fun a => (give a.1 a.2).bind fun b => some (.rt b.1, b.2)
def sIfS (sc : CS) (s t : SS) : SS := fun ρ => (sc ρ).bind fun c => if c.1 = true then s c.2 else t c.2
def sSet (i : Nat) (se : ES) : SS := fun ρ => (se ρ).bind fun a => (nrm a.1 a.2).bind fun b => (putR i b.1 b.2).bind fun ρ3 => some (.nx, ρ3)
section
variable {X : Cx} {st : Stmt} {rest body : List Stmt} {s t : SS} {a b c e : Expr} {es : List Expr} {sa sb sc se : ES} {ss : AS} {pos : Pos}
theorem FlK.end {P : Hp} {σ : VS} {ρ : Sl} {F H : Hp} {D : Ends} {n : VS → Hp → Prop} {fl : Fl} (h : FlK P σ ρ F H D fl) (hn : fl ≠ .nx) : FlK P σ ρ F H { D with nx := n } fl := by
  cases fl with
  | nx => exact absurd rfl hn
  | _ => exact h
theorem bNil : SB X [] sSkip := by
  refine pss_imp pss_nil fun D σ H q => ?_
  obtain ⟨B, P, ρ, F, fl, ρ', rel, hs, k⟩ := q
  have e := Option.some.inj hs
  injection e with e1 e2
  subst e1; subst e2
  exact k σ F H rel (Same.refl F)
theorem bCons (h1 : S1 X st s) (h2 : SB X rest t) : SB X (st :: rest) (sSeq s t) := by
  refine pss_imp (pss_cons h1 h2) fun D σ H q => ?_
  obtain ⟨B, P, ρ, F, fl, ρ', rel, hs, k⟩ := q
  obtain ⟨⟨fl1, ρ1⟩, h1, hs⟩ := bindS hs
  refine ⟨B, P, ρ, F, fl1, ρ1, rel, h1, fun σ1 F1 H1 rel1 s1 => ?_⟩
  cases fl1 with
  | nx => exact ⟨B, P, ρ1, F1, fl, ρ', rel1, hs, fun σ' F' H' rel' s' => k σ' F' H' rel' (s1.trans s')⟩
  | bk =>
    have e := Option.some.inj hs
    injection e with e1 e2
    subst e1; subst e2
    exact k σ1 F1 H1 rel1 s1
  | ct =>
    have e := Option.some.inj hs
    injection e with e1 e2
    subst e1; subst e2
    exact k σ1 F1 H1 rel1 s1
  | rt r =>
    have e := Option.some.inj hs
    injection e with e1 e2
    subst e1; subst e2
    exact k σ1 F1 H1 rel1 s1
theorem bOne (h1 : S1 X st s) : SB X [st] s := pss_one h1
theorem stStop : S1 X st sStop := ps_imp ps_never fun D σ H q => by
  obtain ⟨B, P, ρ, F, fl, ρ', rel, hs, k⟩ := q
  cases hs
theorem stPass : S1 X (.Pass pos) sSkip := ps_imp ps_pass fun D σ H q => by
  obtain ⟨B, P, ρ, F, fl, ρ', rel, hs, k⟩ := q
  have e := Option.some.inj hs
  injection e with e1 e2
  subst e1; subst e2
  exact k σ F H rel (Same.refl F)
def sBrk : SS := fun ρ => some (.bk, ρ)
def sCnt : SS := fun ρ => some (.ct, ρ)
theorem stBreak : S1 X (.Break pos) sBrk := ps_imp ps_break fun D σ H q => by
  obtain ⟨B, P, ρ, F, fl, ρ', rel, hs, k⟩ := q
  have e := Option.some.inj hs
  injection e with e1 e2
  subst e1; subst e2
  exact k σ F H rel (Same.refl F)
theorem stCont : S1 X (.Continue pos) sCnt := ps_imp ps_continue fun D σ H q => by
  obtain ⟨B, P, ρ, F, fl, ρ', rel, hs, k⟩ := q
  have e := Option.some.inj hs
  injection e with e1 e2
  subst e1; subst e2
  exact k σ F H rel (Same.refl F)
theorem stExpr (he : EE X e se) (hs : swapsWith e none pos.line X.env = pure false := by rfl) : S1 X (.Expr e pos) (sDrop se) := by
  refine ps_imp (ps_expr he hs) fun D σ H q => ?_
  obtain ⟨B, P, ρ, F, fl, ρ', rel, hs, k⟩ := q
  obtain ⟨⟨r, ρ1⟩, h1, hs⟩ := bindS hs
  have e := Option.some.inj hs
  injection e with e1 e2
  subst e1; subst e2
  exact ⟨B, P, ρ, F, r, _, rel, h1, fun v F1 H1 rel1 s1 _ => k σ F1 H1 rel1 s1⟩
theorem stRet (he : EE X e se) : S1 X (.Return (some e) pos) (sRet se) := by
  refine ps_imp (ps_ret he) fun D σ H q => ?_
  obtain ⟨B, P, ρ, F, fl, ρ', rel, hs, k⟩ := q
  obtain ⟨⟨r, ρ1⟩, h1, hs⟩ := bindS hs
  obtain ⟨⟨r', ρ2⟩, h2, hs⟩ := bindS hs
  have e := Option.some.inj hs
  injection e with e1 e2
  subst e1; subst e2
  refine ⟨B, P, ρ, F, r, ρ1, rel, h1, fun v F1 H1 rel1 s1 ok1 => ?_⟩
  obtain ⟨F2, rel2, s2, ok2⟩ := rel1.give ok1 h2
  exact k σ F2 H1 rel2 (s1.trans s2) v ok2
theorem stIf {sc : CS} (hc : CC X c sc) (ha : SB X body s) (hb : SB X rest t) : S1 X (.If c body rest pos) (sIfS sc s t) := by
  refine ps_imp (ps_if hc ha hb) fun D σ H q => ?_
  obtain ⟨B, P, ρ, F, fl, ρ', rel, hs, k⟩ := q
  obtain ⟨⟨d, ρ1⟩, h1, h2⟩ := bindS hs
  refine ⟨B, P, ρ, F, d, ρ1, rel, h1, fun F1 H1 rel1 s1 => ?_⟩
  cases d with
  | true => exact ⟨B, P, ρ1, F1, fl, ρ', rel1, h2, fun σ' F' H' rel' s' => k σ' F' H' rel' (s1.trans s')⟩
  | false => exact ⟨B, P, ρ1, F1, fl, ρ', rel1, h2, fun σ' F' H' rel' s' => k σ' F' H' rel' (s1.trans s')⟩
theorem asg_read {i : Nat} {t : TE} (im : ∀ σ H Q, tE se σ H Q → t σ H Q) {D : Ends} {σ : VS} {H : Hp} (q : tS (sSet i se) D σ H) : tAsg t (gName i) D σ H := by
  obtain ⟨B, P, ρ, F, fl, ρ', rel, hs, k⟩ := q
  obtain ⟨⟨r, ρ1⟩, h1, hs⟩ := bindS hs
  obtain ⟨⟨r', ρ2⟩, h2, hs⟩ := bindS hs
  obtain ⟨ρ3, h3, hs⟩ := bindS hs
  have e := Option.some.inj hs
  injection e with e1 e2
  subst e1; subst e2
  refine im σ H _ ⟨B, P, ρ, F, r, ρ1, rel, h1, fun v F1 H1 rel1 s1 ok1 => ?_⟩
  obtain ⟨F2, rel2, s2, ok2, _, _⟩ := rel1.nrm ok1 h2
  exact k _ F2 H1 (rel2.put ok2 h3).1 (s1.trans s2)
theorem stSet (i : Nat) {x : Str} {pos' : Pos} (hN : X.N.Nodup) (he : EE X e se) (hi : X.N[i]? = some x := by rfl) (hx : Loc X.env.scope x := by first | exact Or.inl rfl | exact Or.inr rfl) (hs : swapsWith e (some (.Name x pos')) pos.line X.env = pure false := by rfl)
    (hf : X.fn x = true ∨ X.env.scope.names.lookup x = some .local := by first | exact .inl rfl | exact .inr rfl | assumption) : S1 X (.Assign [.Name x pos'] e pos) (sSet i se) :=
  ps_imp (ps_set hN hi hx he hs hf) fun D σ H q => asg_read (fun _ _ _ z => z) q

/-! ### a, b = x, y -/
@[simp] def nrmAll : List R → Sl → Option (List R × Sl)
  | [], ρ => some ([], ρ)
  | r :: rs, ρ => (nrm r ρ).bind fun a => (nrmAll rs a.2).bind fun b => some (a.1 :: b.1, b.2)
theorem AOk.get {P : Hp} {σ : VS} {ρ : Sl} {F H : Hp} : ∀ {rs : List R} {vs : List V} (j : Nat) {r : R} {v : V}, AOk P σ ρ F H rs vs → rs[j]? = some r → vs[j]? = some v → ROk P σ ρ F H r v
  | _, _, _, _, _, .nil, e, _ => by simp at e
  | _, _, 0, _, _, .cons h _ _, e1, e2 => by
    have e1 := Option.some.inj e1
    have e2 := Option.some.inj e2
    subst e1; subst e2
    exact h
  | _, _, j + 1, _, _, .cons _ h _, e1, e2 => AOk.get j h e1 e2
def NoPk (rs : List R) : Prop := ∀ r ∈ rs, ∀ j, r ≠ .pk j
theorem Rel.nrmAll {B : VS} {P : Hp} {σ : VS} {H : Hp} : ∀ {rs : List R} {vs : List V} {rs' : List R} {ρ ρ' : Sl} {F : Hp}, Rel B P σ ρ F H → AOk P σ ρ F H rs vs → nrmAll rs ρ = some (rs', ρ') →
    ∃ F', Rel B P σ ρ' F' H ∧ Same F F' ∧ AOk P σ ρ' F' H rs' vs ∧ NoPk rs' ∧ ∀ r2 v2, ROk P σ ρ F H r2 v2 → (∀ (j : Nat) (r' : R) (v' : V), rs[j]? = some r' → vs[j]? = some v' → Apart r' r2 v' v2) → ROk P σ ρ' F' H r2 v2 ∧ (∀ (j : Nat) (r' : R) (v' : V), rs'[j]? = some r' → vs[j]? = some v' → Apart r' r2 v' v2)
  | _, _, _, _, _, F, rel, .nil, h => by
    have e := Option.some.inj h
    injection e with e1 e2
    subst e1; subst e2
    exact ⟨F, rel, Same.refl F, .nil, (fun _ z => nomatch z), fun r2 v2 h _ => ⟨h, fun j r' v' e => by simp at e⟩⟩
  | _, _, _, ρ0, _, F, rel, .cons (r := r) (v := v) (rs := rs) (vs := vs) ok oks ap, h => by
    obtain ⟨⟨r', ρ1⟩, h1, h⟩ := bindS h
    obtain ⟨⟨rs', ρ2⟩, h2, h⟩ := bindS h
    have e := Option.some.inj h
    injection e with e1 e2
    subst e1; subst e2
    obtain ⟨F1, rel1, s1, ok1, np, more⟩ := rel.nrm ok h1
    have all : ∀ {rs : List R} {vs : List V}, AOk P σ ρ0 F H rs vs → (∀ (j : Nat) (r2 : R) (v2 : V), rs[j]? = some r2 → vs[j]? = some v2 → Apart r r2 v v2) → AOk P σ ρ1 F1 H rs vs := by
      intro rs vs h
      induction h with
      | nil => exact fun _ => .nil
      | cons h1 h2 h3 ih => exact fun ap => .cons (more _ _ h1 (ap 0 _ _ rfl rfl)).1 (ih fun j r' v' e1 e2 => ap (j + 1) r' v' e1 e2) h3
    obtain ⟨F2, rel2, s2, oks2, nps, more2⟩ := Rel.nrmAll rel1 (all oks ap) h2
    have sym : ∀ {r r2 : R} {v v2 : V}, Apart r r2 v v2 → Apart r2 r v2 v := by
      intro r r2 v v2 h
      cases r <;> cases r2 <;> first | trivial | exact fun z => h z.symm
    have apr' : ∀ (j : Nat) (r2 : R) (v2 : V), rs[j]? = some r2 → vs[j]? = some v2 → Apart r' r2 v v2 := fun j r2 v2 e1 e2 => by
      have okj : ROk P σ ρ0 F H r2 v2 := oks.get j e1 e2
      exact (more r2 v2 okj (ap j r2 v2 e1 e2)).2
    obtain ⟨okr, apr⟩ := more2 r' v ok1 fun j r2 v2 e1 e2 => sym (apr' j r2 v2 e1 e2)
    refine ⟨F2, rel2, s1.trans s2, .cons okr oks2 fun j r2 v2 e1 e2 => sym (apr j r2 v2 e1 e2), fun x hx => ?_, fun r2 v2 h2 hap => ?_⟩
    · rcases List.mem_cons.mp hx with rfl | hx
      · exact np
      · exact nps x hx
    · obtain ⟨k1, k2⟩ := more r2 v2 h2 (hap 0 _ _ rfl rfl)
      obtain ⟨k3, k4⟩ := more2 r2 v2 k1 fun j r3 v3 e1 e2 => hap (j + 1) r3 v3 e1 e2
      refine ⟨k3, fun j r3 v3 e1 e2 => ?_⟩
      cases j with
      | zero =>
        have e1 := Option.some.inj e1
        have e2 := Option.some.inj e2
        subst e1; subst e2
        exact k2
      | succ j => exact k4 j r3 v3 e1 e2
@[simp] def putAll : List Nat → List R → Sl → Option Sl
  | [], [], ρ => some ρ
  | i :: is, r :: rs, ρ => (putR i r ρ).bind fun ρ1 => putAll is rs ρ1
  | _, _, _ => none
def setV : List Nat → List V → VS → VS
  | i :: is, v :: vs, σ => setV is vs (σ.set i (some v))
  | _, _, σ => σ
theorem Rel.putAll {B : VS} {P : Hp} {F H : Hp} : ∀ {is : List Nat} {rs : List R} {vs : List V} {σ : VS} {ρ ρ' : Sl}, Rel B P σ ρ F H → AOk P σ ρ F H rs vs → NoPk rs → putAll is rs ρ = some ρ' → Rel B P (setV is vs σ) ρ' F H ∧ is.length = vs.length
  | [], _, _, _, _, _, rel, .nil, _, h => by
    have e := Option.some.inj h
    subst e
    exact ⟨rel, rfl⟩
  | [], _, _, _, _, _, rel, .cons _ _ _, _, h => by cases h
  | _ :: _, _, _, _, _, _, rel, .nil, _, h => by cases h
  | i :: is, _, _, σ, ρ, _, rel, .cons (r := r) (v := v) ok oks ap, np, h => by
    obtain ⟨ρ1, h1, h⟩ := bindS h
    obtain ⟨rel1, more⟩ := rel.put ok h1
    have all : ∀ {rs : List R} {vs : List V}, AOk P σ ρ F H rs vs → NoPk rs → (∀ (j : Nat) (r2 : R) (v2 : V), rs[j]? = some r2 → vs[j]? = some v2 → Apart r r2 v v2) → AOk P (σ.set i (some v)) ρ1 F H rs vs := by
      intro rs vs h
      induction h with
      | nil => exact fun _ _ => .nil
      | cons h1 h2 h3 ih => exact fun np ap => .cons (more _ _ h1 (ap 0 _ _ rfl rfl) (np _ List.mem_cons_self)) (ih (fun x hx => np x (List.mem_cons_of_mem _ hx)) fun j r' v' e1 e2 => ap (j + 1) r' v' e1 e2) h3
    obtain ⟨r2, l2⟩ := Rel.putAll rel1 (all oks (fun x hx => np x (List.mem_cons_of_mem _ hx)) ap) (fun x hx => np x (List.mem_cons_of_mem _ hx)) h
    exact ⟨r2, by rw [List.length_cons, List.length_cons, l2]⟩
def sPar (is : List Nat) (ss : AS) : SS := fun ρ => (ss ρ).bind fun a => (nrmAll a.1 a.2).bind fun b => (putAll is b.1 b.2).bind fun ρ3 => some (.nx, ρ3)
theorem par_read {is : List Nat} {D : Ends} {σ : VS} {H : Hp} (q : tS (sPar is ss) D σ H) : tAs ss σ H fun vs H1 => is.length = vs.length ∧ D.nx (setV is vs σ) H1 := by
  obtain ⟨B, P, ρ, F, fl, ρ', rel, hs, k⟩ := q
  obtain ⟨⟨rs, ρ1⟩, h1, hs⟩ := bindS hs
  obtain ⟨⟨rs', ρ2⟩, h2, hs⟩ := bindS hs
  obtain ⟨ρ3, h3, hs⟩ := bindS hs
  have e := Option.some.inj hs
  injection e with e1 e2
  subst e1; subst e2
  refine ⟨B, P, ρ, F, rs, ρ1, rel, h1, fun vs F1 H1 rel1 s1 ok1 => ?_⟩
  obtain ⟨F2, rel2, s2, ok2, np, _⟩ := rel1.nrmAll ok1 h2
  obtain ⟨rel3, hl⟩ := rel2.putAll ok2 np h3
  exact ⟨hl, k _ F2 H1 rel3 (s1.trans s2)⟩
theorem stPar2 (i j : Nat) {x y : Str} {px py pt : Pos} {kt k2 pt2} (hc : X.calm = true) (hN : X.N.Nodup) (ha : AA X [a, b] ss) (hi : X.N[i]? = some x := by rfl) (hj : X.N[j]? = some y := by rfl) (hij : i ≠ j := by decide)
    (hx : X.env.scope.names.lookup x = some .local := by rfl) (hy : X.env.scope.names.lookup y = some .local := by rfl)
    (hw : swappedStores [.Tuple [.Name x px, .Name y py] kt pt] (.Tuple [a, b] k2 pt2) X.env = pure (some [x, y]) := by rfl)
    (hs : swapsWithSole [.Tuple [.Name x px, .Name y py] kt pt] (.Tuple [a, b] k2 pt2) pos.line X.env = pure false := by rfl) :
    S1 X (.Assign [.Tuple [.Name x px, .Name y py] kt pt] (.Tuple [a, b] k2 pt2) pos) (sPar [i, j] ss) := by
  refine ps_imp (ps_par hc hN hi hj hij hx hy ha hw hs) fun D σ H q => ?_
  obtain ⟨B, P, ρ, F, rs, ρ', rel, hs, k⟩ := par_read q
  refine ⟨B, P, ρ, F, rs, ρ', rel, hs, fun vs F1 H1 rel1 s1 ok => ?_⟩
  obtain ⟨hl, q⟩ := k vs F1 H1 rel1 s1 ok
  match vs, hl, q with
  | [v, w], _, q => exact ⟨v, w, rfl, q⟩
end
end Sd


set_option Elab.async false
set_option linter.all false
set_option maxRecDepth 100000
/-! Sd4: what a loop walks; for; comprehensions; targets. -/
namespace Sd
open PySem PySem.Spec PyProof.Rows L2

/-! ### what is walked -/
abbrev IS := Sl → Option (List PyData × Sl)
/-- at a turn: what is yielded is fixed, or a new tuple of what is fixed -/
def YOk (F H : Hp) (d : PyData) (x : V) (H' : Hp) : Prop := (H' = H ∧ Den F x d) ∨ ∃ p vs l, H p = none ∧ H' = upd H p (.tup vs) ∧ x = .ref p ∧ d = .tuple l ∧ DenAll F vs l
def JOk (F : Hp) (items : List PyData) (J : It) : Prop := ∀ F2 H, Same F F2 → Same F2 H →
  (∀ (i : Nat) d, items[i]? = some d → J.go i H ∧ ∀ x H', J.yld i H x H' → YOk F2 H d x H') ∧ ∀ i : Nat, i = items.length → J.stop i H
def tI (s : IS) : TI := fun σ H R => ∃ B P ρ F items ρ', Rel B P σ ρ F H ∧ s ρ = some (items, ρ') ∧ ∀ F' H' J, Rel B P σ ρ' F' H' → Same F F' → JOk F' items J → R J H'
def II (X : Cx) (tg iter : Expr) (s : IS) : Prop := PI X tg iter (tI s)
theorem pi_imp {X : Cx} {tg e : Expr} {t t' : TI} (h : PI X tg e t) (i : ∀ σ H R, t' σ H R → t σ H R) : PI X tg e t' := ⟨fun pins s σ H R I q => h.run pins s σ H R I (i σ H R q)⟩
theorem YOk.rel {B : VS} {P : Hp} {σ : VS} {ρ : Sl} {F H H' : Hp} {d : PyData} {x : V} (y : YOk F H d x H') (rel : Rel B P σ ρ F H) : ∃ F', Rel B P σ ρ F' H' ∧ Same F F' ∧ Den F' x d := by
  rcases y with ⟨rfl, h⟩ | ⟨p, vs, l, hp, rfl, rfl, rfl, h⟩
  · exact ⟨F, rel, Same.refl F, h⟩
  · have sF : Same F (upd F p (.tup vs)) := same_new (rel.fh.free hp)
    exact ⟨_, rel.newF hp, sF, .tup (.inl upd_same) (dps_up sF h)⟩
/-- a list or a tuple, as it stands -/
def sIt (se : ES) : IS := fun ρ => (se ρ).bind fun a => (fz a.1 a.2).bind fun b => match b.1 with
  | .list l => some (l, b.2)
  | .tuple l => some (l, b.2)
  | _ => none
def iSeq (K : PySem.W.Frag) (tl : TE) : TI := fun σ H R => tl σ H fun x H1 => ∃ a, x = .ref a ∧ (((∃ xs, SqL K H1 a xs) ∧ R (Itl K a) H1) ∨ ((∃ xs, SqT K H1 a xs) ∧ R (Itt K a) H1))
theorem pi_seq {X : Cx} {tg l : Expr} {tl : TE} (hl : PE X l tl) : PI X tg l (iSeq X.K tl) := by
  refine ⟨fun pins s σ H R I h => ?_⟩
  refine thn (hl.run pins s σ H _ I h) fun v s1 ⟨x, H1, I1, r1, q1⟩ => ?_
  obtain ⟨a, e, ⟨⟨xs, hq⟩, q⟩ | ⟨⟨xs, hq⟩, q⟩⟩ := q1
  · subst e
    cases r1
    obtain ⟨its, rv, p, hz⟩ := I1.list hq
    refine wpAny_pyIter_list p.isList ?_
    refine ⟨s1.heap.objs.size, [s1.heap.objs.size], _, _, H1, rfl, I1.kept (t' := s1.toks) fun b o e => Heap.get?_push_of_some _ e, turn_list a _, ⟨_, Heap.get?_push_size _ rfl, rfl, rfl⟩, fun b hb => ?_, q⟩
    have e : b = s1.heap.objs.size := by simpa using hb
    subst e
    exact I1.fpOk (Nat.le_refl _) (I1.hok.fresh (Nat.le_refl _))
  · subst e
    cases r1
    obtain ⟨its, rv, p, hz⟩ := I1.tuple hq
    refine wpAny_pyIter_tuple (show s1.heap.IsTuple a its.toArray from p) ?_
    refine ⟨s1.heap.objs.size, [s1.heap.objs.size], _, _, H1, rfl, I1.kept (t' := s1.toks) fun b o e => Heap.get?_push_of_some _ e, turn_tuple a _, ⟨_, Heap.get?_push_size _ rfl, rfl, rfl⟩, fun b hb => ?_, q⟩
    have e : b = s1.heap.objs.size := by simpa using hb
    subst e
    exact I1.fpOk (Nat.le_refl _) (I1.hok.fresh (Nat.le_refl _))
theorem rdL_inj {H : Hp} {a : Addr} {xs ys : List V} (h : Rd H a (.lst xs)) (h' : Rd H a (.lst ys)) : xs = ys := by
  rcases h with h | ⟨o, h⟩ <;> rcases h' with h' | ⟨o', h'⟩ <;> rw [h] at h' <;> cases h' <;> rfl
section
variable {X : Cx} {tg e e1 e2 e3 : Expr} {es : List Expr} {se : ES} {ss : AS} {pos p : Pos}
theorem jok_list {K : PySem.W.Frag} {F : Hp} {a : Addr} {vs : List V} {l : List PyData} (h : Rd F a (.lst vs)) (hd : DenAll F vs l) : JOk F l (Itl K a) := by
  intro F2 H s2 sH
  have hq : Rd H a (.lst vs) := rd_up (s2.trans sH) h
  refine ⟨fun i d e => ?_, fun i hi => ⟨vs, .inl hq, by rw [dps_len hd]; exact Nat.le_of_eq hi.symm⟩⟩
  obtain ⟨v, e1, e2⟩ := dps_get i hd e
  refine ⟨⟨vs, v, .inl hq, e1⟩, fun x H' ⟨e3, y⟩ => .inl ⟨e3, ?_⟩⟩
  have := y vs (.inl hq)
  rw [e1] at this
  cases this
  exact dp_up s2 e2
theorem jok_tup {K : PySem.W.Frag} {F : Hp} {a : Addr} {vs : List V} {l : List PyData} (h : Rd F a (.tup vs)) (hd : DenAll F vs l) : JOk F l (Itt K a) := by
  intro F2 H s2 sH
  have hq : Rd H a (.tup vs) := rd_up (s2.trans sH) h
  refine ⟨fun i d e => ?_, fun i hi => ⟨vs, .inl hq, by rw [dps_len hd]; exact Nat.le_of_eq hi.symm⟩⟩
  obtain ⟨v, e1, e2⟩ := dps_get i hd e
  refine ⟨⟨vs, v, .inl hq, e1⟩, fun x H' ⟨e3, y⟩ => .inl ⟨e3, ?_⟩⟩
  have := y vs (.inl hq)
  rw [e1] at this
  cases this
  exact dp_up s2 e2
theorem iSq (h : EE X e se) : II X tg e (sIt se) := by
  refine pi_imp (pi_seq h) fun σ H Rr q => ?_
  obtain ⟨B, P, ρ, F, items, ρ', rel, hs, k⟩ := q
  obtain ⟨⟨r, ρ1⟩, h1, hs⟩ := bindS hs
  obtain ⟨⟨d, ρ2⟩, h2, hs⟩ := bindS hs
  refine ⟨B, P, ρ, F, r, ρ1, rel, h1, fun v F1 H1 rel1 s1 ok1 => ?_⟩
  obtain ⟨F2, rel2, s2, dn, _⟩ := rel1.fz ok1 h2
  cases dn with
  | lst h hd =>
    have e := Option.some.inj hs
    injection e with e1 e2
    subst e1; subst e2
    exact ⟨_, rfl, .inl ⟨⟨_, .inl (rd_up rel2.fh h)⟩, k F2 H1 _ rel2 (s1.trans s2) (jok_list h hd)⟩⟩
  | tup h hd =>
    have e := Option.some.inj hs
    injection e with e1 e2
    subst e1; subst e2
    exact ⟨_, rfl, .inr ⟨⟨_, .inl (rd_up rel2.fh h)⟩, k F2 H1 _ rel2 (s1.trans s2) (jok_tup h hd)⟩⟩
  | _ => cases hs
/-- lo, lo + 1, .. below hi -/
def rgD (lo hi : Int) : List PyData := (List.range (hi - lo).toNat).map fun k : Nat => .int (lo + k)
def rgOk (lo hi : Int) : Prop := -(2 ^ 62) ≤ lo ∧ lo < 2 ^ 62 ∧ -(2 ^ 62) ≤ hi ∧ hi < 2 ^ 62
instance (lo hi : Int) : Decidable (rgOk lo hi) := by unfold rgOk; infer_instance
theorem jok_rng {F : Hp} {lo hi : Int} : JOk F (rgD lo hi) (Itr lo (hi - lo).toNat) := by
  intro F2 H s2 sH
  refine ⟨fun i d e => ?_, fun i hl => by
    have e : (rgD lo hi).length = (hi - lo).toNat := by simp [rgD]
    show (hi - lo).toNat ≤ i
    omega⟩
  unfold rgD at e
  rw [List.getElem?_map] at e
  by_cases h : i < (hi - lo).toNat
  · rw [List.getElem?_range h] at e
    cases e
    exact ⟨h, fun x H' ⟨e1, e2⟩ => .inl ⟨e1, by rw [e2]; exact .int _⟩⟩
  · rw [List.getElem?_eq_none (by simpa using h)] at e
    cases e
def sRg1 (ss : AS) : IS := fun ρ => (ss ρ).bind fun a => (lookAll a.2 a.1).bind fun ds => match ds with
  | [.int j] => if rgOk 0 j then some (rgD 0 j, a.2) else none
  | _ => none
def sRg2 (ss : AS) : IS := fun ρ => (ss ρ).bind fun a => (lookAll a.2 a.1).bind fun ds => match ds with
  | [.int i, .int j] => if rgOk i j then some (rgD i j, a.2) else none
  | _ => none
theorem iRg1 (hm : X.mg "range" = none) (ha : AA X [e1] ss) (hg : Gl X "range" := by rfl) (hs : starEach [e1] X.env = [(false, eval e1 X.env)] := by rfl) : II X tg (.Call (.Name "range" p) [e1] [] pos) (sRg1 ss) := by
  refine pi_imp (pi_range1 hg hm ha hs) fun σ H Rr q => ?_
  obtain ⟨B, P, ρ, F, items, ρ', rel, hs, k⟩ := q
  obtain ⟨⟨rs, ρ1⟩, h1, hs⟩ := bindS hs
  obtain ⟨ds, h2, hs⟩ := bindS hs
  refine ⟨B, P, ρ, F, rs, ρ1, rel, h1, fun vs F1 H1 rel1 s1 ok1 => ?_⟩
  have c := rel1.curAll ok1 h2
  dsimp only at hs
  split at hs
  · rename_i j
    split at hs
    · rename_i hk
      have e := Option.some.inj hs
      injection e with e1 e2
      subst e1; subst e2
      cases c with
      | cons c1 cr =>
        cases cr
        rw [c1.int]
        refine ⟨j, rfl, hk.2.2.1, hk.2.2.2, ?_⟩
        have := k F1 H1 _ rel1 s1 jok_rng
        simpa using this
    · cases hs
  · cases hs
theorem iRg2 (hm : X.mg "range" = none) (ha : AA X [e1, e2] ss) (hg : Gl X "range" := by rfl) (hs : starEach [e1, e2] X.env = [(false, eval e1 X.env), (false, eval e2 X.env)] := by rfl) (hs2 : starEach [e2] X.env = [(false, eval e2 X.env)] := by rfl) :
    II X tg (.Call (.Name "range" p) [e1, e2] [] pos) (sRg2 ss) := by
  refine pi_imp (pi_range2 hg hm ha hs hs2) fun σ H Rr q => ?_
  obtain ⟨B, P, ρ, F, items, ρ', rel, hs, k⟩ := q
  obtain ⟨⟨rs, ρ1⟩, h1, hs⟩ := bindS hs
  obtain ⟨ds, h2, hs⟩ := bindS hs
  refine ⟨B, P, ρ, F, rs, ρ1, rel, h1, fun vs F1 H1 rel1 s1 ok1 => ?_⟩
  have c := rel1.curAll ok1 h2
  dsimp only at hs
  split at hs
  · rename_i i j
    split at hs
    · rename_i hk
      have e := Option.some.inj hs
      injection e with e1 e2
      subst e1; subst e2
      cases c with
      | cons c1 cr =>
        cases cr with
        | cons c2 cr =>
          cases cr
          rw [c1.int, c2.int]
          exact ⟨i, j, rfl, hk, k F1 H1 _ rel1 s1 jok_rng⟩
    · cases hs
  · cases hs
/-! ### a range as a value -/
theorem pi_rngV {l : Expr} {tl : TE} (hl : PE X l tl) : PI X tg l (fun σ H R => tl σ H fun x H1 => ∃ a lo hi, x = .ref a ∧ H1 a = some (.rng lo hi) ∧ rgOk lo hi ∧ R (Itr lo (hi - lo).toNat) H1) := by
  refine ⟨fun pins s σ H R I h => ?_⟩
  refine thn (hl.run pins s σ H _ I h) fun v s1 ⟨x, H1, I1, r1, q1⟩ => ?_
  obtain ⟨a, lo, hi, e, hq, ⟨h1, h2, h3, h4⟩, q⟩ := q1
  subst e
  have r1 : v = Value.ref a := r1
  subst r1
  obtain ⟨t, u, v, ho⟩ := I1.hok a _ hq
  refine wpAny_pyIter_range ho (small_one h1 h2 h3 h4) ?_
  refine ⟨s1.heap.objs.size, [s1.heap.objs.size], _, _, H1, rfl, I1.kept (t' := s1.toks) fun b o e => Heap.get?_push_of_some _ e, turn_range _ lo (hi - lo).toNat, ?_, fun b hb => ?_, q⟩
  · have e1 : lo + ((0 : Nat) : Int) * 1 = lo := by simp
    have e2 : (((hi - lo).toNat : Nat) : Int) - ((0 : Nat) : Int) = Builtin.Range.rangeSize lo hi 1 := by rw [rangeSize_one]; split <;> omega
    show IsRangeIter _ _ (lo + ((0 : Nat) : Int) * 1) ((((hi - lo).toNat : Nat) : Int) - ((0 : Nat) : Int)) 1
    rw [e1, e2]
    exact Heap.get?_push_size _ rfl
  · have e : b = s1.heap.objs.size := by simpa using hb
    subst e
    exact I1.fpOk (Nat.le_refl _) (I1.hok.fresh (Nat.le_refl _))
@[simp] def lookR (ρ : Sl) : R → Option (Int × Int)
  | .tmp (.rng lo hi) => some (lo, hi)
  | .pk i => match ρ[i]? with
    | some (.own _ (.rng lo hi)) => some (lo, hi)
    | _ => none
  | _ => none
def sRgV (se : ES) : IS := fun ρ => (se ρ).bind fun a => (lookR a.2 a.1).bind fun b => if rgOk b.1 b.2 then some (rgD b.1 b.2, a.2) else none
theorem Rel.rng {B : VS} {P : Hp} {σ : VS} {ρ : Sl} {F H : Hp} {r : R} {v : V} {lo hi : Int} (rel : Rel B P σ ρ F H) (ok : ROk P σ ρ F H r v) (h : lookR ρ r = some (lo, hi)) : ∃ a, v = .ref a ∧ H a = some (.rng lo hi) := by
  cases r with
  | imm d => cases h
  | tmp o =>
    cases o with
    | lst l => cases h
    | rng lo' hi' =>
      have e := Option.some.inj h
      injection e with e1 e2
      subst e1; subst e2
      obtain ⟨a, ho, rfl, e2, e3, _⟩ := ok
      cases ho with
      | rng x y =>
        obtain ⟨rfl, rfl⟩ : x = lo' ∧ y = hi' := e3
        exact ⟨a, rfl, e2⟩
      | _ => exact (show False from e3).elim
  | pk i =>
    have ok : σ[i]? = some (some v) := ok
    unfold lookR at h
    dsimp only at h
    split at h
    · rename_i b lo' hi' e
      have e' := Option.some.inj h
      injection e' with e1 e2
      subst e1; subst e2
      obtain ⟨a, ho, h1, h2, h3, _⟩ := rel.own i b _ e
      rw [ok] at h1; cases h1
      cases ho with
      | rng x y =>
        obtain ⟨rfl, rfl⟩ : x = lo' ∧ y = hi' := h3
        exact ⟨a, rfl, h2⟩
      | _ => exact (show False from h3).elim
    · cases h
theorem iRgV (h : EE X e se) : II X tg e (sRgV se) := by
  refine pi_imp (pi_rngV h) fun σ H Rr q => ?_
  obtain ⟨B, P, ρ, F, items, ρ', rel, hs, k⟩ := q
  obtain ⟨⟨r, ρ1⟩, h1, hs⟩ := bindS hs
  obtain ⟨⟨lo, hi⟩, h2, hs⟩ := bindS hs
  dsimp only at hs
  split at hs
  · rename_i hk
    have e := Option.some.inj hs
    injection e with e1 e2
    subst e1; subst e2
    refine ⟨B, P, ρ, F, r, _, rel, h1, fun v F1 H1 rel1 s1 ok1 => ?_⟩
    obtain ⟨a, rfl, ha⟩ := rel1.rng ok1 h2
    exact ⟨a, lo, hi, rfl, ha, hk, k F1 H1 _ rel1 s1 jok_rng⟩
  · cases hs
def sRange (ss : AS) : ES := fun ρ => (ss ρ).bind fun a => (lookAll a.2 a.1).bind fun ds => match ds with
  | [.int i, .int j] => some (.tmp (.rng i j), a.2)
  | _ => none
theorem eRange2 (hm : X.mg "range" = none) (ha : AA X [e1, e2] ss) (hg : Gl X "range" := by rfl) (hs : starEach [e1, e2] X.env = (false, eval e1 X.env) :: starEach [e2] X.env := by rfl) (hpl : (backTo pos (starEach [e2] X.env)).any (·.1) = false := by rfl) :
    EE X (.Call (.Name "range" p) [e1, e2] [] pos) (sRange ss) := by
  refine pe_imp (pe_callTy cr_range2 hg hm boot_range ha (he := hs) (hpl := hpl)) fun σ H Q q => ?_
  obtain ⟨B, P, ρ, F, r, ρ', rel, hs, k⟩ := q
  obtain ⟨⟨rs, ρ1⟩, h1, hs⟩ := bindS hs
  obtain ⟨ds, h2, hs⟩ := bindS hs
  refine ⟨B, P, ρ, F, rs, ρ1, rel, h1, fun vs F1 H1 rel1 s1 ok1 => ?_⟩
  have c := rel1.curAll ok1 h2
  dsimp only at hs
  split at hs
  · rename_i i j
    have e := Option.some.inj hs
    injection e with e1 e2
    subst e1; subst e2
    cases c with
    | cons c1 cr =>
      cases cr with
      | cons c2 cr =>
        cases cr
        rw [c1.int, c2.int]
        exact ⟨i, j, rfl, fun p hp => k _ F1 _ (rel1.new hp) s1 ⟨p, _, rfl, upd_same, ⟨rfl, rfl⟩, rel1.fh.free hp, rel1.ph.free hp, notOwn_new rel1 hp⟩⟩
  · cases hs
/-! ### list(range(..)) -/
theorem eListRg1 {p1 pos1 : Pos} (hc : X.calm = true) (hm : X.mg "list" = none) (hm2 : X.mg "range" = none) (h : EE X e1 se) (hg : Gl X "list" := by rfl) (hg2 : Gl X "range" := by rfl) (na : starEach [e1] X.env = (false, eval e1 X.env) :: starEach [] X.env := by rfl)
    (nb : starEach [.Call (.Name "range" p1) [e1] [] pos1] X.env = (false, eval (.Call (.Name "range" p1) [e1] [] pos1) X.env) :: starEach [] X.env := by rfl) :
    EE X (.Call (.Name "list" p) [.Call (.Name "range" p1) [e1] [] pos1] [] pos) (fun ρ => (se ρ).bind fun a => match look a.2 a.1 with
      | some (.int j) => if rgOk 0 j ∧ j ≤ 1000000 then some (.tmp (.lst (rgD 0 j)), a.2) else none
      | _ => none) := by
  refine pe_imp (pe_listRg hc hg hm (prg_1 hg2 hm2 h na) nb) fun σ H Q q => ?_
  obtain ⟨B, P, ρ, F, r, ρ', rel, hs, k⟩ := q
  obtain ⟨⟨r, ρ1⟩, h1, hs⟩ := bindS hs
  dsimp only at hs
  split at hs
  · rename_i j hl
    split at hs
    · rename_i hk
      have e := Option.some.inj hs
      injection e with e1 e2
      subst e1; subst e2
      obtain ⟨⟨k1, k2, k3, k4⟩, k5⟩ := hk
      refine ⟨B, P, ρ, F, r, _, rel, h1, fun v F1 H1 rel1 s1 ok1 => ⟨j, (rel1.cur ok1 hl).int, ⟨k1, k2, k3, k4, by omega⟩, fun q hq => ?_⟩⟩
      have dn : ∀ l : List Nat, DenAll F1 (l.map fun i => V.int (0 + (i : Nat))) (l.map fun k : Nat => PyData.int (0 + k)) := by
        intro l
        induction l with
        | nil => exact .nil
        | cons x l ih => exact .cons (.int _) ih
      exact k _ F1 _ (rel1.new hq) s1 ⟨q, _, rfl, upd_same, dn _, rel1.fh.free hq, rel1.ph.free hq, notOwn_new rel1 hq⟩
    · cases hs
  · cases hs
/-! ### zip -/
def zip2D : List PyData → List PyData → List PyData
  | x :: xs, y :: ys => .tuple [x, y] :: zip2D xs ys
  | _, _ => []
theorem zip2D_get : ∀ {xs ys : List PyData} (i : Nat) {d : PyData}, (zip2D xs ys)[i]? = some d → ∃ x y, xs[i]? = some x ∧ ys[i]? = some y ∧ d = .tuple [x, y]
  | x :: xs, y :: ys, 0, d, h => ⟨x, y, rfl, rfl, (Option.some.inj h).symm⟩
  | x :: xs, y :: ys, i + 1, d, h => zip2D_get (xs := xs) (ys := ys) i h
  | [], _, i, d, h => by simp [zip2D] at h
  | x :: xs, [], i, d, h => by simp [zip2D] at h
theorem zip2D_len : ∀ {xs ys : List PyData}, (zip2D xs ys).length = min xs.length ys.length
  | x :: xs, y :: ys => by
    show (zip2D xs ys).length + 1 = min (xs.length + 1) (ys.length + 1)
    rw [zip2D_len]; omega
  | [], _ => by simp [zip2D]
  | x :: xs, [] => by simp [zip2D]
def sZip2 (ss : AS) : IS := fun ρ => (ss ρ).bind fun a => (fzAll a.1 a.2).bind fun b => match b.1 with
  | [.list l, .list m] => some (zip2D l m, b.2)
  | [.tuple l, .tuple m] => some (zip2D l m, b.2)
  | _ => none
theorem iZip2 {elts : List Expr} {kk : Nat} {tpos : Pos} (hm : X.mg "zip" = none) (ha : AA X [e1, e2] ss) (hg : Gl X "zip" := by rfl) (hs : starEach [e1, e2] X.env = (false, eval e1 X.env) :: starEach [e2] X.env := by rfl) (hpl : (backTo pos (starEach [e2] X.env)).any (·.1) = false := by rfl) :
    II X (.Tuple elts kk tpos) (.Call (.Name "zip" p) [e1, e2] [] pos) (sZip2 ss) := by
  refine pi_imp (RZ.pi_zipA hg hm ha hs hpl) fun σ H Rr q => ?_
  obtain ⟨B, P, ρ, F, items, ρ', rel, hs, k⟩ := q
  obtain ⟨⟨rs, ρ1⟩, h1, hs⟩ := bindS hs
  obtain ⟨⟨ds, ρ2⟩, h2, hs⟩ := bindS hs
  refine ⟨B, P, ρ, F, rs, ρ1, rel, h1, fun vs F1 H1 rel1 s1 ok1 => ?_⟩
  obtain ⟨F2, rel2, s2, dn⟩ := rel1.fzAll ok1 h2
  dsimp only at hs
  split at hs
  · rename_i l m
    have e := Option.some.inj hs
    injection e with e1 e2
    subst e1; subst e2
    cases dn with
    | cons d1 dr =>
      cases dr with
      | cons d2 dr =>
        cases dr
        cases d1 with
        | lst r1 a1 =>
          cases d2 with
          | lst r2 a2 =>
            refine ⟨_, _, _, _, rfl, .inl ⟨.inl (rd_up rel2.fh r1), .inl (rd_up rel2.fh r2), k F2 H1 _ rel2 (s1.trans s2) ?_⟩⟩
            intro F3 H3 s3 sH
            have q1 := rd_up (s3.trans sH) r1
            have q2 := rd_up (s3.trans sH) r2
            refine ⟨fun i d e => ?_, fun i hi => ⟨_, _, .inl q1, .inl q2, ?_⟩⟩
            · obtain ⟨x, y, e1, e2, rfl⟩ := zip2D_get i e
              obtain ⟨vx, f1, g1⟩ := dps_get i a1 e1
              obtain ⟨vy, f2, g2⟩ := dps_get i a2 e2
              refine ⟨⟨_, _, _, _, .inl q1, .inl q2, f1, f2⟩, fun v H' ⟨T, x', y', ev, hT, eH, k1, k2⟩ => .inr ⟨T, [vx, vy], _, hT, ?_, ev, rfl, .cons (dp_up s3 g1) (.cons (dp_up s3 g2) .nil)⟩⟩
              have z1 := k1 _ (.inl q1)
              have z2 := k2 _ (.inl q2)
              rw [f1] at z1; rw [f2] at z2
              cases z1; cases z2
              exact eH
            · rw [zip2D_len, ← dps_len a1, ← dps_len a2] at hi
              omega
  · rename_i l m
    have e := Option.some.inj hs
    injection e with e1 e2
    subst e1; subst e2
    cases dn with
    | cons d1 dr =>
      cases dr with
      | cons d2 dr =>
        cases dr
        cases d1 with
        | tup r1 a1 =>
          cases d2 with
          | tup r2 a2 =>
            refine ⟨_, _, _, _, rfl, .inr ⟨.inl (rd_up rel2.fh r1), .inl (rd_up rel2.fh r2), k F2 H1 _ rel2 (s1.trans s2) ?_⟩⟩
            intro F3 H3 s3 sH
            have q1 := rd_up (s3.trans sH) r1
            have q2 := rd_up (s3.trans sH) r2
            refine ⟨fun i d e => ?_, fun i hi => ⟨_, _, .inl q1, .inl q2, ?_⟩⟩
            · obtain ⟨x, y, e1, e2, rfl⟩ := zip2D_get i e
              obtain ⟨vx, f1, g1⟩ := dps_get i a1 e1
              obtain ⟨vy, f2, g2⟩ := dps_get i a2 e2
              refine ⟨⟨_, _, _, _, .inl q1, .inl q2, f1, f2⟩, fun v H' ⟨T, x', y', ev, hT, eH, k1, k2⟩ => .inr ⟨T, [vx, vy], _, hT, ?_, ev, rfl, .cons (dp_up s3 g1) (.cons (dp_up s3 g2) .nil)⟩⟩
              have z1 := k1 _ (.inl q1)
              have z2 := k2 _ (.inl q2)
              rw [f1] at z1; rw [f2] at z2
              cases z1; cases z2
              exact eH
            · rw [zip2D_len, ← dps_len a1, ← dps_len a2] at hi
              omega
  · cases hs
end

/-! ### targets -/
abbrev BS := PyData → Sl → Option Sl
abbrev BL := List PyData → Sl → Option Sl
def tG (vs : List Nat) (b : BS) : TG := fun v σ H Q => ∃ B P ρ F d ρ', Rel B P σ ρ F H ∧ Den F v d ∧ b d ρ = some ρ' ∧ ∀ σ' F' H', Rel B P σ' ρ' F' H' → Same F F' → (∀ i, i ∉ vs → σ'[i]? = σ[i]?) → σ'.length = σ.length → Q σ' H'
def tGs (vs : List Nat) (b : BL) : TGs := fun us σ H Q => ∃ B P ρ F ds ρ', Rel B P σ ρ F H ∧ DenAll F us ds ∧ b ds ρ = some ρ' ∧ ∀ σ' F' H', Rel B P σ' ρ' F' H' → Same F F' → (∀ i, i ∉ vs → σ'[i]? = σ[i]?) → σ'.length = σ.length → Q σ' H'
def GG (X : Cx) (tg : Expr) (vs : List Nat) (b : BS) : Prop := PG X tg (tG vs b)
def GL (X : Cx) (tgs : List Expr) (vs : List Nat) (b : BL) : Prop := PGs X tgs (tGs vs b)
def bNm (i : Nat) : BS := fun d ρ => putR i (.imm d) ρ
def bNo : BL := fun ds ρ => match ds with
  | [] => some ρ
  | _ => none
def bCo (b : BS) (c : BL) : BL := fun ds ρ => match ds with
  | d :: ds => (b d ρ).bind fun ρ1 => c ds ρ1
  | _ => none
def bTp (n : Nat) (c : BL) : BS := fun d ρ => match d with
  | .tuple l => if l.length = n then c l ρ else none
  | _ => none
theorem pg_imp {X : Cx} {e : Expr} {t t' : TG} (h : PG X e t) (i : ∀ v σ H Q, t' v σ H Q → t v σ H Q) : PG X e t' := ⟨fun pins s σ H v u Q I r q => h.run pins s σ H v u Q I r (i v σ H Q q)⟩
theorem pgs_imp {X : Cx} {e : List Expr} {t t' : TGs} (h : PGs X e t) (i : ∀ v σ H Q, t' v σ H Q → t v σ H Q) : PGs X e t' := ⟨fun pins s σ H v u Q I r q => h.run pins s σ H v u Q I r (i v σ H Q q)⟩
section
variable {X : Cx} {tg e : Expr} {es : List Expr} {se : ES} {pos : Pos} {vs ws : List Nat} {b : BS} {c : BL}
theorem gNm (i : Nat) {x : Str} (hN : X.N.Nodup) (hi : X.N[i]? = some x := by rfl) (hx : Loc X.env.scope x := by first | exact Or.inl rfl | exact Or.inr rfl) (hf : X.fn x = true ∨ X.env.scope.names.lookup x = some .local := by first | exact .inl rfl | exact .inr rfl | assumption) : GG X (.Name x pos) [i] (bNm i) := by
  refine pg_imp (pg_name hN hi hx hf) fun v σ H Q q => ?_
  obtain ⟨B, P, ρ, F, d, ρ', rel, dn, h, k⟩ := q
  have dn' : ROk P σ ρ F H (.imm d) v := dn
  obtain ⟨rel', _⟩ := rel.put dn' h
  exact k _ F H rel' (Same.refl F) (fun j hj => List.getElem?_set_ne (fun z => hj (by simp [z]))) (by rw [List.length_set])
theorem gNo : GL X [] [] bNo := by
  refine pgs_imp pgs_nil fun v σ H Q q => ?_
  obtain ⟨B, P, ρ, F, ds, ρ', rel, dn, h, k⟩ := q
  cases dn with
  | nil =>
    have e := Option.some.inj h
    subst e
    exact ⟨rfl, k σ F H rel (Same.refl F) (fun _ _ => rfl) rfl⟩
  | cons _ _ => cases h
theorem gCo (h1 : GG X e vs b) (h2 : GL X es ws c) (hs : (assignEach (e :: es) X.env).map (·.2) = assign e X.env :: (assignEach es X.env).map (·.2) := by rfl) : GL X (e :: es) (vs ++ ws) (bCo b c) := by
  refine pgs_imp (pgs_cons h1 h2 hs) fun v σ H Q q => ?_
  obtain ⟨B, P, ρ, F, ds, ρ', rel, dn, h, k⟩ := q
  cases dn with
  | nil => cases h
  | cons d1 dr =>
    obtain ⟨ρ1, g1, g2⟩ := bindS h
    refine ⟨_, _, rfl, B, P, ρ, F, _, ρ1, rel, d1, g1, fun σ1 F1 H1 rel1 s1 e1 l1 => ?_⟩
    refine ⟨B, P, ρ1, F1, _, ρ', rel1, dps_up s1 dr, g2, fun σ' F' H' rel' s' e2 l2 => k σ' F' H' rel' (s1.trans s') (fun i hi => ?_) (l2.trans l1)⟩
    rw [e2 i fun z => hi (List.mem_append_right _ z), e1 i fun z => hi (List.mem_append_left _ z)]
theorem gTp {k n : Nat} (hc : X.calm = true) (h : GL X es vs c) (hn : (assignEach es X.env).length = n := by rfl) (hst : (assignEach es X.env).findIdx? (·.1) = none := by rfl) : GG X (.Tuple es k pos) vs (bTp n c) := by
  refine pg_imp (pg_tup hc h hn hst) fun v σ H Q q => ?_
  obtain ⟨B, P, ρ, F, d, ρ', rel, dn, h, k⟩ := q
  cases dn with
  | tup r a =>
    dsimp only [bTp] at h
    split at h
    · rename_i hl
      exact ⟨_, _, rfl, .inl (rd_up rel.fh r), (dps_len a).trans hl, B, P, ρ, F, _, ρ', rel, a, h, k⟩
    · cases h
  | _ => cases h
/-- target = value, the value fixed -/
def sAsg (se : ES) (b : BS) : SS := fun ρ => (se ρ).bind fun a => (fz a.1 a.2).bind fun d => (b d.1 d.2).bind fun ρ3 => some (.nx, ρ3)
theorem stAsg (he : EE X e se) (hg : GG X tg vs b) (hs : swapsWithSole [tg] e pos.line X.env = pure false := by rfl) (hw : swappedStores [tg] e X.env = pure none := by rfl)
    (h1 : (assignEach [tg] X.env).map (·.2) = [assign tg X.env] := by rfl) : S1 X (.Assign [tg] e pos) (sAsg se b) := by
  refine ps_imp (ps_asg he hg hs hw h1) fun D σ H q => ?_
  obtain ⟨B, P, ρ, F, fl, ρ', rel, hs, k⟩ := q
  obtain ⟨⟨r, ρ1⟩, h1, hs⟩ := bindS hs
  obtain ⟨⟨d, ρ2⟩, h2, hs⟩ := bindS hs
  obtain ⟨ρ3, h3, hs⟩ := bindS hs
  have e := Option.some.inj hs
  injection e with e1 e2
  subst e1; subst e2
  refine ⟨B, P, ρ, F, r, ρ1, rel, h1, fun v F1 H1 rel1 s1 ok1 => ?_⟩
  obtain ⟨F2, rel2, s2, dn, _⟩ := rel1.fz ok1 h2
  exact ⟨B, P, ρ2, F2, d, _, rel2, dn, h3, fun σ' F' H' rel' s' _ _ => k σ' F' H' rel' ((s1.trans s2).trans s')⟩

/-! ### for -/
def loopS (b : BS) (body : SS) : List PyData → Sl → Option (Fl × Sl)
  | [], ρ => some (.nx, ρ)
  | d :: ds, ρ => (b d ρ).bind fun ρ1 => (body ρ1).bind fun r => match r.1 with
    | .nx => loopS b body ds r.2
    | .ct => loopS b body ds r.2
    | .bk => some (.nx, r.2)
    | .rt x => some (.rt x, r.2)
def sFor (it : IS) (b : BS) (body : SS) : SS := fun ρ => (it ρ).bind fun a => loopS b body a.1 a.2
theorem stFor {iter : Expr} {body : List Stmt} {it : IS} {sb : SS} (hp : PassesOwn (model X.prog X.w) X.A X.env X.xe) (hc : X.calm = true) (hi : II X tg iter it) (hg : GG X tg vs b) (hb : SB X body sb) (hs : ∀ x, foldedSetIterable iter X.env x = pure x := by intro _; rfl) :
    S1 X (.For tg iter body [] pos) (sFor it b sb) := by
  refine ps_imp (ps_for hp hc hi hg hb hs) fun D σ H q => ?_
  obtain ⟨B, P, ρ, F, fl, ρ', rel, hs, k⟩ := q
  obtain ⟨⟨items, ρ0⟩, h1, hs⟩ := bindS hs
  refine ⟨B, P, ρ, F, items, ρ0, rel, h1, fun F1 H1 J rel1 s1 jok => ?_⟩
  refine ⟨fun i m σ' H' => m = items.length - i ∧ i ≤ items.length ∧ ∃ ρi Fi, Rel B P σ' ρi Fi H' ∧ Same F1 Fi ∧ loopS b sb (items.drop i) ρi = some (fl, ρ'), ⟨items.length, by simp, Nat.zero_le _, ρ0, F1, rel1, Same.refl F1, hs⟩, ?_⟩
  rintro i m σ2 H2 ⟨rfl, hi, ρi, Fi, rel2, s2, hl⟩
  obtain ⟨jgo, jstop⟩ := jok Fi H2 s2 rel2.fh
  by_cases hlt : i < items.length
  · rw [List.drop_eq_getElem_cons hlt] at hl
    obtain ⟨ρ1, g1, hl⟩ := bindS hl
    obtain ⟨⟨fl1, ρ2⟩, g2, hl⟩ := bindS hl
    obtain ⟨go, yld⟩ := jgo i _ (List.getElem?_eq_getElem hlt)
    refine .inr ⟨go, fun σ' H' => ∃ ρi Fi, Rel B P σ' ρi Fi H' ∧ Same F1 Fi ∧ loopS b sb (items.drop (i + 1)) ρi = some (fl, ρ'), fun σ' H' z => ⟨items.length - (i + 1), by omega, rfl, hlt, z⟩, fun x H' y => ?_⟩
    obtain ⟨F3, rel3, s3, dn⟩ := (yld x H' y).rel rel2
    refine ⟨B, P, ρi, F3, _, ρ1, rel3, dn, g1, fun σ4 F4 H4 rel4 s4 _ _ => ?_⟩
    refine ⟨B, P, ρ1, F4, fl1, ρ2, rel4, g2, fun σ5 F5 H5 rel5 s5 => ?_⟩
    have sF : Same F1 F5 := s2.trans (s3.trans (s4.trans s5))
    cases fl1 with
    | nx => exact ⟨ρ2, F5, rel5, sF, hl⟩
    | ct => exact ⟨ρ2, F5, rel5, sF, hl⟩
    | bk =>
      have e := Option.some.inj hl
      injection e with e1 e2
      subst e1; subst e2
      exact k σ5 F5 H5 rel5 (s1.trans sF)
    | rt r =>
      have e := Option.some.inj hl
      injection e with e1 e2
      subst e1; subst e2
      exact k σ5 F5 H5 rel5 (s1.trans sF)
  · have ei : items.drop i = [] := List.drop_eq_nil_of_le (by omega)
    rw [ei] at hl
    have e := Option.some.inj hl
    injection e with e1 e2
    subst e1; subst e2
    exact .inl ⟨jstop i (by omega), k σ2 Fi H2 rel2 (s1.trans s2)⟩
end
end Sd


set_option Elab.async false
set_option linter.all false
set_option maxRecDepth 100000
/-! Sd5: comprehensions; calls of one's own defs. -/
namespace Sd
open PySem PySem.Spec PyProof.Rows L2

/-! ### the slots of a block -/
@[simp] def wipeS (ρ : Sl) : List Nat → Sl
  | [] => ρ
  | v :: vs => (wipeS ρ vs).set v .emp
@[simp] def restore (ρ0 : Sl) : List Nat → Sl → Sl
  | [], ρ => ρ
  | v :: vs, ρ => (restore ρ0 vs ρ).set v (ρ0.getD v .emp)
def isOwn : Option Slot → Bool
  | some (.own _ _) => true
  | _ => false
theorem wipeS_len (ρ : Sl) : ∀ vs : List Nat, (wipeS ρ vs).length = ρ.length
  | [] => rfl
  | v :: vs => by unfold wipeS; rw [List.length_set, wipeS_len ρ vs]
theorem restore_len (ρ0 ρ : Sl) : ∀ vs : List Nat, (restore ρ0 vs ρ).length = ρ.length
  | [] => rfl
  | v :: vs => by unfold restore; rw [List.length_set, restore_len ρ0 ρ vs]
theorem wipeS_get {ρ : Sl} {i : Nat} {s : Slot} : ∀ {vs : List Nat}, (wipeS ρ vs)[i]? = some s → s ≠ .emp → ρ[i]? = some s ∧ i ∉ vs
  | [], h, _ => ⟨h, by simp⟩
  | v :: vs, h, hs => by
    unfold wipeS at h
    by_cases hv : i = v
    · subst hv
      have hl : i < (wipeS ρ vs).length := by
        have := lt_of_some h
        rwa [List.length_set] at this
      rw [List.getElem?_set_self hl] at h
      exact absurd (Option.some.inj h).symm hs
    · rw [List.getElem?_set_ne (Ne.symm hv)] at h
      obtain ⟨h1, h2⟩ := wipeS_get h hs
      exact ⟨h1, by simp [hv, h2]⟩
theorem restore_in {ρ0 ρ : Sl} (hl : ρ.length = ρ0.length) {i : Nat} : ∀ {vs : List Nat}, i ∈ vs → (restore ρ0 vs ρ)[i]? = ρ0[i]?
  | v :: vs, h => by
    unfold restore
    by_cases hv : i = v
    · subst hv
      have e1 : ((restore ρ0 vs ρ).set i (ρ0.getD i Slot.emp)).length = ρ0.length := by rw [List.length_set, restore_len, hl]
      by_cases hi : i < ρ0.length
      · rw [List.getElem?_set_self (by rw [restore_len, hl]; exact hi), List.getD_eq_getElem?_getD, List.getElem?_eq_getElem hi]
        rfl
      · rw [List.getElem?_eq_none (by rw [e1]; omega), List.getElem?_eq_none (by omega)]
    · rw [List.getElem?_set_ne (Ne.symm hv)]
      exact restore_in hl (by simpa [hv] using h)
theorem restore_out {ρ0 ρ : Sl} {i : Nat} : ∀ {vs : List Nat}, i ∉ vs → (restore ρ0 vs ρ)[i]? = ρ[i]?
  | [], _ => rfl
  | v :: vs, h => by
    unfold restore
    rw [List.getElem?_set_ne (fun z => h (by simp [z]))]
    exact restore_out fun z => h (List.mem_cons_of_mem _ z)
theorem wipe_in {σ : VS} {i : Nat} : ∀ {vs : List Nat}, i ∈ vs → i < σ.length → (wipe σ vs)[i]? = some none
  | v :: vs, h, hl => by
    unfold wipe
    by_cases hv : i = v
    · subst hv
      rw [List.getElem?_set_self (by rw [wipe_length]; exact hl)]
    · rw [List.getElem?_set_ne (Ne.symm hv)]
      exact wipe_in (by simpa [hv] using h) hl
theorem wipe_eq {σ σ' : VS} {vs : List Nat} (hl : σ'.length = σ.length) (h : ∀ i, i ∉ vs → σ'[i]? = (wipe σ vs)[i]?) : wipe σ' vs = wipe σ vs := by
  apply List.ext_getElem?
  intro i
  by_cases hi : i ∈ vs
  · by_cases hlt : i < σ.length
    · rw [wipe_in hi hlt, wipe_in hi (by omega)]
    · rw [List.getElem?_eq_none (by rw [wipe_length]; omega), List.getElem?_eq_none (by rw [wipe_length]; omega)]
  · rw [wipe_out hi, h i hi]
section
variable {B : VS} {P P1 : Hp} {σ σ' : VS} {ρ ρ' ρ0 ρ1 : Sl} {F F1 F2 H H1 H2 : Hp} {a D : Addr} {o o' : HO} {vs : List Nat}
theorem Rel.wipe (rel : Rel B P σ ρ F H) (vs : List Nat) : Rel B P (L2.wipe σ vs) (wipeS ρ vs) F H := by
  have ne : ∀ {i : Nat} {s : Slot}, (wipeS ρ vs)[i]? = some s → s ≠ .emp → ρ[i]? = some s ∧ (L2.wipe σ vs)[i]? = σ[i]? := fun h hs => by
    obtain ⟨h1, h2⟩ := wipeS_get h hs
    exact ⟨h1, wipe_out h2⟩
  refine ⟨by rw [wipeS_len, wipe_length]; exact rel.len, rel.fh, rel.ph, rel.fp, fun i d e => ?_, fun i b o e => ?_, fun i j a b b' o o' e1 e2 s1 s2 => ?_, fun i h => ?_⟩
  · rcases e with e | e
    · obtain ⟨h1, h2⟩ := ne e (fun z => nomatch z)
      rw [h2]; exact rel.val i d (.inl h1)
    · obtain ⟨h1, h2⟩ := ne e (fun z => nomatch z)
      rw [h2]; exact rel.val i d (.inr h1)
  · obtain ⟨h1, h2⟩ := ne e (fun z => nomatch z)
    rw [h2]; exact rel.own i b o h1
  · obtain ⟨h1, h2⟩ := ne e1 (fun z => nomatch z)
    obtain ⟨h3, h4⟩ := ne e2 (fun z => nomatch z)
    rw [h2] at s1; rw [h4] at s2
    exact rel.inj i j a b b' o o' h1 h3 s1 s2
  · rcases h with ⟨o, h⟩ | ⟨d, h⟩
    · obtain ⟨h1, h2⟩ := ne h (fun z => nomatch z)
      rw [h2]; exact rel.bor i (.inl ⟨o, h1⟩)
    · obtain ⟨h1, h2⟩ := ne h (fun z => nomatch z)
      rw [h2]; exact rel.bor i (.inr ⟨d, h1⟩)
/-- behind a block -/
theorem Rel.restore (rel0 : Rel B P σ ρ0 F H) (rel : Rel B P1 (L2.wipe σ vs) ρ F1 H1) (sP : Same P P1) (sF : Same F F1) (no : ∀ i ∈ vs, isOwn ρ0[i]? = false) : Rel B P σ (Sd.restore ρ0 vs ρ) F1 H1 := by
  have rel := rel.weakP sP
  have hl : ρ.length = ρ0.length := by rw [rel.len, wipe_length, rel0.len]
  have out : ∀ i, i ∉ vs → (Sd.restore ρ0 vs ρ)[i]? = ρ[i]? ∧ (L2.wipe σ vs)[i]? = σ[i]? := fun i hi => ⟨restore_out hi, wipe_out hi⟩
  have ow : ∀ {i : Nat} {b o}, (Sd.restore ρ0 vs ρ)[i]? = some (.own b o) → i ∉ vs := fun {i b o} h hi => by
    rw [restore_in hl hi] at h
    have := no i hi
    rw [h] at this
    cases this
  refine ⟨by rw [restore_len, rel.len, wipe_length], rel.fh, rel.ph, rel.fp, fun i d e => ?_, fun i b o e => ?_, fun i j a b b' o o' e1 e2 s1 s2 => ?_, fun i h => ?_⟩
  · by_cases hi : i ∈ vs
    · rw [restore_in hl hi] at e
      obtain ⟨v, h1, h2⟩ := rel0.val i d e
      exact ⟨v, h1, dp_up sF h2⟩
    · obtain ⟨h1, h2⟩ := out i hi
      rw [h1] at e; rw [← h2]
      exact rel.val i d e
  · obtain ⟨h1, h2⟩ := out i (ow e)
    rw [h1] at e; rw [← h2]
    exact rel.own i b o e
  · obtain ⟨h1, h2⟩ := out i (ow e1)
    obtain ⟨h3, h4⟩ := out j (ow e2)
    rw [h1] at e1; rw [h3] at e2; rw [← h2] at s1; rw [← h4] at s2
    exact rel.inj i j a b b' o o' e1 e2 s1 s2
  · by_cases hi : i ∈ vs
    · rw [restore_in hl hi] at h
      exact rel0.bor i h
    · obtain ⟨h1, h2⟩ := out i hi
      rw [h1] at h; rw [← h2]
      exact rel.bor i h
/-- what is held is written -/
theorem Rel.heldWrite (rel : Rel B (upd P D o) σ ρ F H) : Rel B (upd P D o') σ ρ F (upd H D o') := by
  have fD : F D = none := by
    cases q : F D with
    | none => rfl
    | some u =>
      have := rel.fp D u q
      rw [upd_same] at this; cases this
  refine ⟨rel.len, fun b x e => ?_, fun b x e => ?_, fun b x e => ?_, rel.val, fun i b ob e => ?_, rel.inj, rel.bor⟩
  · have nb : b ≠ D := by rintro rfl; rw [fD] at e; cases e
    rw [upd_ne nb]; exact rel.fh b x e
  · by_cases hb : b = D
    · subst hb; rw [upd_same] at e ⊢; exact e
    · rw [upd_ne hb] at e ⊢
      exact rel.ph b x (by rw [upd_ne hb]; exact e)
  · have nb : b ≠ D := by rintro rfl; rw [fD] at e; cases e
    have := rel.fp b x e
    rw [upd_ne nb] at this ⊢
    exact this
  · obtain ⟨a, ho, h1, h2, h3, h4, h5⟩ := rel.own i b ob e
    have na : a ≠ D := by rintro rfl; rw [upd_same] at h5; cases h5
    rw [upd_ne na] at h5
    exact ⟨a, ho, h1, by rw [upd_ne na]; exact h2, h3, h4, by rw [upd_ne na]; exact h5⟩
theorem Rel.holdNew (rel : Rel B P σ ρ F H) (hp : H D = none) : Rel B (upd P D o) σ ρ F (upd H D o) := by
  have rel2 := rel.new (o := o) hp
  refine ⟨rel.len, rel2.fh, fun b x e => ?_, fun b x e => ?_, rel.val, fun i b ob e => ?_, rel.inj, rel.bor⟩
  · by_cases hb : b = D
    · subst hb; rw [upd_same] at e ⊢; exact e
    · rw [upd_ne hb] at e; exact rel2.ph b x e
  · have nb : b ≠ D := by
      rintro rfl
      rw [rel.fh.free hp] at e; cases e
    rw [upd_ne nb]; exact rel.fp b x e
  · obtain ⟨a, ho, h1, h2, h3, h4, h5⟩ := rel2.own i b ob e
    have na : a ≠ D := by
      rintro rfl
      obtain ⟨a', ho', k1, k2, _⟩ := rel.own i b ob e
      rw [h1] at k1; cases k1
      rw [hp] at k2; cases k2
    exact ⟨a, ho, h1, h2, h3, h4, by rw [upd_ne na]; exact h5⟩
end

/-! ### comprehensions -/
def compL (vs : List Nat) (b : BS) (tt : CS) (te : ES) : List PyData → Sl → Option (List PyData × Sl)
  | [], ρ => some ([], ρ)
  | d :: ds, ρ => (b d ρ).bind fun ρ1 => (tt ρ1).bind fun t => if t.1 = true then (te t.2).bind fun r => (fz r.1 r.2).bind fun e => (compL vs b tt te ds (wipeS e.2 vs)).bind fun c => some (e.1 :: c.1, c.2)
    else compL vs b tt te ds (wipeS t.2 vs)
def sComp (vs : List Nat) (it : IS) (b : BS) (tt : CS) (te : ES) : ES := fun ρ => (it ρ).bind fun a => if a.1.length ≤ 1000000 ∧ (vs.all fun i => !isOwn a.2[i]?) = true then
    (compL vs b tt te a.1 (wipeS a.2 vs)).bind fun c => some (.tmp (.lst c.1), restore a.2 vs c.2) else none
def sYes : CS := fun ρ => some (true, ρ)
def TT1 (X : Cx) (ifs : List Expr) (s : CS) : Prop := PTs X ifs (tC' s)
theorem pts_imp {X : Cx} {e : List Expr} {t t' : TT} (h : PTs X e t) (i : ∀ σ H Q, t' σ H Q → t σ H Q) : PTs X e t' := ⟨fun pins s σ H Q I q => h.run pins s σ H Q I (i σ H Q q)⟩
theorem t1No {X : Cx} : TT1 X [] sYes := by
  refine pts_imp pts_nil fun σ H Q q => ?_
  obtain ⟨B, P, ρ, F, b, ρ', rel, hs, k⟩ := q
  have e := Option.some.inj hs
  injection e with e1 e2
  subst e1; subst e2
  exact k F H rel (Same.refl F)
theorem t1One {X : Cx} {c : Expr} {s : CS} (h : CC X c s) : TT1 X [c] s := pts_one h
section
variable {X : Cx} {vs : List Nat} {it : IS} {b : BS} {tt : CS} {te : ES}
theorem comp_read {ws : List Nat} (hw : ∀ i ∈ ws, i ∈ vs) {σ : VS} {H : Hp} {Q : VK} (q : tE (sComp vs it b tt te) σ H Q) : tLc (tI it) (tG ws b) (tC' tt) (tE te) vs σ H Q := by
  obtain ⟨B, P, ρ, F, r, ρ', rel, hs, k⟩ := q
  obtain ⟨⟨items, ρ0⟩, h1, hs⟩ := bindS hs
  dsimp only at hs
  split at hs
  · rename_i hc
    obtain ⟨hlen, hown⟩ := hc
    obtain ⟨⟨all, ρe⟩, h2, hs⟩ := bindS hs
    have e := Option.some.inj hs
    injection e with e1 e2
    subst e1; subst e2
    refine ⟨B, P, ρ, F, items, ρ0, rel, h1, fun F1 H1 J rel1 s1 jok => ?_⟩
    intro D hD
    refine ⟨fun i m H' => m = items.length - i ∧ i ≤ items.length ∧ ∃ ρi Fi acc ds rest, Rel B (upd P D (.lst acc)) (wipe σ vs) ρi Fi H' ∧ Same F1 Fi ∧ DenAll Fi acc ds ∧ acc.length ≤ i ∧ compL vs b tt te (items.drop i) ρi = some (rest, ρe) ∧ ds ++ rest = all,
      ⟨items.length, by simp, Nat.zero_le _, wipeS ρ0 vs, F1, [], [], all, (rel1.wipe vs).holdNew hD, Same.refl F1, .nil, Nat.zero_le _, h2, rfl⟩, ?_⟩
    rintro i m H2 ⟨rfl, hi, ρi, Fi, acc, ds, rest, rel2, s2, hd, hal, hl, hall⟩
    obtain ⟨jgo, jstop⟩ := jok Fi H2 s2 rel2.fh
    have HD : H2 D = some (.lst acc) := rel2.ph D _ upd_same
    by_cases hlt : i < items.length
    · rw [List.drop_eq_getElem_cons hlt] at hl
      obtain ⟨ρ1, g1, hl⟩ := bindS hl
      obtain ⟨⟨t, ρ2⟩, g2, hl⟩ := bindS hl
      obtain ⟨go, yld⟩ := jgo i _ (List.getElem?_eq_getElem hlt)
      refine .inr ⟨go, fun H' => ∃ ρi Fi acc ds rest, Rel B (upd P D (.lst acc)) (wipe σ vs) ρi Fi H' ∧ Same F1 Fi ∧ DenAll Fi acc ds ∧ acc.length ≤ i + 1 ∧ compL vs b tt te (items.drop (i + 1)) ρi = some (rest, ρe) ∧ ds ++ rest = all,
        fun H' z => ⟨items.length - (i + 1), by omega, rfl, hlt, z⟩, fun x H' y => ?_⟩
      obtain ⟨F3, rel3, s3, dn⟩ := (yld x H' y).rel rel2
      refine ⟨B, upd P D (.lst acc), ρi, F3, _, ρ1, rel3, dn, g1, fun σ4 F4 H4 rel4 s4 e4 l4 => ?_⟩
      have ew : wipe σ4 vs = wipe σ vs := wipe_eq (by rw [l4, wipe_length]) fun j hj => e4 j fun z => hj (hw j z)
      refine ⟨ew, B, upd P D (.lst acc), ρ1, F4, t, ρ2, rel4, g2, fun F5 H5 rel5 s5 => ?_⟩
      have sF : Same F1 F5 := s2.trans (s3.trans (s4.trans s5))
      cases t with
      | true =>
        obtain ⟨⟨re, ρ3⟩, g3, hl⟩ := bindS hl
        obtain ⟨⟨de, ρ4⟩, g4, hl⟩ := bindS hl
        obtain ⟨⟨more, ρ5⟩, g5, hl⟩ := bindS hl
        have e := Option.some.inj hl
        injection e with e1 e2
        subst e1; subst e2
        refine ⟨B, upd P D (.lst acc), ρ2, F5, re, ρ3, rel5, g3, fun y F6 H6 rel6 s6 ok6 => ?_⟩
        obtain ⟨F7, rel7, s7, dy, _⟩ := rel6.fz ok6 g4
        refine ⟨acc, rel7.ph D _ upd_same, ?_, ?_⟩
        · have : (1000000 : Nat) < sizeLine := by decide
          omega
        · refine ⟨wipeS ρ4 vs, F7, acc ++ [y], ds ++ [de], more, ?_, sF.trans (s6.trans s7), ?_, ?_, g5, ?_⟩
          · have := (rel7.wipe vs).heldWrite (o' := .lst (acc ++ [y]))
            rw [ew] at this
            exact this
          · exact dps_app (dps_up (s3.trans (s4.trans (s5.trans (s6.trans s7)))) hd) (.cons dy .nil)
          · rw [List.length_append, List.length_singleton]; omega
          · rw [List.append_assoc]; exact hall
      | false =>
        refine ⟨wipeS ρ2 vs, F5, acc, ds, rest, ?_, sF, dps_up (s3.trans (s4.trans s5)) hd, by omega, hl, hall⟩
        have := rel5.wipe vs
        rw [ew] at this
        exact this
    · have ei : items.drop i = [] := List.drop_eq_nil_of_le (by omega)
      rw [ei] at hl
      have e := Option.some.inj hl
      injection e with e1 e2
      subst e1; subst e2
      have ea : ds = all := by rw [← hall, List.append_nil]
      subst ea
      refine .inl ⟨jstop i (by omega), ?_⟩
      have pD : P D = none := rel1.ph.free hD
      have no : ∀ i ∈ vs, isOwn ρ0[i]? = false := fun j hj => by
        have := List.all_eq_true.mp hown j hj
        simpa using this
      have relR := rel1.restore rel2 (same_new pD) s2 no
      have fD : Fi D = none := by
        cases q : Fi D with
        | none => rfl
        | some u =>
          have := rel2.fp D u q
          rw [upd_same] at this; cases this
      refine k _ Fi H2 relR (s1.trans s2) ⟨D, _, rfl, HD, hd, fD, pD, fun j bb ob ej => ?_⟩
      obtain ⟨a, ho, f1, f2, f3, f4, f5⟩ := relR.own j bb ob ej
      intro z
      rw [f1] at z
      cases z
      have hj : j ∉ vs := fun hj => by
        have hl : ρi.length = ρ0.length := by rw [rel2.len, wipe_length, rel1.len]
        rw [restore_in hl hj] at ej
        have := no j hj
        rw [ej] at this
        cases this
      rw [restore_out hj] at ej
      obtain ⟨a', ho', k1, k2, k3, k4, k5⟩ := rel2.own j bb ob ej
      rw [wipe_out hj, f1] at k1
      cases k1
      rw [upd_same] at k5
      cases k5
  · cases hs
theorem eComp {ws : List Nat} {elt tg iter : Expr} {ifs : List Expr} {scope : Scope} {own : List (Str × Nat)} {pos : Pos} (hc : X.calm = true) (hN : X.N.Nodup) (hi : II X tg iter it) (ok : BlkOk X.N X.env.scope scope own)
    (hg : ∀ (s : Shared) (H : Hp) (C : Addr) (cl : List (Str × Addr)) (fp : List Addr), GG (X.blk s H scope (compEnvC scope cl C X.env) fp) tg ws b) (ht : ∀ (s : Shared) (H : Hp) (C : Addr) (cl : List (Str × Addr)) (fp : List Addr), TT1 (X.blk s H scope (compEnvC scope cl C X.env) fp) ifs tt)
    (he : ∀ (s : Shared) (H : Hp) (C : Addr) (cl : List (Str × Addr)) (fp : List Addr), EE (X.blk s H scope (compEnvC scope cl C X.env) fp) elt te) (hw : ∀ i ∈ ws, i ∈ own.map (·.2) := by decide) (hs : ∀ x, foldedSetIterable iter X.env x = pure x := by intro _; rfl) :
    EE X (.ListComp elt [⟨tg, iter, ifs, 0⟩] scope pos) (sComp (own.map (·.2)) it b tt te) :=
  pe_imp (pe_lc hc hN hi ok hg ht he hs) fun σ H Q q => comp_read hw q
theorem stSetLc {ws : List Nat} (i : Nat) {y : Str} {py : Pos} {elt tg iter : Expr} {ifs : List Expr} {scope : Scope} {own : List (Str × Nat)} {pos spos : Pos} (hc : X.calm = true) (hN : X.N.Nodup) (hi : II X tg iter it) (ok : BlkOk X.N X.env.scope scope own)
    (hg : ∀ (s : Shared) (H : Hp) (C : Addr) (cl : List (Str × Addr)) (fp : List Addr), GG (X.blk s H scope (compEnvC scope cl C X.env) fp) tg ws b) (ht : ∀ (s : Shared) (H : Hp) (C : Addr) (cl : List (Str × Addr)) (fp : List Addr), TT1 (X.blk s H scope (compEnvC scope cl C X.env) fp) ifs tt)
    (he : ∀ (s : Shared) (H : Hp) (C : Addr) (cl : List (Str × Addr)) (fp : List Addr), EE (X.blk s H scope (compEnvC scope cl C X.env) fp) elt te)
    (hsw : swapsWith (.ListComp elt [⟨tg, iter, ifs, 0⟩] scope pos) (some (.Name y py)) spos.line X.env = pure true) (hw : ∀ i ∈ ws, i ∈ own.map (·.2) := by decide) (hy : X.N[i]? = some y := by rfl) (hyl : X.env.scope.names.lookup y = some .local := by rfl) (hs : ∀ x, foldedSetIterable iter X.env x = pure x := by intro _; rfl) :
    S1 X (.Assign [.Name y py] (.ListComp elt [⟨tg, iter, ifs, 0⟩] scope pos) spos) (sSet i (sComp (own.map (·.2)) it b tt te)) :=
  ps_imp (ps_setLc hc hN hy hyl hsw hi ok hg ht he hs) fun D σ H q => asg_read (fun σ H Q q => comp_read hw q) q
end

/-! ### calls of one's own defs -/
/-- what a def does: its arguments as slots (own: may be changed), the result, the arguments behind it -/
abbrev FnS := List Slot → Option (R × List Slot)
def spOf (g : FnS) : Sp := fun vs H Q _ => ∃ args P F r fins, Rel (vs.map some) P (vs.map some) args F H ∧ g args = some (r, fins) ∧
  ∀ v F' H', Rel (vs.map some) P (vs.map some) fins F' H' → Same F F' → ROk P (vs.map some) fins F' H' r v → (∀ i, r ≠ .pk i) → Q v H'
@[simp] def argOf (ρ : Sl) : R → Option Slot
  | .imm d => some (.val d)
  | .tmp o => some (.own true o)
  | .pk i => match ρ[i]? with
    | some (.val d) => some (.val d)
    | some (.frz d) => some (.val d)
    | some (.own _ o) => some (.own true o)
    | _ => none
@[simp] def argsOf (ρ : Sl) : List R → Option (List Slot)
  | [] => some []
  | r :: rs => (argOf ρ r).bind fun s => (argsOf ρ rs).bind fun ss => some (s :: ss)
@[simp] def pks : List R → List Nat
  | [] => []
  | .pk i :: rs => i :: pks rs
  | _ :: rs => pks rs
@[simp] def back1 (i : Nat) (f : Slot) (ρ : Sl) : Sl := match ρ[i]?, f with
  | some (.own b _), .own _ o => ρ.set i (.own b o)
  | some (.own b _), .frz d => ρ.set i (if b = true then .frz d else .val d)
  | _, _ => ρ
@[simp] def backS : List R → List Slot → Sl → Sl
  | .pk i :: rs, f :: fs, ρ => backS rs fs (back1 i f ρ)
  | _ :: rs, _ :: fs, ρ => backS rs fs ρ
  | _, _, ρ => ρ
@[simp] def notPk : R → Bool
  | .pk _ => false
  | _ => true
def sCall (g : FnS) (sa : AS) : ES := fun ρ => (sa ρ).bind fun a => if (pks a.1).Nodup then (argsOf a.2 a.1).bind fun as => (g as).bind fun r => if notPk r.1 = true then some (r.1, backS a.1 r.2 a.2) else none else none
theorem back1_ne {i j : Nat} {f : Slot} {ρ : Sl} (h : j ≠ i) : (back1 i f ρ)[j]? = ρ[j]? := by
  unfold back1
  split
  · rw [List.getElem?_set_ne (Ne.symm h)]
  · rw [List.getElem?_set_ne (Ne.symm h)]
  · rfl
theorem back1_len {i : Nat} {f : Slot} {ρ : Sl} : (back1 i f ρ).length = ρ.length := by
  unfold back1
  split
  · rw [List.length_set]
  · rw [List.length_set]
  · rfl
theorem backS_len : ∀ {rs : List R} {fs : List Slot} {ρ : Sl}, (backS rs fs ρ).length = ρ.length
  | [], _, _ => rfl
  | .imm _ :: rs, [], _ => rfl
  | .tmp _ :: rs, [], _ => rfl
  | .pk _ :: rs, [], _ => rfl
  | .imm _ :: rs, f :: fs, ρ => backS_len (rs := rs)
  | .tmp _ :: rs, f :: fs, ρ => backS_len (rs := rs)
  | .pk i :: rs, f :: fs, ρ => (backS_len (rs := rs)).trans back1_len
theorem mem_pks : ∀ {rs : List R} {j : Nat}, j ∈ pks rs ↔ ∃ k : Nat, rs[k]? = some (.pk j)
  | [], j => by simp [pks]
  | .imm _ :: rs, j => by
    show j ∈ pks rs ↔ _
    rw [mem_pks (rs := rs)]
    constructor
    · rintro ⟨k, h⟩; exact ⟨k + 1, h⟩
    · rintro ⟨k, h⟩
      cases k with
      | zero => cases h
      | succ k => exact ⟨k, h⟩
  | .tmp _ :: rs, j => by
    show j ∈ pks rs ↔ _
    rw [mem_pks (rs := rs)]
    constructor
    · rintro ⟨k, h⟩; exact ⟨k + 1, h⟩
    · rintro ⟨k, h⟩
      cases k with
      | zero => cases h
      | succ k => exact ⟨k, h⟩
  | .pk i :: rs, j => by
    show j ∈ i :: pks rs ↔ _
    rw [List.mem_cons, mem_pks (rs := rs)]
    constructor
    · rintro (rfl | ⟨k, h⟩)
      · exact ⟨0, rfl⟩
      · exact ⟨k + 1, h⟩
    · rintro ⟨k, h⟩
      cases k with
      | zero =>
        have h := Option.some.inj h
        injection h with h
        exact .inl h.symm
      | succ k => exact .inr ⟨k, h⟩
theorem back_out : ∀ {rs : List R} {fs : List Slot} {ρ : Sl} {j : Nat}, j ∉ pks rs → (backS rs fs ρ)[j]? = ρ[j]?
  | [], _, _, _, _ => rfl
  | .imm _ :: rs, [], _, _, _ => rfl
  | .tmp _ :: rs, [], _, _, _ => rfl
  | .pk _ :: rs, [], _, _, _ => rfl
  | .imm _ :: rs, f :: fs, ρ, j, h => back_out (rs := rs) h
  | .tmp _ :: rs, f :: fs, ρ, j, h => back_out (rs := rs) h
  | .pk i :: rs, f :: fs, ρ, j, h => by
    have h : j ∉ i :: pks rs := h
    rw [List.mem_cons, not_or] at h
    exact (back_out (rs := rs) h.2).trans (back1_ne h.1)
theorem back1_at {i : Nat} {f : Slot} {ρ ρ' : Sl} (h : ρ[i]? = ρ'[i]?) (hl : ρ.length = ρ'.length) : (back1 i f ρ)[i]? = (back1 i f ρ')[i]? := by
  unfold back1
  rw [h]
  cases e : ρ'[i]? with
  | none => rw [h, e]
  | some s =>
    have hi : i < ρ'.length := lt_of_some e
    cases s with
    | own b o =>
      cases f with
      | own c o' =>
        show (ρ.set i (.own b o'))[i]? = (ρ'.set i (.own b o'))[i]?
        rw [List.getElem?_set_self hi, List.getElem?_set_self (by omega)]
      | frz d =>
        show (ρ.set i (if b = true then .frz d else .val d))[i]? = (ρ'.set i (if b = true then .frz d else .val d))[i]?
        rw [List.getElem?_set_self hi, List.getElem?_set_self (by omega)]
      | emp => show ρ[i]? = ρ'[i]?; exact h
      | val d => show ρ[i]? = ρ'[i]?; exact h
    | emp => show ρ[i]? = ρ'[i]?; exact h
    | val d => show ρ[i]? = ρ'[i]?; exact h
    | frz d => show ρ[i]? = ρ'[i]?; exact h
theorem back_in : ∀ {rs : List R} {fs : List Slot} {ρ : Sl} {j k : Nat} {f : Slot}, (pks rs).Nodup → rs[k]? = some (.pk j) → fs[k]? = some f → (backS rs fs ρ)[j]? = (back1 j f ρ)[j]?
  | [], _, _, _, _, _, _, h, _ => by simp at h
  | .imm _ :: rs, [], _, _, _, _, _, _, h => by simp at h
  | .tmp _ :: rs, [], _, _, _, _, _, _, h => by simp at h
  | .pk _ :: rs, [], _, _, _, _, _, _, h => by simp at h
  | .imm _ :: rs, f :: fs, ρ, j, 0, _, nd, h, h2 => by cases h
  | .tmp _ :: rs, f :: fs, ρ, j, 0, _, nd, h, h2 => by cases h
  | .imm _ :: rs, f :: fs, ρ, j, k + 1, _, nd, h, h2 => back_in (rs := rs) (k := k) nd h h2
  | .tmp _ :: rs, f :: fs, ρ, j, k + 1, _, nd, h, h2 => back_in (rs := rs) (k := k) nd h h2
  | .pk i :: rs, f :: fs, ρ, j, 0, f', nd, h, h2 => by
    have h := Option.some.inj h
    injection h with h
    subst h
    have h2 := Option.some.inj h2
    subst h2
    have nd : (i :: pks rs).Nodup := nd
    exact back_out (rs := rs) (List.nodup_cons.mp nd).1
  | .pk i :: rs, f :: fs, ρ, j, k + 1, f', nd, h, h2 => by
    have nd : (i :: pks rs).Nodup := nd
    obtain ⟨n1, n2⟩ := List.nodup_cons.mp nd
    have hj : j ≠ i := by
      rintro rfl
      exact n1 (mem_pks.mpr ⟨k, h⟩)
    refine (back_in (rs := rs) (k := k) n2 h h2).trans (back1_at (back1_ne hj) back1_len)
theorem argsOf_get {ρ : Sl} : ∀ {rs : List R} {as : List Slot} (k : Nat) {r : R}, argsOf ρ rs = some as → rs[k]? = some r → ∃ s, as[k]? = some s ∧ argOf ρ r = some s
  | [], _, k, r, _, h => by simp at h
  | r0 :: rs, _, 0, r, h, e => by
    obtain ⟨s, h1, h⟩ := bindS h
    obtain ⟨ss, h2, h⟩ := bindS h
    have h := Option.some.inj h
    subst h
    have e := Option.some.inj e
    subst e
    exact ⟨s, rfl, h1⟩
  | r0 :: rs, _, k + 1, r, h, e => by
    obtain ⟨s, h1, h⟩ := bindS h
    obtain ⟨ss, h2, h⟩ := bindS h
    have h := Option.some.inj h
    subst h
    exact argsOf_get k h2 e
theorem argsOf_len {ρ : Sl} : ∀ {rs : List R} {as : List Slot}, argsOf ρ rs = some as → as.length = rs.length
  | [], _, h => by
    have h := Option.some.inj h
    subst h; rfl
  | r0 :: rs, _, h => by
    obtain ⟨s, h1, h⟩ := bindS h
    obtain ⟨ss, h2, h⟩ := bindS h
    have h := Option.some.inj h
    subst h
    exact congrArg (· + 1) (argsOf_len h2)
section
variable {B : VS} {P : Hp} {σ : VS} {ρ : Sl} {F H : Hp}
theorem AOk.len {rs : List R} {vs : List V} (h : AOk P σ ρ F H rs vs) : rs.length = vs.length := by
  induction h with
  | nil => rfl
  | cons _ _ _ ih => exact congrArg (· + 1) ih
theorem AOk.apart {rs : List R} {vs : List V} (h : AOk P σ ρ F H rs vs) : ∀ (j k : Nat) (r r' : R) (v v' : V), j < k → rs[j]? = some r → vs[j]? = some v → rs[k]? = some r' → vs[k]? = some v' → Apart r r' v v' := by
  induction h with
  | nil => intro j k r r' v v' _ e; simp at e
  | cons h1 h2 h3 ih =>
    intro j k r r' v v' hjk e1 e2 e3 e4
    cases k with
    | zero => omega
    | succ k =>
      cases j with
      | zero =>
        have e1 := Option.some.inj e1
        have e2 := Option.some.inj e2
        subst e1; subst e2
        exact h3 k r' v' e3 e4
      | succ j => exact ih j k r r' v v' (by omega) e1 e2 e3 e4
/-- what the callee may not touch -/
noncomputable def others (F H : Hp) (as : List Slot) (vs : List V) : Hp := fun a => by
  classical
  exact if F a = none ∧ ¬ ∃ (k : Nat) (b : Bool) (o : Ob), as[k]? = some (.own b o) ∧ vs[k]? = some (.ref a) then H a else none
theorem others_some {as : List Slot} {vs : List V} {a : Addr} {o : HO} : others F H as vs a = some o ↔ H a = some o ∧ F a = none ∧ ¬ ∃ (k : Nat) (b : Bool) (o : Ob), as[k]? = some (.own b o) ∧ vs[k]? = some (.ref a) := by
  classical
  unfold others
  split
  · rename_i h; exact ⟨fun e => ⟨e, h⟩, fun e => e.1⟩
  · rename_i h
    constructor
    · intro e; cases e
    · intro e; exact absurd e.2 h
theorem map_some_get {vs : List V} {k : Nat} : (vs.map some)[k]? = (vs[k]?).map some := List.getElem?_map
/-- an argument that may be changed: a new object, or a slot's -/
theorem own_arg (rel : Rel B P σ ρ F H) {r : R} {v : V} {b : Bool} {o : Ob} (ok : ROk P σ ρ F H r v) (h : argOf ρ r = some (.own b o)) :
    b = true ∧ ∃ a ho, v = .ref a ∧ H a = some ho ∧ OHo F o ho ∧ F a = none ∧ P a = none ∧ ((r = .tmp o ∧ NotOwn σ ρ a) ∨ ∃ i c, r = .pk i ∧ ρ[i]? = some (.own c o) ∧ σ[i]? = some (some (.ref a))) := by
  cases r with
  | imm d => cases h
  | tmp o' =>
    have h := Option.some.inj h
    injection h with h1 h2
    subst h1; subst h2
    obtain ⟨a, ho, rfl, e2, e3, e4, e5, e6⟩ := ok
    exact ⟨rfl, a, ho, rfl, e2, e3, e4, e5, .inl ⟨rfl, e6⟩⟩
  | pk i =>
    have ok : σ[i]? = some (some v) := ok
    unfold argOf at h
    dsimp only at h
    split at h
    · cases h
    · cases h
    · rename_i c o' e
      have h := Option.some.inj h
      injection h with h1 h2
      subst h1; subst h2
      obtain ⟨a, ho, g1, g2, g3, g4, g5⟩ := rel.own i c _ e
      have q := ok
      rw [g1] at q
      cases q
      exact ⟨rfl, a, ho, rfl, g2, g3, g4, g5, .inr ⟨i, c, rfl, e, g1⟩⟩
    · cases h
theorem val_arg (rel : Rel B P σ ρ F H) {r : R} {v : V} {d : PyData} (ok : ROk P σ ρ F H r v) (h : argOf ρ r = some (.val d)) : Den F v d := by
  cases r with
  | imm d' =>
    have h := Option.some.inj h
    injection h with h1
    subst h1; exact ok
  | tmp o' => cases h
  | pk i =>
    have ok : σ[i]? = some (some v) := ok
    unfold argOf at h
    dsimp only at h
    split at h
    · rename_i d' e
      have h := Option.some.inj h
      injection h with h1
      subst h1
      obtain ⟨w, h1, h2⟩ := rel.val i _ (.inl e)
      rw [ok] at h1; cases h1; exact h2
    · rename_i d' e
      have h := Option.some.inj h
      injection h with h1
      subst h1
      obtain ⟨w, h1, h2⟩ := rel.val i _ (.inr e)
      rw [ok] at h1; cases h1; exact h2
    · cases h
    · cases h
theorem arg_kind {r : R} {s : Slot} (h : argOf ρ r = some s) : (∃ d, s = .val d) ∨ ∃ o, s = .own true o := by
  cases r with
  | imm d => exact .inl ⟨d, (Option.some.inj h).symm⟩
  | tmp o => exact .inr ⟨o, (Option.some.inj h).symm⟩
  | pk i =>
    unfold argOf at h
    dsimp only at h
    split at h
    · exact .inl ⟨_, (Option.some.inj h).symm⟩
    · exact .inl ⟨_, (Option.some.inj h).symm⟩
    · exact .inr ⟨_, (Option.some.inj h).symm⟩
    · cases h
/-- the callee's slots -/
theorem Rel.enter (rel : Rel B P σ ρ F H) {rs : List R} {vs : List V} {as : List Slot} (ok : AOk P σ ρ F H rs vs) (nd : (pks rs).Nodup) (ha : argsOf ρ rs = some as) :
    Rel (vs.map some) (others F H as vs) (vs.map some) as F H := by
  have gl : rs.length = vs.length := ok.len
  have al := argsOf_len ha
  have get : ∀ {k : Nat} {s : Slot}, as[k]? = some s → ∃ r v, rs[k]? = some r ∧ vs[k]? = some v ∧ ROk P σ ρ F H r v ∧ argOf ρ r = some s := fun {k s} e => by
    have hk := lt_of_some e
    have h1 : rs[k]? = some rs[k] := List.getElem?_eq_getElem (by omega)
    have h2 : vs[k]? = some vs[k] := List.getElem?_eq_getElem (by omega)
    obtain ⟨s', g1, g2⟩ := argsOf_get k ha h1
    rw [e] at g1; cases g1
    exact ⟨_, _, h1, h2, ok.get k h1 h2, g2⟩
  have sep : ∀ (j k : Nat) (a : Addr) (b b' : Bool) (o o' : Ob), j < k → as[j]? = some (.own b o) → as[k]? = some (.own b' o') → vs[j]? = some (.ref a) → vs[k]? = some (.ref a) → False := by
    intro j k a b b' o o' hjk e1 e2 s1 s2
    obtain ⟨r1, v1, f1, f2, f3, f4⟩ := get e1
    obtain ⟨r2, v2, g1, g2, g3, g4⟩ := get e2
    rw [s1] at f2; cases f2
    rw [s2] at g2; cases g2
    obtain ⟨_, a1, ho1, x1, _, _, _, _, x2⟩ := own_arg rel f3 f4
    obtain ⟨_, a2, ho2, y1, _, _, _, _, y2⟩ := own_arg rel g3 g4
    cases x1; cases y1
    have ap := ok.apart j k r1 r2 _ _ hjk f1 s1 g1 s2
    rcases x2 with ⟨rfl, n1⟩ | ⟨i, c, rfl, w1, w2⟩
    · rcases y2 with ⟨rfl, n2⟩ | ⟨i', c', rfl, z1, z2⟩
      · exact ap rfl
      · exact n1 i' c' _ z1 z2
    · rcases y2 with ⟨rfl, n2⟩ | ⟨i', c', rfl, z1, z2⟩
      · exact n2 i c _ w1 w2
      · have ei : i = i' := rel.inj i i' a c c' _ _ w1 z1 w2 z2
        subst ei
        have nn : ∀ (rs : List R) (j k : Nat), j < k → rs[j]? = some (.pk i) → rs[k]? = some (.pk i) → (pks rs).Nodup → False := by
          intro rs
          induction rs with
          | nil => intro j k _ e; simp at e
          | cons r rs ih =>
            intro j k hjk e1 e2 nd
            cases k with
            | zero => omega
            | succ k =>
              cases j with
              | zero =>
                have e1 := Option.some.inj e1
                subst e1
                have nd : (i :: pks rs).Nodup := nd
                exact (List.nodup_cons.mp nd).1 (mem_pks.mpr ⟨k, e2⟩)
              | succ j =>
                refine ih j k (by omega) e1 e2 ?_
                cases r with
                | pk i' =>
                  have nd : (i' :: pks rs).Nodup := nd
                  exact (List.nodup_cons.mp nd).2
                | imm d => exact nd
                | tmp o => exact nd
        exact nn rs j k hjk f1 g1 nd
  refine ⟨by rw [List.length_map]; omega, rel.fh, fun a o e => (others_some.mp e).1, fun a o e => ?_, fun k d e => ?_, fun k b o e => ?_, fun j k a b b' o o' e1 e2 s1 s2 => ?_, fun k _ => rfl⟩
  · cases q : others F H as vs a with
    | none => rfl
    | some u =>
      have := (others_some.mp q).2.1
      rw [e] at this; cases this
  · have e : as[k]? = some (.val d) := by
      rcases e with e | e
      · exact e
      · obtain ⟨r, v, _, _, _, h4⟩ := get e
        rcases arg_kind h4 with ⟨_, z⟩ | ⟨_, z⟩ <;> cases z
    obtain ⟨r, v, h1, h2, h3, h4⟩ := get e
    exact ⟨v, by rw [map_some_get, h2]; rfl, val_arg rel h3 h4⟩
  · obtain ⟨r, v, h1, h2, h3, h4⟩ := get e
    obtain ⟨hb, a, ho, rfl, g2, g3, g4, g5, _⟩ := own_arg rel h3 h4
    refine ⟨a, ho, by rw [map_some_get, h2]; rfl, g2, g3, g4, ?_⟩
    cases q : others F H as vs a with
    | none => rfl
    | some u => exact absurd ⟨k, b, o, e, h2⟩ (others_some.mp q).2.2
  · rw [map_some_get] at s1 s2
    cases q1 : vs[j]? with
    | none => rw [q1] at s1; cases s1
    | some v1 =>
      cases q2 : vs[k]? with
      | none => rw [q2] at s2; cases s2
      | some v2 =>
        rw [q1] at s1; rw [q2] at s2
        cases s1; cases s2
        rcases Nat.lt_trichotomy j k with h | h | h
        · exact (sep j k a b b' o o' h e1 e2 q1 q2).elim
        · exact h
        · exact (sep k j a b' b o' o h e2 e1 q2 q1).elim
end
end Sd


set_option Elab.async false
set_option linter.all false
set_option maxRecDepth 100000
/-! Sd6: a call behind it; a def's promise by its body. -/
namespace Sd
open PySem PySem.Spec PyProof.Rows L2

section
variable {B : VS} {P : Hp} {σ : VS} {ρ : Sl} {F H F' H' : Hp}
/-- which slots a call gives back -/
theorem back1_cases {i : Nat} {f : Slot} {ρ : Sl} {s : Slot} (h : (back1 i f ρ)[i]? = some s) :
    (ρ[i]? = some s ∧ ∀ b o, s = .own b o → (∀ o', f ≠ .own true o') ∧ ∀ o', f ≠ .own false o') ∨ (∃ b o c o', ρ[i]? = some (.own b o) ∧ f = .own c o' ∧ s = .own b o') ∨ ∃ b o d, ρ[i]? = some (.own b o) ∧ f = .frz d ∧ s = if b = true then .frz d else .val d := by
  unfold back1 at h
  cases e : ρ[i]? with
  | none => rw [e] at h; dsimp only at h; rw [e] at h; cases h
  | some t =>
    rw [e] at h
    have hi := lt_of_some e
    cases t with
    | own b o =>
      cases f with
      | own c o' =>
        dsimp only at h
        rw [List.getElem?_set_self hi] at h
        exact .inr (.inl ⟨b, o, c, o', rfl, rfl, (Option.some.inj h).symm⟩)
      | frz d =>
        dsimp only at h
        rw [List.getElem?_set_self hi] at h
        exact .inr (.inr ⟨b, o, d, rfl, rfl, (Option.some.inj h).symm⟩)
      | emp =>
        dsimp only at h
        rw [e] at h
        exact .inl ⟨h, fun _ _ _ => ⟨(fun _ z => nomatch z), (fun _ z => nomatch z)⟩⟩
      | val d =>
        dsimp only at h
        rw [e] at h
        exact .inl ⟨h, fun _ _ _ => ⟨(fun _ z => nomatch z), (fun _ z => nomatch z)⟩⟩
    | emp =>
      dsimp only at h
      rw [e] at h
      refine .inl ⟨h, fun b o z => ?_⟩
      rw [z] at h; cases h
    | val d =>
      dsimp only at h
      rw [e] at h
      refine .inl ⟨h, fun b o z => ?_⟩
      rw [z] at h; cases h
    | frz d =>
      dsimp only at h
      rw [e] at h
      refine .inl ⟨h, fun b o z => ?_⟩
      rw [z] at h; cases h
/-- each argument that may be changed is told behind the call -/
@[simp] def finOk : List Slot → List Slot → Bool
  | [], [] => true
  | .own _ _ :: as, .own _ _ :: fs => finOk as fs
  | .own _ _ :: as, .frz _ :: fs => finOk as fs
  | .val _ :: as, _ :: fs => finOk as fs
  | _, _ => false
theorem finOk_get : ∀ {as fs : List Slot}, finOk as fs = true → ∀ (k : Nat) {b : Bool} {o : Ob}, as[k]? = some (.own b o) → (∃ c o', fs[k]? = some (.own c o')) ∨ ∃ d, fs[k]? = some (.frz d)
  | [], [], _, k, b, o, h => by simp at h
  | .own _ _ :: as, .own _ _ :: fs, hk, 0, b, o, h => .inl ⟨_, _, rfl⟩
  | .own _ _ :: as, .frz _ :: fs, hk, 0, b, o, h => .inr ⟨_, rfl⟩
  | .own _ _ :: as, .own _ _ :: fs, hk, k + 1, b, o, h => finOk_get (as := as) hk k h
  | .own _ _ :: as, .frz _ :: fs, hk, k + 1, b, o, h => finOk_get (as := as) hk k h
  | .val _ :: as, f :: fs, hk, 0, b, o, h => by cases h
  | .val _ :: as, f :: fs, hk, k + 1, b, o, h => finOk_get (as := as) hk k h
theorem Rel.leaveCall (rel : Rel B P σ ρ F H) {rs : List R} {vs : List V} {as fins : List Slot} (ok : AOk P σ ρ F H rs vs) (nd : (pks rs).Nodup) (ha : argsOf ρ rs = some as) (hf : finOk as fins = true)
    (rel' : Rel (vs.map some) (others F H as vs) (vs.map some) fins F' H') (sF : Same F F') :
    Rel B P σ (backS rs fins ρ) F' H' ∧ ∀ r v, ROk (others F H as vs) (vs.map some) fins F' H' r v → notPk r = true → ROk P σ (backS rs fins ρ) F' H' r v := by
  have gl : rs.length = vs.length := ok.len
  have al := argsOf_len ha
  have get : ∀ {k : Nat} {s : Slot}, as[k]? = some s → ∃ r v, rs[k]? = some r ∧ vs[k]? = some v ∧ ROk P σ ρ F H r v ∧ argOf ρ r = some s := fun {k s} e => by
    have hk := lt_of_some e
    have h1 : rs[k]? = some rs[k] := List.getElem?_eq_getElem (by omega)
    have h2 : vs[k]? = some vs[k] := List.getElem?_eq_getElem (by omega)
    obtain ⟨s', g1, g2⟩ := argsOf_get k ha h1
    rw [e] at g1; cases g1
    exact ⟨_, _, h1, h2, ok.get k h1 h2, g2⟩
  -- what others holds
  have oth : ∀ {a : Addr} {o : HO}, P a = some o → others F H as vs a = some o := fun {a o} e => by
    refine others_some.mpr ⟨rel.ph a o e, ?_, ?_⟩
    · cases q : F a with
      | none => rfl
      | some u => have := rel.fp a u q; rw [e] at this; cases this
    · rintro ⟨k, b, o', e1, e2⟩
      obtain ⟨r, v, g1, g2, g3, g4⟩ := get e1
      rw [e2] at g2; cases g2
      obtain ⟨_, a', ho, x1, _, _, _, x5, _⟩ := own_arg rel g3 g4
      cases x1
      rw [e] at x5; cases x5
  -- a slot that the call does not name: its object stays
  have far : ∀ {j : Nat} {b : Bool} {o : Ob} {a : Addr} {ho : HO}, j ∉ pks rs → ρ[j]? = some (.own b o) → σ[j]? = some (some (.ref a)) → H a = some ho → F a = none → others F H as vs a = some ho := fun {j b o a ho} hj e1 e2 e3 e4 => by
    refine others_some.mpr ⟨e3, e4, ?_⟩
    rintro ⟨k, b', o', f1, f2⟩
    obtain ⟨r, v, g1, g2, g3, g4⟩ := get f1
    rw [f2] at g2; cases g2
    obtain ⟨_, a', ho', x1, _, _, _, _, x⟩ := own_arg rel g3 g4
    cases x1
    rcases x with ⟨rfl, n⟩ | ⟨i, c, rfl, w1, w2⟩
    · exact n j b o e1 e2
    · have : i = j := rel.inj i j a c b _ _ w1 e1 w2 e2
      subst this
      exact hj (mem_pks.mpr ⟨k, g1⟩)
  -- a slot that the call names
  have near : ∀ {j : Nat}, j ∈ pks rs → ∃ (k : Nat) (s : Slot) (v : V), rs[k]? = some (.pk j) ∧ as[k]? = some s ∧ vs[k]? = some v ∧ σ[j]? = some (some v) ∧ argOf ρ (.pk j) = some s ∧ (vs.map some)[k]? = some (some v) := fun {j} hj => by
    obtain ⟨k, hk⟩ := mem_pks.mp hj
    have hlt := lt_of_some hk
    obtain ⟨s, g1, g2⟩ := argsOf_get k ha hk
    have h2 : vs[k]? = some vs[k] := List.getElem?_eq_getElem (by omega)
    exact ⟨k, s, _, hk, g1, h2, ok.get k hk h2, g2, by rw [map_some_get, h2]; rfl⟩
  -- own behind: own ahead, the same address
  have own_back : ∀ {j : Nat} {b : Bool} {o : Ob}, (backS rs fins ρ)[j]? = some (.own b o) → ∃ o₀, ρ[j]? = some (.own b o₀) ∧
      ((j ∉ pks rs ∧ o = o₀) ∨ ∃ (k : Nat) (c : Bool) (v : V), rs[k]? = some (.pk j) ∧ fins[k]? = some (.own c o) ∧ vs[k]? = some v ∧ σ[j]? = some (some v)) := fun {j b o} e => by
    by_cases hj : j ∈ pks rs
    · obtain ⟨k, s, v, g1, g2, g3, g4, g5, g6⟩ := near hj
      have hlt : k < fins.length := by
        have := rel'.len
        rw [List.length_map] at this
        have := lt_of_some g3
        omega
      rw [back_in nd g1 (List.getElem?_eq_getElem hlt)] at e
      rcases back1_cases e with ⟨e1, e2⟩ | ⟨b', o', c, o'', e1, e2, e3⟩ | ⟨b', o', d, e1, e2, e3⟩
      · -- the argument is own, so is what is told
        have as_own : as[k]? = some (.own true o) := by
          have : argOf ρ (.pk j) = some (.own true o) := by
            show (match ρ[j]? with
              | some (.val d) => some (Slot.val d)
              | some (.frz d) => some (Slot.val d)
              | some (.own _ o) => some (Slot.own true o)
              | _ => none) = _
            rw [e1]
          rw [g5] at this
          rw [g2]; exact this
        obtain ⟨n1, n2⟩ := e2 b o rfl
        rcases finOk_get hf k as_own with ⟨c, o', q⟩ | ⟨d, q⟩
        · rw [List.getElem?_eq_getElem hlt] at q
          have q := Option.some.inj q
          cases c with
          | true => exact (n1 o' q).elim
          | false => exact (n2 o' q).elim
        · rw [List.getElem?_eq_getElem hlt] at q
          have q := Option.some.inj q
          unfold back1 at e
          rw [e1, q] at e
          dsimp only at e
          rw [List.getElem?_set_self (lt_of_some e1)] at e
          cases b <;> simp at e
      · cases e3
        exact ⟨o', e1, .inr ⟨k, c, v, g1, by rw [List.getElem?_eq_getElem hlt, e2], g3, g4⟩⟩
      · cases b' <;> simp at e3
    · rw [back_out hj] at e
      exact ⟨o, e, .inl ⟨hj, rfl⟩⟩
  have relB : Rel B P σ (backS rs fins ρ) F' H' := by
    refine ⟨by rw [backS_len]; exact rel.len, rel'.fh, fun a o e => rel'.ph a o (oth e), fun a o e => ?_, fun j d e => ?_, fun j b o e => ?_, fun i j a b b' o o' e1 e2 s1 s2 => ?_, fun j h => ?_⟩
    · cases q : P a with
      | none => rfl
      | some u =>
        have := rel'.fp a o e
        rw [oth q] at this; cases this
    · by_cases hj : j ∈ pks rs
      · obtain ⟨k, s, v, g1, g2, g3, g4, g5, g6⟩ := near hj
        have hlt : k < fins.length := by
          have := rel'.len
          rw [List.length_map] at this
          have := lt_of_some g3
          omega
        rw [back_in nd g1 (List.getElem?_eq_getElem hlt)] at e
        have fromF : ∀ d', fins[k]? = some (.frz d') → Den F' v d' := fun d' q => by
          obtain ⟨w, w1, w2⟩ := rel'.val k d' (.inr q)
          rw [g6] at w1; cases w1; exact w2
        have main : ∀ s', (back1 j fins[k] ρ)[j]? = some s' → (s' = .val d ∨ s' = .frz d) → ∃ v, σ[j]? = some (some v) ∧ Den F' v d := by
          intro s' es hs'
          rcases back1_cases es with ⟨e1, _⟩ | ⟨b', o', c, o'', e1, e2, e3⟩ | ⟨b', o', d', e1, e2, e3⟩
          · obtain ⟨w, w1, w2⟩ := rel.val j d (by
              rcases hs' with rfl | rfl
              · exact .inl e1
              · exact .inr e1)
            exact ⟨w, w1, dp_up sF w2⟩
          · rcases hs' with rfl | rfl <;> cases e3
          · have : d' = d := by
              cases b' <;> rcases hs' with rfl | rfl <;> simp at e3 <;> exact e3.symm
            subst this
            exact ⟨v, g4, fromF d' (by rw [List.getElem?_eq_getElem hlt, e2])⟩
        rcases e with e | e
        · exact main _ e (.inl rfl)
        · exact main _ e (.inr rfl)
      · rw [back_out hj] at e
        obtain ⟨v, h1, h2⟩ := rel.val j d e
        exact ⟨v, h1, dp_up sF h2⟩
    · obtain ⟨o₀, e0, ⟨hj, rfl⟩ | ⟨k, c, v, g1, g2, g3, g4⟩⟩ := own_back e
      · obtain ⟨a, ho, h1, h2, h3, h4, h5⟩ := rel.own j b o e0
        have q := far hj e0 h1 h2 h4
        refine ⟨a, ho, h1, rel'.ph a ho q, h3.up sF, ?_, h5⟩
        cases z : F' a with
        | none => rfl
        | some u => have := rel'.fp a u z; rw [q] at this; cases this
      · obtain ⟨a, ho, h1, h2, h3, h4, h5⟩ := rel.own j b o₀ e0
        rw [g4] at h1; cases h1
        obtain ⟨a', ho', f1, f2, f3, f4, f5⟩ := rel'.own k c o g2
        rw [map_some_get, g3] at f1
        cases f1
        exact ⟨a, ho', g4, f2, f3, f4, h5⟩
    · obtain ⟨o1, e1, _⟩ := own_back e1
      obtain ⟨o2, e2, _⟩ := own_back e2
      exact rel.inj i j a b b' _ _ e1 e2 s1 s2
    · refine rel.bor j ?_
      rcases h with ⟨o, h⟩ | ⟨d, h⟩
      · obtain ⟨o₀, e0, _⟩ := own_back h
        exact .inl ⟨o₀, e0⟩
      · by_cases hj : j ∈ pks rs
        · obtain ⟨k, s, v, g1, g2, g3, g4, g5, g6⟩ := near hj
          have hlt : k < fins.length := by
            have := rel'.len
            rw [List.length_map] at this
            have := lt_of_some g3
            omega
          rw [back_in nd g1 (List.getElem?_eq_getElem hlt)] at h
          rcases back1_cases h with ⟨e1, _⟩ | ⟨b', o', c, o'', e1, e2, e3⟩ | ⟨b', o', d', e1, e2, e3⟩
          · exact .inr ⟨d, e1⟩
          · cases e3
          · cases b' with
            | true => exact .inl ⟨o', e1⟩
            | false => simp at e3
        · rw [back_out hj] at h
          exact .inr ⟨d, h⟩
  refine ⟨relB, fun r v h hp => ?_⟩
  cases r with
  | imm d => exact h
  | pk i => cases hp
  | tmp o =>
    obtain ⟨a, ho, rfl, h2, h3, h4, h5, h6⟩ := h
    refine ⟨a, ho, rfl, h2, h3, h4, ?_, fun j b o' e q => ?_⟩
    · cases z : P a with
      | none => rfl
      | some u => rw [oth z] at h5; cases h5
    · obtain ⟨o₀, e0, ⟨hj, rfl⟩ | ⟨k, c, v, g1, g2, g3, g4⟩⟩ := own_back e
      · obtain ⟨a', ho', x1, x2, x3, x4, x5⟩ := rel.own j b _ e0
        rw [q] at x1; cases x1
        rw [far hj e0 q x2 x4] at h5; cases h5
      · rw [q] at g4; cases g4
        exact h6 k c o' g2 (by rw [map_some_get, g3]; rfl)
end

/-- a def that keeps its promise, where no repr is under way -/
structure FnG (P : Program) (w : World) (K : PySem.W.Frag) (mg : Str → Option Value) (base : Heap) (k : Nat) (f : Addr) (fd : FuncData) (ps : List Str) (sp : Sp) : Prop where
  len : ∀ vs H Q E, sp vs H Q E → vs.length = ps.length
  run : ∀ (A : Around) (outer : List Env) (s : Shared) (H : Hp) (args : Args) (us : List Value) (vs : List V) (Q : VK) (E : XK), Room k A → A.guards = some [] → Env0 P w K mg base A outer s H → BindsTo s fd args (ps.zip us) → Vals vs us → sp vs H Q E →
    codeAny (model P w) A (.call (.ref f) args) (CR CX0 outer P w H s Q E) s
/-- by its body, as L2.fn_of -/
theorem fnG_of {P : Program} {w : World} {K : PySem.W.Frag} {mg : Str → Option Value} {base : Heap} {k : Nat} {f : Addr} {x : Str} {params : Arguments} {body : List Stmt} {scope : Scope} {fd : FuncData} {N ps : List Str} {sp : Sp}
    (FD : FunD K x x params body scope [] [] f fd) (S : FnScope N ps scope) (len : ∀ vs H Q E, sp vs H Q E → vs.length = ps.length)
    (hbody : ∀ (cdv : Value) (A : Around) (outer : List Env) (s : Shared) (H : Hp) (vs : List V) (Q : VK) (E : XK), Room k (A.deeper (envOfC x scope s.heap.objs.size f cdv)) → A.guards = some [] → sp vs H Q E →
      ∃ t, PSs (cxOf CX0 P w K mg base N x scope f cdv A outer s H E) body t ∧ t { nx := fun _ H' => Q .non H', rt := Q } (L2.start N vs) H) :
    FnG P w K mg base (k + 1) f fd ps sp := by
  obtain ⟨oc, od, dV, kV, doc, pm, an, cdv, ct, osl, rfl, lk, hcd, _, _⟩ := FD.ex
  refine ⟨len, fun A outer s H args us vs Q E hr hgd e0 hb r hsp => ?_⟩
  have nvs := len _ _ _ _ hsp
  have inK : K.In s.heap := e0.mod.kin.keeps fun b o e => (e0.bs b o e).1
  have params_kind : ∀ y ∈ ps.zip us, scope.names.lookup y.1 = some .local ∨ (scope.names.lookup y.1 = some .cell ∧ ((cellsFrom (s.heap.objs.size + 1) scope.names []).lookup y.1).isSome = true) := fun ⟨n, v⟩ hy =>
    (S.par n (List.of_mem_zip hy).1).imp id fun q => ⟨q, PySem.W.cellsFrom_some _ _ _ (.inl q)⟩
  refine codeAny_call_function hr.depth (inK _ _ lk) rfl S.co S.gen rfl (PySem.W.codeRec_of inK hcd) (hb _ _ _ _ (wpAny_newFunctionEnv_cells S.kind params_kind fun env he s1 x => ?_))
  subst he
  refine ⟨(e0.mod.nolimit.keeps fun b o e => (e0.bs b o e).1).keeps x.toInCall.keep, codeAny_func ?_⟩
  obtain ⟨t, ht, hq⟩ := hbody cdv A outer s H vs Q E (hr.deeper _) hgd hsp
  refine wpAny_mono (ht.run [] s1 (L2.start N vs) H _ (inv_start S hr.hd e0 nvs r x) hq) (fun fl s' hs => ?_) fun e s' hs => hs
  cases fl with
  | ret u => exact let ⟨v, _, H', J, rv, q⟩ := hs; ⟨v, H', J.os, J.bare, J.base, J.hok, rv, q⟩
  | next => exact let ⟨_, H', J, q⟩ := hs; ⟨V.non, H', J.os, J.bare, J.base, J.hok, rfl, q⟩
  | brk => exact let ⟨_, _, _, q⟩ := hs; False.elim q
  | cont => exact let ⟨_, _, _, q⟩ := hs; False.elim q
theorem run_fnG {X : Cx} {pins : List (Addr × Obj)} {σ : VS} {H : Hp} {s : Shared} {Q : VK} {us : List Value} {vs : List V} {k : Nat} {f : Addr} {fd : FuncData} {ps : List Str} {sp : Sp} (F : FnG X.prog X.w X.K X.mg X.base k f fd ps sp) (hr : Room k X.A) (hgd : X.A.guards = some []) (hb : Binds X.K fd ps [])
    (I : Inv X pins σ H s) (r : Vals vs us) (h : sp vs H Q E0) : wpAny (model X.prog X.w) X.A (call (.ref f) us) (EP X pins σ Q) X.xe s := by
  have nus : us.length = ps.length := r.length.symm.trans (F.len _ _ _ _ h)
  have bd := hb s us I.kIn (by rw [List.append_nil]; exact nus)
  rw [List.append_nil] at bd
  refine wpAny_call (codeAny_mono (F.run X.A X.stack s H ⟨us, []⟩ us vs Q E0 hr hgd I.env0 bd r h) fun res s' hq => ?_)
  match res, hq with
  | .error _, hq => exact False.elim hq
  | .ok (.ret _), hq => exact I.after hq
  | .ok .next, hq => exact False.elim hq
  | .ok .brk, hq => exact False.elim hq
  | .ok .cont, hq => exact False.elim hq
/-- a def as a constant of the module -/
structure Cal (P : Program) (w : World) (K : PySem.W.Frag) (mg : Str → Option Value) (base : Heap) (k : Nat) (x : Str) (sp : Sp) : Prop where
  ex : ∃ (f : Addr) (fd : FuncData) (ps : List Str), FnG P w K mg base k f fd ps sp ∧ mg x = some (.ref f) ∧ PySem.W.keepIn K (.ref f) = true ∧ Binds K fd ps []
/-- a call -/
def sCalF (g : FnS) (sa : AS) : ES := fun ρ => (sa ρ).bind fun a => if (pks a.1).Nodup then (argsOf a.2 a.1).bind fun as => (g as).bind fun r => if notPk r.1 = true ∧ finOk as r.2 = true then some (r.1, backS a.1 r.2 a.2) else none else none
section
variable {X : Cx} {e : Expr} {es : List Expr} {ss : AS} {pos p : Pos}
theorem call_read {g : FnS} {σ : VS} {H : Hp} {Q : VK} {E : XK} (q : tE (sCalF g ss) σ H Q) : tAs ss σ H fun vs H1 => spOf g vs H1 Q E := by
  obtain ⟨B, P, ρ, F, r, ρ', rel, hs, k⟩ := q
  obtain ⟨⟨rs, ρ1⟩, h1, hs⟩ := bindS hs
  dsimp only at hs
  split at hs
  · rename_i nd
    obtain ⟨as, h2, hs⟩ := bindS hs
    obtain ⟨⟨r', fins⟩, h3, hs⟩ := bindS hs
    dsimp only at hs
    split at hs
    · rename_i hp
      have e := Option.some.inj hs
      injection e with e1 e2
      subst e1; subst e2
      refine ⟨B, P, ρ, F, rs, ρ1, rel, h1, fun vs F1 H1 rel1 s1 ok1 => ?_⟩
      refine ⟨as, others F1 H1 as vs, F1, r', fins, rel1.enter ok1 nd h2, h3, fun v F' H' rel' sF okr _ => ?_⟩
      obtain ⟨relB, okB⟩ := rel1.leaveCall ok1 nd h2 hp.2 rel' sF
      exact k v F' H' relB (s1.trans sF) (okB r' v okr hp.1)
    · cases hs
  · cases hs
theorem pe_cal {t : TA} {sp : Sp} {x : Str} {k j : Nat} (c : Cal X.prog X.w X.K X.mg X.base k x sp) (hr : Room j X.A) (hgd : X.A.guards = some []) (hk : k ≤ j) (hg : Gl X x) (ha : PA X (e :: es) t)
    (hdb : (x == ("__debug__" : Str)) = false := by decide) (he : starEach (e :: es) X.env = (false, eval e X.env) :: starEach es X.env := by rfl) (hpl : (backTo pos (starEach es X.env)).any (·.1) = false := by rfl) :
    PE X (.Call (.Name x p) (e :: es) [] pos) (tCall sp [] E0 t) := by
  obtain ⟨f, fd, ps, F, hm, kp, b⟩ := c.ex
  refine ⟨fun pins s σ H Q I h => wpAny_Call_Name_kw (ld_glob I hg hm ?_ hdb)⟩
  refine PySem.W.callWith_K (h₀ := X.base) I.ok.mod.kin kp (thn (ha.run pos pins s σ H _ I h) fun us s1 ⟨vs, H1, I1, r, q⟩ => ⟨I1.kIn, ?_⟩) he hpl
  have q : sp (vs ++ []) H1 Q E0 := q
  rw [List.append_nil] at q
  exact run_fnG F (hr.mono hk) hgd b I1 r q
theorem eCall {x : Str} {g : FnS} {k j : Nat} (c : Cal X.prog X.w X.K X.mg X.base k x (spOf g)) (hr : Room j X.A) (hgd : X.A.guards = some []) (hk : k ≤ j) (ha : AA X (e :: es) ss) (hg : Gl X x := by rfl)
    (hdb : (x == ("__debug__" : Str)) = false := by decide) (he : starEach (e :: es) X.env = (false, eval e X.env) :: starEach es X.env := by rfl) (hpl : (backTo pos (starEach es X.env)).any (·.1) = false := by rfl) :
    EE X (.Call (.Name x p) (e :: es) [] pos) (sCalF g ss) := by
  refine pe_imp (pe_cal c hr hgd hk hg ha hdb he hpl) fun σ H Q q => ?_
  show tAs ss σ H fun vs H1 => spOf g (vs ++ []) H1 Q E0
  have := call_read (E := E0) q
  simpa only [List.append_nil] using this

/-! ### a def's promise -/
@[simp] def finsOf : List Slot → Sl → Option (List Slot)
  | [], _ => some []
  | .val d :: as, _ :: ρ => (finsOf as ρ).bind fun fs => some (.val d :: fs)
  | .own true _ :: as, .own true o :: ρ => (finsOf as ρ).bind fun fs => some (.own true o :: fs)
  | .own true _ :: as, .frz d :: ρ => (finsOf as ρ).bind fun fs => some (.frz d :: fs)
  | _, _ => none
def runF (n : Nat) (s : SS) : FnS := fun args => (s (args ++ List.replicate (n - args.length) .emp)).bind fun a => match a.1 with
  | .rt r => (finsOf args a.2).bind fun fs => some (r, fs)
  | .nx => (finsOf args a.2).bind fun fs => some (.imm .none, fs)
  | _ => none
theorem finsOf_get : ∀ {as : List Slot} {ρ : Sl} {fs : List Slot}, finsOf as ρ = some fs → fs.length = as.length ∧ ∀ (k : Nat) {s : Slot}, fs[k]? = some s → (∃ d, s = .val d ∧ as[k]? = some (.val d)) ∨ (∃ o, s = .own true o ∧ ρ[k]? = some (.own true o)) ∨ ∃ d, s = .frz d ∧ ρ[k]? = some (.frz d)
  | [], _, _, h => by
    have h := Option.some.inj h
    subst h
    exact ⟨rfl, fun k s e => by simp at e⟩
  | .val d :: as, s0 :: ρ, _, h => by
    obtain ⟨fs, h1, h⟩ := bindS h
    have h := Option.some.inj h
    subst h
    obtain ⟨l, g⟩ := finsOf_get h1
    refine ⟨congrArg (· + 1) l, fun k s e => ?_⟩
    cases k with
    | zero => exact .inl ⟨d, (Option.some.inj e).symm, rfl⟩
    | succ k => exact g k e
  | .own true _ :: as, .own true o :: ρ, _, h => by
    obtain ⟨fs, h1, h⟩ := bindS h
    have h := Option.some.inj h
    subst h
    obtain ⟨l, g⟩ := finsOf_get h1
    refine ⟨congrArg (· + 1) l, fun k s e => ?_⟩
    cases k with
    | zero => exact .inr (.inl ⟨o, (Option.some.inj e).symm, rfl⟩)
    | succ k => exact g k e
  | .own true _ :: as, .frz d :: ρ, _, h => by
    obtain ⟨fs, h1, h⟩ := bindS h
    have h := Option.some.inj h
    subst h
    obtain ⟨l, g⟩ := finsOf_get h1
    refine ⟨congrArg (· + 1) l, fun k s e => ?_⟩
    cases k with
    | zero => exact .inr (.inr ⟨d, (Option.some.inj e).symm, rfl⟩)
    | succ k => exact g k e
  | .val _ :: _, [], _, h => by cases h
  | .emp :: _, _, _, h => by cases h
  | .frz _ :: _, _, _, h => by cases h
  | .own false _ :: _, _, _, h => by cases h
  | .own true _ :: _, [], _, h => by cases h
  | .own true _ :: _, .emp :: _, _, h => by cases h
  | .own true _ :: _, .val _ :: _, _, h => by cases h
  | .own true _ :: _, .own false _ :: _, _, h => by cases h
theorem Rel.begin {P : Hp} {vs : List V} {args : List Slot} {F H : Hp} (rel : Rel (vs.map some) P (vs.map some) args F H) (n : Nat) :
    Rel (vs.map some) P (vs.map some ++ List.replicate n none) (args ++ List.replicate n .emp) F H := by
  have hl := rel.len
  have old : ∀ {i : Nat} {s : Slot}, (args ++ List.replicate n Slot.emp)[i]? = some s → s ≠ .emp → args[i]? = some s ∧ (vs.map some ++ List.replicate n none)[i]? = (vs.map some)[i]? := fun {i s} e hs => by
    by_cases hi : i < args.length
    · rw [List.getElem?_append_left hi] at e
      exact ⟨e, List.getElem?_append_left (by omega)⟩
    · rw [List.getElem?_append_right (by omega)] at e
      rw [List.getElem?_replicate] at e
      split at e
      · exact absurd (Option.some.inj e).symm hs
      · cases e
  refine ⟨by rw [List.length_append, List.length_append, List.length_replicate, List.length_replicate, hl], rel.fh, rel.ph, rel.fp, fun i d e => ?_, fun i b o e => ?_, fun i j a b b' o o' e1 e2 s1 s2 => ?_, fun i h => ?_⟩
  · rcases e with e | e
    · obtain ⟨h1, h2⟩ := old e (fun z => nomatch z)
      rw [h2]; exact rel.val i d (.inl h1)
    · obtain ⟨h1, h2⟩ := old e (fun z => nomatch z)
      rw [h2]; exact rel.val i d (.inr h1)
  · obtain ⟨h1, h2⟩ := old e (fun z => nomatch z)
    rw [h2]; exact rel.own i b o h1
  · obtain ⟨h1, h2⟩ := old e1 (fun z => nomatch z)
    obtain ⟨h3, h4⟩ := old e2 (fun z => nomatch z)
    rw [h2] at s1; rw [h4] at s2
    exact rel.inj i j a b b' o o' h1 h3 s1 s2
  · rcases h with ⟨o, h⟩ | ⟨d, h⟩
    · obtain ⟨h1, h2⟩ := old h (fun z => nomatch z)
      exact h2
    · obtain ⟨h1, h2⟩ := old h (fun z => nomatch z)
      exact h2
theorem Rel.finish {P : Hp} {vs : List V} {args : List Slot} {F H F' H' : Hp} {σ : VS} {ρ : Sl} {fs : List Slot} (rel0 : Rel (vs.map some) P (vs.map some) args F H) (rel : Rel (vs.map some) P σ ρ F' H') (sF : Same F F') (hf : finsOf args ρ = some fs) :
    Rel (vs.map some) P (vs.map some) fs F' H' ∧ ∀ r v, notPk r = true → ROk P σ ρ F' H' r v → ROk P (vs.map some) fs F' H' r v := by
  obtain ⟨hl, g⟩ := finsOf_get hf
  have ow : ∀ {k : Nat} {b : Bool} {o : Ob}, fs[k]? = some (.own b o) → b = true ∧ ρ[k]? = some (.own true o) ∧ σ[k]? = (vs.map some)[k]? := fun {k b o} e => by
    rcases g k e with ⟨d, z, _⟩ | ⟨o', z, z2⟩ | ⟨d, z, _⟩
    · cases z
    · cases z
      exact ⟨rfl, z2, rel.bor k (.inl ⟨_, z2⟩)⟩
    · cases z
  refine ⟨⟨by rw [hl, rel0.len], rel.fh, rel.ph, rel.fp, fun k d e => ?_, fun k b o e => ?_, fun i j a b b' o o' e1 e2 s1 s2 => ?_, fun k _ => rfl⟩, fun r v hp ok => ?_⟩
  · rcases e with e | e
    · rcases g k e with ⟨d', z, z2⟩ | ⟨o', z, _⟩ | ⟨d', z, _⟩
      · cases z
        obtain ⟨v, h1, h2⟩ := rel0.val k d (.inl z2)
        exact ⟨v, h1, dp_up sF h2⟩
      · cases z
      · cases z
    · rcases g k e with ⟨d', z, z2⟩ | ⟨o', z, _⟩ | ⟨d', z, z2⟩
      · cases z
      · cases z
      · cases z
        obtain ⟨v, h1, h2⟩ := rel.val k d (.inr z2)
        have hb : σ[k]? = (vs.map some)[k]? := rel.bor k (.inr ⟨d, z2⟩)
        exact ⟨v, by rw [← hb]; exact h1, h2⟩
  · obtain ⟨rfl, h1, h2⟩ := ow e
    rw [← h2]
    exact rel.own k true o h1
  · obtain ⟨rfl, h1, h2⟩ := ow e1
    obtain ⟨rfl, h3, h4⟩ := ow e2
    rw [← h2] at s1; rw [← h4] at s2
    exact rel.inj i j a _ _ o o' h1 h3 s1 s2
  · cases r with
    | imm d => exact ok
    | pk i => cases hp
    | tmp o =>
      obtain ⟨a, ho, rfl, k2, k3, k4, k5, k6⟩ := ok
      refine ⟨a, ho, rfl, k2, k3, k4, k5, fun j b o' e q => ?_⟩
      obtain ⟨rfl, h1, h2⟩ := ow e
      rw [← h2] at q
      exact k6 j true o' h1 q
end

section
variable {P : Program} {w : World} {K : PySem.W.Frag} {mg : Str → Option Value} {base : Heap}
/-- the context of a def's body -/
abbrev bX (P : Program) (w : World) (K : PySem.W.Frag) (mg : Str → Option Value) (base : Heap) (N : List Str) (q : Str) (sc : Scope) (f : Addr) (cdv : Value) (A : Around) (outer : List Env) (s : Shared) (H : Hp) (E : XK) : Cx := (cxOf CX0 P w K mg base N q sc f cdv A outer s H E).nox
theorem mkCal {x : Str} {st : Stmt} {N ps : List Str} {k : Nat} {s : SS} {g : FnS} (h : ∃ fd, FunD K x x (defArgs st) (defBody st) (defScope st) [] [] (He.fAd K (x, none)) fd) (gl : mg x = some (.ref (He.fAd K (x, none)))) (S : FnScope N ps (defScope st))
    (bd : ∀ (kV doc pm : Value) (an : Option Addr) (cdv ct : Value) (us : List Value), us.length = ps.length → bindArgs (PySem.W.fnOf x x (defArgs st) (defBody st) (defScope st) .none kV doc pm an cdv ct) ⟨us, []⟩ = pure (ps.zip us))
    (hN : ps.length ≤ N.length) (len : ∀ args r, g args = some r → args.length = ps.length)
    (hb : ∀ (f : Addr) (cdv : Value) (A : Around) (outer : List Env) (s0 : Shared) (H : Hp) (E : XK), Room k (bX P w K mg base N x (defScope st) f cdv A outer s0 H E).A → (bX P w K mg base N x (defScope st) f cdv A outer s0 H E).A.guards = some [] → SB (bX P w K mg base N x (defScope st) f cdv A outer s0 H E) (defBody st) s)
    (hg : ∀ args r, g args = some r → notPk r.1 = true ∧ runF N.length s args = some r) : Cal P w K mg base (k + 1) x (spOf g) := by
  obtain ⟨fd, FD⟩ := h
  refine ⟨_, fd, ps, fnG_of FD S (fun vs H Q E h => ?_) (fun cdv A outer s0 H vs Q E hr hgd h => ?_), gl, FD.kp, FD.bindsN bd⟩
  · obtain ⟨args, Pp, F, r, fins, rel, hgr, _⟩ := h
    have := rel.len
    rw [List.length_map] at this
    rw [← this]
    exact len _ _ hgr
  · refine ⟨_, PSs.nox (hb _ cdv A outer s0 H E hr hgd), ?_⟩
    obtain ⟨args, Pp, F, r, fins, rel, hgr, k⟩ := h
    obtain ⟨hp, hrun⟩ := hg _ _ hgr
    have hl : args.length = vs.length := by
      have := rel.len
      rw [List.length_map] at this
      exact this
    obtain ⟨⟨fl, ρ'⟩, h1, h2⟩ := bindS hrun
    have rel1 := rel.begin (N.length - args.length)
    refine ⟨vs.map some, Pp, args ++ List.replicate (N.length - args.length) .emp, F, fl, ρ', ?_, h1, fun σ' F' H' rel' sF => ?_⟩
    · unfold L2.start
      rw [hl] at rel1
      rw [hl]
      exact rel1
    · cases fl with
      | nx =>
        obtain ⟨fs, g1, h2⟩ := bindS h2
        have e := Option.some.inj h2
        injection e with e1 e2
        subst e1; subst e2
        obtain ⟨relf, okf⟩ := rel.finish rel' sF g1
        exact k .non F' H' relf sF .non (fun i z => nomatch z)
      | rt r' =>
        obtain ⟨fs, g1, h2⟩ := bindS h2
        have e := Option.some.inj h2
        injection e with e1 e2
        subst e1; subst e2
        obtain ⟨relf, okf⟩ := rel.finish rel' sF g1
        intro v ok
        exact k v F' H' relf sF (okf r' v hp ok) (fun i z => by rw [z] at hp; cases hp)
      | bk => cases h2
      | ct => cases h2
end
end Sd


set_option Elab.async false
set_option linter.all false
set_option maxRecDepth 100000
/-! Sd7: what is built in. -/
namespace Sd
open PySem PySem.Spec PyProof.Rows L2

/-! ### small data: what may be compared, shown -/
mutual
def mass : PyData → Nat
  | .none => 10
  | .bool _ => 10
  | .int i => if i.natAbs < 10 ^ 40 then 50 else 1000000000
  | .str x => if x.cps.all (· < 0x110000) = true ∧ x.length ≤ 30 then 400 else 1000000000
  | .list xs => massAll xs + 10
  | .tuple xs => massAll xs + 10
  | .dict _ => 1000000000
def massAll : List PyData → Nat
  | [] => 0
  | x :: xs => mass x + 4 + massAll xs
end
def Sm (d : PyData) : Prop := mass d ≤ 1000000 ∧ d.depth ≤ 20
instance (d : PyData) : Decidable (Sm d) := by unfold Sm; infer_instance
theorem massAll_le {c : Nat} : ∀ {l : List PyData}, (∀ x ∈ l, mass x ≤ c) → massAll l ≤ l.length * (c + 4)
  | [], _ => Nat.zero_le _
  | x :: l, h => by
    have h1 := h x List.mem_cons_self
    have h2 := massAll_le (l := l) fun y hy => h y (List.mem_cons_of_mem _ hy)
    show mass x + 4 + massAll l ≤ (l.length + 1) * (c + 4)
    rw [Nat.add_mul, Nat.one_mul]
    omega
theorem depthAll_le {c : Nat} : ∀ {l : List PyData}, (∀ x ∈ l, x.depth ≤ c) → PyData.depthAll l ≤ c
  | [], _ => Nat.zero_le _
  | x :: l, h => by
    show max x.depth (PyData.depthAll l) ≤ c
    exact Nat.max_le.mpr ⟨h x List.mem_cons_self, depthAll_le fun y hy => h y (List.mem_cons_of_mem _ hy)⟩
theorem int_len {i : Int} (h : i.natAbs < 10 ^ 40) : (Str.ofString (toString i)).length ≤ 42 := by
  have := int_text_length_le10 (k := 40) (by decide) h
  rw [PySem.ofString_length]
  omega
theorem textFrom_up : ∀ (ts : List Str) (k : Nat) (acc : Str), (textFrom k acc ts).length ≤ acc.length + (ts.map fun t => t.length + 2).sum
  | [], k, acc => by simp [textFrom]
  | t :: ts, k, acc => by
    have ih := textFrom_up ts (k + 1) (acc ++ (if k > 0 then ", " else "" : String) ++ t)
    rw [strLen_append, strLen_append] at ih
    have e : ((if k > 0 then ", " else "" : String) : Str).length ≤ 2 := by
      split
      · exact Nat.le_refl 2
      · exact Nat.zero_le 2
    show (textFrom (k + 1) _ ts).length ≤ _
    rw [List.map_cons, List.sum_cons]
    omega
theorem joinLen : ∀ ts : List Str, (Str.join ", " ts).length ≤ (ts.map fun t => t.length + 2).sum
  | [] => Nat.zero_le _
  | t :: ts => by
    have := join_length_add (t :: ts) (by simp)
    unfold piled at this
    omega
theorem str_room {x : Str} (h : x.cps.all (· < 0x110000) = true ∧ x.length ≤ 30) : (reprText x).length ≤ 302 := by
  have := StrLaws.reprText_len x (fun c hc => by
    have h1 := h.1
    rw [Array.all_eq_true'] at h1
    have := h1 c (by simpa using hc)
    have h2 : c < 0x110000 := by simpa using this
    have : (0x110000 : Nat) < 16 ^ 8 := by decide
    omega)
  omega
mutual
theorem small_shown : ∀ d : PyData, mass d ≤ 1000000 → d.showable = true ∧ d.canLay0 = true ∧ d.hasDict = false ∧ d.shown.length ≤ mass d
  | .none, _ => ⟨rfl, rfl, rfl, by decide⟩
  | .bool b, _ => ⟨rfl, rfl, rfl, by cases b <;> decide⟩
  | .int i, h => by
    unfold mass at h ⊢
    split at h
    · rename_i hi
      rw [if_pos hi]
      refine ⟨?_, rfl, rfl, Nat.le_trans (int_len hi) (by decide)⟩
      have : i.natAbs.log2 < 1920 := by
        by_cases h0 : i.natAbs = 0
        · rw [h0]; decide
        · rw [Nat.log2_lt h0]
          exact Nat.lt_trans hi (by decide)
      exact decide_eq_true this
    · omega
  | .str x, h => by
    unfold mass at h ⊢
    split at h
    · rename_i hx
      rw [if_pos hx]
      exact ⟨rfl, by simp only [PyData.canLay0, PyData.strOk]; exact hx.1, rfl, Nat.le_trans (str_room hx) (by decide)⟩
    · omega
  | .list xs, h => by
    unfold mass at h ⊢
    obtain ⟨h1, h2, h3, h4⟩ := small_shownAll xs (by omega)
    refine ⟨by simpa [PyData.showable] using h1, by simpa [PyData.canLay0] using h2, by simpa [PyData.hasDict] using h3, ?_⟩
    show (listText (PyData.shownAll xs)).length ≤ _
    unfold listText
    rw [strLen_append]
    have := textFrom_up (PyData.shownAll xs) 0 "["
    have e1 : ((("[" : String) : Str)).length = 1 := rfl
    have e2 : ((("]" : String) : Str)).length = 1 := rfl
    omega
  | .tuple xs, h => by
    unfold mass at h ⊢
    obtain ⟨h1, h2, h3, h4⟩ := small_shownAll xs (by omega)
    refine ⟨by simpa [PyData.showable] using h1, by simpa [PyData.canLay0] using h2, by simpa [PyData.hasDict] using h3, ?_⟩
    show (tupleText (PyData.shownAll xs)).length ≤ _
    unfold tupleText
    rw [strLen_append, strLen_append]
    have := joinLen (PyData.shownAll xs)
    have e1 : ((("(" : String) : Str)).length = 1 := rfl
    have e2 : ((if (PyData.shownAll xs).length == 1 then ",)" else ")" : String) : Str).length ≤ 2 := by
      split
      · exact Nat.le_refl 2
      · exact (by decide : 1 ≤ 2)
    omega
  | .dict _, h => by
    unfold mass at h
    omega
theorem small_shownAll : ∀ xs : List PyData, massAll xs ≤ 1000000 → PyData.showableAll xs = true ∧ PyData.canLayAll0 xs = true ∧ PyData.hasDictAll xs = false ∧ ((PyData.shownAll xs).map fun t => t.length + 2).sum ≤ massAll xs
  | [], _ => ⟨rfl, rfl, rfl, Nat.le_refl 0⟩
  | x :: xs, h => by
    unfold massAll at h ⊢
    obtain ⟨h1, h2, h3, h4⟩ := small_shown x (by omega)
    obtain ⟨g1, g2, g3, g4⟩ := small_shownAll xs (by omega)
    refine ⟨by simp [PyData.showableAll, h1, g1], by simp [PyData.canLayAll0, h2, g2], by simp [PyData.hasDictAll, h3, g3], ?_⟩
    show ((x.shown :: PyData.shownAll xs).map fun t => t.length + 2).sum ≤ _
    rw [List.map_cons, List.sum_cons]
    omega
end
theorem Sm.shaped {d : PyData} (h : Sm d) : SeqAt.shaped d = true := by
  unfold SeqAt.shaped
  rw [Bool.and_eq_true]
  exact ⟨(small_shown d h.1).2.1, decide_eq_true (Nat.le_trans h.2 (by decide))⟩

/-! ### operators -/
section
variable {X : Cx} {j : Nat}
theorem rrk_int {F H : Hp} {i : Int} {Q : VK} (h : RRk F H (.at (.int i)) Q) : Q (.int i) H := h _ (.int i)
theorem rrk_bool {F H : Hp} {i : Bool} {Q : VK} (h : RRk F H (.at (.bool i)) Q) : Q (.bl i) H := h _ (.bl i)
def mulOk (i j : Int) : Prop := i.natAbs.log2 + j.natAbs.log2 < 1000000
instance (i j : Int) : Decidable (mulOk i j) := by unfold mulOk; infer_instance
def divOk (j : Int) : Prop := 0 < j ∧ j.natAbs.log2 < 9000
instance (j : Int) : Decidable (divOk j) := by unfold divOk; infer_instance
def powOk (i j : Int) : Prop := 0 ≤ j ∧ (Builtin.Int.intBits i : Int) * j ≤ 2 ^ 27
instance (i j : Int) : Decidable (powOk i j) := by unfold powOk; infer_instance
def gAdd : FB2
  | .int i, .int j => some (.at (.int (i + j)))
  | .list l, .list m => if l.length + m.length ≤ 1000000 then some (.nl (l ++ m)) else none
  | .tuple l, .tuple m => if l.length + m.length ≤ 1000000 then some (.tt (l ++ m)) else none
  | _, _ => none
@[simp] def gSub : FB2
  | .int i, .int j => some (.at (.int (i - j)))
  | _, _ => none
def gMul : FB2
  | .int i, .int j => if mulOk i j then some (.at (.int (i * j))) else none
  | .list l, .int k => if -1000000 ≤ k ∧ k ≤ 1000000 ∧ l.length * k.toNat ≤ 1000000 then some (.nl (List.replicate k.toNat l).flatten) else none
  | .tuple l, .int k => if l ≠ [] ∧ 2 ≤ k ∧ k ≤ 1000 ∧ l.length ≤ 1000 then some (.nt (List.replicate k.toNat l).flatten) else none
  | _, _ => none
def gDiv : FB2
  | .int i, .int j => if divOk j then some (.at (.int (i / j))) else none
  | _, _ => none
def gMod : FB2
  | .int i, .int j => if 0 < j then some (.at (.int (i % j))) else none
  | _, _ => none
def gPow : FB2
  | .int i, .int j => if powOk i j then some (.at (.int (i ^ j.toNat))) else none
  | _, _ => none
@[simp] def gLt : FB2
  | .int i, .int j => some (.at (.bool (decide (i < j))))
  | _, _ => none
@[simp] def gLe : FB2
  | .int i, .int j => some (.at (.bool (decide (i ≤ j))))
  | _, _ => none
@[simp] def gGt : FB2
  | .int i, .int j => some (.at (.bool (decide (j < i))))
  | _, _ => none
@[simp] def gGe : FB2
  | .int i, .int j => some (.at (.bool (decide (j ≤ i))))
  | _, _ => none
def gEq : FB2
  | .str a, .str b => some (.at (.bool (decide (a = b))))
  | .int a, .int b => some (.at (.bool (decide (a = b))))
  | d, e => if Sm d ∧ Sm e then some (.at (.bool (PyData.eqv d e))) else none
def gNe : FB2
  | .str a, .str b => some (.at (.bool (!decide (a = b))))
  | .int a, .int b => some (.at (.bool (!decide (a = b))))
  | d, e => if Sm d ∧ Sm e then some (.at (.bool (!PyData.eqv d e))) else none
def gIs : FB2
  | .none, .none => some (.at (.bool true))
  | .bool a, .bool b => some (.at (.bool (decide (a = b))))
  | .dict _, _ => none
  | _, .none => some (.at (.bool false))
  | _, _ => none
@[simp] def gIsNot : FB2
  | .none, .none => some (.at (.bool false))
  | .bool a, .bool b => some (.at (.bool (!decide (a = b))))
  | .dict _, _ => none
  | _, .none => some (.at (.bool true))
  | _, _ => none
def gIn : FB2
  | d, .list ds => if Sm d ∧ Sm (.list ds) then some (.at (.bool (ds.any fun z => PyData.eqv z d))) else none
  | d, .tuple ds => if Sm d ∧ Sm (.tuple ds) then some (.at (.bool (ds.any fun z => PyData.eqv z d))) else none
  | _, _ => none
def gNotIn : FB2
  | d, .list ds => if Sm d ∧ Sm (.list ds) then some (.at (.bool (!ds.any fun z => PyData.eqv z d))) else none
  | d, .tuple ds => if Sm d ∧ Sm (.tuple ds) then some (.at (.bool (!ds.any fun z => PyData.eqv z d))) else none
  | _, _ => none
@[simp] def gNeg : FB1
  | .int i => some (.at (.int (-i)))
  | _ => none
theorem opInt {f : Value → Value → Sem Value} {C : Int → Int → Prop} {k : Int → Int → V} {g : FB2} (h : OpR X f (rI C k)) (hg : ∀ d e rr, g d e = some rr → ∃ i j, d = .int i ∧ e = .int j ∧ C i j ∧ ∀ F H Q, RRk F H rr Q → Q (k i j) H) : OpR X f (rB2 g) :=
  opR_imp h fun x y H Q ⟨F, d1, d2, rr, s, c1, c2, e, q⟩ => by
    obtain ⟨i, j, rfl, rfl, hc, hq⟩ := hg _ _ _ e
    exact ⟨i, j, c1.int, c2.int, hc, hq F H Q q⟩
theorem opInt0 {f : Value → Value → Sem Value} {k : Int → Int → V} {g : FB2} (h : OpR X f (rI0 k)) (hg : ∀ d e rr, g d e = some rr → ∃ i j, d = .int i ∧ e = .int j ∧ ∀ F H Q, RRk F H rr Q → Q (k i j) H) : OpR X f (rB2 g) :=
  opR_imp h fun x y H Q ⟨F, d1, d2, rr, s, c1, c2, e, q⟩ => by
    obtain ⟨i, j, rfl, rfl, hq⟩ := hg _ _ _ e
    exact ⟨i, j, c1.int, c2.int, hq F H Q q⟩
theorem oSub : OpR X (binaryOp .Sub) (rB2 gSub) := opInt0 op_sub fun d e rr h => by
  cases d <;> cases e <;> first | (cases h; exact ⟨_, _, rfl, rfl, fun F H Q q => rrk_int q⟩) | cases h
theorem oLt : OpR X (compareOp .Lt) (rB2 gLt) := opInt0 op_lt fun d e rr h => by
  cases d <;> cases e <;> first | (cases h; exact ⟨_, _, rfl, rfl, fun F H Q q => rrk_bool q⟩) | cases h
theorem oLe : OpR X (compareOp .LtE) (rB2 gLe) := opInt0 op_le fun d e rr h => by
  cases d <;> cases e <;> first | (cases h; exact ⟨_, _, rfl, rfl, fun F H Q q => rrk_bool q⟩) | cases h
theorem oGt : OpR X (compareOp .Gt) (rB2 gGt) := opInt0 op_gt fun d e rr h => by
  cases d <;> cases e <;> first | (cases h; exact ⟨_, _, rfl, rfl, fun F H Q q => rrk_bool q⟩) | cases h
theorem oGe : OpR X (compareOp .GtE) (rB2 gGe) := opInt0 op_ge fun d e rr h => by
  cases d <;> cases e <;> first | (cases h; exact ⟨_, _, rfl, rfl, fun F H Q q => rrk_bool q⟩) | cases h
theorem oDiv : OpR X (binaryOp .FloorDiv) (rB2 gDiv) := opInt op_fdivW fun d e rr h => by
  cases d with
  | int i =>
    cases e with
    | int j =>
      dsimp only [gDiv] at h
      split at h
      · rename_i hk
        cases h
        exact ⟨i, j, rfl, rfl, hk, fun F H Q q => rrk_int q⟩
      · cases h
    | _ => cases h
  | _ => cases h
theorem oMod : OpR X (binaryOp .Mod) (rB2 gMod) := opInt op_mod fun d e rr h => by
  cases d with
  | int i =>
    cases e with
    | int j =>
      dsimp only [gMod] at h
      split at h
      · rename_i hk
        cases h
        exact ⟨i, j, rfl, rfl, hk, fun F H Q q => rrk_int q⟩
      · cases h
    | _ => cases h
  | _ => cases h
theorem oPow : OpR X (binaryOp .Pow) (rB2 gPow) := opInt (C := powOk) (k := fun i j => .int (i ^ j.toNat)) (opI fun i j t u s Q E hc q => pow_int hc.1 hc.2 q) fun d e rr h => by
  cases d with
  | int i =>
    cases e with
    | int j =>
      dsimp only [gPow] at h
      split at h
      · rename_i hk
        cases h
        exact ⟨i, j, rfl, rfl, hk, fun F H Q q => rrk_int q⟩
      · cases h
    | _ => cases h
  | _ => cases h
theorem lt_size {n : Nat} (h : n ≤ 1000000) : n < sizeLine := Nat.lt_of_le_of_lt h (by decide)
/-- a list that is read, as it lies -/
theorem rd_list {pins : List (Addr × Obj)} {σ : VS} {H : Hp} {s : Shared} {a : Addr} {xs : List V} (I : Inv X pins σ H s) (h : Rd H a (.lst xs)) :
    ∃ (its : List Value) (n : Nat), Vals xs its ∧ its.length = xs.length ∧ s.heap.get? a = some { cls := .type "list", data := .seq its.toArray n } := by
  obtain ⟨_, its, n, r, e⟩ := h.ok I.hok
  exact ⟨its, n, r, r.length.symm, e⟩
theorem op_catR : OpR X (binaryOp .Add) (fun x y H Q => ∃ l b xs zs, x = .ref l ∧ y = .ref b ∧ Rd H l (.lst xs) ∧ Rd H b (.lst zs) ∧ xs.length + zs.length ≤ sizeLine ∧ ∀ p, H p = none → Q (.ref p) (upd H p (.lst (xs ++ zs)))) := by
  rintro pins s σ H x y v u Q I rx ry ⟨l, b, xs, zs, rfl, rfl, h1, h2, hz, q⟩
  obtain rfl : v = .ref l := rx
  obtain rfl : u = .ref b := ry
  obtain ⟨i1, n1, r1, l1, e1⟩ := rd_list I h1
  obtain ⟨i2, n2, r2, l2, e2⟩ := rd_list I h2
  refine PySem.P.add_list e1 e2 ?_ (by simp only [List.size_toArray]; omega)
  rw [show i1.toArray ++ i2.toArray = (i1 ++ i2).toArray by simp]
  exact ⟨.ref _, _, I.lnew (t' := s.toks) (r1.append r2) (by rw [List.length_append]; omega), rfl, q _ I.fresh⟩
theorem rep_fold (its : List Value) : ∀ (m : Nat) (acc : List Value), List.foldl (fun x1 x2 => x1 ++ x2) acc.toArray (List.replicate m its.toArray) = (acc ++ (List.replicate m its).flatten).toArray
  | 0, acc => by simp
  | m + 1, acc => by
    rw [List.replicate_succ, List.replicate_succ, List.foldl_cons, List.flatten_cons, ← List.append_assoc]
    rw [show acc.toArray ++ its.toArray = (acc ++ its).toArray by simp]
    exact rep_fold its m (acc ++ its)
theorem op_repR : OpR X (binaryOp .Mult) (fun x y H Q => ∃ l k xs, x = .ref l ∧ y = .int k ∧ Rd H l (.lst xs) ∧ -1000000 ≤ k ∧ k ≤ 1000000 ∧ xs.length * k.toNat ≤ 1000000 ∧ ∀ p, H p = none → Q (.ref p) (upd H p (.lst (List.replicate k.toNat xs).flatten))) := by
  rintro pins s σ H x y v u Q I rx ry ⟨l, k, xs, rfl, rfl, h1, k1, k2, hz, q⟩
  obtain rfl : v = .ref l := rx
  obtain ⟨t, rfl⟩ := ry
  obtain ⟨its, n, r, hl, e⟩ := rd_list I h1
  have sz : its.toArray.size = xs.length := by simp [hl]
  have big : (1000000 : Nat) ≤ sizeLine := by decide
  have c1 : ¬ its.toArray.size * k.toNat > (2 ^ 63 - 1) / 8 := by
    have : (1000000 : Nat) ≤ (2 ^ 63 - 1) / 8 := by decide
    rw [sz]
    omega
  have c2 : ¬ (!Builtin.List.listFitsIndex k) = true := by
    rw [fitsIndex_both (by omega) (by omega)]
    exact Bool.false_ne_true
  have c3 : ¬ Builtin.List.listTooLong (its.toArray.size * k.toNat) = true := by
    rw [notLongL (by rw [sz]; omega)]
    exact Bool.false_ne_true
  have e3 : List.foldl (fun x1 x2 => x1 ++ x2) #[] (List.replicate (if its.toArray.isEmpty = true then 0 else k.toNat) its.toArray) = (List.replicate k.toNat its).flatten.toArray := by
    by_cases h0 : its = []
    · subst h0; simp
    · rw [if_neg (by simp [h0])]
      simpa using rep_fold its k.toNat []
  refine wpAny_binaryOp_repeat_ref (T := "list") (U := "int") (by decide) ⟨_, e, rfl⟩ (fun s' => typeIs_int s' k t) noFill_list_mul F.fills_int_mul F.slot_int_rmul repeat_list F.slot_int_index.lookup ?_
  refine call_meets F.slot_int_rmul (typeIs_int s k t) F.entry_int_rmul (F.args_int_rmul_2 _ _) (int___rmul___int_list k t l its.toArray n) ⟨e, rfl, ⟨_, e, rfl⟩, ?_⟩
  refine call_meets F.slot_list_mul ⟨_, e, rfl⟩ F.entry_list_mul (F.args_list_mul_2 _ _) (AutoListH.list___mul___list_int_3 l its.toArray n k t c2 c1 c3) ⟨e, ?_⟩
  rw [e3]
  exact ⟨.ref _, _, I.lnew (t' := s.toks) (r.rep k.toNat) (by rw [PyProof.Rows.lm_len_rep_flat, Nat.mul_comm]; omega), rfl, q _ I.fresh⟩
theorem dps_rep {F : Hp} {vs : List V} {l : List PyData} (h : DenAll F vs l) : ∀ n : Nat, DenAll F (List.replicate n vs).flatten (List.replicate n l).flatten
  | 0 => .nil
  | n + 1 => by
    rw [List.replicate_succ, List.replicate_succ, List.flatten_cons, List.flatten_cons]
    exact dps_app h (dps_rep h n)
theorem OpR.imp2 {f : Value → Value → Sem Value} {r : R2} {g : FB2} (h : OpR X f r) (hg : ∀ F d e rr x y H Q, Same F H → Cur F H x d → Cur F H y e → g d e = some rr → RRk F H rr Q → r x y H Q) : OpR X f (rB2 g) :=
  opR_imp h fun x y H Q ⟨F, d1, d2, rr, s, c1, c2, e, q⟩ => hg F d1 d2 rr x y H Q s c1 c2 e q
theorem oAdd : OpR X (binaryOp .Add) (rB2 gAdd) := by
  refine OpR.imp2 (OpR.or op_add (OpR.or op_catR op_catA)) fun F d e rr x y H Q s c1 c2 h q => ?_
  cases d with
  | int i =>
    cases e with
    | int j =>
      cases h
      exact .inl ⟨i, j, c1.int, c2.int, rrk_int q⟩
    | _ => cases h
  | list l =>
    cases e with
    | list m =>
      dsimp only [gAdd] at h
      split at h
      · rename_i hl
        cases h
        obtain ⟨a, vs, rfl, r1, d1⟩ := c1.list s
        obtain ⟨b, ws, rfl, r2, d2⟩ := c2.list s
        refine .inr (.inl ⟨a, b, vs, ws, rfl, rfl, r1, r2, ?_, fun p hp => q p _ hp (dps_app d1 d2)⟩)
        rw [dps_len d1, dps_len d2]
        exact Nat.le_of_lt (lt_size hl)
      · cases h
    | _ => cases h
  | tuple l =>
    cases e with
    | tuple m =>
      dsimp only [gAdd] at h
      split at h
      · rename_i hl
        cases h
        obtain ⟨a, vs, rfl, r1, f1, d1⟩ := c1.tuple s
        obtain ⟨b, ws, rfl, r2, f2, d2⟩ := c2.tuple s
        refine .inr (.inr ⟨a, b, vs, ws, rfl, rfl, .inl r1, .inl r2, ?_, fun e0 => ?_, fun e0 e1 => ?_, fun e0 e1 p hp => q.2 p _ hp (dps_app d1 d2)⟩)
        · rw [dps_len d1, dps_len d2]
          exact Nat.le_of_lt (lt_size hl)
        · subst e0
          cases d1
          exact q.1 _ (.tup f2 d2)
        · subst e1
          cases d2
          rw [List.append_nil] at q
          exact q.1 _ (.tup f1 d1)
      · cases h
    | _ => cases h
  | _ => cases h
theorem oMul : OpR X (binaryOp .Mult) (rB2 gMul) := by
  refine OpR.imp2 (OpR.or op_mulW (OpR.or op_repR op_repT)) fun F d e rr x y H Q s c1 c2 h q => ?_
  cases d with
  | int i =>
    cases e with
    | int j =>
      dsimp only [gMul] at h
      split at h
      · rename_i hk
        cases h
        exact .inl ⟨i, j, c1.int, c2.int, hk, rrk_int q⟩
      · cases h
    | _ => cases h
  | list l =>
    cases e with
    | int k =>
      dsimp only [gMul] at h
      split at h
      · rename_i hk
        cases h
        obtain ⟨a, vs, rfl, r1, d1⟩ := c1.list s
        refine .inr (.inl ⟨a, k, vs, rfl, c2.int, r1, hk.1, hk.2.1, by rw [dps_len d1]; exact hk.2.2, fun p hp => q p _ hp (dps_rep d1 _)⟩)
      · cases h
    | _ => cases h
  | tuple l =>
    cases e with
    | int k =>
      dsimp only [gMul] at h
      split at h
      · rename_i hk
        cases h
        obtain ⟨a, vs, rfl, r1, f1, d1⟩ := c1.tuple s
        refine .inr (.inr ⟨a, k, vs, rfl, c2.int, .inl r1, fun e0 => ?_, hk.2.1, hk.2.2.1, by rw [dps_len d1]; exact hk.2.2.2, fun p hp => q p _ hp (dps_rep d1 _)⟩)
        subst e0
        cases d1
        exact hk.1 rfl
      · cases h
    | _ => cases h
  | _ => cases h
theorem oEq (hr : Room j X.A) : OpR X (compareOp .Eq) (rB2 gEq) := by
  refine OpR.imp2 (OpR.or op_eq (op_eqD hr.units)) fun F d e rr x y H Q s c1 c2 h q => ?_
  unfold gEq at h
  split at h
  · cases h
    rw [c1.str, c2.str]
    refine .inl ⟨rfl, ?_⟩
    have := rrk_bool q
    rwa [show decide (V.str _ = V.str _) = _ from decide_eq_decide.mpr ⟨fun z => V.str.inj z, fun z => congrArg V.str z⟩]
  · cases h
    rw [c1.int, c2.int]
    refine .inl ⟨rfl, ?_⟩
    have := rrk_bool q
    rwa [show decide (V.int _ = V.int _) = _ from decide_eq_decide.mpr ⟨fun z => V.int.inj z, fun z => congrArg V.int z⟩]
  · split at h
    · rename_i hk
      cases h
      exact .inr ⟨_, _, (c1.den s).dp, (c2.den s).dp, hk.1.shaped, hk.2.shaped, rrk_bool q⟩
    · cases h
theorem oNe (hr : Room j X.A) : OpR X (compareOp .NotEq) (rB2 gNe) := by
  refine OpR.imp2 (OpR.or op_ne (op_neD hr.units)) fun F d e rr x y H Q s c1 c2 h q => ?_
  unfold gNe at h
  split at h
  · cases h
    rw [c1.str, c2.str]
    refine .inl ⟨rfl, ?_⟩
    have := rrk_bool q
    rwa [show decide (V.str _ = V.str _) = _ from decide_eq_decide.mpr ⟨fun z => V.str.inj z, fun z => congrArg V.str z⟩]
  · cases h
    rw [c1.int, c2.int]
    refine .inl ⟨rfl, ?_⟩
    have := rrk_bool q
    rwa [show decide (V.int _ = V.int _) = _ from decide_eq_decide.mpr ⟨fun z => V.int.inj z, fun z => congrArg V.int z⟩]
  · split at h
    · rename_i hk
      cases h
      exact .inr ⟨_, _, (c1.den s).dp, (c2.den s).dp, hk.1.shaped, hk.2.shaped, rrk_bool q⟩
    · cases h
theorem units65 {A : Around} (hr : Room j A) : A.units + 65 < cLine := by have := hr.un; omega
abbrev rInT (K : PySem.W.Frag) : R2 := fun x y H Q => ∃ d ds, Dp K H x d ∧ Dp K H y (.tuple ds) ∧ SeqAt.shaped d = true ∧ SeqAt.shaped (.tuple ds) = true ∧ Q (.bl (ds.any fun z => PyData.eqv z d)) H
abbrev rNotInT (K : PySem.W.Frag) : R2 := fun x y H Q => ∃ d ds, Dp K H x d ∧ Dp K H y (.tuple ds) ∧ SeqAt.shaped d = true ∧ SeqAt.shaped (.tuple ds) = true ∧ Q (.bl (!ds.any fun z => PyData.eqv z d)) H
theorem op_inT (hu : X.A.units + 65 < cLine) : OpR X (compareOp .In) (rInT X.K) := by
  intro pins s σ H x y v u Q I rx ry h
  obtain ⟨d, ds, hd, he, sd, se, q⟩ := h
  obtain ⟨as, r1⟩ := Dp.reads I d x v hd rx
  obtain ⟨bs, r2⟩ := Dp.reads I (.tuple ds) y u he ry
  exact SeqAt.in_tuple_reads r2 r1 (SeqAt.canLay_of_shaped (d := .tuple ds) se) (SeqAt.canLay_of_shaped sd) (room_in_shaped sd hu) ⟨.bl _, H, I, rfl, q⟩
theorem op_notInT (hu : X.A.units + 65 < cLine) : OpR X (compareOp .NotIn) (rNotInT X.K) := by
  intro pins s σ H x y v u Q I rx ry h
  obtain ⟨d, ds, hd, he, sd, se, q⟩ := h
  obtain ⟨as, r1⟩ := Dp.reads I d x v hd rx
  obtain ⟨bs, r2⟩ := Dp.reads I (.tuple ds) y u he ry
  exact SeqAt.notIn_tuple_reads r2 r1 (SeqAt.canLay_of_shaped (d := .tuple ds) se) (SeqAt.canLay_of_shaped sd) (room_in_shaped sd hu) ⟨.bl _, H, I, rfl, q⟩
theorem oIn (hr : Room j X.A) : OpR X (compareOp .In) (rB2 gIn) := by
  refine OpR.imp2 (OpR.or (op_inD (units65 hr)) (op_inT (units65 hr))) fun F d e rr x y H Q s c1 c2 h q => ?_
  cases e with
  | list ds =>
    dsimp only [gIn] at h
    split at h
    · rename_i hk
      cases h
      exact .inl ⟨d, ds, (c1.den s).dp, (c2.den s).dp, hk.1.shaped, hk.2.shaped, rrk_bool q⟩
    · cases h
  | tuple ds =>
    dsimp only [gIn] at h
    split at h
    · rename_i hk
      cases h
      exact .inr ⟨d, ds, (c1.den s).dp, (c2.den s).dp, hk.1.shaped, hk.2.shaped, rrk_bool q⟩
    · cases h
  | _ => cases d <;> cases h
theorem oNotIn (hr : Room j X.A) : OpR X (compareOp .NotIn) (rB2 gNotIn) := by
  refine OpR.imp2 (OpR.or (op_notInD (units65 hr)) (op_notInT (units65 hr))) fun F d e rr x y H Q s c1 c2 h q => ?_
  cases e with
  | list ds =>
    dsimp only [gNotIn] at h
    split at h
    · rename_i hk
      cases h
      exact .inl ⟨d, ds, (c1.den s).dp, (c2.den s).dp, hk.1.shaped, hk.2.shaped, rrk_bool q⟩
    · cases h
  | tuple ds =>
    dsimp only [gNotIn] at h
    split at h
    · rename_i hk
      cases h
      exact .inr ⟨d, ds, (c1.den s).dp, (c2.den s).dp, hk.1.shaped, hk.2.shaped, rrk_bool q⟩
    · cases h
  | _ => cases d <;> cases h
theorem cur_ne {F H : Hp} {x : V} {d : PyData} (c : Cur F H x d) (h : d ≠ .none) : decide (x = V.non) = false := by
  apply decide_eq_false
  rintro rfl
  rcases c with c | ⟨a, vs, l, z, _⟩
  · cases c; exact h rfl
  · cases z
theorem oIs : OpR X (compareOp .Is) (rB2 gIs) := by
  refine OpR.imp2 (OpR.or op_isN op_is_bl) fun F d e rr x y H Q s c1 c2 h q => ?_
  have none_case : ∀ d, e = .none → d ≠ .none → Cur F H x d → rr = .at (.bool false) → (y = V.non ∧ Q (V.bl (decide (x = V.non))) H) := fun d he hd c z => by
    subst he z
    exact ⟨c2.none, by rw [cur_ne c hd]; exact rrk_bool q⟩
  cases d with
  | none =>
    cases e with
    | none =>
      cases h
      exact .inl ⟨c2.none, by rw [c1.none]; exact rrk_bool q⟩
    | _ => cases h
  | bool a =>
    cases e with
    | bool b =>
      cases h
      exact .inr ⟨a, b, c1.bool, c2.bool, rrk_bool q⟩
    | none => cases h; exact .inl (none_case (.bool a) rfl (by intro z; cases z) c1 rfl)
    | _ => cases h
  | dict _ => cases h
  | int i => cases e <;> first | (cases h; exact .inl (none_case (.int i) rfl (by intro z; cases z) c1 rfl)) | cases h
  | str i => cases e <;> first | (cases h; exact .inl (none_case (.str i) rfl (by intro z; cases z) c1 rfl)) | cases h
  | list i => cases e <;> first | (cases h; exact .inl (none_case (.list i) rfl (by intro z; cases z) c1 rfl)) | cases h
  | tuple i => cases e <;> first | (cases h; exact .inl (none_case (.tuple i) rfl (by intro z; cases z) c1 rfl)) | cases h
theorem oIsNot : OpR X (compareOp .IsNot) (rB2 gIsNot) := by
  refine OpR.imp2 (OpR.or op_notN op_isnot_bl) fun F d e rr x y H Q s c1 c2 h q => ?_
  have none_case : ∀ d, e = .none → d ≠ .none → Cur F H x d → rr = .at (.bool true) → (y = V.non ∧ Q (V.bl (!decide (x = V.non))) H) := fun d he hd c z => by
    subst he z
    exact ⟨c2.none, by rw [cur_ne c hd]; exact rrk_bool q⟩
  cases d with
  | none =>
    cases e with
    | none =>
      cases h
      exact .inl ⟨c2.none, by rw [c1.none]; exact rrk_bool q⟩
    | _ => cases h
  | bool a =>
    cases e with
    | bool b =>
      cases h
      exact .inr ⟨a, b, c1.bool, c2.bool, rrk_bool q⟩
    | none => cases h; exact .inl (none_case (.bool a) rfl (by intro z; cases z) c1 rfl)
    | _ => cases h
  | dict _ => cases h
  | int i => cases e <;> first | (cases h; exact .inl (none_case (.int i) rfl (by intro z; cases z) c1 rfl)) | cases h
  | str i => cases e <;> first | (cases h; exact .inl (none_case (.str i) rfl (by intro z; cases z) c1 rfl)) | cases h
  | list i => cases e <;> first | (cases h; exact .inl (none_case (.list i) rfl (by intro z; cases z) c1 rfl)) | cases h
  | tuple i => cases e <;> first | (cases h; exact .inl (none_case (.tuple i) rfl (by intro z; cases z) c1 rfl)) | cases h
theorem unR_imp {f : Value → Sem Value} {r r' : V → Hp → VK → Prop} (h : UnR X f r) (i : ∀ x H Q, r' x H Q → r x H Q) : UnR X f r' := fun pins s σ H x v Q I rx q => h pins s σ H x v Q I rx (i x H Q q)
theorem uNeg : UnR X (unaryOp .USub) (rB1 gNeg) := unR_imp un_neg fun x H Q ⟨F, d, rr, s, c, h, q⟩ => by
  cases d with
  | int i => cases h; exact ⟨i, c.int, rrk_int q⟩
  | _ => cases h
end
end Sd


set_option Elab.async false
set_option linter.all false
set_option maxRecDepth 100000
/-! Sd8: built-in calls, stores into lists. -/
namespace Sd
open PySem PySem.Spec PyProof.Rows L2

section
variable {X : Cx} {j : Nat}
theorem CallR.impB {f : Value} {r : List V → Hp → VK → Prop} {g : FB} (h : CallR X f r) (hg : ∀ F ds rr xs H Q, Same F H → CurAll F H xs ds → g ds = some rr → RRk F H rr Q → r xs H Q) : CallR X f (rB g) :=
  callR_imp h fun xs H Q ⟨F, ds, rr, s, c, e, q⟩ => hg F ds rr xs H Q s c e q
theorem cur1 {F H : Hp} {xs : List V} {d : PyData} (c : CurAll F H xs [d]) : ∃ x, xs = [x] ∧ Cur F H x d := by
  cases c with
  | cons c cr => cases cr; exact ⟨_, rfl, c⟩
theorem cur2 {F H : Hp} {xs : List V} {d e : PyData} (c : CurAll F H xs [d, e]) : ∃ x y, xs = [x, y] ∧ Cur F H x d ∧ Cur F H y e := by
  cases c with
  | cons c cr =>
    cases cr with
    | cons c2 cr => cases cr; exact ⟨_, _, rfl, c, c2⟩
/-- lists of ints, of bools -/
def intsD : List PyData → Option (List Int)
  | [] => some []
  | .int i :: l => (intsD l).bind fun m => some (i :: m)
  | _ => none
def boolsD : List PyData → Option (List Bool)
  | [] => some []
  | .bool i :: l => (boolsD l).bind fun m => some (i :: m)
  | _ => none
theorem intsD_den {F : Hp} : ∀ {vs : List V} {l : List PyData} {ns : List Int}, DenAll F vs l → intsD l = some ns → vs = ns.map V.int
  | _, _, _, .nil, h => by cases h; rfl
  | _, _, _, .cons c cs, h => by
    cases c with
    | int i =>
      obtain ⟨m, h1, h2⟩ := bindS h
      cases h2
      rw [intsD_den cs h1]; rfl
    | _ => cases h
theorem boolsD_den {F : Hp} : ∀ {vs : List V} {l : List PyData} {ns : List Bool}, DenAll F vs l → boolsD l = some ns → vs = ns.map V.bl
  | _, _, _, .nil, h => by cases h; rfl
  | _, _, _, .cons c cs, h => by
    cases c with
    | bl i =>
      obtain ⟨m, h1, h2⟩ := bindS h
      cases h2
      rw [boolsD_den cs h1]; rfl
    | _ => cases h
theorem intsD_map (ns : List Int) : intsD (ns.map PyData.int) = some ns := by
  induction ns with
  | nil => rfl
  | cons n ns ih => show (intsD (ns.map PyData.int)).bind _ = _; rw [ih]; rfl
theorem boolsD_map (ns : List Bool) : boolsD (ns.map PyData.bool) = some ns := by
  induction ns with
  | nil => rfl
  | cons n ns ih => show (boolsD (ns.map PyData.bool)).bind _ = _; rw [ih]; rfl
@[simp] def gLen : FB
  | [.list l] => some (.at (.int l.length))
  | [.tuple l] => some (.at (.int l.length))
  | _ => none
theorem bLen : CallR X (.builtin "len") (rB gLen) := CallR.impB call_len_seq fun F ds rr xs H Q s c h q => by
  match ds, h with
  | [.list l], h =>
    cases h
    obtain ⟨x, rfl, c'⟩ := cur1 c
    obtain ⟨a, vs, rfl, r, d⟩ := c'.list s
    exact ⟨a, vs, rfl, .inl (.inl r), by rw [dps_len d]; exact rrk_int q⟩
  | [.tuple l], h =>
    cases h
    obtain ⟨x, rfl, c'⟩ := cur1 c
    obtain ⟨a, vs, rfl, r, _, d⟩ := c'.tuple s
    exact ⟨a, vs, rfl, .inr (.inl r), by rw [dps_len d]; exact rrk_int q⟩
def gAll : FB
  | [.list l] => (boolsD l).bind fun bs => some (.at (.bool (bs.all id)))
  | _ => none
def gAny : FB
  | [.list l] => (boolsD l).bind fun bs => some (.at (.bool (bs.any id)))
  | _ => none
theorem bAll (hc : X.calm = true) : CallR X (.builtin "all") (rB gAll) := CallR.impB (cr_all hc) fun F ds rr xs H Q s c h q => by
  match ds, h with
  | [.list l], h =>
    obtain ⟨bs, h1, h⟩ := bindS h
    cases h
    obtain ⟨x, rfl, c'⟩ := cur1 c
    obtain ⟨a, vs, rfl, r, d⟩ := c'.list s
    exact ⟨a, bs, rfl, .inl (by rw [← boolsD_den d h1]; exact r), rrk_bool q⟩
theorem bAny (hc : X.calm = true) : CallR X (.builtin "any") (rB gAny) := CallR.impB (cr_any hc) fun F ds rr xs H Q s c h q => by
  match ds, h with
  | [.list l], h =>
    obtain ⟨bs, h1, h⟩ := bindS h
    cases h
    obtain ⟨x, rfl, c'⟩ := cur1 c
    obtain ⟨a, vs, rfl, r, d⟩ := c'.list s
    exact ⟨a, bs, rfl, .inl (by rw [← boolsD_den d h1]; exact r), rrk_bool q⟩
@[simp] def gTuple : FB
  | [.list l] => some (.nt l)
  | [.tuple l] => some (.at (.tuple l))
  | _ => none
theorem bTuple : CallR X (.type "tuple") (rB gTuple) := CallR.impB call_tuple_of fun F ds rr xs H Q s c h q => by
  match ds, h with
  | [.list l], h =>
    cases h
    obtain ⟨x, rfl, c'⟩ := cur1 c
    obtain ⟨a, vs, rfl, r, d⟩ := c'.list s
    exact ⟨a, vs, rfl, .inl ⟨.inl r, fun p hp => q p _ hp d⟩⟩
  | [.tuple l], h =>
    cases h
    obtain ⟨x, rfl, c'⟩ := cur1 c
    obtain ⟨a, vs, rfl, r, r', d⟩ := c'.tuple s
    exact ⟨a, vs, rfl, .inr ⟨.inl r, q _ (.tup r' d)⟩⟩
@[simp] def gList : FB
  | [.list l] => some (.nl l)
  | [.tuple l] => some (.nl l)
  | _ => none
theorem bList : CallR X (.type "list") (rB gList) := CallR.impB call_list_of fun F ds rr xs H Q s c h q => by
  match ds, h with
  | [.list l], h =>
    cases h
    obtain ⟨x, rfl, c'⟩ := cur1 c
    obtain ⟨a, vs, rfl, r, d⟩ := c'.list s
    exact ⟨a, vs, rfl, .inl (.inl r), fun p hp => q p _ hp d⟩
  | [.tuple l], h =>
    cases h
    obtain ⟨x, rfl, c'⟩ := cur1 c
    obtain ⟨a, vs, rfl, r, r', d⟩ := c'.tuple s
    exact ⟨a, vs, rfl, .inr (.inl r), fun p hp => q p _ hp d⟩
@[simp] def gInt : FB
  | [.int i] => some (.at (.int i))
  | [.bool b] => some (.at (.int (if b = true then 1 else 0)))
  | _ => none
theorem bInt : CallR X (.type "int") (rB gInt) := CallR.impB call_int1 fun F ds rr xs H Q s c h q => by
  match ds, h with
  | [.int i], h =>
    cases h
    obtain ⟨x, rfl, c'⟩ := cur1 c
    exact .inl ⟨i, by rw [c'.int], rrk_int q⟩
  | [.bool i], h =>
    cases h
    obtain ⟨x, rfl, c'⟩ := cur1 c
    exact .inr ⟨i, by rw [c'.bool], rrk_int q⟩
@[simp] def gAbs : FB
  | [.int i] => some (.at (.int i.natAbs))
  | _ => none
theorem bAbs : CallR X (.builtin "abs") (rB gAbs) := CallR.impB call_abs fun F ds rr xs H Q s c h q => by
  match ds, h with
  | [.int i], h =>
    cases h
    obtain ⟨x, rfl, c'⟩ := cur1 c
    refine ⟨i, by rw [c'.int], ?_⟩
    have e : (if i < 0 then -i else i) = (i.natAbs : Int) := by split <;> omega
    rw [e]
    exact rrk_int q
/-- the greatest, the least -/
def maxL : List Int → Int
  | [] => 0
  | x :: xs => xs.foldl max x
def minL : List Int → Int
  | [] => 0
  | x :: xs => xs.foldl min x
theorem foldl_max : ∀ (xs : List Int) (a : Int), (xs.foldl max a = a ∨ xs.foldl max a ∈ xs) ∧ a ≤ xs.foldl max a ∧ ∀ y ∈ xs, y ≤ xs.foldl max a
  | [], a => ⟨.inl rfl, Int.le_refl a, fun _ h => nomatch h⟩
  | x :: xs, a => by
    obtain ⟨h1, h2, h3⟩ := foldl_max xs (max a x)
    refine ⟨?_, Int.le_trans (Int.le_max_left a x) h2, fun y hy => ?_⟩
    · rcases h1 with h1 | h1
      · rw [List.foldl_cons, h1]
        by_cases h : a ≤ x
        · exact .inr (by rw [Int.max_eq_right h]; exact List.mem_cons_self)
        · exact .inl (Int.max_eq_left (by omega))
      · exact .inr (List.mem_cons_of_mem _ h1)
    · rcases List.mem_cons.mp hy with rfl | hy
      · exact Int.le_trans (Int.le_max_right a y) h2
      · exact h3 y hy
theorem foldl_min : ∀ (xs : List Int) (a : Int), (xs.foldl min a = a ∨ xs.foldl min a ∈ xs) ∧ xs.foldl min a ≤ a ∧ ∀ y ∈ xs, xs.foldl min a ≤ y
  | [], a => ⟨.inl rfl, Int.le_refl a, fun _ h => nomatch h⟩
  | x :: xs, a => by
    obtain ⟨h1, h2, h3⟩ := foldl_min xs (min a x)
    refine ⟨?_, Int.le_trans h2 (Int.min_le_left a x), fun y hy => ?_⟩
    · rcases h1 with h1 | h1
      · rw [List.foldl_cons, h1]
        by_cases h : a ≤ x
        · exact .inl (Int.min_eq_left h)
        · exact .inr (by rw [Int.min_eq_right (by omega)]; exact List.mem_cons_self)
      · exact .inr (List.mem_cons_of_mem _ h1)
    · rcases List.mem_cons.mp hy with rfl | hy
      · exact Int.le_trans h2 (Int.min_le_right a y)
      · exact h3 y hy
theorem maxL_spec {ns : List Int} (h : ns ≠ []) : maxL ns ∈ ns ∧ ∀ y ∈ ns, y ≤ maxL ns := by
  cases ns with
  | nil => exact absurd rfl h
  | cons x xs =>
    obtain ⟨h1, h2, h3⟩ := foldl_max xs x
    refine ⟨?_, fun y hy => ?_⟩
    · rcases h1 with h1 | h1
      · exact List.mem_cons.mpr (.inl h1)
      · exact List.mem_cons_of_mem _ h1
    · rcases List.mem_cons.mp hy with rfl | hy
      · exact h2
      · exact h3 y hy
theorem minL_spec {ns : List Int} (h : ns ≠ []) : minL ns ∈ ns ∧ ∀ y ∈ ns, minL ns ≤ y := by
  cases ns with
  | nil => exact absurd rfl h
  | cons x xs =>
    obtain ⟨h1, h2, h3⟩ := foldl_min xs x
    refine ⟨?_, fun y hy => ?_⟩
    · rcases h1 with h1 | h1
      · exact List.mem_cons.mpr (.inl h1)
      · exact List.mem_cons_of_mem _ h1
    · rcases List.mem_cons.mp hy with rfl | hy
      · exact h2
      · exact h3 y hy
def gMax : FB
  | [.int i, .int j] => some (.at (.int (max i j)))
  | [.list l] => (intsD l).bind fun ns => if ns = [] then none else some (.at (.int (maxL ns)))
  | _ => none
def gMin : FB
  | [.int i, .int j] => some (.at (.int (min i j)))
  | [.list l] => (intsD l).bind fun ns => if ns = [] then none else some (.at (.int (minL ns)))
  | _ => none
theorem bMax (hc : X.calm = true) : CallR X (.builtin "max") (rB gMax) := CallR.impB (CallR.or (call_max2 hc) (cr_max hc)) fun F ds rr xs H Q s c h q => by
  match ds, h with
  | [.int i, .int j], h =>
    cases h
    obtain ⟨x, y, rfl, c1, c2⟩ := cur2 c
    refine .inl ⟨i, j, by rw [c1.int, c2.int], ?_⟩
    have e : (if j > i then j else i) = max i j := by
      split
      · rw [Int.max_eq_right (by omega)]
      · rw [Int.max_eq_left (by omega)]
    rw [e]
    exact rrk_int q
  | [.list l], h =>
    obtain ⟨ns, h1, h⟩ := bindS h
    split at h
    · cases h
    · rename_i hn
      cases h
      obtain ⟨x, rfl, c'⟩ := cur1 c
      obtain ⟨a, vs, rfl, r, d⟩ := c'.list s
      refine .inr ⟨a, ns, rfl, .inl (by rw [← intsD_den d h1]; exact r), List.length_pos_iff.mpr hn, fun m hm hle => ?_⟩
      obtain ⟨k1, k2⟩ := maxL_spec hn
      have e : m = maxL ns := Int.le_antisymm (k2 m hm) (hle _ k1)
      rw [e]
      exact rrk_int q
theorem bMin (hc : X.calm = true) : CallR X (.builtin "min") (rB gMin) := CallR.impB (CallR.or (call_min2 hc) (cr_min hc)) fun F ds rr xs H Q s c h q => by
  match ds, h with
  | [.int i, .int j], h =>
    cases h
    obtain ⟨x, y, rfl, c1, c2⟩ := cur2 c
    refine .inl ⟨i, j, by rw [c1.int, c2.int], ?_⟩
    have e : (if j < i then j else i) = min i j := by
      split
      · rw [Int.min_eq_right (by omega)]
      · rw [Int.min_eq_left (by omega)]
    rw [e]
    exact rrk_int q
  | [.list l], h =>
    obtain ⟨ns, h1, h⟩ := bindS h
    split at h
    · cases h
    · rename_i hn
      cases h
      obtain ⟨x, rfl, c'⟩ := cur1 c
      obtain ⟨a, vs, rfl, r, d⟩ := c'.list s
      refine .inr ⟨a, ns, rfl, .inl (by rw [← intsD_den d h1]; exact r), List.length_pos_iff.mpr hn, fun m hm hle => ?_⟩
      obtain ⟨k1, k2⟩ := minL_spec hn
      have e : m = minL ns := Int.le_antisymm (hle _ k1) (k2 m hm)
      rw [e]
      exact rrk_int q
def gSum : FB
  | [.list l] => (intsD l).bind fun ns => some (.at (.int ns.sum))
  | _ => none
theorem bSum (hc : X.calm = true) : CallR X (.builtin "sum") (rB gSum) := CallR.impB (cr_sum hc) fun F ds rr xs H Q s c h q => by
  match ds, h with
  | [.list l], h =>
    obtain ⟨ns, h1, h⟩ := bindS h
    cases h
    obtain ⟨x, rfl, c'⟩ := cur1 c
    obtain ⟨a, vs, rfl, r, d⟩ := c'.list s
    exact ⟨a, ns, rfl, .inl (by rw [← intsD_den d h1]; exact r), rrk_int q⟩

/-! ### repr -/
def gRepr : FB
  | [d] => if Sm d then some (.at (.str d.shown)) else none
  | _ => none
theorem bRepr (hr : Room j X.A) (hgd : X.A.guards = some []) : CallR X (.builtin "repr") (rB gRepr) := by
  rintro pins s σ H xs us Q I rv ⟨F, ds, rr, sF, c, h, q⟩
  match ds, h with
  | [d], h =>
    dsimp only [gRepr] at h
    split at h
    · rename_i hs
      cases h
      have q : Q (.str d.shown) H := q _ (.str _)
      obtain ⟨x, rfl, c'⟩ := cur1 c
      obtain ⟨h1, h2, h3, h4⟩ := small_shown d hs.1
      have big : d.shown.length ≤ sizeLine := Nat.le_trans (Nat.le_trans h4 hs.1) (by decide)
      have c' := c'.den sF
      obtain ⟨u, rfl, ru⟩ : ∃ u, us = [u] ∧ RelV x u := by
        cases rv with
        | cons r rr => cases rr; exact ⟨_, rfl, r⟩
      obtain ⟨as, rd⟩ := Dp.reads I d x u (c'.dp (K := X.K)) ru
      have hu : X.A.units + (d.depth + 1) < cLine := by have := hr.un; have := hs.2; omega
      have refs : ∀ a, u = .ref a → wpAny (model X.prog X.w) X.A (call (.builtin "repr") [u]) (EP X pins σ Q) X.xe s := by
        rintro a rfl
        exact repr_of_reads' rd h1 (PyData.noDict_hsm h3) hgd hu (fun _ _ e => e) (fun h' u tk hk => ⟨.str _, H, I.kept (t' := tk) hk, ⟨_, rfl⟩, q⟩) big
      cases c' with
      | non => cases ru; exact P.repr_of_none ⟨.str _, H, I.tok _, ⟨_, rfl⟩, q⟩
      | bl b => cases ru; exact P.repr_of_bool ⟨.str _, H, I.tok _, ⟨_, rfl⟩, q⟩
      | int i =>
        obtain ⟨t, rfl⟩ := ru
        exact P.repr_of_int (by simpa [PyData.showable] using h1) ⟨.str _, H, I.tok _, ⟨_, rfl⟩, q⟩
      | str z =>
        obtain ⟨t, rfl⟩ := ru
        exact P.repr_of_str ⟨.str _, H, I.tok _, ⟨_, rfl⟩, q⟩ big
      | lst _ _ => cases ru; exact refs _ rfl
      | tup _ _ => cases ru; exact refs _ rfl
    · cases h
end
end Sd


set_option Elab.async false
set_option linter.all false
set_option maxRecDepth 100000
/-! Sd9: subscripts, isinstance, stores into lists, stars, zip of three. -/
namespace Sd
open PySem PySem.Spec PyProof.Rows L2

section
variable {X : Cx} {j : Nat}
/-! ### a[i], a[lo:hi] -/
def gIx : FB2
  | .list l, .int i => (atI l i).bind fun d => some (.at d)
  | .tuple l, .int i => (atI l i).bind fun d => some (.at d)
  | _, _ => none
theorem atI_den {F : Hp} {vs : List V} {l : List PyData} {i : Int} {d : PyData} (h : DenAll F vs l) (e : atI l i = some d) : ∃ v, atI vs i = some v ∧ Den F v d := by
  obtain ⟨k, h1, h2⟩ := bindS e
  obtain ⟨v, g1, g2⟩ := dps_get k h h2
  refine ⟨v, ?_, g2⟩
  unfold atI
  rw [dps_len h, h1]
  exact g1
theorem ixR_imp {r r' : R2} (h : IxR X r) (i : ∀ x y H Q, r' x y H Q → r x y H Q) : IxR X r' := fun value slice pins s σ H x y v u Q I rx ry q hs => h value slice pins s σ H x y v u Q I rx ry (i x y H Q q) hs
theorem xIx : IxR X (rB2 gIx) := ixR_imp (IxR.or ix_list ix_tup) fun x y H Q ⟨F, d, e, rr, s, c1, c2, h, q⟩ => by
  cases d with
  | list l =>
    cases e with
    | int i =>
      obtain ⟨d, h1, h⟩ := bindS h
      cases h
      obtain ⟨a, vs, rfl, r, dn⟩ := c1.list s
      obtain ⟨v, g1, g2⟩ := atI_den dn h1
      exact .inl ⟨a, vs, i, v, rfl, c2.int, .inl r, g1, q v g2⟩
    | _ => cases h
  | tuple l =>
    cases e with
    | int i =>
      obtain ⟨d, h1, h⟩ := bindS h
      cases h
      obtain ⟨a, vs, rfl, r, r', dn⟩ := c1.tuple s
      obtain ⟨v, g1, g2⟩ := atI_den dn h1
      exact .inr ⟨a, vs, i, v, rfl, c2.int, .inl r, g1, q v g2⟩
    | _ => cases h
  | _ => cases h
def cutD (l : List PyData) (lo hi : Option Int) : List PyData := (l.drop (HT.sIx l.length 0 lo)).take (HT.sIx l.length l.length hi - HT.sIx l.length 0 lo)
def gSl : FS
  | .list l, lo, hi => some (.nl (cutD l lo hi))
  | .tuple l, lo, hi => some (.tt (cutD l lo hi))
  | _, _, _ => none
theorem cut_den {F : Hp} {vs : List V} {l : List PyData} (h : DenAll F vs l) (lo hi : Option Int) : DenAll F (cutV vs lo hi) (cutD l lo hi) := by
  unfold cutV cutD
  rw [dps_len h]
  exact dps_take _ (dps_drop _ h)
theorem slR_imp {r r' : V → Option Int → Option Int → Hp → VK → Prop} (h : SlR X r) (i : ∀ x lo hi H Q, r' x lo hi H Q → r x lo hi H Q) : SlR X r' := fun pins s σ H x v vl vu lo hi sl Q I rx h1 h2 h3 q => h pins s σ H x v vl vu lo hi sl Q I rx h1 h2 h3 (i x lo hi H Q q)
theorem xSl : SlR X (rSl gSl) := slR_imp (SlR.or sl_list sl_tupA) fun x lo hi H Q ⟨F, d, rr, s, c, h, q⟩ => by
  cases d with
  | list l =>
    cases h
    obtain ⟨a, vs, rfl, r, dn⟩ := c.list s
    exact .inl ⟨a, vs, rfl, .inl r, fun p hp => q p _ hp (cut_den dn lo hi)⟩
  | tuple l =>
    cases h
    obtain ⟨a, vs, rfl, r, r', dn⟩ := c.tuple s
    refine .inr ⟨a, vs, rfl, .inl r, fun hw => ?_, fun _ p hp => q.2 p _ hp (cut_den dn lo hi)⟩
    have e : cutD l lo hi = l := by
      unfold cutD
      rw [dps_len dn] at hw
      rw [hw.1, hw.2, List.drop_zero, Nat.sub_zero, List.take_length]
    rw [e] at q
    exact q.1 _ (.tup r' dn)
  | _ => cases h

/-! ### isinstance(x, T), T a built-in class -/
structure KT (T : String) (b t i s : Bool) : Prop where
  kn : kitB "NoneType" T = some false
  kb : kitB "bool" T = some b
  ki : kitB "int" T = some i
  ks : kitB "str" T = some s
  kt : kitB "tuple" T = some t
@[simp] def isK (b t i s : Bool) : PyData → Option Bool
  | .none => some false
  | .bool _ => some b
  | .int _ => some i
  | .str _ => some s
  | .tuple _ => some t
  | _ => none
def sIsI (b t i s : Bool) (se : ES) : ES := fun ρ => (se ρ).bind fun a => (look a.2 a.1).bind fun d => (isK b t i s d).bind fun k => some (.imm (.bool k), a.2)
theorem kt_tuple : KT "tuple" false true false false := ⟨by decide +kernel, by decide +kernel, by decide +kernel, by decide +kernel, by decide +kernel⟩
theorem kt_int : KT "int" true false true false := ⟨by decide +kernel, by decide +kernel, by decide +kernel, by decide +kernel, by decide +kernel⟩
theorem kt_bool : KT "bool" true false false false := ⟨by decide +kernel, by decide +kernel, by decide +kernel, by decide +kernel, by decide +kernel⟩
theorem kt_str : KT "str" false false false true := ⟨by decide +kernel, by decide +kernel, by decide +kernel, by decide +kernel, by decide +kernel⟩
theorem eIsI {T : String} {x : Str} {b t i sb : Bool} {e : Expr} {se : ES} {p p2 pos : Pos} (k : KT T b t i sb) (hm : X.mg "isinstance" = none) (hm2 : X.mg x = none) (hv2 : bootBuiltins x = some (.type T)) (he : EE X e se) (hg : Gl X "isinstance" := by rfl) (hg2 : Gl X x := by rfl)
    (hn : x ≠ "__name__" := by decide) (hd : (x == ("__debug__" : Str)) = false := by decide)
    (hs : starEach [e, .Name x p2] X.env = (false, eval e X.env) :: starEach [.Name x p2] X.env := by rfl) (hs2 : starEach [.Name x p2] X.env = (false, eval (.Name x p2) X.env) :: starEach [] X.env := by rfl) (hpl : (backTo pos (starEach [.Name x p2] X.env)).any (·.1) = false := by rfl) :
    EE X (.Call (.Name "isinstance" p) [e, .Name x p2] [] pos) (sIsI b t i sb se) := by
  have pT : PE X (.Name x p2) (tC (.ty T)) := pe_bltn hg2 hm2 hv2 rfl hn hd
  refine pe_imp (pe_callB call_isi hg hm (by decide +kernel) (pa_cons he (pa_cons pT pa_nil hs2) hs) (he := hs) (hpl := hpl)) fun σ H Q q => ?_
  obtain ⟨B, P, ρ, F, r, ρ', rel, hs, kk⟩ := q
  obtain ⟨⟨ra, ρ1⟩, h1, hs⟩ := bindS hs
  obtain ⟨d, h2, hs⟩ := bindS hs
  obtain ⟨kb, h3, hs⟩ := bindS hs
  have e := Option.some.inj hs
  injection e with e1 e2
  subst e1; subst e2
  refine ⟨B, P, ρ, F, ra, _, rel, h1, fun v F1 H1 rel1 s1 ok1 => ?_⟩
  have c := rel1.cur ok1 h2
  have go : ∀ (u : String), TyX X.K H1 v (.type u) → kitB u T = some kb → rIsi X.K [v, .ty T] H1 Q := fun u ty h => ⟨v, .ty T, _, _, kb, rfl, .ty T, ty, kit_ty h, kk _ F1 H1 rel1 s1 (.bl kb)⟩
  show rIsi X.K [v, .ty T] H1 Q
  cases d with
  | none => cases h3; rw [c.none] at go ⊢; exact go _ (.base .non) k.kn
  | bool x => cases h3; rw [c.bool] at go ⊢; exact go _ (.base (.bl x)) k.kb
  | int x => cases h3; rw [c.int] at go ⊢; exact go _ (.base (.int x)) k.ki
  | str x => cases h3; rw [c.str] at go ⊢; exact go _ (.base (.str x)) k.ks
  | tuple l =>
    cases h3
    obtain ⟨a, vs, rfl, r, r', dn⟩ := c.tuple rel1.fh
    rcases r with r | ⟨o, r⟩
    · exact go _ (.base (.tup r)) k.kt
    · exact go _ (.fTuple r) k.kt
  | list _ => cases h3
  | dict _ => cases h3

/-! ### xs.append(e), xs.extend(e), xs[i] = e -/
theorem Rel.own_set {B : VS} {P : Hp} {σ : VS} {ρ : Sl} {F H : Hp} {i : Nat} {b : Bool} {l m : List PyData} {a : Addr} {vs : List V} (rel : Rel B P σ ρ F H) (e : ρ[i]? = some (.own b (.lst l))) (ha : σ[i]? = some (some (.ref a))) (dn : DenAll F vs m) :
    Rel B P σ (ρ.set i (.own b (.lst m))) F (upd H a (.lst vs)) := by
  obtain ⟨a', ho, h1, h2, h3, h4, h5⟩ := rel.own i b _ e
  rw [ha] at h1; cases h1
  have nF : ∀ {c : Addr} {o : HO}, F c = some o → c ≠ a := fun h z => by subst z; rw [h4] at h; cases h
  have nP : ∀ {c : Addr} {o : HO}, P c = some o → c ≠ a := fun h z => by subst z; rw [h5] at h; cases h
  have eI : (ρ.set i (.own b (.lst m)))[i]? = some (.own b (.lst m)) := list_set_self e
  have eN : ∀ j, j ≠ i → (ρ.set i (.own b (.lst m)))[j]? = ρ[j]? := fun j hj => List.getElem?_set_ne (Ne.symm hj)
  have ow : ∀ {j : Nat} {b' o'}, (ρ.set i (.own b (.lst m)))[j]? = some (.own b' o') → ∃ o'', ρ[j]? = some (.own b' o'') := fun {j b' o'} h => by
    by_cases hj : j = i
    · subst hj; rw [eI] at h; cases h; exact ⟨_, e⟩
    · rw [eN j hj] at h; exact ⟨_, h⟩
  refine ⟨by rw [List.length_set]; exact rel.len, fun c x h => by rw [upd_ne (nF h)]; exact rel.fh c x h, fun c x h => by rw [upd_ne (nP h)]; exact rel.ph c x h, rel.fp, fun j d h => ?_, fun j b' o' h => ?_, fun j k c b1 b2 o1 o2 e1 e2 => ?_, fun j h => ?_⟩
  · by_cases hj : j = i
    · subst hj; rw [eI] at h; rcases h with h | h <;> cases h
    · rw [eN j hj] at h; exact rel.val j d h
  · by_cases hj : j = i
    · subst hj
      rw [eI] at h; cases h
      exact ⟨a, _, ha, upd_same, dn, h4, h5⟩
    · rw [eN j hj] at h
      obtain ⟨c, hc, g1, g2, g3, g4, g5⟩ := rel.own j b' o' h
      have nc : c ≠ a := by
        rintro rfl
        exact hj (rel.inj j i c b' b _ _ h e g1 ha)
      exact ⟨c, hc, g1, by rw [upd_ne nc]; exact g2, g3, g4, g5⟩
  · obtain ⟨_, e1⟩ := ow e1
    obtain ⟨_, e2⟩ := ow e2
    exact rel.inj j k c b1 b2 _ _ e1 e2
  · by_cases hj : j = i
    · subst hj
      rw [eI] at h
      rcases h with ⟨o', h⟩ | ⟨d, h⟩
      · cases h; exact rel.bor j (.inl ⟨_, e⟩)
      · cases h
    · rw [eN j hj] at h; exact rel.bor j h
@[simp] def ownL : Option Slot → Option (Bool × List PyData)
  | some (.own b (.lst l)) => some (b, l)
  | _ => none
theorem ownL_inv {s : Option Slot} {b : Bool} {l : List PyData} (h : ownL s = some (b, l)) : s = some (.own b (.lst l)) := by
  unfold ownL at h
  split at h
  · cases h; rfl
  · cases h
def sApp (i : Nat) (se : ES) : SS := fun ρ => (ownL ρ[i]?).bind fun _ => (se ρ).bind fun a => (fz a.1 a.2).bind fun d => (ownL d.2[i]?).bind fun o => if o.2.length < 1000000 then some (.nx, d.2.set i (.own o.1 (.lst (o.2 ++ [d.1])))) else none
theorem stApp (i : Nat) {e : Expr} {se : ES} {x : Str} {p apos cpos pos : Pos} (he : EE X e se) (hN : X.N[i]? = some x := by rfl) (hv : Vis X.env.scope x := by first | exact Or.inl rfl | exact Or.inr (Or.inl rfl) | exact Or.inr (Or.inr rfl)) (hd : (x == ("__debug__" : Str)) = false := by decide)
    (hcd : (x == ("__classdict__" : Str)) = false := by decide) (hbase : attributeBase (.Name x p) "append" X.env (eval (.Name x p) X.env) = eval (.Name x p) X.env := by rfl)
    (hfew : ((backTo cpos (starEach [e] X.env)).all (fun x => !x.1) && (backToKw cpos (keywordEach [] X.env)).all (fun x => x.1.isSome)
      && decide ([e].length + ([] : List Keyword).length + (if ([] : List Keyword).isEmpty then 0 else 1) < 30)) = true := by rfl)
    (hline : (apos.endLine == cpos.line) = true := by rfl) (hs : starEach [e] X.env = (false, eval e X.env) :: starEach [] X.env := by rfl) (hsw : swapsWith (.Call (.Attribute (.Name x p) "append" apos) [e] [] cpos) none pos.line X.env = pure false := by rfl) :
    S1 X (.Expr (.Call (.Attribute (.Name x p) "append" apos) [e] [] cpos) pos) (sApp i se) := by
  refine ps_imp (ps_expr (pe_bm PySem.F.plainAttrs_list PySem.F.slot_list_append PySem.F.type_list_append mt_append (pe_var hN hv hd hcd) (pa_cons he pa_nil hs) (hbase := hbase) (hfew := hfew) (hline := hline) (hs := hs)) hsw) fun D σ H q => ?_
  obtain ⟨B, P, ρ, F, fl, ρ', rel, hs, k⟩ := q
  obtain ⟨⟨b0, l0⟩, h0, hs⟩ := bindS hs
  obtain ⟨⟨r, ρ1⟩, h1, hs⟩ := bindS hs
  obtain ⟨⟨d, ρ2⟩, h2, hs⟩ := bindS hs
  obtain ⟨⟨b, l⟩, h3, hs⟩ := bindS hs
  dsimp only at hs
  split at hs
  · rename_i hl
    have e := Option.some.inj hs
    injection e with e1 e2
    subst e1; subst e2
    have e0 := ownL_inv h0
    have e3 := ownL_inv h3
    obtain ⟨a, ho, g1, g2, g3, _⟩ := rel.own i b0 _ e0
    cases ho with
    | lst vs0 =>
      refine ⟨.ref a, g1, .inl ⟨rfl, vs0, .inl (.inl g2)⟩, ?_⟩
      refine ⟨B, P, ρ, F, r, ρ1, rel, h1, fun v F1 H1 rel1 s1 ok1 => ?_⟩
      obtain ⟨F2, rel2, s2, dn, _⟩ := rel1.fz ok1 h2
      obtain ⟨a', ho', f1, f2, f3, _⟩ := rel2.own i b _ e3
      rw [g1] at f1; cases f1
      cases ho' with
      | lst vs =>
        refine ⟨a, vs, v, rfl, rfl, f2, ?_, ?_⟩
        · rw [dps_len (show DenAll F2 vs l from f3)]; exact lt_size (Nat.le_of_lt hl)
        · exact k _ F2 _ (rel2.own_set e3 g1 (dps_app f3 (.cons dn .nil))) (s1.trans s2)
      | _ => exact (show False from f3).elim
    | _ => exact (show False from g3).elim
  · cases hs
/-- found.extend(what was just made) -/
def sExt (i : Nat) (se : ES) : SS := fun ρ => (ownL ρ[i]?).bind fun _ => (se ρ).bind fun a => match a.1 with
  | .tmp (.lst m) => (ownL a.2[i]?).bind fun o => if o.2.length + m.length ≤ 1000000 then some (.nx, a.2.set i (.own o.1 (.lst (o.2 ++ m)))) else none
  | _ => none
theorem stExt (i : Nat) {e : Expr} {se : ES} {x : Str} {p apos cpos pos : Pos} (he : EE X e se) (hN : X.N[i]? = some x := by rfl) (hv : Vis X.env.scope x := by first | exact Or.inl rfl | exact Or.inr (Or.inl rfl) | exact Or.inr (Or.inr rfl)) (hd : (x == ("__debug__" : Str)) = false := by decide)
    (hcd : (x == ("__classdict__" : Str)) = false := by decide) (hbase : attributeBase (.Name x p) "extend" X.env (eval (.Name x p) X.env) = eval (.Name x p) X.env := by rfl)
    (hfew : ((backTo cpos (starEach [e] X.env)).all (fun x => !x.1) && (backToKw cpos (keywordEach [] X.env)).all (fun x => x.1.isSome)
      && decide ([e].length + ([] : List Keyword).length + (if ([] : List Keyword).isEmpty then 0 else 1) < 30)) = true := by rfl)
    (hline : (apos.endLine == cpos.line) = true := by rfl) (hs : starEach [e] X.env = (false, eval e X.env) :: starEach [] X.env := by rfl) (hsw : swapsWith (.Call (.Attribute (.Name x p) "extend" apos) [e] [] cpos) none pos.line X.env = pure false := by rfl) :
    S1 X (.Expr (.Call (.Attribute (.Name x p) "extend" apos) [e] [] cpos) pos) (sExt i se) := by
  refine ps_imp (ps_expr (pe_bm PySem.F.plainAttrs_list PySem.F.slot_list_extend PySem.F.type_list_extend mt_extend (pe_var hN hv hd hcd) (pa_cons he pa_nil hs) (hbase := hbase) (hfew := hfew) (hline := hline) (hs := hs)) hsw) fun D σ H q => ?_
  obtain ⟨B, P, ρ, F, fl, ρ', rel, hs, k⟩ := q
  obtain ⟨⟨b0, l0⟩, h0, hs⟩ := bindS hs
  obtain ⟨⟨r, ρ1⟩, h1, hs⟩ := bindS hs
  dsimp only at hs
  split at hs
  · rename_i _ m
    obtain ⟨⟨b, l⟩, h3, hs⟩ := bindS hs
    dsimp only at hs
    split at hs
    · rename_i hl
      have e := Option.some.inj hs
      injection e with e1 e2
      subst e1; subst e2
      have e0 := ownL_inv h0
      have e3 := ownL_inv h3
      obtain ⟨a, ho, g1, g2, g3, _⟩ := rel.own i b0 _ e0
      cases ho with
      | lst vs0 =>
        refine ⟨.ref a, g1, .inl ⟨rfl, vs0, .inl (.inl g2)⟩, ?_⟩
        refine ⟨B, P, ρ, F, _, ρ1, rel, h1, fun v F1 H1 rel1 s1 ok1 => ?_⟩
        obtain ⟨c, hc, rfl, c2, c3, _⟩ := ok1
        obtain ⟨a', ho', f1, f2, f3, _⟩ := rel1.own i b _ e3
        rw [g1] at f1; cases f1
        cases hc with
        | lst ws =>
          cases ho' with
          | lst vs =>
            have d1 : DenAll F1 vs l := f3
            have d2 : DenAll F1 ws m := c3
            refine ⟨a, c, vs, ws, rfl, rfl, f2, c2, ?_, k _ F1 _ (rel1.own_set e3 g1 (dps_app d1 d2)) s1⟩
            rw [dps_len d1, dps_len d2]
            exact Nat.le_of_lt (lt_size hl)
          | _ => exact (show False from f3).elim
        | _ => exact (show False from c3).elim
      | _ => exact (show False from g3).elim
    · cases hs
  · cases hs
def sPut (i : Nat) (si se : ES) : SS := fun ρ => (se ρ).bind fun a => (fz a.1 a.2).bind fun d => (ownL d.2[i]?).bind fun _ => (si d.2).bind fun k => match look k.2 k.1 with
  | some (.int n) => (ownL k.2[i]?).bind fun o => (ixN o.2.length n).bind fun m => some (.nx, k.2.set i (.own o.1 (.lst (o.2.set m d.1))))
  | _ => none
theorem stPut (i : Nat) {e f : Expr} {se si : ES} {x : Str} {p apos pos : Pos} (he : EE X e se) (hi : EE X f si) (hN : X.N[i]? = some x := by rfl) (hv : Vis X.env.scope x := by first | exact Or.inl rfl | exact Or.inr (Or.inl rfl) | exact Or.inr (Or.inr rfl)) (hd : (x == ("__debug__" : Str)) = false := by decide)
    (hcd : (x == ("__classdict__" : Str)) = false := by decide)
    (ha : ∀ v, assign (.Subscript (.Name x p) f apos) X.env v = (do
      let ov ← holding [v] (eval (.Name x p) X.env)
      let iv ← holding [v, ov] (eval f X.env)
      standAt apos
      holding [v, ov, iv] (setItem ov iv v)
      release [v, ov, iv] []) := by intro _; rfl)
    (hs : swapsWithSole [.Subscript (.Name x p) f apos] e pos.line X.env = pure false := by rfl) (hw : swappedStores [.Subscript (.Name x p) f apos] e X.env = pure none := by rfl)
    (h1 : (assignEach [.Subscript (.Name x p) f apos] X.env).map (·.2) = [assign (.Subscript (.Name x p) f apos) X.env] := by rfl) :
    S1 X (.Assign [.Subscript (.Name x p) f apos] e pos) (sPut i si se) := by
  refine ps_imp (ps_asg he (pg_sub (pe_var hN hv hd hcd) hi set_list ha) hs hw h1) fun D σ H q => ?_
  obtain ⟨B, P, ρ, F, fl, ρ', rel, hs, k⟩ := q
  obtain ⟨⟨r, ρ1⟩, h1, hs⟩ := bindS hs
  obtain ⟨⟨d, ρ2⟩, h2, hs⟩ := bindS hs
  obtain ⟨⟨b0, l0⟩, h3, hs⟩ := bindS hs
  obtain ⟨⟨ri, ρ3⟩, h4, hs⟩ := bindS hs
  dsimp only at hs
  split at hs
  · rename_i n hn
    obtain ⟨⟨b, l⟩, h5, hs⟩ := bindS hs
    obtain ⟨m, h6, hs⟩ := bindS hs
    have e := Option.some.inj hs
    injection e with e1 e2
    subst e1; subst e2
    have e3 := ownL_inv h3
    have e5 := ownL_inv h5
    refine ⟨B, P, ρ, F, r, ρ1, rel, h1, fun v F1 H1 rel1 s1 ok1 => ?_⟩
    obtain ⟨F2, rel2, s2, dn, _⟩ := rel1.fz ok1 h2
    obtain ⟨a, ho, g1, g2, g3, _⟩ := rel2.own i b0 _ e3
    refine ⟨.ref a, g1, B, P, ρ2, F2, ri, ρ3, rel2, h4, fun y F3 H3 rel3 sF3 ok3 => ?_⟩
    obtain ⟨a', ho', f1, f2, f3, _⟩ := rel3.own i b _ e5
    rw [g1] at f1; cases f1
    cases ho' with
    | lst vs =>
      have d1 : DenAll F3 vs l := f3
      refine ⟨a, vs, n, m, rfl, (rel3.cur ok3 hn).int, f2, by rw [dps_len d1]; exact h6, k _ F3 _ (rel3.own_set e5 g1 (dps_set (dp_up sF3 dn) m d1)) ((s1.trans s2).trans sF3)⟩
    | _ => exact (show False from f3).elim
  · cases hs

/-! ### [*a, ..] -/
def sStar (se : ES) (ss : AS) : AS := fun ρ => (se ρ).bind fun a => (fz a.1 a.2).bind fun d => match d.1 with
  | .list l => (ss d.2).bind fun b => some (l.map R.imm ++ b.1, b.2)
  | .tuple l => (ss d.2).bind fun b => some (l.map R.imm ++ b.1, b.2)
  | _ => none
theorem aok_star {P : Hp} {σ : VS} {ρ : Sl} {F H : Hp} {rs : List R} {ws : List V} (h : AOk P σ ρ F H rs ws) : ∀ {vs : List V} {l : List PyData}, DenAll F vs l → AOk P σ ρ F H (l.map R.imm ++ rs) (vs ++ ws)
  | _, _, .nil => h
  | _, _, .cons d ds => .cons d (aok_star h ds) (fun _ _ _ _ _ => trivial)
theorem aStar {e : Expr} {es : List Expr} {se : ES} {ss : AS} {p : Pos} (he : EE X e se) (hr : AA X es ss) (hs : starEach (.Starred e p :: es) X.env = (true, eval e X.env) :: starEach es X.env := by rfl) : AA X (.Starred e p :: es) (sStar se ss) := by
  refine pa_imp (StX.pa_star he hr hs) fun σ H Q q => ?_
  obtain ⟨B, P, ρ, F, rs, ρ', rel, hs, k⟩ := q
  obtain ⟨⟨r, ρ1⟩, h1, hs⟩ := bindS hs
  obtain ⟨⟨d, ρ2⟩, h2, hs⟩ := bindS hs
  dsimp only at hs
  refine ⟨B, P, ρ, F, r, ρ1, rel, h1, fun v F1 H1 rel1 s1 ok1 => ?_⟩
  obtain ⟨F2, rel2, s2, dn, _⟩ := rel1.fz ok1 h2
  cases dn with
  | lst rd a =>
    obtain ⟨⟨bs, ρ3⟩, h3, hs⟩ := bindS hs
    have e := Option.some.inj hs
    injection e with e1 e2
    subst e1; subst e2
    exact ⟨_, _, rfl, .inr (.inl (rd_up rel2.fh rd)), B, P, ρ2, F2, bs, ρ3, rel2, h3, fun ws F3 H3 rel3 s3 ok3 => k _ F3 H3 rel3 ((s1.trans s2).trans s3) (aok_star ok3 (dps_up s3 a))⟩
  | tup rd a =>
    obtain ⟨⟨bs, ρ3⟩, h3, hs⟩ := bindS hs
    have e := Option.some.inj hs
    injection e with e1 e2
    subst e1; subst e2
    exact ⟨_, _, rfl, .inl (.inl (rd_up rel2.fh rd)), B, P, ρ2, F2, bs, ρ3, rel2, h3, fun ws F3 H3 rel3 s3 ok3 => k _ F3 H3 rel3 ((s1.trans s2).trans s3) (aok_star ok3 (dps_up s3 a))⟩
  | _ => cases hs

/-! ### a, b, c = x, y, z -/
theorem stPar3 (i j l : Nat) {x y z : Str} {a b c : Expr} {ss : AS} {px py pz pt pos : Pos} {kt k2 pt2} (hc : X.calm = true) (hN : X.N.Nodup) (ha : AA X [a, b, c] ss) (hi : X.N[i]? = some x := by rfl) (hj : X.N[j]? = some y := by rfl) (hl : X.N[l]? = some z := by rfl) (hij : i ≠ j := by decide) (hil : i ≠ l := by decide) (hjl : j ≠ l := by decide)
    (hx : X.env.scope.names.lookup x = some .local := by rfl) (hy : X.env.scope.names.lookup y = some .local := by rfl) (hz : X.env.scope.names.lookup z = some .local := by rfl)
    (hw : swappedStores [.Tuple [.Name x px, .Name y py, .Name z pz] kt pt] (.Tuple [a, b, c] k2 pt2) X.env = pure (some [x, y, z]) := by rfl)
    (hs : swapsWithSole [.Tuple [.Name x px, .Name y py, .Name z pz] kt pt] (.Tuple [a, b, c] k2 pt2) pos.line X.env = pure false := by rfl) :
    S1 X (.Assign [.Tuple [.Name x px, .Name y py, .Name z pz] kt pt] (.Tuple [a, b, c] k2 pt2) pos) (sPar [i, j, l] ss) := by
  refine ps_imp (ps_par3 hc hN hi hj hl hij hil hjl hx hy hz ha hw hs) fun D σ H q => ?_
  obtain ⟨B, P, ρ, F, rs, ρ', rel, hs, k⟩ := par_read q
  refine ⟨B, P, ρ, F, rs, ρ', rel, hs, fun vs F1 H1 rel1 s1 ok => ?_⟩
  obtain ⟨hl, q⟩ := k vs F1 H1 rel1 s1 ok
  match vs, hl, q with
  | [u, v, w], _, q => exact ⟨u, v, w, rfl, q⟩
/-! ### a, b, c, .. = x, y, z, .. by way of the tuple -/
theorem stParT {es ts : List Expr} {ss : AS} {k1 k2 : Nat} {p1 p2 pos : Pos} (is : List Nat) {g : TGs} (hc : X.calm = true) (ha : AA X es ss) (hg : PGs X ts g) (hi : ∀ (us : List V) (σ : VS) (H : Hp) (Q : VS → Hp → Prop), is.length = us.length → Q (setV is us σ) H → g us σ H Q)
    (hn : (assignEach ts X.env).length = is.length := by rfl) (hst : (assignEach ts X.env).findIdx? (·.1) = none := by rfl)
    (hs : swapsWithSole [.Tuple ts k1 p1] (.Tuple es k2 p2) pos.line X.env = pure false := by rfl) (hw : swappedStores [.Tuple ts k1 p1] (.Tuple es k2 p2) X.env = pure none := by rfl)
    (h1 : (assignEach [.Tuple ts k1 p1] X.env).map (·.2) = [assign (.Tuple ts k1 p1) X.env] := by rfl) :
    S1 X (.Assign [.Tuple ts k1 p1] (.Tuple es k2 p2) pos) (fun ρ => (ss ρ).bind fun a => if a.1.length ≤ 1000 then (nrmAll a.1 a.2).bind fun b => (putAll is b.1 b.2).bind fun ρ3 => some (.nx, ρ3) else none) := by
  refine ps_imp (ps_asg (pe_tup ha) (pg_tup hc hg hn hst) hs hw h1) fun D σ H q => ?_
  obtain ⟨B, P, ρ, F, fl, ρ', rel, hs, k⟩ := q
  obtain ⟨⟨rs, ρ1⟩, h1, hs⟩ := bindS hs
  dsimp only at hs
  split at hs
  · rename_i hl
    obtain ⟨⟨rs', ρ2⟩, h2, hs⟩ := bindS hs
    obtain ⟨ρ3, h3, hs⟩ := bindS hs
    have e := Option.some.inj hs
    injection e with e1 e2
    subst e1; subst e2
    refine ⟨B, P, ρ, F, rs, ρ1, rel, h1, fun us F1 H1 rel1 s1 ok1 => ?_⟩
    have lu := ok1.len
    obtain ⟨F2, rel2, s2, ok2, np, _⟩ := rel1.nrmAll ok1 h2
    obtain ⟨rel3, hl3⟩ := rel2.putAll ok2 np h3
    refine ⟨by rw [← lu]; exact le_size hl, fun p hp => ⟨p, us, rfl, .inl (.inl upd_same), hl3.symm, ?_⟩⟩
    exact hi us σ _ _ hl3 (k _ F2 _ (rel3.new hp) (s1.trans s2))
  · cases hs
end
end Sd


set_option Elab.async false
set_option linter.all false
set_option maxRecDepth 100000
/-! SdA: for a, b, c in zip(x, y, z) of tuples. -/
namespace Sd
open PySem PySem.Spec PyProof.Rows L2

def zip3D : List PyData → List PyData → List PyData → List PyData
  | x :: xs, y :: ys, z :: zs => .tuple [x, y, z] :: zip3D xs ys zs
  | _, _, _ => []
theorem zip3D_get : ∀ {xs ys zs : List PyData} (i : Nat) {d : PyData}, (zip3D xs ys zs)[i]? = some d → ∃ x y z, xs[i]? = some x ∧ ys[i]? = some y ∧ zs[i]? = some z ∧ d = .tuple [x, y, z]
  | x :: xs, y :: ys, z :: zs, 0, d, h => ⟨x, y, z, rfl, rfl, rfl, (Option.some.inj h).symm⟩
  | x :: xs, y :: ys, z :: zs, i + 1, d, h => zip3D_get (xs := xs) (ys := ys) (zs := zs) i h
  | [], _, _, i, d, h => by simp [zip3D] at h
  | x :: xs, [], _, i, d, h => by simp [zip3D] at h
  | x :: xs, y :: ys, [], i, d, h => by simp [zip3D] at h
theorem zip3D_len : ∀ {xs ys zs : List PyData}, (zip3D xs ys zs).length = min (min xs.length ys.length) zs.length
  | x :: xs, y :: ys, z :: zs => by
    show (zip3D xs ys zs).length + 1 = min (min (xs.length + 1) (ys.length + 1)) (zs.length + 1)
    rw [zip3D_len]; omega
  | [], _, _ => by simp [zip3D]
  | x :: xs, [], _ => by simp [zip3D]
  | x :: xs, y :: ys, [] => by simp [zip3D]
/-- three tuples at a, b, c walked together -/
def Itz3 (a b c : Addr) : It :=
  ⟨fun i H => ∃ (xs ys zs : List V) (x y z : V), Rd H a (.tup xs) ∧ Rd H b (.tup ys) ∧ Rd H c (.tup zs) ∧ xs[i]? = some x ∧ ys[i]? = some y ∧ zs[i]? = some z,
    fun i H v H' => ∃ T x y z, v = .ref T ∧ H T = none ∧ H' = upd H T (.tup [x, y, z]) ∧ (∀ xs, Rd H a (.tup xs) → xs[i]? = some x) ∧ (∀ ys, Rd H b (.tup ys) → ys[i]? = some y) ∧ ∀ zs, Rd H c (.tup zs) → zs[i]? = some z,
    fun i H => ∃ xs ys zs : List V, Rd H a (.tup xs) ∧ Rd H b (.tup ys) ∧ Rd H c (.tup zs) ∧ i ≤ xs.length ∧ i ≤ ys.length ∧ i ≤ zs.length ∧ (xs.length = i ∨ ys.length = i ∨ zs.length = i)⟩
theorem rdT_inj {H : Hp} {a : Addr} {xs ys : List V} (h : Rd H a (.tup xs)) (h' : Rd H a (.tup ys)) : xs = ys := by
  rcases h with h | ⟨o, h⟩ <;> rcases h' with h' | ⟨o', h'⟩ <;> rw [h] at h' <;> cases h' <;> rfl
theorem turn_z3 {P : Program} {w : World} {K : PySem.W.Frag} {elts : List Expr} {kk : Nat} {tpos : Pos} {a b c z TI TO i1 i2 i3 : Addr} (S : ZipSep3 z TI TO i1 i2 i3 [i1, a] [i2, b] [i3, c]) (na : a ≠ i1) (nb : b ≠ i2) (nc : c ≠ i3) :
    Turn P w K (.Tuple elts kk tpos) (Itz3 a b c) [z, TI, TO, i1, i2, i3] z (fun i h => IsZip h z TI TO .none ∧ IsTupOf3 h TI (.ref i1) (.ref i2) (.ref i3) ∧ (∃ x y u, IsTupOf3 h TO x y u) ∧ h.IsTupleIter i1 a i ∧ h.IsTupleIter i2 b i ∧ h.IsTupleIter i3 c i) where
  mem := by simp
  obj := fun i h st e he => by
    obtain ⟨hz, hTI, ⟨x, y, u, hTO⟩, ⟨o1, e1, _, d1⟩, ⟨o2, e2, _, d2⟩, ⟨o3, e3, _, d3⟩⟩ := st
    have e' : e = z ∨ e = TI ∨ e = TO ∨ e = i1 ∨ e = i2 ∨ e = i3 := by simpa using he
    rcases e' with q | q | q | q | q | q
    · rw [q]; exact ⟨_, hz, fun v q => nomatch q⟩
    · rw [q]; exact ⟨_, hTI, fun v q => nomatch q⟩
    · rw [q]; exact ⟨_, hTO, fun v q => nomatch q⟩
    · rw [q]; exact ⟨o1, e1, fun v q => by rw [d1] at q; cases q⟩
    · rw [q]; exact ⟨o2, e2, fun v q => by rw [d2] at q; cases q⟩
    · rw [q]; exact ⟨o3, e3, fun v q => by rw [d3] at q; cases q⟩
  keep := fun i h h' st k => by
    obtain ⟨hz, hTI, ⟨x, y, u, hTO⟩, h1, h2, h3⟩ := st
    exact ⟨k z (by simp) _ hz, k TI (by simp) _ hTI, ⟨x, y, u, k TO (by simp) _ hTO⟩, h1.at fun o q => k i1 (by simp) o q, h2.at fun o q => k i2 (by simp) o q, h3.at fun o q => k i3 (by simp) o q⟩
  item := by
    intro X hP hw hK hc i pins s σ H E I hf st hg
    subst hP hw hK
    have hh := I.ok.hd hc
    obtain ⟨hz, hTI, ⟨x0, y0, u0, hTO⟩, h1, h2, h3⟩ := st
    obtain ⟨xs, ys, zs, x, y, u, qx, qy, qz, ex, ey, ez⟩ := hg
    obtain ⟨t1, r1, p1, _⟩ := I.tuple (.inl qx)
    obtain ⟨t2, r2, p2, _⟩ := I.tuple (.inl qy)
    obtain ⟨t3, r3, p3, _⟩ := I.tuple (.inl qz)
    have l1 := r1.length
    have l2 := r2.length
    have l3 := r3.length
    have D1 := Draws.tuple (prog := X.prog) (w := X.w) (A := X.A.in1) hh i1 a na t1.toArray
    have D2 := Draws.tuple (prog := X.prog) (w := X.w) (A := X.A.in1) hh i2 b nb t2.toArray
    have D3 := Draws.tuple (prog := X.prog) (w := X.w) (A := X.A.in1) hh i3 c nc t3.toArray
    have hzl : z < s.heap.objs.size := Heap.lt_size hz
    refine wpAny_pyNext_zipD3_item S D1 D2 D3 hz hTI hTO ⟨h1, p1⟩ ⟨h2, p2⟩ ⟨h3, p3⟩ (by have := lt_of_some ex; simp; omega) (by have := lt_of_some ey; simp; omega) (by have := lt_of_some ez; simp; omega) fun v1 v2 v3 h' tk y1 y2 y3 z' TO' s1 s2 s3 hT hsz hk => ?_
    have vx : ∀ {ts : List Value} {vs : List V} {v : Value} {x : V}, Vals vs ts → vs[i]? = some x → ts.toArray[i]? = some v → RelV x v := fun {ts vs v x} r e1 e2 => by
      obtain ⟨v', g1, g2⟩ := r.get e1
      have e2 : ts[i]? = some v := by simpa using e2
      rw [e2] at g1; cases g1; exact g2
    refine ⟨_, rfl, wpAny_letOwnedTupleGo_zip (s := { s with heap := h', toks := tk }) z' fun h'' z'' sb => ?_⟩
    have hT2 : h''.get? s.heap.objs.size = some { cls := .type "tuple", data := .seq #[v1, v2, v3] } := (sb.2 _ (Nat.ne_of_gt hzl)).trans hT
    have new : ObjOk X.prog X.w (upd H s.heap.objs.size (.tup [x, y, u])) h'' s.heap.objs.size (.tup [x, y, u]) :=
      ⟨by show 3 ≤ sizeLine; decide, [v1, v2, v3], .cons (vx r1 ex y1) (.cons (vx r2 ey y2) (.cons (vx r3 ez y3) .nil)), ⟨_, hT2, rfl, _, rfl⟩⟩
    have I1 : Inv X pins σ (upd H s.heap.objs.size (.tup [x, y, u])) { s with heap := h'', toks := tk } :=
      I.turnedNew (ch := [z, TI, TO, i1, i2, i3]) (fun e o hb q => (sb.2 e (fun q' => hb (by simp [q']))).trans (hk e o (fun q' => hb (by simp [q'])) (fun q' => hb (by simp [q'])) (fun q' => hb (by simp [q'])) (fun q' => hb (by simp [q'])) (fun q' => hb (by simp [q'])) q)) hf (Nat.le_refl _) new
    refine ⟨.ref s.heap.objs.size, _, I1, rfl, ⟨_, x, y, u, rfl, I.hok.fresh (Nat.le_refl _), rfl, fun l hl => by rw [rdT_inj hl qx]; exact ex, fun l hl => by rw [rdT_inj hl qy]; exact ey, fun l hl => by rw [rdT_inj hl qz]; exact ez⟩, ⟨z'', ?_, ⟨v1, v2, v3, ?_⟩, ?_, ?_, ?_⟩, fun e hem => ?_⟩
    · exact (sb.2 _ S.TIz).trans (hk _ _ S.TIz S.TITO S.TIi1 S.TIi2 S.TIi3 hTI)
    · exact (sb.2 _ S.TOz).trans TO'
    · exact s1.1.at fun o q => (sb.2 _ (fun q' => S.zf1 (by rw [← q']; simp))).trans q
    · exact s2.1.at fun o q => (sb.2 _ (fun q' => S.zf2 (by rw [← q']; simp))).trans q
    · exact s3.1.at fun o q => (sb.2 _ (fun q' => S.zf3 (by rw [← q']; simp))).trans q
    · have hlt : e < s.heap.objs.size := by
        have e' : e = z ∨ e = TI ∨ e = TO ∨ e = i1 ∨ e = i2 ∨ e = i3 := by simpa using hem
        rcases e' with q | q | q | q | q | q
        · rw [q]; exact hzl
        · rw [q]; exact Heap.lt_size hTI
        · rw [q]; exact Heap.lt_size hTO
        · rw [q]; obtain ⟨_, e1, _⟩ := h1; exact Heap.lt_size e1
        · rw [q]; obtain ⟨_, e2, _⟩ := h2; exact Heap.lt_size e2
        · rw [q]; obtain ⟨_, e3, _⟩ := h3; exact Heap.lt_size e3
      rw [upd_ne (Nat.ne_of_lt hlt)]
      exact (hf e hem).1
  done := by
    intro X hP hw hK hc i pins s σ H E I hf st hg
    subst hP hw hK
    have hh := I.ok.hd hc
    obtain ⟨hz, hTI, ⟨x0, y0, u0, hTO⟩, h1, h2, h3⟩ := st
    obtain ⟨xs, ys, zs, qx, qy, qz, k1, k2, k3, hend⟩ := hg
    obtain ⟨t1, r1, p1, _⟩ := I.tuple (.inl qx)
    obtain ⟨t2, r2, p2, _⟩ := I.tuple (.inl qy)
    obtain ⟨t3, r3, p3, _⟩ := I.tuple (.inl qz)
    have l1 := r1.length
    have l2 := r2.length
    have l3 := r3.length
    have D1 := Draws.tuple (prog := X.prog) (w := X.w) (A := X.A.in1) hh i1 a na t1.toArray
    have D2 := Draws.tuple (prog := X.prog) (w := X.w) (A := X.A.in1) hh i2 b nb t2.toArray
    have D3 := Draws.tuple (prog := X.prog) (w := X.w) (A := X.A.in1) hh i3 c nc t3.toArray
    refine wpAny_pyNext_zipD3_end S D1 D2 D3 hz hTI hTO ⟨h1, p1⟩ ⟨h2, p2⟩ ⟨h3, p3⟩ (by simp; omega) (by simp; omega) (by simp; omega) (by simp; omega) fun h' tk hk => ⟨rfl, I.turnedL (ch := [z, TI, TO, i1, i2, i3]) (fun e o hb q =>
      hk e o (fun q' => hb (by simp [q'])) (fun q' => hb (by simp [q'])) (fun q' => hb (by simp [q'])) (fun q' => hb (by simp [q'])) (fun q' => hb (by simp [q'])) q) hf⟩
  self := fun A i s Q E st h => wpAny_pyIter_zip st.1 h
section
variable {X : Cx} {e1 e2 e3 : Expr} {ss : AS} {p pos : Pos}
theorem pi_zip3 {ta : TA} {elts : List Expr} {kk : Nat} {tpos : Pos} (hm : X.mg "zip" = none) (ha : PA X [e1, e2, e3] ta) (hg : Gl X "zip" := by rfl)
    (hs : starEach [e1, e2, e3] X.env = (false, eval e1 X.env) :: starEach [e2, e3] X.env := by rfl) (hpl : (backTo pos (starEach [e2, e3] X.env)).any (·.1) = false := by rfl) :
    PI X (.Tuple elts kk tpos) (.Call (.Name "zip" p) [e1, e2, e3] [] pos) (fun σ H R => ta σ H fun vs H1 => ∃ a b c xs ys zs, vs = [.ref a, .ref b, .ref c] ∧ Rd H1 a (.tup xs) ∧ Rd H1 b (.tup ys) ∧ Rd H1 c (.tup zs) ∧ R (Itz3 a b c) H1) := by
  refine ⟨fun pins s σ H R I h => ?_⟩
  refine Call_ (ld_blt I hg hm PyProof.Rows.boot_zip (PyProof.Rows.callWith_type1 (thn (ha.run pos pins s σ H _ I h) fun us s1 ⟨vs, H1, I1, rv, q1⟩ => ?_) hs hpl))
  obtain ⟨a, b, c, xs, ys, zs, ev, hx, hy, hz, q⟩ := q1
  subst ev
  obtain ⟨u1, u2, u3, rfl, w1, w2, w3⟩ : ∃ u1 u2 u3, us = [u1, u2, u3] ∧ RelV (.ref a) u1 ∧ RelV (.ref b) u2 ∧ RelV (.ref c) u3 := by
    cases rv with
    | cons r rr => cases rr with
      | cons r' rr => cases rr with
        | cons r'' rr => cases rr; exact ⟨_, _, _, rfl, r, r', r''⟩
  obtain rfl : u1 = Value.ref a := w1
  obtain rfl : u2 = Value.ref b := w2
  obtain rfl : u3 = Value.ref c := w3
  obtain ⟨t1, r1, p1, _⟩ := I1.tuple (.inl hx)
  obtain ⟨t2, r2, p2, _⟩ := I1.tuple (.inl hy)
  obtain ⟨t3, r3, p3, _⟩ := I1.tuple (.inl hz)
  have la : a < s1.heap.objs.size := p1.lt
  have lb : b < s1.heap.objs.size := p2.lt
  have lc : c < s1.heap.objs.size := p3.lt
  refine zip_begins3 (begins_tuple a t1.toArray) (begins_tuple b t2.toArray) (begins_tuple c t3.toArray) p1 p2 p3 fun h' iz iTI iTO g1 g2 g3 hsz hk => wpAny_pyIter_zip iz ?_
  have S := zip_sep3 (N := s1.heap.objs.size) (fp1 := [a]) (fp2 := [b]) (fp3 := [c]) (by simpa using la) (by simpa using lb) (by simpa using lc)
  have fresh : ∀ e, e ∈ [s1.heap.objs.size + 5, s1.heap.objs.size + 3, s1.heap.objs.size + 4, s1.heap.objs.size, s1.heap.objs.size + 1, s1.heap.objs.size + 2] → FpOk X pins H1 e := fun e he => by
    have le : s1.heap.objs.size ≤ e := by
      have e' : e = s1.heap.objs.size + 5 ∨ e = s1.heap.objs.size + 3 ∨ e = s1.heap.objs.size + 4 ∨ e = s1.heap.objs.size ∨ e = s1.heap.objs.size + 1 ∨ e = s1.heap.objs.size + 2 := by simpa using he
      rcases e' with z | z | z | z | z | z <;> rw [z] <;> first | exact Nat.le_add_right _ _ | exact Nat.le_refl _
    exact I1.fpOk le (I1.hok.fresh le)
  exact ⟨_, _, _, _, H1, rfl, I1.kept (t' := s1.toks) hk, turn_z3 S (Nat.ne_of_lt la) (Nat.ne_of_lt (Nat.lt_succ_of_lt lb)) (Nat.ne_of_lt (Nat.lt_succ_of_lt (Nat.lt_succ_of_lt lc))), ⟨iz, iTI, ⟨_, _, _, iTO⟩, ⟨_, g1, rfl, rfl⟩, ⟨_, g2, rfl, rfl⟩, ⟨_, g3, rfl, rfl⟩⟩, fresh, q⟩
def sZip3 (ss : AS) : IS := fun ρ => (ss ρ).bind fun a => (fzAll a.1 a.2).bind fun b => match b.1 with
  | [.tuple l, .tuple m, .tuple n] => some (zip3D l m n, b.2)
  | _ => none
theorem iZip3 {elts : List Expr} {kk : Nat} {tpos : Pos} (hm : X.mg "zip" = none) (ha : AA X [e1, e2, e3] ss) (hg : Gl X "zip" := by rfl)
    (hs : starEach [e1, e2, e3] X.env = (false, eval e1 X.env) :: starEach [e2, e3] X.env := by rfl) (hpl : (backTo pos (starEach [e2, e3] X.env)).any (·.1) = false := by rfl) :
    II X (.Tuple elts kk tpos) (.Call (.Name "zip" p) [e1, e2, e3] [] pos) (sZip3 ss) := by
  refine pi_imp (pi_zip3 hm ha hg hs hpl) fun σ H Rr q => ?_
  obtain ⟨B, P, ρ, F, items, ρ', rel, hs, k⟩ := q
  obtain ⟨⟨rs, ρ1⟩, h1, hs⟩ := bindS hs
  obtain ⟨⟨ds, ρ2⟩, h2, hs⟩ := bindS hs
  refine ⟨B, P, ρ, F, rs, ρ1, rel, h1, fun vs F1 H1 rel1 s1 ok1 => ?_⟩
  obtain ⟨F2, rel2, s2, dn⟩ := rel1.fzAll ok1 h2
  dsimp only at hs
  split at hs
  · rename_i l m n
    have e := Option.some.inj hs
    injection e with e1 e2
    subst e1; subst e2
    cases dn with
    | cons d1 dr => cases dr with
      | cons d2 dr => cases dr with
        | cons d3 dr =>
          cases dr
          cases d1 with
          | tup r1 a1 => cases d2 with
            | tup r2 a2 => cases d3 with
              | tup r3 a3 =>
                refine ⟨_, _, _, _, _, _, rfl, rd_up rel2.fh r1, rd_up rel2.fh r2, rd_up rel2.fh r3, k F2 H1 _ rel2 (s1.trans s2) ?_⟩
                intro F3 H3 s3 sH
                have q1 := rd_up (s3.trans sH) r1
                have q2 := rd_up (s3.trans sH) r2
                have q3 := rd_up (s3.trans sH) r3
                refine ⟨fun i d e => ?_, fun i hi => ?_⟩
                · obtain ⟨x, y, z, e1, e2, e3, rfl⟩ := zip3D_get i e
                  obtain ⟨vx, f1, g1⟩ := dps_get i a1 e1
                  obtain ⟨vy, f2, g2⟩ := dps_get i a2 e2
                  obtain ⟨vz, f3, g3⟩ := dps_get i a3 e3
                  refine ⟨⟨_, _, _, _, _, _, q1, q2, q3, f1, f2, f3⟩, fun v H' ⟨T, x', y', z', ev, hT, eH, k1, k2, k3⟩ => .inr ⟨T, [vx, vy, vz], _, hT, ?_, ev, rfl, .cons (dp_up s3 g1) (.cons (dp_up s3 g2) (.cons (dp_up s3 g3) .nil))⟩⟩
                  have w1 := k1 _ q1
                  have w2 := k2 _ q2
                  have w3 := k3 _ q3
                  rw [f1] at w1; rw [f2] at w2; rw [f3] at w3
                  cases w1; cases w2; cases w3
                  exact eH
                · rw [zip3D_len, ← dps_len a1, ← dps_len a2, ← dps_len a3] at hi
                  exact ⟨_, _, _, q1, q2, q3, by omega, by omega, by omega, by omega⟩
  · cases hs
end
end Sd


set_option Elab.async false
set_option linter.all false
set_option maxRecDepth 100000
/-! SdB: the end of a law. -/
namespace Sd
open PySem PySem.Spec PyProof.Rows L2

/-- no list stands in the written part -/
def noL (K : PySem.W.Frag) : Bool := K.all fun p => match p.2.cls with
  | .type c => !decide (c = "list")
  | _ => true
theorem noL_lookup {K : PySem.W.Frag} {a : Addr} {o : Obj} (h : noL K = true) (e : K.lookup a = some o) (c : o.cls = .type "list") : False := by
  have hm : (a, o) ∈ K := by
    clear h
    induction K with
    | nil => cases e
    | cons p K ih =>
      obtain ⟨b, ob⟩ := p
      cases q : (a == b) with
      | true =>
        rw [List.lookup_cons, q] at e
        cases eq_of_beq q
        cases e
        exact List.mem_cons_self
      | false =>
        rw [List.lookup_cons, q] at e
        exact List.mem_cons_of_mem _ (ih e)
  have := List.all_eq_true.mp h (a, o) hm
  rw [c] at this
  simp at this
def hookL (n : Nat) (fa : List He.Fa) (fn : List He.DefD) : PySem.W.Hook where
  α := Bool × He.AlD
  obs := fun s => (noL (He.frG s.heap.get? (He.asD s.heap.get? n)), He.obsDG n fa fn s.heap.get?)
  val := fun _ => (true, He.valD fn)
  says := fun _ h => ∃ K : PySem.W.Frag, K.In h ∧ He.SaysD fa fn K ∧ noL K = true
  of := fun _ _ e => ⟨_, He.frG_in, congrArg Prod.snd e, congrArg Prod.fst e⟩
  keeps := fun _ _ _ ⟨K, hK, c⟩ k => ⟨K, PySem.W.Frag.In.keeps hK k, c⟩
def obL (n : Nat) (fa : List He.Fa) (fn : List He.DefD) (s : PySem.W.SharedT) : Bool × He.AlD := (noL (He.frG (HandSHeadRun.getT s) (He.asD (HandSHeadRun.getT s) n)), He.obsDG n fa fn (HandSHeadRun.getT s))
theorem obL_eq (n : Nat) (fa : List He.Fa) (fn : List He.DefD) (s : PySem.W.SharedT) : obL n fa fn s = (hookL n fa fn).obs s.abs := by
  have e : HandSHeadRun.getT s = s.abs.heap.get? := funext fun a => HandSHeadRun.getT_eq s a
  unfold obL
  rw [e] <;> rfl

/-- the script alone is tracked -/
def scrH (a : Addr) (o : Obj) (xs : List V) : Hp := fun b => if b = a then some (.frz o (.lst xs)) else none
theorem scrH_at {a : Addr} {o : Obj} {xs : List V} : scrH a o xs a = some (.frz o (.lst xs)) := if_pos rfl
theorem scrH_ne {a b : Addr} {o : Obj} {xs : List V} (h : b ≠ a) : scrH a o xs b = none := if_neg h
theorem law_callG {P : Program} {w : World} {K : PySem.W.Frag} {mg mb : Str → Option Value} {k : Nat} {fa a : Addr} {fd : FuncData} {x : Str} {g : FnS} {s₁ : Shared} {vs : List Value} {ns : List Int} {fins : List Slot}
    (KX : K.In s₁.heap) (nl : noL K = true) (hns : s₁.heap.Ns mainGlobals mg) (hb : s₁.heap.Ns builtinsNs mb) (hbb : ∀ x : Str, x ≠ "__name__" → mb x = bootBuiltins x) (hlim : s₁.heap.NoLimit) (hg : s₁.gens = #[])
    (ha : s₁.heap.get? a = some { cls := .type "list", data := .seq vs.toArray }) (hi : IntsAre vs ns) (hl : ns.length ≤ sizeLine) (hr : Room k callerA)
    (F : ∀ base : Heap, K.In base → base.Ns mainGlobals mg → FnG P w K mg base k fa fd [x] (spOf g)) (hbind : ∀ (s : Shared) (u : Value), BindsTo s fd ⟨[u], []⟩ [(x, u)])
    (hgv : g [.val (.list (ns.map PyData.int))] = some (.imm (.bool true), fins)) :
    codeAny (model P w) callerA (.call (.ref fa) ⟨[.ref a], []⟩) (fun r s' => r = .ok (.ret (.bool true)) ∧ OldK s₁.heap s'.heap ∧ s'.os = s₁.os ∧ AllBare s'.gens) s₁ := by
  have rv := vals_ints hi
  have hK : K.lookup a = none := by
    cases q : K.lookup a with
    | none => rfl
    | some o =>
      have e := KX a o q
      rw [ha] at e
      cases e
      exact (noL_lookup nl q rfl).elim
  let o : Obj := { cls := .type "list", data := .seq vs.toArray }
  let H := scrH a o (ns.map V.int)
  have Hne : ∀ {b : Addr} {u : HO}, H b = some u → b = a ∧ u = .frz o (.lst (ns.map V.int)) := fun {b u} e => by
    by_cases hb : b = a
    · subst hb
      have e : scrH b o (ns.map V.int) b = some u := e
      rw [scrH_at] at e
      exact ⟨rfl, (Option.some.inj e).symm⟩
    · have e : scrH a o (ns.map V.int) b = some u := e
      rw [scrH_ne hb] at e; cases e
  have hok : HOk P w H s₁.heap := fun b u e => by
    obtain ⟨rfl, rfl⟩ := Hne e
    exact ⟨ha, by rw [List.length_map]; exact hl, vs, _, rv, ha⟩
  have off : ∀ {b : Addr} {ob : Obj} {es : Array DictEntry} {ep : Nat}, s₁.heap.get? b = some ob → ob.data = .dict es ep → H b = none := fun {b ob es ep} e d => by
    cases q : H b with
    | none => rfl
    | some u =>
      obtain ⟨rfl, _⟩ := Hne q
      rw [ha] at e; cases e
      exact nomatch (show Data.seq vs.toArray _ = Data.dict es ep from d)
  have nsK : ∀ {b : Addr} {m : Str → Option Value}, s₁.heap.Ns b m → (hidT s₁.heap H).Ns b m := fun {b m} ⟨ob, es, ep, e, d, r⟩ => ⟨ob, es, ep, hidT_get e (off e d), d, r⟩
  have hKb : K.In (hidT s₁.heap H) := fun b ob e => hidT_get (KX b ob e) (by
    cases q : H b with
    | none => rfl
    | some u =>
      obtain ⟨rfl, _⟩ := Hne q
      rw [hK] at e; cases e)
  have hM : Mod K mg (hidT s₁.heap H) := ⟨hKb, nsK hns, ⟨mb, nsK hb, hbb⟩, let ⟨mc, h1, h2⟩ := hlim; ⟨mc, nsK h1, h2⟩⟩
  have e0 : Env0 P w K mg (hidT s₁.heap H) callerA [] s₁ H := ⟨rfl, hM, fun b ob e => of_hidT e, Nat.le_of_eq (hidT_size _ _), trivial, (fun b hb => nomatch hb), hok, .of_eq hg⟩
  have dInts : ∀ l : List Int, DenAll H (l.map V.int) (l.map PyData.int) := fun l => by
    induction l with
    | nil => exact .nil
    | cons n l ih => exact .cons (.int n) ih
  have rel : Rel [some (.ref a)] (fun _ => none) [some (.ref a)] [.val (.list (ns.map PyData.int))] H H := by
    refine ⟨rfl, Same.refl H, (fun _ _ e => nomatch e), (fun _ _ _ => rfl), fun i d e => ?_, fun i b ob e => ?_, fun i j c b b' o1 o2 e => ?_, fun i h => ?_⟩
    · cases i with
      | zero =>
        rcases e with e | e
        · cases e
          exact ⟨.ref a, rfl, .lst (.inr ⟨o, scrH_at⟩) (dInts ns)⟩
        · cases e
      | succ i => rcases e with e | e <;> simp at e
    · cases i with
      | zero => cases e
      | succ i => simp at e
    · cases i with
      | zero => cases e
      | succ i => simp at e
    · rfl
  have sp : spOf g [.ref a] H (fun v _ => v = .bl true) fun _ _ _ => False := ⟨_, _, _, _, fins, rel, hgv, fun v F' H' _ _ ok _ => by cases ok; rfl⟩
  refine codeAny_mono ((F _ hKb (nsK hns)).run callerA [] s₁ H ⟨[.ref a], []⟩ [.ref a] [.ref a] _ _ hr rfl e0 (hbind s₁ (.ref a)) (.cons rfl .nil) sp) fun r s' h => ?_
  match r, h with
  | .ok (.ret u), h =>
    obtain ⟨v, H', os, bare, un, hok', r', rfl⟩ := h
    obtain rfl : u = Value.bool true := r'
    refine ⟨rfl, OldK.of_keep fun b ob e => ?_, os, bare⟩
    cases q : H b with
    | none => exact un.keep b ob e q (fun z => nomatch z) (fun z => nomatch z)
    | some u =>
      obtain ⟨rfl, rfl⟩ := Hne q
      obtain ⟨e1, _⟩ := hok' b _ (un.frzs b _ _ q)
      rw [ha] at e; cases e
      exact e1
  | .error _, h => exact False.elim h
  | .ok .next, h => exact False.elim h
  | .ok .brk, h => exact False.elim h
  | .ok .cont, h => exact False.elim h
theorem walk_G {l : PySem.W.OpenLaw} {n k : Nat} {q : Program} {loose : List Str} {XP : (Str → Option Value) → Heap → Prop} {YP : World → Heap → Prop} {d : DefRec} {x : Str} {g : FnS}
    (hn : l.most = some n) (hn2 : n ≤ sizeLine) (hdf : d.params.defaults = []) (hr : Room k callerA)
    (F : ∀ (w : World) (mg : Str → Option Value) (fa : Addr) (h : Heap), YP w h → h.Ns mainGlobals mg → mg d.name = some (.ref fa) →
      ∃ (K : PySem.W.Frag) (fd : FuncData), K.In h ∧ noL K = true ∧ (∀ (s : Shared) (u : Value), BindsTo s fd ⟨[u], []⟩ [(x, u)]) ∧
        ∀ base : Heap, K.In base → base.Ns mainGlobals mg → FnG l.prog w K mg base k fa fd [x] (spOf g))
    (hgv : ∀ ns : List Int, ns.length ≤ n → ∃ fins, g [.val (.list (ns.map PyData.int))] = some (.imm (.bool true), fins)) :
    PySem.W.WalkO q loose XP YP l.row.toRowW d [] (fun f vs => PySem.call f vs) := by
  refine Att.attach_call hn hdf fun w s₀ s₁ mg mb fa o pm cd doc a vs ns G Y ho hd hcd hmg hobj hints hlen hg => ?_
  obtain ⟨K, fd, KX, nl, hb, hF⟩ := F w mg fa _ Y G.T.g hmg
  obtain ⟨fins, hgv⟩ := hgv ns hlen
  exact law_callG KX nl G.T.g G.T.b G.T.builtins G.T.nolimit hg hobj hints (Nat.le_trans hlen hn2) hr hF hb hgv
end Sd


set_option Elab.async false
set_option linter.all false
set_option maxRecDepth 100000
/-! SdC: a def by its semantics alone. -/
namespace Sd
open PySem PySem.Spec PyProof.Rows L2

def sListRg1 (se : ES) : ES := fun ρ => (se ρ).bind fun a => match look a.2 a.1 with
  | some (.int j) => if rgOk 0 j ∧ j ≤ 1000000 then some (.tmp (.lst (rgD 0 j)), a.2) else none
  | _ => none
def sParT (is : List Nat) (ss : AS) : SS := fun ρ => (ss ρ).bind fun a => if a.1.length ≤ 1000 then (nrmAll a.1 a.2).bind fun b => (putAll is b.1 b.2).bind fun ρ3 => some (.nx, ρ3) else none
/-- a def's function on slots -/
def fnS (np nn : Nat) (s : SS) : FnS := fun args => if args.length = np then (runF nn s args).bind fun r => if notPk r.1 = true then some r else none else none
theorem fnS_inv {np nn : Nat} {s : SS} {args : List Slot} {r : R × List Slot} (h : fnS np nn s args = some r) : args.length = np ∧ notPk r.1 = true ∧ runF nn s args = some r := by
  unfold fnS at h
  split at h
  · rename_i hl
    obtain ⟨r', h1, h⟩ := bindS h
    split at h
    · rename_i hp
      cases h
      exact ⟨hl, hp, h1⟩
    · cases h
  · cases h
section
variable {P : Program} {w : World} {K : PySem.W.Frag} {mg : Str → Option Value} {base : Heap}
theorem mkFn {x : Str} {st : Stmt} {N ps : List Str} {k np nn : Nat} {s : SS} (h : ∃ fd, FunD K x x (defArgs st) (defBody st) (defScope st) [] [] (He.fAd K (x, none)) fd) (gl : mg x = some (.ref (He.fAd K (x, none)))) (S : FnScope N ps (defScope st))
    (bd : ∀ (kV doc pm : Value) (an : Option Addr) (cdv ct : Value) (us : List Value), us.length = ps.length → bindArgs (PySem.W.fnOf x x (defArgs st) (defBody st) (defScope st) .none kV doc pm an cdv ct) ⟨us, []⟩ = pure (ps.zip us))
    (hN : ps.length ≤ N.length)
    (hb : ∀ (f : Addr) (cdv : Value) (A : Around) (outer : List Env) (s0 : Shared) (H : Hp) (E : XK), Room k (bX P w K mg base N x (defScope st) f cdv A outer s0 H E).A → (bX P w K mg base N x (defScope st) f cdv A outer s0 H E).A.guards = some [] → SB (bX P w K mg base N x (defScope st) f cdv A outer s0 H E) (defBody st) s)
    (hp : ps.length = np := by rfl) (hn : N.length = nn := by rfl) : Cal P w K mg base (k + 1) x (spOf (fnS np nn s)) :=
  mkCal (g := fnS np nn s) h gl S bd hN (fun args r h => by rw [hp]; exact (fnS_inv h).1) hb fun args r h => by rw [hn]; exact (fnS_inv h).2
theorem mkG {x : Str} {st : Stmt} {N ps : List Str} {k : Nat} {s : SS} {g : FnS} {f : Addr} {fd : FuncData} (FD : FunD K x x (defArgs st) (defBody st) (defScope st) [] [] f fd) (S : FnScope N ps (defScope st))
    (hN : ps.length ≤ N.length) (len : ∀ args r, g args = some r → args.length = ps.length)
    (hb : ∀ (f : Addr) (cdv : Value) (A : Around) (outer : List Env) (s0 : Shared) (H : Hp) (E : XK), Room k (bX P w K mg base N x (defScope st) f cdv A outer s0 H E).A → (bX P w K mg base N x (defScope st) f cdv A outer s0 H E).A.guards = some [] → SB (bX P w K mg base N x (defScope st) f cdv A outer s0 H E) (defBody st) s)
    (hg : ∀ args r, g args = some r → notPk r.1 = true ∧ runF N.length s args = some r) : FnG P w K mg base (k + 1) f fd ps (spOf g) := by
  refine fnG_of FD S (fun vs H Q E h => ?_) (fun cdv A outer s0 H vs Q E hr hgd h => ?_)
  · obtain ⟨args, Pp, F, r, fins, rel, hgr, _⟩ := h
    have := rel.len
    rw [List.length_map] at this
    rw [← this]
    exact len _ _ hgr
  · refine ⟨_, PSs.nox (hb _ cdv A outer s0 H E hr hgd), ?_⟩
    obtain ⟨args, Pp, F, r, fins, rel, hgr, k⟩ := h
    obtain ⟨hp, hrun⟩ := hg _ _ hgr
    have hl : args.length = vs.length := by
      have := rel.len
      rw [List.length_map] at this
      exact this
    obtain ⟨⟨fl, ρ'⟩, h1, h2⟩ := bindS hrun
    have rel1 := rel.begin (N.length - args.length)
    refine ⟨vs.map some, Pp, args ++ List.replicate (N.length - args.length) .emp, F, fl, ρ', ?_, h1, fun σ' F' H' rel' sF => ?_⟩
    · unfold L2.start
      rw [hl] at rel1
      rw [hl]
      exact rel1
    · cases fl with
      | nx =>
        obtain ⟨fs, g1, h2⟩ := bindS h2
        have e := Option.some.inj h2
        injection e with e1 e2
        subst e1; subst e2
        obtain ⟨relf, okf⟩ := rel.finish rel' sF g1
        exact k .non F' H' relf sF .non (fun i z => nomatch z)
      | rt r' =>
        obtain ⟨fs, g1, h2⟩ := bindS h2
        have e := Option.some.inj h2
        injection e with e1 e2
        subst e1; subst e2
        obtain ⟨relf, okf⟩ := rel.finish rel' sF g1
        intro v ok
        exact k v F' H' relf sF (okf r' v hp ok) (fun i z => by rw [z] at hp; cases hp)
      | bk => cases h2
      | ct => cases h2
theorem mkFnG {x : Str} {st : Stmt} {N ps : List Str} {k np nn : Nat} {s : SS} {f : Addr} {fd : FuncData} (FD : FunD K x x (defArgs st) (defBody st) (defScope st) [] [] f fd) (S : FnScope N ps (defScope st))
    (hN : ps.length ≤ N.length)
    (hb : ∀ (f : Addr) (cdv : Value) (A : Around) (outer : List Env) (s0 : Shared) (H : Hp) (E : XK), Room k (bX P w K mg base N x (defScope st) f cdv A outer s0 H E).A → (bX P w K mg base N x (defScope st) f cdv A outer s0 H E).A.guards = some [] → SB (bX P w K mg base N x (defScope st) f cdv A outer s0 H E) (defBody st) s)
    (hp : ps.length = np := by rfl) (hn : N.length = nn := by rfl) : FnG P w K mg base (k + 1) f fd ps (spOf (fnS np nn s)) :=
  mkG (g := fnS np nn s) FD S hN (fun args r h => by rw [hp]; exact (fnS_inv h).1) hb fun args r h => by rw [hn]; exact (fnS_inv h).2
end
section
variable {X : Cx}
def sListRg2 (ss : AS) : ES := fun ρ => (ss ρ).bind fun a => (lookAll a.2 a.1).bind fun ds => match ds with
  | [.int i, .int j] => if rgOk i j ∧ j - i ≤ 1000000 then some (.tmp (.lst (rgD i j)), a.2) else none
  | _ => none
theorem eListRg2 {e1 e2 : Expr} {p p1 pos pos1 : Pos} {s1 s2 : ES} (hc : X.calm = true) (hm : X.mg "list" = none) (hm2 : X.mg "range" = none) (ha : EE X e1 s1) (hb : EE X e2 s2) (hg : Gl X "list" := by rfl) (hg2 : Gl X "range" := by rfl)
    (na : starEach [e1, e2] X.env = (false, eval e1 X.env) :: starEach [e2] X.env := by rfl) (nb : starEach [e2] X.env = (false, eval e2 X.env) :: starEach [] X.env := by rfl) (hp : (backTo pos1 (starEach [e2] X.env)).any (·.1) = false := by rfl)
    (nc : starEach [.Call (.Name "range" p1) [e1, e2] [] pos1] X.env = (false, eval (.Call (.Name "range" p1) [e1, e2] [] pos1) X.env) :: starEach [] X.env := by rfl) :
    EE X (.Call (.Name "list" p) [.Call (.Name "range" p1) [e1, e2] [] pos1] [] pos) (sListRg2 (sCons s1 (sCons s2 sNil))) := by
  refine pe_imp (pe_listRg hc hg hm (prg_2 hg2 hm2 ha hb na nb hp) nc) fun σ H Q q => ?_
  obtain ⟨B, P, ρ, F, r, ρ', rel, hs, k⟩ := q
  obtain ⟨⟨rs, ρ1⟩, h1, hs⟩ := bindS hs
  obtain ⟨ds, h2, hs⟩ := bindS hs
  obtain ⟨⟨ra, ρa⟩, g1, h1⟩ := bindS h1
  obtain ⟨⟨rb', ρb⟩, g2, h1⟩ := bindS h1
  obtain ⟨⟨rb, ρb2⟩, g3, g2⟩ := bindS g2
  obtain ⟨⟨rn, ρc⟩, g4, g2⟩ := bindS g2
  cases g4
  cases g2
  cases h1
  obtain ⟨x, j1, h2⟩ := bindS h2
  obtain ⟨y', j2, h2⟩ := bindS h2
  obtain ⟨y, j3, j2⟩ := bindS j2
  obtain ⟨z, j4, j2⟩ := bindS j2
  cases j4
  cases j2
  cases h2
  dsimp only at hs
  split at hs
  · rename_i i j he
    cases he
    split at hs
    · rename_i hk
      have e := Option.some.inj hs
      injection e with e1 e2
      subst e1; subst e2
      obtain ⟨⟨k1, k2, k3, k4⟩, k5⟩ := hk
      refine two rel g1 g3 fun vx vy F2 H2 r2 s2 okx oky _ => ⟨i, j, (r2.cur okx j1).int, (r2.cur oky j3).int, ⟨k1, k2, k3, k4, by omega⟩, fun q hq => ?_⟩
      have dn : ∀ l : List Nat, DenAll F2 (l.map fun k => V.int (i + (k : Nat))) (l.map fun k : Nat => PyData.int (i + k)) := by
        intro l
        induction l with
        | nil => exact .nil
        | cons x l ih => exact .cons (.int _) ih
      exact k _ F2 _ (r2.new hq) s2 ⟨q, _, rfl, upd_same, dn _, r2.fh.free hq, r2.ph.free hq, notOwn_new r2 hq⟩
    · cases hs
  · cases hs
end
end Sd


set_option Elab.async false
set_option linter.all false
set_option maxRecDepth 100000
/-! SdE: running the semantics by simp; loops, comprehensions. -/
namespace Sd
open PySem PySem.Spec PyProof.Rows L2
section
variable {ρ : Sl} {sa sb sc se : ES} {ss : AS} {ca cb : CS} {i : Nat} {d : PyData} {s t : SS}
@[simp] theorem ap_sOp {g : FB2} : sOp g sa sb ρ = (sa ρ).bind fun a => (sb a.2).bind fun b => (look b.2 a.1).bind fun x => (look b.2 b.1).bind fun y => (g x y).bind fun rr => some (rr.toR, b.2) := rfl
@[simp] theorem ap_sUn {g : FB1} : sUn g sa ρ = (sa ρ).bind fun a => (look a.2 a.1).bind fun x => (g x).bind fun rr => some (rr.toR, a.2) := rfl
@[simp] theorem ap_sBlt {g : FB} : sBlt g ss ρ = (ss ρ).bind fun a => (lookAll a.2 a.1).bind fun ds => (g ds).bind fun rr => some (rr.toR, a.2) := rfl
@[simp] theorem ap_sNil : sNil ρ = some ([], ρ) := rfl
@[simp] theorem ap_sCons : sCons sa ss ρ = (sa ρ).bind fun a => (ss a.2).bind fun b => some (a.1 :: b.1, b.2) := rfl
@[simp] theorem ap_sK : sK d ρ = some (.imm d, ρ) := rfl
def varS (ρ : Sl) (i : Nat) : Option Slot → Option (R × Sl)
  | some (.val d) => some (.imm d, ρ)
  | some (.frz d) => some (.imm d, ρ)
  | some (.own _ _) => some (.pk i, ρ)
  | _ => none
@[simp] theorem ap_sVar : sVar i ρ = varS ρ i ρ[i]? := by
  unfold sVar varS
  cases ρ[i]? with
  | none => rfl
  | some s => cases s <;> rfl
@[simp] theorem varS_val : varS ρ i (some (.val d)) = some (.imm d, ρ) := rfl
@[simp] theorem varS_frz : varS ρ i (some (.frz d)) = some (.imm d, ρ) := rfl
@[simp] theorem varS_own {b o} : varS ρ i (some (.own b o)) = some (.pk i, ρ) := rfl
def boolS (ρ : Sl) : Option PyData → Option (Bool × Sl)
  | some (.bool b) => some (b, ρ)
  | _ => none
@[simp] theorem ap_sTru : sTru se ρ = (se ρ).bind fun a => boolS a.2 (look a.2 a.1) := by
  show (se ρ).bind _ = (se ρ).bind _
  refine congrArg _ (funext fun a => ?_)
  cases look a.2 a.1 with
  | none => rfl
  | some d => cases d <;> rfl
@[simp] theorem boolS_some {b} : boolS ρ (some (.bool b)) = some (b, ρ) := rfl
@[simp] theorem ap_sBool : sBool ca ρ = (ca ρ).bind fun a => some (.imm (.bool a.1), a.2) := rfl
@[simp] theorem ap_sAnd : sAnd ca cb ρ = (ca ρ).bind fun a => if a.1 = true then cb a.2 else some (false, a.2) := rfl
@[simp] theorem ap_sOr : sOr ca cb ρ = (ca ρ).bind fun a => if a.1 = true then some (true, a.2) else cb a.2 := rfl
@[simp] theorem ap_sNot : sNot ca ρ = (ca ρ).bind fun a => some (!a.1, a.2) := rfl
@[simp] theorem ap_sIf : sIf ca sa sb ρ = (ca ρ).bind fun c => if c.1 = true then sa c.2 else sb c.2 := rfl
@[simp] theorem gB_at {g : FB2} {x y : PyData} : gB g x y = match g x y with
  | some (.at (.bool b)) => some b
  | _ => none := rfl
@[simp] theorem ap_sCh {g g' : FB2} : sCh g g' sa sb sc ρ = (sa ρ).bind fun a => (sb a.2).bind fun b => (look b.2 a.1).bind fun x => (look b.2 b.1).bind fun y => (gB g x y).bind fun k =>
  if k = true then (sc b.2).bind fun c => (look c.2 b.1).bind fun y => (look c.2 c.1).bind fun z => (gB g' y z).bind fun k => some (k, c.2) else some (false, b.2) := rfl
@[simp] theorem ap_sTup : sTup ss ρ = (ss ρ).bind fun a => (fzAll a.1 a.2).bind fun b => if b.1.length ≤ 1000 then some (.imm (.tuple b.1), b.2) else none := rfl
@[simp] theorem ap_sLst : sLst ss ρ = (ss ρ).bind fun a => (fzAll a.1 a.2).bind fun b => if b.1.length ≤ 1000 then some (.tmp (.lst b.1), b.2) else none := rfl
@[simp] theorem ap_sNo : sNo ρ = some (none, ρ) := rfl
def intS (ρ : Sl) : Option PyData → Option (Option Int × Sl)
  | some (.int i) => some (some i, ρ)
  | _ => none
@[simp] theorem intS_some {k} : intS ρ (some (.int k)) = some (some k, ρ) := rfl
@[simp] theorem ap_sPart : sPart se ρ = (se ρ).bind fun a => intS a.2 (look a.2 a.1) := by
  show (se ρ).bind _ = (se ρ).bind _
  refine congrArg _ (funext fun a => ?_)
  cases look a.2 a.1 with
  | none => rfl
  | some d => cases d <;> rfl
@[simp] theorem ap_sSl {g : FS} {sl sh : OS} : sSl g se sl sh ρ = (se ρ).bind fun a => (sl a.2).bind fun l => (sh l.2).bind fun u => (look u.2 a.1).bind fun d => (g d l.1 u.1).bind fun rr => some (rr.toR, u.2) := rfl
@[simp] theorem ap_sSkip : sSkip ρ = some (.nx, ρ) := rfl
@[simp] theorem ap_sStop : sStop ρ = none := rfl
@[simp] theorem ap_sBrk : sBrk ρ = some (.bk, ρ) := rfl
@[simp] theorem ap_sCnt : sCnt ρ = some (.ct, ρ) := rfl
@[simp] theorem ap_sDrop : sDrop se ρ = (se ρ).bind fun a => some (.nx, a.2) := rfl
@[simp] theorem ap_sRet : sRet se ρ = (se ρ).bind fun a => (give a.1 a.2).bind fun b => some (.rt b.1, b.2) := rfl
@[simp] theorem ap_sIfS : sIfS ca s t ρ = (ca ρ).bind fun c => if c.1 = true then s c.2 else t c.2 := rfl
@[simp] theorem ap_sSet : sSet i se ρ = (se ρ).bind fun a => (nrm a.1 a.2).bind fun b => (putR i b.1 b.2).bind fun ρ3 => some (.nx, ρ3) := rfl
def seqS (t : SS) (ρ : Sl) : Fl → Option (Fl × Sl)
  | .nx => t ρ
  | fl => some (fl, ρ)
@[simp] theorem ap_sSeq : sSeq s t ρ = (s ρ).bind fun a => seqS t a.2 a.1 := by
  show (s ρ).bind _ = (s ρ).bind _
  refine congrArg _ (funext fun a => ?_)
  obtain ⟨a1, a2⟩ := a
  cases a1 <;> rfl
@[simp] theorem seqS_nx : seqS t ρ .nx = t ρ := rfl
@[simp] theorem seqS_bk : seqS t ρ .bk = some (.bk, ρ) := rfl
@[simp] theorem seqS_ct : seqS t ρ .ct = some (.ct, ρ) := rfl
@[simp] theorem seqS_rt {r} : seqS t ρ (.rt r) = some (.rt r, ρ) := rfl
@[simp] theorem ap_sPar {is : List Nat} : sPar is ss ρ = (ss ρ).bind fun a => (nrmAll a.1 a.2).bind fun b => (putAll is b.1 b.2).bind fun ρ3 => some (.nx, ρ3) := rfl
@[simp] theorem ap_sParT {is : List Nat} : sParT is ss ρ = (ss ρ).bind fun a => if a.1.length ≤ 1000 then (nrmAll a.1 a.2).bind fun b => (putAll is b.1 b.2).bind fun ρ3 => some (.nx, ρ3) else none := rfl
def seqOf (ρ : Sl) : PyData → Option (List PyData × Sl)
  | .list l => some (l, ρ)
  | .tuple l => some (l, ρ)
  | _ => none
@[simp] theorem seqOf_list {l} : seqOf ρ (.list l) = some (l, ρ) := rfl
@[simp] theorem seqOf_tuple {l} : seqOf ρ (.tuple l) = some (l, ρ) := rfl
@[simp] theorem ap_sIt : sIt se ρ = (se ρ).bind fun a => (fz a.1 a.2).bind fun b => seqOf b.2 b.1 := by
  show (se ρ).bind _ = (se ρ).bind _
  refine congrArg _ (funext fun a => ?_)
  refine congrArg _ (funext fun b => ?_)
  obtain ⟨b1, b2⟩ := b
  cases b1 <;> rfl
@[simp] theorem ap_sRg1 : sRg1 ss ρ = (ss ρ).bind fun a => (lookAll a.2 a.1).bind fun ds => match ds with
  | [.int j] => if rgOk 0 j then some (rgD 0 j, a.2) else none
  | _ => none := rfl
@[simp] theorem ap_sRg2 : sRg2 ss ρ = (ss ρ).bind fun a => (lookAll a.2 a.1).bind fun ds => match ds with
  | [.int i, .int j] => if rgOk i j then some (rgD i j, a.2) else none
  | _ => none := rfl
@[simp] theorem ap_sRgV : sRgV se ρ = (se ρ).bind fun a => (lookR a.2 a.1).bind fun b => if rgOk b.1 b.2 then some (rgD b.1 b.2, a.2) else none := rfl
@[simp] theorem ap_sRange : sRange ss ρ = (ss ρ).bind fun a => (lookAll a.2 a.1).bind fun ds => match ds with
  | [.int i, .int j] => some (.tmp (.rng i j), a.2)
  | _ => none := rfl
@[simp] theorem ap_sListRg1 : sListRg1 se ρ = (se ρ).bind fun a => match look a.2 a.1 with
  | some (.int j) => if rgOk 0 j ∧ j ≤ 1000000 then some (.tmp (.lst (rgD 0 j)), a.2) else none
  | _ => none := rfl
@[simp] theorem ap_sListRg2 : sListRg2 ss ρ = (ss ρ).bind fun a => (lookAll a.2 a.1).bind fun ds => match ds with
  | [.int i, .int j] => if rgOk i j ∧ j - i ≤ 1000000 then some (.tmp (.lst (rgD i j)), a.2) else none
  | _ => none := rfl
@[simp] theorem ap_sZip2 : sZip2 ss ρ = (ss ρ).bind fun a => (fzAll a.1 a.2).bind fun b => match b.1 with
  | [.list l, .list m] => some (zip2D l m, b.2)
  | [.tuple l, .tuple m] => some (zip2D l m, b.2)
  | _ => none := rfl
@[simp] theorem ap_sZip3 : sZip3 ss ρ = (ss ρ).bind fun a => (fzAll a.1 a.2).bind fun b => match b.1 with
  | [.tuple l, .tuple m, .tuple n] => some (zip3D l m n, b.2)
  | _ => none := rfl
@[simp] theorem ap_sAsg {b : BS} : sAsg se b ρ = (se ρ).bind fun a => (fz a.1 a.2).bind fun d => (b d.1 d.2).bind fun ρ3 => some (.nx, ρ3) := rfl
@[simp] theorem ap_bNm : bNm i d ρ = putR i (.imm d) ρ := rfl
@[simp] theorem ap_bNo : bNo [] ρ = some ρ := rfl
@[simp] theorem ap_bCo {b : BS} {c : BL} {ds} : bCo b c (d :: ds) ρ = (b d ρ).bind fun ρ1 => c ds ρ1 := rfl
@[simp] theorem ap_bTp {n : Nat} {c : BL} {l} : bTp n c (.tuple l) ρ = if l.length = n then c l ρ else none := rfl
@[simp] theorem ap_sFor {it : IS} {b : BS} : sFor it b s ρ = (it ρ).bind fun a => loopS b s a.1 a.2 := rfl
@[simp] theorem ap_sYes : sYes ρ = some (true, ρ) := rfl
@[simp] theorem ap_sIsI {b t i sb : Bool} : sIsI b t i sb se ρ = (se ρ).bind fun a => (look a.2 a.1).bind fun d => (isK b t i sb d).bind fun k => some (.imm (.bool k), a.2) := rfl
@[simp] theorem ap_sCalF {g : FnS} : sCalF g ss ρ = (ss ρ).bind fun a => if (pks a.1).Nodup then (argsOf a.2 a.1).bind fun as => (g as).bind fun r => if notPk r.1 = true ∧ finOk as r.2 = true then some (r.1, backS a.1 r.2 a.2) else none else none := rfl
@[simp] theorem ap_sApp : sApp i se ρ = (ownL ρ[i]?).bind fun _ => (se ρ).bind fun a => (fz a.1 a.2).bind fun d => (ownL d.2[i]?).bind fun o => if o.2.length < 1000000 then some (.nx, d.2.set i (.own o.1 (.lst (o.2 ++ [d.1])))) else none := rfl
@[simp] theorem ap_sExt : sExt i se ρ = (ownL ρ[i]?).bind fun _ => (se ρ).bind fun a => match a.1 with
  | .tmp (.lst m) => (ownL a.2[i]?).bind fun o => if o.2.length + m.length ≤ 1000000 then some (.nx, a.2.set i (.own o.1 (.lst (o.2 ++ m)))) else none
  | _ => none := rfl
@[simp] theorem ap_sPut {si : ES} : sPut i si se ρ = (se ρ).bind fun a => (fz a.1 a.2).bind fun d => (ownL d.2[i]?).bind fun _ => (si d.2).bind fun k => match look k.2 k.1 with
  | some (.int n) => (ownL k.2[i]?).bind fun o => (ixN o.2.length n).bind fun m => some (.nx, k.2.set i (.own o.1 (.lst (o.2.set m d.1))))
  | _ => none := rfl
@[simp] theorem ap_sStar : sStar se ss ρ = (se ρ).bind fun a => (fz a.1 a.2).bind fun d => match d.1 with
  | .list l => (ss d.2).bind fun b => some (l.map R.imm ++ b.1, b.2)
  | .tuple l => (ss d.2).bind fun b => some (l.map R.imm ++ b.1, b.2)
  | _ => none := rfl
@[simp] theorem canW_emp : canW (some .emp) = true := rfl
@[simp] theorem canW_val {d : PyData} : canW (some (.val d)) = true := rfl
@[simp] theorem canW_own {o : Ob} : canW (some (.own false o)) = true := rfl
@[simp] theorem isOwn_emp : isOwn (some .emp) = false := rfl
@[simp] theorem isOwn_val {d : PyData} : isOwn (some (.val d)) = false := rfl
@[simp] theorem isOwn_frz {d : PyData} : isOwn (some (.frz d)) = false := rfl
@[simp] theorem isOwn_own {b : Bool} {o : Ob} : isOwn (some (.own b o)) = true := rfl
/-- a slot that holds a value or nothing -/
def evV (s : Slot) : Prop := isOwn (some s) = false ∧ canW (some s) = true
theorem evV_emp : evV .emp := ⟨rfl, rfl⟩
theorem evV_val {d : PyData} : evV (.val d) := ⟨rfl, rfl⟩
/-- a slot that may be written: never held by the caller -/
def emV (s : Slot) : Prop := canW (some s) = true
theorem emV.w {s : Slot} (h : emV s) : canW (some s) = true := h
theorem emV_emp : emV .emp := rfl
theorem emV_val {d : PyData} : emV (.val d) := rfl
theorem emV_own {o : Ob} : emV (.own false o) := rfl
@[simp] theorem atI_0 {α : Type} {a : α} {l : List α} : atI (a :: l) 0 = some a := by
  unfold atI ixN
  rw [if_pos (by decide), if_pos (by rw [List.length_cons]; omega)]; rfl
@[simp] theorem atI_1 {α : Type} {a b : α} {l : List α} : atI (a :: b :: l) 1 = some b := by
  unfold atI ixN
  rw [if_pos (by decide), if_pos (by simp; omega)]; rfl
@[simp] theorem atI_2 {α : Type} {a b c : α} {l : List α} : atI (a :: b :: c :: l) 2 = some c := by
  unfold atI ixN
  rw [if_pos (by decide), if_pos (by simp; omega)]; rfl
@[simp] theorem atI_3 {α : Type} {a b c d : α} {l : List α} : atI (a :: b :: c :: d :: l) 3 = some d := by
  unfold atI ixN
  rw [if_pos (by decide), if_pos (by simp; omega)]; rfl
@[simp] theorem atI_4 {α : Type} {a b c d e : α} {l : List α} : atI (a :: b :: c :: d :: e :: l) 4 = some e := by
  unfold atI ixN
  rw [if_pos (by decide), if_pos (by simp; omega)]; rfl
@[simp] theorem atI_last {α : Type} {l : List α} : atI l (-1) = l.getLast? := by
  unfold atI ixN
  rw [if_neg (by decide)]
  cases l with
  | nil => rfl
  | cons a l =>
    rw [if_pos (by simp; omega), List.getLast?_eq_getElem?]
    show (a :: l)[((-1 : Int) + ((a :: l).length : Int)).toNat]? = _
    congr 1
    simp
    omega
theorem atI_nat {α : Type} {l : List α} {k : Nat} (h : k < l.length) : atI l (k : Int) = some l[k] := by
  unfold atI ixN
  rw [if_pos (by omega), if_pos (by omega)]
  show l[((k : Int)).toNat]? = _
  rw [Int.toNat_natCast, List.getElem?_eq_getElem h]
theorem atI_of {α : Type} {l : List α} {i : Int} {a : α} (h : 0 ≤ i) (e : l[i.toNat]? = some a) : atI l i = some a := by
  obtain ⟨h2, e2⟩ := List.getElem?_eq_some_iff.mp e
  have := atI_nat (l := l) h2
  rw [Int.toNat_of_nonneg h] at this
  rw [this, e2]
@[simp] theorem ixN_0 {n : Nat} : ixN (n + 1) 0 = some 0 := by
  unfold ixN
  rw [if_pos (by decide), if_pos (by omega)]; rfl
@[simp] theorem ixN_1 {n : Nat} : ixN (n + 2) 1 = some 1 := by
  unfold ixN
  rw [if_pos (by decide), if_pos (by omega)]; rfl
@[simp] theorem ixN_2 {n : Nat} : ixN (n + 3) 2 = some 2 := by
  unfold ixN
  rw [if_pos (by decide), if_pos (by omega)]; rfl
@[simp] theorem gIx_list {l : List PyData} {i : Int} : gIx (.list l) (.int i) = (atI l i).bind fun d => some (.at d) := rfl
@[simp] theorem gIx_tuple {l : List PyData} {i : Int} : gIx (.tuple l) (.int i) = (atI l i).bind fun d => some (.at d) := rfl
@[simp] theorem gAdd_int {i j : Int} : gAdd (.int i) (.int j) = some (.at (.int (i + j))) := rfl
@[simp] theorem gAdd_list {l m : List PyData} : gAdd (.list l) (.list m) = if l.length + m.length ≤ 1000000 then some (.nl (l ++ m)) else none := rfl
@[simp] theorem gAdd_tuple {l m : List PyData} : gAdd (.tuple l) (.tuple m) = if l.length + m.length ≤ 1000000 then some (.tt (l ++ m)) else none := rfl
@[simp] theorem gSl_list {l : List PyData} {lo hi} : gSl (.list l) lo hi = some (.nl (cutD l lo hi)) := rfl
@[simp] theorem gSl_tuple {l : List PyData} {lo hi} : gSl (.tuple l) lo hi = some (.tt (cutD l lo hi)) := rfl
theorem log2_lt {x : Int} {n : Nat} (hn : n ≠ 0) (h : x.natAbs < 2 ^ n) : x.natAbs.log2 < n := by
  by_cases h0 : x.natAbs = 0
  · rw [h0, Nat.log2_zero]; omega
  · exact (Nat.log2_lt h0).mpr h
theorem gMul_n (n : Nat) {i j : Int} (hn : n ≠ 0) (hn2 : n ≤ 1000) (h1 : i.natAbs < 2 ^ n) (h2 : j.natAbs < 2 ^ n) : gMul (.int i) (.int j) = some (.at (.int (i * j))) := by
  show (if mulOk i j then some (RR.at (.int (i * j))) else none) = _
  have a := log2_lt hn h1
  have b := log2_lt hn h2
  rw [if_pos (by unfold mulOk; omega)]
/-- products of moderate numbers -/
theorem gMul_ok {i j : Int} (h1 : i.natAbs < 1000000000000000000000000000000) (h2 : j.natAbs < 1000000000000000000000000000000) : gMul (.int i) (.int j) = some (.at (.int (i * j))) :=
  gMul_n 100 (by decide) (by decide) (Nat.lt_of_lt_of_le h1 (by decide)) (Nat.lt_of_lt_of_le h2 (by decide))
theorem gDiv_ok {i j : Int} (h1 : 0 < j) (h2 : j < 1000000000000000000000000000000) : gDiv (.int i) (.int j) = some (.at (.int (i / j))) := by
  show (if divOk j then some (RR.at (.int (i / j))) else none) = _
  have a : j.natAbs.log2 < 100 := log2_lt (by decide) (Nat.lt_of_lt_of_le (show j.natAbs < 1000000000000000000000000000000 by omega) (by decide))
  rw [if_pos (by unfold divOk; omega)]
theorem gMod_ok {i j : Int} (h1 : 0 < j) : gMod (.int i) (.int j) = some (.at (.int (i % j))) := by
  show (if 0 < j then some (RR.at (.int (i % j))) else none) = _
  rw [if_pos h1]
theorem gPow_ok (n : Nat) {i j : Int} (hn : n ≠ 0) (h : i.natAbs < 2 ^ n) (hj : 0 ≤ j) (hj2 : j ≤ 1000) (hn2 : n ≤ 1000) : gPow (.int i) (.int j) = some (.at (.int (i ^ j.toNat))) := by
  show (if powOk i j then some (RR.at (.int (i ^ j.toNat))) else none) = _
  rw [if_pos]
  refine ⟨hj, ?_⟩
  have b : Builtin.Int.intBits i ≤ n := by
    unfold Builtin.Int.intBits
    split
    · omega
    · have := log2_lt hn h
      omega
  have : (Builtin.Int.intBits i : Int) * j ≤ 1000 * 1000 := Int.mul_le_mul (by omega) hj2 hj (by omega)
  omega
@[simp] theorem ite_andS {α : Type} {p : Prop} [Decidable p] {c : Bool} {x : α} : (if p then some (c, x) else some (false, x)) = some (decide p && c, x) := by
  by_cases h : p <;> simp [h]
@[simp] theorem ite_orS {α : Type} {p : Prop} [Decidable p] {c : Bool} {x : α} : (if p then some (true, x) else some (c, x)) = some (decide p || c, x) := by
  by_cases h : p <;> simp [h]
/-! ### ranges -/
def rgI (lo hi : Int) : List Int := (List.range (hi - lo).toNat).map fun k : Nat => lo + k
theorem rgD_eq (lo hi : Int) : rgD lo hi = (rgI lo hi).map .int := by
  unfold rgD rgI
  rw [List.map_map]; rfl
theorem mem_rgI {lo hi x : Int} : x ∈ rgI lo hi ↔ lo ≤ x ∧ x < hi := by
  unfold rgI
  rw [List.mem_map]
  constructor
  · rintro ⟨k, h, rfl⟩
    rw [List.mem_range] at h
    omega
  · rintro ⟨h1, h2⟩
    exact ⟨(x - lo).toNat, List.mem_range.mpr (by omega), by omega⟩
theorem rgI_len {lo hi : Int} : (rgI lo hi).length = (hi - lo).toNat := by unfold rgI; rw [List.length_map, List.length_range]
theorem rgI_nil {lo hi : Int} (h : hi ≤ lo) : rgI lo hi = [] := by
  unfold rgI
  rw [show (hi - lo).toNat = 0 by omega]; rfl
theorem rgI_cons {lo hi : Int} (h : lo < hi) : rgI lo hi = lo :: rgI (lo + 1) hi := by
  unfold rgI
  rw [show (hi - lo).toNat = (hi - (lo + 1)).toNat + 1 by omega, List.range_succ_eq_map, List.map_cons, List.map_map]
  refine congr (congrArg _ (by simp)) (List.map_congr_left fun k _ => ?_)
  show lo + ((k + 1 : Nat) : Int) = lo + 1 + (k : Int)
  omega
theorem rgI_app {lo mid hi : Int} (h1 : lo ≤ mid) (h2 : mid ≤ hi) : rgI lo hi = rgI lo mid ++ rgI mid hi := by
  obtain ⟨n, hn⟩ : ∃ n : Nat, mid = lo + n := ⟨(mid - lo).toNat, by omega⟩
  induction n generalizing lo with
  | zero =>
    have : mid = lo := by omega
    subst this
    rw [rgI_nil (Int.le_refl mid), List.nil_append]
  | succ n ih =>
    rw [rgI_cons (lo := lo) (hi := hi) (by omega), rgI_cons (lo := lo) (hi := mid) (by omega), List.cons_append, ih (lo := lo + 1) (by omega) (by omega)]
theorem rgI_all {lo hi : Int} {p : Int → Bool} : (rgI lo hi).all p = true ↔ ∀ x, lo ≤ x → x < hi → p x = true := by
  rw [List.all_eq_true]
  exact ⟨fun h x a b => h x (mem_rgI.mpr ⟨a, b⟩), fun h x m => let ⟨a, b⟩ := mem_rgI.mp m; h x a b⟩
theorem rgI_any {lo hi : Int} {p : Int → Bool} : (rgI lo hi).any p = true ↔ ∃ x, lo ≤ x ∧ x < hi ∧ p x = true := by
  rw [List.any_eq_true]
  exact ⟨fun ⟨x, m, h⟩ => let ⟨a, b⟩ := mem_rgI.mp m; ⟨x, a, b, h⟩, fun ⟨x, a, b, h⟩ => ⟨x, mem_rgI.mpr ⟨a, b⟩, h⟩⟩
/-! ### lists of booleans, of ints -/
theorem boolsD_of {α : Type} (f : α → Bool) : ∀ l : List α, boolsD (l.map fun x => .bool (f x)) = some (l.map f)
  | [] => rfl
  | x :: l => by
    show (boolsD (l.map fun x => .bool (f x))).bind _ = _
    rw [boolsD_of f l]; rfl
theorem intsD_of {α : Type} (f : α → Int) : ∀ l : List α, intsD (l.map fun x => .int (f x)) = some (l.map f)
  | [] => rfl
  | x :: l => by
    show (intsD (l.map fun x => .int (f x))).bind _ = _
    rw [intsD_of f l]; rfl
@[simp] theorem intsD_int (l : List Int) : intsD (l.map .int) = some l := by
  rw [show l.map PyData.int = l.map (fun x => .int (id x)) from rfl, intsD_of, List.map_id]
@[simp] theorem gAll_of {α : Type} (f : α → Bool) (l : List α) : gAll [.list (l.map fun x => .bool (f x))] = some (.at (.bool (l.all f))) := by
  show (boolsD _).bind _ = _
  rw [boolsD_of]
  show some (RR.at (.bool ((l.map f).all id))) = _
  rw [List.all_map]; rfl
@[simp] theorem gAny_of {α : Type} (f : α → Bool) (l : List α) : gAny [.list (l.map fun x => .bool (f x))] = some (.at (.bool (l.any f))) := by
  show (boolsD _).bind _ = _
  rw [boolsD_of]
  show some (RR.at (.bool ((l.map f).any id))) = _
  rw [List.any_map]; rfl
/-! ### loops -/
/-- a loop over data given by f: each turn keeps what Inv says -/
theorem loop_inv {α : Type} {f : α → PyData} {b : BS} {body : SS} (Inv : List α → Sl → Prop) (done : List α) : ∀ (xs : List α) (rest : List PyData) (ρ : Sl), Inv done ρ →
    (∀ (pre : List α) (x : α) (post : List α) ρ, xs = pre ++ x :: post → Inv (done ++ pre) ρ → ∃ ρ1 ρ2 fl, b (f x) ρ = some ρ1 ∧ body ρ1 = some (fl, ρ2) ∧ (fl = .nx ∨ fl = .ct) ∧ Inv (done ++ pre ++ [x]) ρ2) →
    ∃ ρ', Inv (done ++ xs) ρ' ∧ loopS b body (xs.map f ++ rest) ρ = loopS b body rest ρ'
  | [], rest, ρ, h0, hs => ⟨ρ, by rw [List.append_nil]; exact h0, rfl⟩
  | x :: xs, rest, ρ, h0, hs => by
    obtain ⟨ρ1, ρ2, fl, h1, h2, h3, h4⟩ := hs [] x xs ρ rfl (by rw [List.append_nil]; exact h0)
    rw [List.append_nil] at h4
    obtain ⟨ρ', g1, g2⟩ := loop_inv Inv (done ++ [x]) xs rest ρ2 h4 fun pre y post ρ3 e i => by
      subst e
      have := hs (x :: pre) y post ρ3 rfl (by rw [List.append_assoc] at i; exact i)
      simpa only [List.append_assoc, List.cons_append, List.nil_append] using this
    refine ⟨ρ', by rw [List.append_assoc] at g1; exact g1, ?_⟩
    rw [List.map_cons, List.cons_append, ← g2]
    show ((b (f x) ρ).bind fun ρ1 => (body ρ1).bind _) = _
    rw [h1]
    show ((body ρ1).bind _) = _
    rw [h2]
    rcases h3 with rfl | rfl <;> rfl
/-- a loop whose turns all keep Inv -/
theorem loop_all {α : Type} {f : α → PyData} {b : BS} {body : SS} (Inv : List α → Sl → Prop) {xs : List α} {ρ : Sl} (h0 : Inv [] ρ)
    (hs : ∀ (pre : List α) (x : α) (post : List α) ρ, xs = pre ++ x :: post → Inv pre ρ → ∃ ρ1 ρ2 fl, b (f x) ρ = some ρ1 ∧ body ρ1 = some (fl, ρ2) ∧ (fl = .nx ∨ fl = .ct) ∧ Inv (pre ++ [x]) ρ2) :
    ∃ ρ', Inv xs ρ' ∧ loopS b body (xs.map f) ρ = some (.nx, ρ') := by
  obtain ⟨ρ', h1, h2⟩ := loop_inv (f := f) (b := b) (body := body) Inv [] xs [] ρ h0 fun pre x post ρ e i => by
    simpa only [List.nil_append] using hs pre x post ρ e (by simpa only [List.nil_append] using i)
  rw [List.append_nil] at h2
  exact ⟨ρ', by simpa only [List.nil_append] using h1, h2⟩
/-- a comprehension without effect -/
theorem comp_pure {α : Type} {f : α → PyData} {vs : List Nat} {b : BS} {tt : CS} {te : ES} {ρ : Sl} (p : α → Bool) (g : α → PyData) : ∀ (xs : List α),
    (∀ x ∈ xs, ∃ ρ1 r, b (f x) ρ = some ρ1 ∧ tt ρ1 = some (p x, ρ1) ∧ wipeS ρ1 vs = ρ ∧ (p x = true → te ρ1 = some (r, ρ1) ∧ fz r ρ1 = some (g x, ρ1))) →
    compL vs b tt te (xs.map f) ρ = some ((xs.filter p).map g, ρ)
  | [], _ => rfl
  | x :: xs, h => by
    obtain ⟨ρ1, r, h1, h2, h3, h4⟩ := h x List.mem_cons_self
    have ih := comp_pure (f := f) (vs := vs) (b := b) (tt := tt) (te := te) (ρ := ρ) p g xs fun y m => h y (List.mem_cons_of_mem _ m)
    show ((b (f x) ρ).bind _) = _
    rw [h1]
    show ((tt ρ1).bind _) = _
    rw [h2]
    cases e : p x with
    | true =>
      obtain ⟨g1, g2⟩ := h4 e
      show ((te ρ1).bind _) = _
      rw [g1]
      show ((fz r ρ1).bind _) = _
      rw [g2]
      show ((compL vs b tt te (xs.map f) (wipeS ρ1 vs)).bind _) = _
      rw [h3, ih, List.filter_cons, if_pos e]; rfl
    | false =>
      show (compL vs b tt te (xs.map f) (wipeS ρ1 vs)) = _
      rw [h3, ih, List.filter_cons, if_neg (by rw [e]; decide)]
/-- the whole comprehension: it reads f of xs, its names stand free -/
theorem sComp_pure {α : Type} {f : α → PyData} {vs : List Nat} {it : IS} {b : BS} {tt : CS} {te : ES} {ρ ρ0 : Sl} (p : α → Bool) (g : α → PyData) (xs : List α) (hi : it ρ = some (xs.map f, ρ0)) (hl : xs.length ≤ 1000000) (ho : (vs.all fun i => !isOwn ρ0[i]?) = true)
    (h : ∀ x ∈ xs, ∃ ρ1 r, b (f x) (wipeS ρ0 vs) = some ρ1 ∧ tt ρ1 = some (p x, ρ1) ∧ wipeS ρ1 vs = wipeS ρ0 vs ∧ (p x = true → te ρ1 = some (r, ρ1) ∧ fz r ρ1 = some (g x, ρ1))) :
    sComp vs it b tt te ρ = some (.tmp (.lst ((xs.filter p).map g)), restore ρ0 vs (wipeS ρ0 vs)) := by
  unfold sComp
  rw [hi]
  show (if (xs.map f).length ≤ 1000000 ∧ (vs.all fun i => !isOwn ρ0[i]?) = true then _ else none) = _
  rw [if_pos ⟨by rw [List.length_map]; exact hl, ho⟩]
  rw [comp_pure p g xs h]; rfl
/-- a comprehension that draws: what Inv says of the items done, of what is told, of the slots -/
theorem comp_state {α : Type} {f : α → PyData} {vs : List Nat} {b : BS} {te : ES} (Inv : List α → List PyData → Sl → Prop) (done : List α) : ∀ (xs : List α) (out : List PyData) (ρ : Sl), Inv done out ρ →
    (∀ (pre : List α) (x : α) (post : List α) out ρ, xs = pre ++ x :: post → Inv (done ++ pre) out ρ → ∃ ρ1 r ρ2 y ρ3, b (f x) ρ = some ρ1 ∧ te ρ1 = some (r, ρ2) ∧ fz r ρ2 = some (y, ρ3) ∧ Inv (done ++ pre ++ [x]) (out ++ [y]) (wipeS ρ3 vs)) →
    ∃ new ρ', Inv (done ++ xs) (out ++ new) ρ' ∧ compL vs b sYes te (xs.map f) ρ = some (new, ρ')
  | [], out, ρ, h0, hs => ⟨[], ρ, by rw [List.append_nil, List.append_nil]; exact h0, rfl⟩
  | x :: xs, out, ρ, h0, hs => by
    obtain ⟨ρ1, r, ρ2, y, ρ3, h1, h2, h3, h4⟩ := hs [] x xs out ρ rfl (by rw [List.append_nil]; exact h0)
    rw [List.append_nil] at h4
    obtain ⟨new, ρ', g1, g2⟩ := comp_state (f := f) (vs := vs) (b := b) (te := te) Inv (done ++ [x]) xs (out ++ [y]) (wipeS ρ3 vs) h4 fun pre z post o2 ρ4 e i => by
      subst e
      have := hs (x :: pre) z post o2 ρ4 rfl (by rw [List.append_assoc] at i; exact i)
      simpa only [List.append_assoc, List.cons_append, List.nil_append] using this
    refine ⟨y :: new, ρ', by simpa only [List.append_assoc, List.cons_append, List.nil_append] using g1, ?_⟩
    show ((b (f x) ρ).bind _) = _
    rw [h1]
    show ((te ρ1).bind _) = _
    rw [h2]
    show ((fz r ρ2).bind _) = _
    rw [h3]
    show ((compL vs b sYes te (xs.map f) (wipeS ρ3 vs)).bind _) = _
    rw [g2]; rfl
theorem sComp_state {α : Type} {f : α → PyData} {vs : List Nat} {it : IS} {b : BS} {te : ES} {ρ ρ0 : Sl} (Inv : List α → List PyData → Sl → Prop) (xs : List α) (hi : it ρ = some (xs.map f, ρ0)) (hl : xs.length ≤ 1000000) (ho : (vs.all fun i => !isOwn ρ0[i]?) = true) (h0 : Inv [] [] (wipeS ρ0 vs))
    (hs : ∀ (pre : List α) (x : α) (post : List α) out ρ, xs = pre ++ x :: post → Inv pre out ρ → ∃ ρ1 r ρ2 y ρ3, b (f x) ρ = some ρ1 ∧ te ρ1 = some (r, ρ2) ∧ fz r ρ2 = some (y, ρ3) ∧ Inv (pre ++ [x]) (out ++ [y]) (wipeS ρ3 vs)) :
    ∃ out ρ', Inv xs out ρ' ∧ sComp vs it b sYes te ρ = some (.tmp (.lst out), restore ρ0 vs ρ') := by
  obtain ⟨new, ρ', h1, h2⟩ := comp_state (f := f) (vs := vs) (b := b) (te := te) Inv [] xs [] _ h0 fun pre x post out ρ e i => by
    simpa only [List.nil_append] using hs pre x post out ρ e (by simpa only [List.nil_append] using i)
  refine ⟨new, ρ', by simpa only [List.nil_append] using h1, ?_⟩
  unfold sComp
  rw [hi]
  show (if (xs.map f).length ≤ 1000000 ∧ (vs.all fun i => !isOwn ρ0[i]?) = true then _ else none) = _
  rw [if_pos ⟨by rw [List.length_map]; exact hl, ho⟩, h2]; rfl
theorem filter_true {α : Type} (l : List α) : l.filter (fun _ => true) = l := List.filter_eq_self.mpr fun _ _ => rfl
/-- .. whose items are values -/
theorem sComp_val {α : Type} {f : α → PyData} {vs : List Nat} {it : IS} {b : BS} {tt : CS} {te : ES} {ρ ρ0 : Sl} (p : α → Bool) (g : α → PyData) (xs : List α) (hi : it ρ = some (xs.map f, ρ0)) (hl : xs.length ≤ 1000000) (ho : (vs.all fun i => !isOwn ρ0[i]?) = true)
    (h : ∀ x ∈ xs, ∃ ρ1, b (f x) (wipeS ρ0 vs) = some ρ1 ∧ tt ρ1 = some (p x, ρ1) ∧ wipeS ρ1 vs = wipeS ρ0 vs ∧ (p x = true → te ρ1 = some (.imm (g x), ρ1))) :
    sComp vs it b tt te ρ = some (.tmp (.lst ((xs.filter p).map g)), restore ρ0 vs (wipeS ρ0 vs)) :=
  sComp_pure p g xs hi hl ho fun x m => let ⟨ρ1, h1, h2, h3, h4⟩ := h x m; ⟨ρ1, _, h1, h2, h3, fun e => ⟨h4 e, rfl⟩⟩
/-- .. without a test -/
theorem sComp_map {α : Type} {f : α → PyData} {vs : List Nat} {it : IS} {b : BS} {te : ES} {ρ ρ0 : Sl} (g : α → PyData) (xs : List α) (hi : it ρ = some (xs.map f, ρ0)) (hl : xs.length ≤ 1000000) (ho : (vs.all fun i => !isOwn ρ0[i]?) = true)
    (h : ∀ x ∈ xs, ∃ ρ1, b (f x) (wipeS ρ0 vs) = some ρ1 ∧ wipeS ρ1 vs = wipeS ρ0 vs ∧ te ρ1 = some (.imm (g x), ρ1)) :
    sComp vs it b sYes te ρ = some (.tmp (.lst (xs.map g)), restore ρ0 vs (wipeS ρ0 vs)) := by
  rw [sComp_val (tt := sYes) (fun _ => true) g xs hi hl ho fun x m => let ⟨ρ1, h1, h3, h4⟩ := h x m; ⟨ρ1, h1, rfl, h3, fun _ => h4⟩, filter_true]
end
end Sd


set_option Elab.async false
set_option linter.all false
set_option maxRecDepth 100000
/-! SdF: small data, equality, repr. -/
namespace Sd
open PySem PySem.Spec PyProof.Rows L2
def Sz (m k : Nat) (d : PyData) : Prop := mass d ≤ m ∧ d.depth ≤ k
theorem Sz.sm {m k : Nat} {d : PyData} (h : Sz m k d) (hm : m ≤ 1000000 := by decide) (hk : k ≤ 20 := by decide) : Sm d := ⟨Nat.le_trans h.1 hm, Nat.le_trans h.2 hk⟩
theorem Sz.up {m k m' k' : Nat} {d : PyData} (h : Sz m k d) (hm : m ≤ m' := by decide) (hk : k ≤ k' := by decide) : Sz m' k' d := ⟨Nat.le_trans h.1 hm, Nat.le_trans h.2 hk⟩
theorem sz_none : Sz 10 0 .none := ⟨Nat.le_refl _, Nat.le_refl _⟩
theorem sz_bool {b : Bool} : Sz 10 0 (.bool b) := ⟨Nat.le_refl _, Nat.le_refl _⟩
theorem sz_int {i : Int} (h : i.natAbs < 1000000000000000000000000000000) : Sz 50 0 (.int i) := by
  refine ⟨?_, Nat.le_refl _⟩
  unfold mass
  rw [if_pos (Nat.lt_trans h (by decide))]
  exact Nat.le_refl _
theorem sz_str {x : Str} (h : (x.cps.all (· < 0x110000) && decide (x.length ≤ 30)) = true) : Sz 400 0 (.str x) := by
  refine ⟨?_, Nat.le_refl _⟩
  unfold mass
  rw [Bool.and_eq_true, decide_eq_true_eq] at h
  rw [if_pos h]
  exact Nat.le_refl _
theorem sz_list {m k n : Nat} {l : List PyData} (h : ∀ d ∈ l, Sz m k d) (hn : l.length ≤ n) : Sz (n * (m + 4) + 10) (k + 1) (.list l) := by
  refine ⟨?_, ?_⟩
  · show massAll l + 10 ≤ _
    have := massAll_le fun d hd => (h d hd).1
    have := Nat.mul_le_mul_right (m + 4) hn
    omega
  · show PyData.depthAll l + 1 ≤ k + 1
    have := depthAll_le fun d hd => (h d hd).2
    omega
theorem sz_tup {m k n : Nat} {l : List PyData} (h : ∀ d ∈ l, Sz m k d) (hn : l.length ≤ n) : Sz (n * (m + 4) + 10) (k + 1) (.tuple l) := by
  refine ⟨?_, ?_⟩
  · show massAll l + 10 ≤ _
    have := massAll_le fun d hd => (h d hd).1
    have := Nat.mul_le_mul_right (m + 4) hn
    omega
  · show PyData.depthAll l + 1 ≤ k + 1
    have := depthAll_le fun d hd => (h d hd).2
    omega
theorem sz_tup2 {m k m' k' : Nat} {x y : PyData} (hx : Sz m k x) (hy : Sz m' k' y) : Sz (m + m' + 18) (max k k' + 1) (.tuple [x, y]) := by
  obtain ⟨a, b⟩ := hx
  obtain ⟨c, d⟩ := hy
  refine ⟨?_, ?_⟩
  · show mass x + 4 + (mass y + 4 + 0) + 10 ≤ _
    omega
  · show max x.depth (max y.depth 0) + 1 ≤ _
    omega
theorem sm_ints {xs : List Int} (hl : xs.length ≤ 2000) (h : ∀ x ∈ xs, x.natAbs < 1000000000000000000000000000000) : Sm (.list (xs.map .int)) := by
  refine (sz_list (m := 50) (k := 0) (n := 2000) (fun d hd => ?_) (by rw [List.length_map]; exact hl)).sm
  obtain ⟨x, m, rfl⟩ := List.mem_map.mp hd
  exact sz_int (h x m)
theorem sm_intsT {xs : List Int} (hl : xs.length ≤ 2000) (h : ∀ x ∈ xs, x.natAbs < 1000000000000000000000000000000) : Sm (.tuple (xs.map .int)) := by
  refine (sz_tup (m := 50) (k := 0) (n := 2000) (fun d hd => ?_) (by rw [List.length_map]; exact hl)).sm
  obtain ⟨x, m, rfl⟩ := List.mem_map.mp hd
  exact sz_int (h x m)
theorem sm_nil : Sm (.list []) := by decide
theorem sm_nilT : Sm (.tuple []) := by decide
mutual
theorem eqv_refl : ∀ d : PyData, mass d ≤ 1000000 → PyData.eqv d d = true
  | .none, _ => rfl
  | .bool b, _ => by simp [PyData.eqv]
  | .int i, _ => by simp [PyData.eqv]
  | .str x, _ => by simp [PyData.eqv]
  | .list l, h => eqvAll_refl l (by have : massAll l + 10 ≤ 1000000 := h; omega)
  | .tuple l, h => eqvAll_refl l (by have : massAll l + 10 ≤ 1000000 := h; omega)
  | .dict _, h => by have : 1000000000 ≤ 1000000 := h; omega
theorem eqvAll_refl : ∀ l : List PyData, massAll l ≤ 1000000 → PyData.eqvAll l l = true
  | [], _ => rfl
  | x :: l, h => by
    have h : mass x + 4 + massAll l ≤ 1000000 := h
    show (PyData.eqv x x && PyData.eqvAll l l) = true
    rw [eqv_refl x (by omega), eqvAll_refl l (by omega)]; rfl
end
theorem eqvAll_ints : ∀ xs ys : List Int, PyData.eqvAll (xs.map .int) (ys.map .int) = decide (xs = ys)
  | [], [] => by simp [PyData.eqvAll]
  | [], y :: ys => by simp [PyData.eqvAll]
  | x :: xs, [] => by simp [PyData.eqvAll]
  | x :: xs, y :: ys => by
    show (PyData.eqv (.int x) (.int y) && PyData.eqvAll (xs.map .int) (ys.map .int)) = _
    rw [eqvAll_ints xs ys]
    show ((x == y) && decide (xs = ys)) = _
    rw [Bool.eq_iff_iff]
    simp
@[simp] theorem gEq_int {i j : Int} : gEq (.int i) (.int j) = some (.at (.bool (decide (i = j)))) := rfl
@[simp] theorem gNe_int {i j : Int} : gNe (.int i) (.int j) = some (.at (.bool (!decide (i = j)))) := rfl
@[simp] theorem gEq_str {i j : Str} : gEq (.str i) (.str j) = some (.at (.bool (decide (i = j)))) := rfl
@[simp] theorem gNe_str {i j : Str} : gNe (.str i) (.str j) = some (.at (.bool (!decide (i = j)))) := rfl
theorem gEq_sm {d e : PyData} (h : Sm d) (h2 : Sm e) (e1 : ∀ a b : Str, d = .str a → e = .str b → False) (e2 : ∀ a b : Int, d = .int a → e = .int b → False) : gEq d e = some (.at (.bool (PyData.eqv d e))) := by
  unfold gEq
  split
  · exact (e1 _ _ rfl rfl).elim
  · exact (e2 _ _ rfl rfl).elim
  · rw [if_pos ⟨h, h2⟩]
theorem gNe_sm {d e : PyData} (h : Sm d) (h2 : Sm e) (e1 : ∀ a b : Str, d = .str a → e = .str b → False) (e2 : ∀ a b : Int, d = .int a → e = .int b → False) : gNe d e = some (.at (.bool (!PyData.eqv d e))) := by
  unfold gNe
  split
  · exact (e1 _ _ rfl rfl).elim
  · exact (e2 _ _ rfl rfl).elim
  · rw [if_pos ⟨h, h2⟩]
theorem gEq_lists {l m : List PyData} (h : Sm (.list l)) (h2 : Sm (.list m)) : gEq (.list l) (.list m) = some (.at (.bool (PyData.eqvAll l m))) := gEq_sm h h2 (fun _ _ z => nomatch z) (fun _ _ z => nomatch z)
theorem gNe_lists {l m : List PyData} (h : Sm (.list l)) (h2 : Sm (.list m)) : gNe (.list l) (.list m) = some (.at (.bool (!PyData.eqvAll l m))) := gNe_sm h h2 (fun _ _ z => nomatch z) (fun _ _ z => nomatch z)
theorem gEq_nil {l : List PyData} (h : Sm (.list l)) : gEq (.list l) (.list []) = some (.at (.bool (decide (l = [])))) := by
  rw [gEq_lists h sm_nil]
  cases l <;> rfl
theorem gNe_nil {l : List PyData} (h : Sm (.list l)) : gNe (.list l) (.list []) = some (.at (.bool (!decide (l = [])))) := by
  rw [gNe_lists h sm_nil]
  cases l <;> rfl
theorem gEq_ints {xs ys : List Int} (h : Sm (.list (xs.map .int))) (h2 : Sm (.list (ys.map .int))) : gEq (.list (xs.map .int)) (.list (ys.map .int)) = some (.at (.bool (decide (xs = ys)))) := by
  rw [gEq_lists h h2, eqvAll_ints]
theorem gNe_ints {xs ys : List Int} (h : Sm (.list (xs.map .int))) (h2 : Sm (.list (ys.map .int))) : gNe (.list (xs.map .int)) (.list (ys.map .int)) = some (.at (.bool (!decide (xs = ys)))) := by
  rw [gNe_lists h h2, eqvAll_ints]
theorem gRepr_sm {d : PyData} (h : Sm d) : gRepr [d] = some (.at (.str d.shown)) := by
  show (if Sm d then _ else _) = _
  rw [if_pos h]
theorem gIn_list {d : PyData} {l : List PyData} (h : Sm d) (h2 : Sm (.list l)) : gIn d (.list l) = some (.at (.bool (l.any fun z => PyData.eqv z d))) := by
  have e : Sm d ∧ _ := ⟨h, h2⟩
  cases d <;> exact if_pos e
theorem gIn_tup {d : PyData} {l : List PyData} (h : Sm d) (h2 : Sm (.tuple l)) : gIn d (.tuple l) = some (.at (.bool (l.any fun z => PyData.eqv z d))) := by
  have e : Sm d ∧ _ := ⟨h, h2⟩
  cases d <;> exact if_pos e
theorem gNotIn_list {d : PyData} {l : List PyData} (h : Sm d) (h2 : Sm (.list l)) : gNotIn d (.list l) = some (.at (.bool (!l.any fun z => PyData.eqv z d))) := by
  have e : Sm d ∧ _ := ⟨h, h2⟩
  cases d <;> exact if_pos e
theorem gNotIn_tup {d : PyData} {l : List PyData} (h : Sm d) (h2 : Sm (.tuple l)) : gNotIn d (.tuple l) = some (.at (.bool (!l.any fun z => PyData.eqv z d))) := by
  have e : Sm d ∧ _ := ⟨h, h2⟩
  cases d <;> exact if_pos e
/-- what is a member is found -/
theorem any_mem {d : PyData} {l : List PyData} (hm : d ∈ l) (h : Sm d) : (l.any fun z => PyData.eqv z d) = true := List.any_eq_true.mpr ⟨d, hm, eqv_refl d h.1⟩
@[simp] theorem gIs_bool {a b : Bool} : gIs (.bool a) (.bool b) = some (.at (.bool (decide (a = b)))) := rfl
@[simp] theorem gIsNot_bool {a b : Bool} : gIsNot (.bool a) (.bool b) = some (.at (.bool (!decide (a = b)))) := rfl
@[simp] theorem gIs_int_none {a : Int} : gIs (.int a) .none = some (.at (.bool false)) := rfl
@[simp] theorem gIsNot_int_none {a : Int} : gIsNot (.int a) .none = some (.at (.bool true)) := rfl
@[simp] theorem gIs_none_none : gIs .none .none = some (.at (.bool true)) := rfl
@[simp] theorem gIsNot_none_none : gIsNot .none .none = some (.at (.bool false)) := rfl
@[simp] theorem gMax_two {i j : Int} : gMax [.int i, .int j] = some (.at (.int (max i j))) := rfl
@[simp] theorem gMin_two {i j : Int} : gMin [.int i, .int j] = some (.at (.int (min i j))) := rfl
theorem gMax_ints {xs : List Int} (h : xs ≠ []) : gMax [.list (xs.map .int)] = some (.at (.int (maxL xs))) := by
  show (intsD (xs.map .int)).bind _ = _
  rw [intsD_int]
  show (if xs = [] then none else _) = _
  rw [if_neg h]
theorem gMin_ints {xs : List Int} (h : xs ≠ []) : gMin [.list (xs.map .int)] = some (.at (.int (minL xs))) := by
  show (intsD (xs.map .int)).bind _ = _
  rw [intsD_int]
  show (if xs = [] then none else _) = _
  rw [if_neg h]
@[simp] theorem gSum_ints {xs : List Int} : gSum [.list (xs.map .int)] = some (.at (.int xs.sum)) := by
  show (intsD (xs.map .int)).bind _ = _
  rw [intsD_int]; rfl
theorem foldl_max_le : ∀ (xs : List Int) (a c : Int), xs.foldl max a ≤ c ↔ a ≤ c ∧ ∀ x ∈ xs, x ≤ c
  | [], a, c => by simp
  | x :: xs, a, c => by
    rw [List.foldl_cons, foldl_max_le xs]
    simp only [List.mem_cons, forall_eq_or_imp, Int.max_le]
    constructor
    · rintro ⟨⟨h1, h2⟩, h3⟩; exact ⟨h1, h2, h3⟩
    · rintro ⟨h1, h2, h3⟩; exact ⟨⟨h1, h2⟩, h3⟩
theorem foldl_le_min : ∀ (xs : List Int) (a c : Int), c ≤ xs.foldl min a ↔ c ≤ a ∧ ∀ x ∈ xs, c ≤ x
  | [], a, c => by simp
  | x :: xs, a, c => by
    rw [List.foldl_cons, foldl_le_min xs]
    simp only [List.mem_cons, forall_eq_or_imp, Int.le_min]
    constructor
    · rintro ⟨⟨h1, h2⟩, h3⟩; exact ⟨h1, h2, h3⟩
    · rintro ⟨h1, h2, h3⟩; exact ⟨⟨h1, h2⟩, h3⟩
theorem maxL_le {xs : List Int} (h : xs ≠ []) {c : Int} : maxL xs ≤ c ↔ ∀ x ∈ xs, x ≤ c := by
  cases xs with
  | nil => exact (h rfl).elim
  | cons x xs =>
    show xs.foldl max x ≤ c ↔ _
    rw [foldl_max_le]
    simp
theorem le_minL {xs : List Int} (h : xs ≠ []) {c : Int} : c ≤ minL xs ↔ ∀ x ∈ xs, c ≤ x := by
  cases xs with
  | nil => exact (h rfl).elim
  | cons x xs =>
    show c ≤ xs.foldl min x ↔ _
    rw [foldl_le_min]
    simp
theorem fzAll_imms {ρ : Sl} : ∀ l : List PyData, fzAll (l.map R.imm) ρ = some (l, ρ)
  | [] => rfl
  | x :: l => by
    show (some (x, ρ)).bind _ = _
    show ((fzAll (l.map R.imm) ρ).bind _) = _
    rw [fzAll_imms l]; rfl
@[simp] theorem fzAll_immsF {α : Type} {ρ : Sl} (g : α → PyData) (l : List α) : fzAll (l.map (R.imm ∘ g)) ρ = some (l.map g, ρ) := by
  rw [← List.map_map, fzAll_imms]
@[simp] theorem fzAll_immsG {α : Type} {ρ : Sl} (g : α → PyData) (l : List α) : fzAll (l.map fun x => R.imm (g x)) ρ = some (l.map g, ρ) := fzAll_immsF g l
/-- zips of lists that are given by f -/
theorem zip2D_map {α β : Type} (f : α → PyData) (g : β → PyData) : ∀ (xs : List α) (ys : List β), zip2D (xs.map f) (ys.map g) = (xs.zip ys).map fun p => .tuple [f p.1, g p.2]
  | [], _ => by simp [zip2D]
  | x :: xs, [] => by simp [zip2D]
  | x :: xs, y :: ys => by
    show _ :: zip2D (xs.map f) (ys.map g) = _
    rw [zip2D_map f g xs ys]; rfl
theorem zip3D_map {α β γ : Type} (f : α → PyData) (g : β → PyData) (h : γ → PyData) : ∀ (xs : List α) (ys : List β) (zs : List γ), zip3D (xs.map f) (ys.map g) (zs.map h) = (xs.zip (ys.zip zs)).map fun p => .tuple [f p.1, g p.2.1, h p.2.2]
  | [], _, _ => by simp [zip3D]
  | x :: xs, [], _ => by simp [zip3D]
  | x :: xs, y :: ys, [] => by simp [zip3D]
  | x :: xs, y :: ys, z :: zs => by
    show _ :: zip3D (xs.map f) (ys.map g) (zs.map h) = _
    rw [zip3D_map f g h xs ys zs]; rfl
theorem cutD_from1 {l : List PyData} : cutD l (some 1) none = l.drop 1 := by
  unfold cutD
  rw [HT.sIx_none]
  cases l with
  | nil => rfl
  | cons a l =>
    rw [show HT.sIx (a :: l).length 0 (some 1) = 1 from by
      have := HT.sIx_nat (a :: l).length 0 1
      rw [show ((1 : Nat) : Int) = 1 from rfl] at this
      rw [this, List.length_cons]
      omega]
    apply List.take_of_length_le
    rw [List.length_drop]
    exact Nat.le_refl _
theorem cutD_to {l : List PyData} {n : Nat} : cutD l none (some (n : Int)) = l.take n := by
  unfold cutD
  rw [HT.sIx_none, HT.sIx_nat, List.drop_zero, Nat.sub_zero, Nat.min_comm]
  by_cases h : n ≤ l.length
  · rw [Nat.min_eq_right h]
  · rw [Nat.min_eq_left (by omega), List.take_of_length_le (Nat.le_refl _), List.take_of_length_le (by omega)]
@[simp] theorem cutD_to1 {l : List PyData} : cutD l none (some 1) = l.take 1 := cutD_to (n := 1)
@[simp] theorem cutD_to60 {l : List PyData} : cutD l none (some 60) = l.take 60 := cutD_to (n := 60)
theorem gMul_list {l : List PyData} {k : Int} (h1 : 0 ≤ k) (h2 : k ≤ 1000) (h3 : l.length ≤ 1000) : gMul (.list l) (.int k) = some (.nl (List.replicate k.toNat l).flatten) := by
  have h4 : l.length * k.toNat ≤ 1000 * 1000 := Nat.mul_le_mul h3 (by omega)
  exact if_pos ⟨by omega, by omega, by omega⟩
end Sd


set_option Elab.async false
set_option linter.all false
set_option maxRecDepth 100000
set_option maxHeartbeats 0
namespace L41
open PySem PySem.Spec PyProof.Rows L2 Sd
/-- _law_places(script, most); slots 0 script, 1 most -/
def s__law_places : SS :=
  (sRet (sListRg1 (sBlt gMax (sCons (sK (.int 1)) (sCons (sBlt gMin (sCons (sVar 1) (sCons (sBlt gLen (sCons (sVar 0) sNil)) sNil))) sNil)))))
def g__law_places : FnS := fnS 2 2 s__law_places
/-- _law_pot(script, place); slots 0 script, 1 place, 2 cell, 3 own, 4 small -/
def s__law_pot : SS :=
  (sSeq (sSet 2 (sIf (sTru (sOp gLt (sVar 1) (sBlt gLen (sCons (sVar 0) sNil)))) (sOp gIx (sVar 0) (sVar 1)) (sOp gAdd (sOp gAdd (sOp gMod (sBlt gSum (sCons (sSl gSl (sVar 0) sNo (sPart (sK (.int 1)))) sNil)) (sK (.int 1000003))) (sOp gMul (sK (.int 6889)) (sVar 1))) (sK (.int 679)))))
  (sSeq (sSet 3 (sOp gMul (sOp gMod (sBlt gInt (sCons (sBlt gAbs (sCons (sVar 2) sNil)) sNil)) (sOp gPow (sOp gPow (sK (.int 10)) (sK (.int 60))) (sK (.int 5)))) (sBlt gInt (sCons (sOp gGe (sBlt gAbs (sCons (sVar 2) sNil)) (sOp gPow (sK (.int 10)) (sK (.int 18)))) sNil))))
  (sSeq (sSet 4 (sOp gMod (sBlt gInt (sCons (sVar 2) sNil)) (sK (.int 2305843009213693951))))
  (sRet (sLst (sCons (sVar 3) (sCons (sOp gMod (sBlt gInt (sCons (sOp gAdd (sOp gAdd (sOp gMul (sVar 4) (sK (.int 282745))) (sOp gMul (sOp gMul (sK (.int 10661)) (sVar 1)) (sVar 1))) (sK (.int 138))) sNil)) (sK (.int 2305843009213693921))) (sCons (sK (.int 0)) sNil))))))))
def g__law_pot : FnS := fnS 2 5 s__law_pot
/-- _law_take(pot, upto); slots 0 pot, 1 upto, 2 digit, 3 prime, 4 blend -/
def s__law_take : SS :=
  (sSeq (sIfS (sTru (sOp gGt (sOp gIx (sVar 0) (sK (.int 0))) (sK (.int 0)))) (sSeq (sSet 2 (sOp gMod (sBlt gInt (sCons (sOp gIx (sVar 0) (sK (.int 0))) sNil)) (sVar 1)))
  (sSeq (sPut 0 (sK (.int 0)) (sOp gDiv (sOp gIx (sVar 0) (sK (.int 0))) (sVar 1)))
  (sRet (sVar 2)))) sSkip)
  (sSeq (sPut 0 (sK (.int 2)) (sOp gAdd (sOp gIx (sVar 0) (sK (.int 2))) (sK (.int 1))))
  (sSeq (sSet 3 (sOp gIx (sLst (sCons (sK (.int 2147483647)) (sCons (sK (.int 2147483629)) (sCons (sK (.int 2147483587)) (sCons (sK (.int 2147483579)) (sCons (sK (.int 2147483563)) sNil)))))) (sOp gMod (sBlt gInt (sCons (sOp gIx (sVar 0) (sK (.int 2))) sNil)) (sK (.int 5)))))
  (sSeq (sSet 4 (sOp gMod (sBlt gInt (sCons (sOp gPow (sBlt gInt (sCons (sOp gAdd (sOp gAdd (sOp gIx (sVar 0) (sK (.int 1))) (sOp gMul (sOp gMul (sK (.int 85275)) (sOp gIx (sVar 0) (sK (.int 2)))) (sOp gIx (sVar 0) (sK (.int 2))))) (sK (.int 113))) sNil)) (sK (.int 3))) sNil)) (sVar 3)))
  (sSeq (sSet 4 (sOp gMod (sBlt gInt (sCons (sOp gMul (sVar 4) (sOp gAdd (sOp gMod (sBlt gInt (sCons (sVar 4) sNil)) (sK (.int 10383))) (sOp gMul (sK (.int 172)) (sOp gIx (sVar 0) (sK (.int 2)))))) sNil)) (sK (.int 2305843009213693907))))
  (sRet (sOp gMod (sBlt gInt (sCons (sOp gDiv (sVar 4) (sK (.int 263))) sNil)) (sVar 1))))))))
def g__law_take : FnS := fnS 2 5 s__law_take
/-- _law_of(pot, some); slots 0 pot, 1 some -/
def s__law_of : SS :=
  (sRet (sOp gIx (sVar 1) (sCalF g__law_take (sCons (sVar 0) (sCons (sBlt gLen (sCons (sVar 1) sNil)) sNil)))))
def g__law_of : FnS := fnS 2 2 s__law_of
/-- _law_drawn(pot); slots 0 pot, 1 strength, 2 least, 3 width, 4 first, 5 bounds, 6 apart -/
def s__law_drawn : SS :=
  (sSeq (sPar [1, 2] (sCons (sCalF g__law_of (sCons (sVar 0) (sCons (sLst (sCons (sK (.int 1)) (sCons (sK (.int 2)) (sCons (sUn gNeg (sK (.int 1))) (sCons (sK (.int 3)) (sCons (sK (.int 7)) (sCons (sK (.int 20)) (sCons (sUn gNeg (sK (.int 20))) (sCons (sK (.int 0)) sNil))))))))) sNil))) (sCons (sOp gSub (sCalF g__law_take (sCons (sVar 0) (sCons (sK (.int 60)) sNil))) (sK (.int 40))) sNil)))
  (sSeq (sSet 3 (sCalF g__law_take (sCons (sVar 0) (sCons (sBlt gMin (sCons (sOp gSub (sK (.int 51)) (sVar 2)) (sCons (sK (.int 90)) sNil))) sNil))))
  (sSeq (sSet 4 (sOp gSub (sCalF g__law_take (sCons (sVar 0) (sCons (sK (.int 60)) sNil))) (sK (.int 50))))
  (sSeq (sSet 5 (sTup (sCons (sVar 4) (sCons (sOp gAdd (sVar 4) (sCalF g__law_take (sCons (sVar 0) (sCons (sOp gSub (sK (.int 51)) (sVar 4)) sNil)))) sNil))))
  (sSeq (sSet 6 (sIf (sTru (sOp gEq (sVar 1) (sK (.int 0)))) (sK .none) (sOp gAdd (sOp gDiv (sVar 3) (sBlt gAbs (sCons (sVar 1) sNil))) (sK (.int 1)))))
  (sRet (sTup (sCons (sTup (sCons (sK (.int 1)) (sCons (sK (.int 1)) (sCons (sVar 1) (sCons (sTup (sCons (sUn gNeg (sK (.int 200))) (sCons (sK (.int 200)) sNil))) (sCons (sTup (sCons (sVar 2) (sCons (sOp gAdd (sVar 2) (sVar 3)) sNil))) sNil)))))) (sCons (sVar 5) (sCons (sVar 6) sNil))))))))))
def g__law_drawn : FnS := fnS 1 7 s__law_drawn
/-- is_tuple(value, least, most); slots 0 value, 1 least, 2 most -/
def s_is_tuple : SS :=
  (sRet (sBool (sAnd (sTru (sIsI false true false false (sVar 0))) (sCh gLe gLe (sVar 1) (sBlt gLen (sCons (sVar 0) sNil)) (sVar 2)))))
def g_is_tuple : FnS := fnS 3 3 s_is_tuple
/-- is_whole(value); slots 0 value -/
def s_is_whole : SS :=
  (sRet (sBool (sAnd (sTru (sIsI true false true false (sVar 0))) (sNot (sTru (sIsI true false false false (sVar 0)))))))
def g_is_whole : FnS := fnS 1 1 s_is_whole
/-- is_integer(value, low, high); slots 0 value, 1 low, 2 high -/
def s_is_integer : SS :=
  (sRet (sBool (sAnd (sTru (sCalF g_is_whole (sCons (sVar 0) sNil))) (sCh gLe gLe (sVar 1) (sVar 0) (sVar 2)))))
def g_is_integer : FnS := fnS 3 3 s_is_integer
/-- is_between(value, most); slots 0 value, 1 most -/
def s_is_between : SS :=
  (sSeq (sIfS (sOr (sNot (sTru (sCalF g_is_tuple (sCons (sVar 0) (sCons (sK (.int 2)) (sCons (sK (.int 2)) sNil)))))) (sNot (sTru (sCalF g_is_integer (sCons (sOp gIx (sVar 0) (sK (.int 0))) (sCons (sUn gNeg (sVar 1)) (sCons (sVar 1) sNil))))))) (sRet (sK (.bool false))) sSkip)
  (sRet (sCalF g_is_integer (sCons (sOp gIx (sVar 0) (sK (.int 1))) (sCons (sOp gIx (sVar 0) (sK (.int 0))) (sCons (sVar 1) sNil))))))
def g_is_between : FnS := fnS 2 2 s_is_between
/-- is_vat(value); slots 0 value -/
def s_is_vat : SS :=
  (sSeq (sIfS (sOr (sNot (sTru (sCalF g_is_tuple (sCons (sVar 0) (sCons (sK (.int 5)) (sCons (sK (.int 5)) sNil)))))) (sNot (sTru (sCalF g_is_integer (sCons (sOp gIx (sVar 0) (sK (.int 0))) (sCons (sK (.int 0)) (sCons (sK (.int 20)) sNil))))))) (sRet (sK (.bool false))) sSkip)
  (sSeq (sIfS (sOr (sNot (sTru (sCalF g_is_integer (sCons (sOp gIx (sVar 0) (sK (.int 1))) (sCons (sK (.int 1)) (sCons (sK (.int 20)) sNil)))))) (sNot (sTru (sCalF g_is_integer (sCons (sOp gIx (sVar 0) (sK (.int 2))) (sCons (sUn gNeg (sK (.int 20))) (sCons (sK (.int 20)) sNil))))))) (sRet (sK (.bool false))) sSkip)
  (sRet (sBool (sAnd (sTru (sCalF g_is_between (sCons (sOp gIx (sVar 0) (sK (.int 3))) (sCons (sK (.int 200)) sNil)))) (sTru (sCalF g_is_between (sCons (sOp gIx (sVar 0) (sOp gAdd (sK (.int 3)) (sK (.int 1)))) (sCons (sK (.int 50)) sNil)))))))))
def g_is_vat : FnS := fnS 1 1 s_is_vat
/-- check_vat(value); slots 0 value -/
def s_check_vat : SS :=
  (sIfS (sNot (sTru (sCalF g_is_vat (sCons (sVar 0) sNil)))) sStop sSkip)
def g_check_vat : FnS := fnS 1 1 s_check_vat
/-- check_bounds(vat, bounds); slots 0 vat, 1 bounds -/
def s_check_bounds : SS :=
  (sSeq (sDrop (sCalF g_check_vat (sCons (sVar 0) sNil)))
  (sIfS (sNot (sTru (sCalF g_is_between (sCons (sVar 1) (sCons (sK (.int 50)) sNil))))) sStop sSkip))
def g_check_bounds : FnS := fnS 2 2 s_check_bounds
/-- width_of(vat); slots 0 vat -/
def s_width_of : SS :=
  (sRet (sOp gSub (sOp gIx (sOp gIx (sVar 0) (sOp gAdd (sK (.int 3)) (sK (.int 1)))) (sK (.int 1))) (sOp gIx (sOp gIx (sVar 0) (sOp gAdd (sK (.int 3)) (sK (.int 1)))) (sK (.int 0)))))
def g_width_of : FnS := fnS 1 1 s_width_of
/-- parts(vat, at, other); slots 0 vat, 1 at, 2 other -/
def s_parts : SS :=
  (sRet (sOp gGt (sBlt gAbs (sCons (sOp gMul (sOp gIx (sVar 0) (sK (.int 2))) (sOp gSub (sVar 1) (sVar 2))) sNil)) (sCalF g_width_of (sCons (sVar 0) sNil))))
def g_parts : FnS := fnS 3 3 s_parts
/-- least_row(vat, bounds); slots 0 vat, 1 bounds, 2 every, 3 lone, 4 at, 5 one, 6 other -/
def c_least_row_0 : ES :=
  (sComp [4] (sRgV (sVar 2)) (bNm 4) (sAnd (sNot (sTru (sCalF g_parts (sCons (sVar 0) (sCons (sOp gIx (sVar 1) (sK (.int 0))) (sCons (sVar 4) sNil)))))) (sNot (sTru (sCalF g_parts (sCons (sVar 0) (sCons (sOp gIx (sVar 1) (sK (.int 1))) (sCons (sVar 4) sNil))))))) (sVar 4))
def c_least_row_1 : ES :=
  (sComp [4] (sRgV (sVar 2)) (bNm 4) sYes (sBool (sOr (sTru (sCalF g_parts (sCons (sVar 0) (sCons (sVar 5) (sCons (sVar 4) sNil))))) (sTru (sCalF g_parts (sCons (sVar 0) (sCons (sVar 6) (sCons (sVar 4) sNil))))))))
def b_least_row_0 : SS :=
  (sIfS (sTru (sBlt gAll (sCons c_least_row_1 sNil))) (sRet (sTup (sCons (sK (.str "row")) (sCons (sTup (sCons (sVar 5) (sCons (sVar 6) sNil))) sNil)))) sSkip)
def f_least_row_0 : SS :=
  (sFor (sRgV (sVar 2)) (bNm 6) b_least_row_0)
def b_least_row_1 : SS :=
  f_least_row_0
def f_least_row_1 : SS :=
  (sFor (sRgV (sVar 2)) (bNm 5) b_least_row_1)
def s_least_row : SS :=
  (sSeq (sDrop (sCalF g_check_bounds (sCons (sVar 0) (sCons (sVar 1) sNil))))
  (sSeq (sSet 2 (sRange (sCons (sOp gIx (sVar 1) (sK (.int 0))) (sCons (sOp gAdd (sOp gIx (sVar 1) (sK (.int 1))) (sK (.int 1))) sNil))))
  (sSeq (sSet 3 c_least_row_0)
  (sSeq (sIfS (sTru (sOp gNe (sVar 3) (sLst sNil))) (sRet (sTup (sCons (sK (.str "never")) (sCons (sOp gIx (sVar 3) (sK (.int 0))) sNil)))) sSkip)
  (sSeq f_least_row_1
  (sRet (sTup (sCons (sK (.str "row")) (sCons (sTup (sCons (sOp gIx (sVar 1) (sK (.int 0))) (sCons (sOp gIx (sVar 1) (sK (.int 1))) sNil))) sNil)))))))))
def g_least_row : FnS := fnS 2 7 s_least_row
/-- shows_row(vat, bounds, value); slots 0 vat, 1 bounds, 2 value, 3 every, 4 one, 5 at -/
def c_shows_row_0 : ES :=
  (sComp [4] (sRgV (sVar 3)) (bNm 4) sYes (sCalF g_parts (sCons (sVar 0) (sCons (sVar 4) (sCons (sOp gIx (sVar 2) (sK (.int 1))) sNil)))))
def c_shows_row_1 : ES :=
  (sComp [4] (sIt (sOp gIx (sVar 2) (sK (.int 1)))) (bNm 4) sYes (sCalF g_is_integer (sCons (sVar 4) (sCons (sOp gIx (sVar 1) (sK (.int 0))) (sCons (sOp gIx (sVar 1) (sK (.int 1))) sNil)))))
def c_shows_row_2 : ES :=
  (sComp [4] (sIt (sOp gIx (sVar 2) (sK (.int 1)))) (bNm 4) sYes (sCalF g_parts (sCons (sVar 0) (sCons (sVar 4) (sCons (sVar 5) sNil)))))
def c_shows_row_3 : ES :=
  (sComp [5] (sRgV (sVar 3)) (bNm 5) sYes (sBlt gAny (sCons c_shows_row_2 sNil)))
def s_shows_row : SS :=
  (sSeq (sDrop (sCalF g_check_bounds (sCons (sVar 0) (sCons (sVar 1) sNil))))
  (sSeq (sIfS (sOr (sNot (sTru (sCalF g_is_tuple (sCons (sVar 2) (sCons (sK (.int 2)) (sCons (sK (.int 2)) sNil)))))) (sNot (sTru (sIsI false false false true (sOp gIx (sVar 2) (sK (.int 0))))))) (sRet (sK (.bool false))) sSkip)
  (sSeq (sSet 3 (sRange (sCons (sOp gIx (sVar 1) (sK (.int 0))) (sCons (sOp gAdd (sOp gIx (sVar 1) (sK (.int 1))) (sK (.int 1))) sNil))))
  (sSeq (sIfS (sTru (sOp gEq (sOp gIx (sVar 2) (sK (.int 0))) (sK (.str "never")))) (sRet (sBool (sAnd (sTru (sCalF g_is_integer (sCons (sOp gIx (sVar 2) (sK (.int 1))) (sCons (sOp gIx (sVar 1) (sK (.int 0))) (sCons (sOp gIx (sVar 1) (sK (.int 1))) sNil))))) (sNot (sTru (sBlt gAny (sCons c_shows_row_0 sNil))))))) sSkip)
  (sSeq (sIfS (sOr (sTru (sOp gNe (sOp gIx (sVar 2) (sK (.int 0))) (sK (.str "row")))) (sNot (sTru (sCalF g_is_tuple (sCons (sOp gIx (sVar 2) (sK (.int 1))) (sCons (sK (.int 2)) (sCons (sK (.int 2)) sNil))))))) (sRet (sK (.bool false))) sSkip)
  (sSeq (sIfS (sNot (sTru (sBlt gAll (sCons c_shows_row_1 sNil)))) (sRet (sK (.bool false))) sSkip)
  (sRet (sBlt gAll (sCons c_shows_row_3 sNil)))))))))
def g_shows_row : FnS := fnS 3 6 s_shows_row
/-- _law_is_row_right(vat, bounds, apart); slots 0 vat, 1 bounds, 2 apart, 3 told, 4 due, 5 near -/
def s__law_is_row_right : SS :=
  (sSeq (sSet 3 (sCalF g_least_row (sCons (sVar 0) (sCons (sVar 1) sNil))))
  (sSeq (sIfS (sAnd (sTru (sOp gIsNot (sVar 2) (sK .none))) (sTru (sOp gGe (sOp gSub (sOp gIx (sVar 1) (sK (.int 1))) (sOp gIx (sVar 1) (sK (.int 0)))) (sOp gSub (sOp gMul (sK (.int 2)) (sVar 2)) (sK (.int 1)))))) (sSet 4 (sTup (sCons (sK (.str "row")) (sCons (sTup (sCons (sOp gIx (sVar 1) (sK (.int 0))) (sCons (sOp gSub (sOp gAdd (sOp gIx (sVar 1) (sK (.int 0))) (sOp gMul (sK (.int 2)) (sVar 2))) (sK (.int 1))) sNil))) sNil)))) (sSet 4 (sTup (sCons (sK (.str "never")) (sCons (sIf (sTru (sOp gIs (sVar 2) (sK .none))) (sOp gIx (sVar 1) (sK (.int 0))) (sBlt gMax (sCons (sOp gIx (sVar 1) (sK (.int 0))) (sCons (sOp gAdd (sOp gSub (sOp gIx (sVar 1) (sK (.int 1))) (sVar 2)) (sK (.int 1))) sNil)))) sNil)))))
  (sSeq (sIfS (sOr (sTru (sOp gNe (sBlt gRepr (sCons (sVar 3) sNil)) (sBlt gRepr (sCons (sVar 4) sNil)))) (sTru (sOp gIsNot (sCalF g_shows_row (sCons (sVar 0) (sCons (sVar 1) (sCons (sVar 3) sNil)))) (sK (.bool true))))) (sRet (sK (.bool false))) sSkip)
  (sSeq (sIfS (sTru (sOp gEq (sOp gIx (sVar 4) (sK (.int 0))) (sK (.str "never")))) (sRet (sOp gIs (sCalF g_shows_row (sCons (sVar 0) (sCons (sVar 1) (sCons (sTup (sCons (sK (.str "row")) (sCons (sVar 1) sNil))) sNil)))) (sK (.bool false)))) sSkip)
  (sSeq (sSet 5 (sTup (sCons (sOp gIx (sVar 1) (sK (.int 0))) (sCons (sOp gSub (sOp gAdd (sOp gIx (sVar 1) (sK (.int 0))) (sOp gMul (sK (.int 2)) (sVar 2))) (sK (.int 2))) sNil))))
  (sSeq (sIfS (sOr (sTru (sOp gIsNot (sCalF g_shows_row (sCons (sVar 0) (sCons (sVar 1) (sCons (sTup (sCons (sK (.str "row")) (sCons (sVar 5) sNil))) sNil)))) (sK (.bool false)))) (sTru (sOp gIsNot (sCalF g_shows_row (sCons (sVar 0) (sCons (sVar 1) (sCons (sTup (sCons (sK (.str "row")) (sCons (sVar 1) sNil))) sNil)))) (sK (.bool true))))) (sRet (sK (.bool false))) sSkip)
  (sRet (sOp gIs (sCalF g_shows_row (sCons (sVar 0) (sCons (sVar 1) (sCons (sTup (sCons (sK (.str "never")) (sCons (sOp gIx (sVar 1) (sK (.int 0))) sNil))) sNil)))) (sK (.bool false))))))))))
def g__law_is_row_right : FnS := fnS 3 6 s__law_is_row_right
/-- _law_far(apart, one, other); slots 0 apart, 1 one, 2 other -/
def s__law_far : SS :=
  (sRet (sBool (sAnd (sTru (sOp gIsNot (sVar 0) (sK .none))) (sTru (sOp gGe (sBlt gAbs (sCons (sOp gSub (sVar 1) (sVar 2)) sNil)) (sVar 0))))))
def g__law_far : FnS := fnS 3 3 s__law_far
/-- check_level(vat, value); slots 0 vat, 1 value -/
def s_check_level : SS :=
  (sSeq (sDrop (sCalF g_check_vat (sCons (sVar 0) sNil)))
  (sIfS (sNot (sTru (sCalF g_is_integer (sCons (sVar 1) (sCons (sOp gIx (sOp gIx (sVar 0) (sK (.int 3))) (sK (.int 0))) (sCons (sOp gIx (sOp gIx (sVar 0) (sK (.int 3))) (sK (.int 1))) sNil)))))) sStop sSkip))
def g_check_level : FnS := fnS 2 2 s_check_level
/-- is_told(vat, bounds, level, settings); slots 0 vat, 1 bounds, 2 level, 3 settings, 4 at, 5 one -/
def c_is_told_0 : ES :=
  (sComp [4] (sIt (sVar 3)) (bNm 4) sYes (sCalF g_is_integer (sCons (sVar 4) (sCons (sOp gIx (sVar 1) (sK (.int 0))) (sCons (sOp gIx (sVar 1) (sK (.int 1))) sNil)))))
def c_is_told_1 : ES :=
  (sComp [5] (sIt (sVar 3)) (bNm 5) sYes (sCalF g_parts (sCons (sVar 0) (sCons (sVar 5) (sCons (sVar 4) sNil)))))
def c_is_told_2 : ES :=
  (sComp [4] (sRg2 (sCons (sOp gIx (sVar 1) (sK (.int 0))) (sCons (sOp gAdd (sOp gIx (sVar 1) (sK (.int 1))) (sK (.int 1))) sNil))) (bNm 4) sYes (sBlt gAny (sCons c_is_told_1 sNil)))
def s_is_told : SS :=
  (sSeq (sDrop (sCalF g_check_bounds (sCons (sVar 0) (sCons (sVar 1) sNil))))
  (sSeq (sDrop (sCalF g_check_level (sCons (sVar 0) (sCons (sVar 2) sNil))))
  (sSeq (sIfS (sOr (sNot (sTru (sCalF g_is_tuple (sCons (sVar 3) (sCons (sK (.int 0)) (sCons (sK (.int 60)) sNil)))))) (sNot (sTru (sBlt gAll (sCons c_is_told_0 sNil))))) sStop sSkip)
  (sRet (sBlt gAll (sCons c_is_told_2 sNil))))))
def g_is_told : FnS := fnS 4 6 s_is_told
/-- telling(vat, bounds, at); slots 0 vat, 1 bounds, 2 at, 3 one -/
def c_telling_0 : ES :=
  (sComp [3] (sRg2 (sCons (sOp gIx (sVar 1) (sK (.int 0))) (sCons (sOp gAdd (sOp gIx (sVar 1) (sK (.int 1))) (sK (.int 1))) sNil))) (bNm 3) (sTru (sCalF g_parts (sCons (sVar 0) (sCons (sVar 3) (sCons (sVar 2) sNil))))) (sVar 3))
def s_telling : SS :=
  (sSeq (sDrop (sCalF g_check_bounds (sCons (sVar 0) (sCons (sVar 1) sNil))))
  (sSeq (sIfS (sNot (sTru (sCalF g_is_integer (sCons (sVar 2) (sCons (sOp gIx (sVar 1) (sK (.int 0))) (sCons (sOp gIx (sVar 1) (sK (.int 1))) sNil)))))) sStop sSkip)
  (sRet (sBlt gTuple (sCons c_telling_0 sNil)))))
def g_telling : FnS := fnS 3 4 s_telling
/-- _law_are_rows_told(pot, vat, bounds, apart); slots 0 pot, 1 vat, 2 bounds, 3 apart, 4 sets, 5 lap, 6 some, 7 row, 8 due, 9 one, 10 at, 11 level -/
def c__law_are_rows_told_0 : ES :=
  (sComp [5] (sRg1 (sCons (sCalF g__law_take (sCons (sVar 0) (sCons (sK (.int 6)) sNil))) sNil)) (bNm 5) sYes (sOp gAdd (sOp gIx (sVar 2) (sK (.int 0))) (sCalF g__law_take (sCons (sVar 0) (sCons (sOp gAdd (sOp gSub (sOp gIx (sVar 2) (sK (.int 1))) (sOp gIx (sVar 2) (sK (.int 0)))) (sK (.int 1))) sNil)))))
def c__law_are_rows_told_1 : ES :=
  (sComp [9] (sIt (sVar 7)) (bNm 9) sYes (sCalF g__law_far (sCons (sVar 3) (sCons (sVar 9) (sCons (sVar 10) sNil)))))
def c__law_are_rows_told_2 : ES :=
  (sComp [10] (sRg2 (sCons (sOp gIx (sVar 2) (sK (.int 0))) (sCons (sOp gAdd (sOp gIx (sVar 2) (sK (.int 1))) (sK (.int 1))) sNil))) (bNm 10) sYes (sBlt gAny (sCons c__law_are_rows_told_1 sNil)))
def b__law_are_rows_told_0 : SS :=
  (sSeq (sSet 8 (sBlt gAll (sCons c__law_are_rows_told_2 sNil)))
  (sSeq (sSet 11 (sOp gSub (sCalF g__law_take (sCons (sVar 0) (sCons (sK (.int 401)) sNil))) (sK (.int 200))))
  (sIfS (sTru (sOp gNe (sBlt gRepr (sCons (sCalF g_is_told (sCons (sVar 1) (sCons (sVar 2) (sCons (sVar 11) (sCons (sBlt gTuple (sCons (sSl gSl (sVar 7) sNo (sPart (sK (.int 60)))) sNil)) sNil))))) sNil)) (sBlt gRepr (sCons (sVar 8) sNil)))) (sRet (sK (.bool false))) sSkip)))
def f__law_are_rows_told_0 : SS :=
  (sFor (sIt (sVar 6)) (bNm 7) b__law_are_rows_told_0)
def c__law_are_rows_told_3 : ES :=
  (sComp [9] (sRg2 (sCons (sOp gIx (sVar 2) (sK (.int 0))) (sCons (sOp gAdd (sOp gIx (sVar 2) (sK (.int 1))) (sK (.int 1))) sNil))) (bNm 9) (sTru (sCalF g__law_far (sCons (sVar 3) (sCons (sVar 9) (sCons (sVar 10) sNil))))) (sVar 9))
def s__law_are_rows_told : SS :=
  (sSeq (sSet 4 c__law_are_rows_told_0)
  (sSeq (sSet 6 (sLst (sCons (sVar 4) (sCons (sOp gMul (sVar 4) (sK (.int 10))) (sCons (sOp gAdd (sVar 4) (sLst (sCons (sOp gIx (sVar 2) (sK (.int 0))) sNil))) (sCons (sOp gAdd (sVar 4) (sLst (sCons (sOp gIx (sVar 2) (sK (.int 0))) (sCons (sOp gIx (sVar 2) (sK (.int 1))) sNil)))) (sCons (sOp gAdd (sLst (sCons (sOp gIx (sVar 2) (sK (.int 1))) sNil)) (sSl gSl (sVar 4) sNo (sPart (sK (.int 1))))) sNil)))))))
  (sSeq f__law_are_rows_told_0
  (sSeq (sSet 10 (sOp gAdd (sOp gIx (sVar 2) (sK (.int 0))) (sCalF g__law_take (sCons (sVar 0) (sCons (sOp gAdd (sOp gSub (sOp gIx (sVar 2) (sK (.int 1))) (sOp gIx (sVar 2) (sK (.int 0)))) (sK (.int 1))) sNil)))))
  (sSeq (sSet 8 c__law_are_rows_told_3)
  (sRet (sOp gEq (sBlt gRepr (sCons (sCalF g_telling (sCons (sVar 1) (sCons (sVar 2) (sCons (sVar 10) sNil)))) sNil)) (sBlt gRepr (sCons (sBlt gTuple (sCons (sVar 8) sNil)) sNil)))))))))
def g__law_are_rows_told : FnS := fnS 4 12 s__law_are_rows_told
/-- is_seen(vat, bounds, value); slots 0 vat, 1 bounds, 2 value, 3 one, 4 at, 5 level -/
def c_is_seen_0 : ES :=
  (sComp [3] (sIt (sVar 2)) (bNm 3) sYes (sCalF g_is_tuple (sCons (sVar 3) (sCons (sK (.int 0)) (sCons (sOp gAdd (sK (.int 60)) (sK (.int 1))) sNil)))))
def c_is_seen_1 : ES :=
  (sComp [4] (sIt (sOp gIx (sVar 2) (sK (.int 0)))) (bNm 4) sYes (sCalF g_is_integer (sCons (sVar 4) (sCons (sOp gIx (sVar 1) (sK (.int 0))) (sCons (sOp gIx (sVar 1) (sK (.int 1))) sNil)))))
def c_is_seen_2 : ES :=
  (sComp [5] (sIt (sOp gIx (sVar 2) (sK (.int 1)))) (bNm 5) sYes (sCalF g_is_integer (sCons (sVar 5) (sCons (sOp gIx (sOp gIx (sVar 0) (sK (.int 3))) (sK (.int 0))) (sCons (sOp gIx (sOp gIx (sVar 0) (sK (.int 3))) (sK (.int 1))) sNil)))))
def s_is_seen : SS :=
  (sSeq (sIfS (sOr (sNot (sTru (sCalF g_is_tuple (sCons (sVar 2) (sCons (sK (.int 2)) (sCons (sK (.int 2)) sNil)))))) (sNot (sTru (sBlt gAll (sCons c_is_seen_0 sNil))))) (sRet (sK (.bool false))) sSkip)
  (sSeq (sIfS (sOr (sTru (sOp gNe (sBlt gLen (sCons (sOp gIx (sVar 2) (sK (.int 1))) sNil)) (sOp gAdd (sBlt gLen (sCons (sOp gIx (sVar 2) (sK (.int 0))) sNil)) (sK (.int 1))))) (sNot (sTru (sBlt gAll (sCons c_is_seen_1 sNil))))) (sRet (sK (.bool false))) sSkip)
  (sRet (sBlt gAll (sCons c_is_seen_2 sNil)))))
def g_is_seen : FnS := fnS 3 6 s_is_seen
/-- all_faults(bounds); slots 0 bounds, 1 at -/
def c_all_faults_0 : ES :=
  (sComp [1] (sRg2 (sCons (sOp gIx (sVar 0) (sK (.int 0))) (sCons (sOp gAdd (sOp gIx (sVar 0) (sK (.int 1))) (sK (.int 1))) sNil))) (bNm 1) sYes (sTup (sCons (sK (.str "stuck")) (sCons (sVar 1) sNil))))
def s_all_faults : SS :=
  (sRet (sLst (sCons (sTup (sCons (sK (.str "fine")) sNil)) (sStar c_all_faults_0 sNil))))
def g_all_faults : FnS := fnS 1 2 s_all_faults
/-- level_by(vat, level, lever, weather); slots 0 vat, 1 level, 2 lever, 3 weather -/
def s_level_by : SS :=
  (sRet (sOp gAdd (sOp gAdd (sOp gDiv (sOp gMul (sOp gIx (sVar 0) (sK (.int 0))) (sVar 1)) (sOp gIx (sVar 0) (sK (.int 1)))) (sOp gMul (sOp gIx (sVar 0) (sK (.int 2))) (sVar 2))) (sVar 3)))
def g_level_by : FnS := fnS 4 4 s_level_by
/-- fits(vat, fault, at, one, other); slots 0 vat, 1 fault, 2 at, 3 one, 4 other, 5 real, 6 low, 7 high -/
def s_fits : SS :=
  (sSeq (sSet 5 (sIf (sTru (sOp gEq (sOp gIx (sVar 1) (sK (.int 0))) (sK (.str "fine")))) (sVar 2) (sOp gIx (sVar 1) (sK (.int 1)))))
  (sSeq (sAsg (sOp gIx (sVar 0) (sOp gAdd (sK (.int 3)) (sK (.int 1)))) (bTp 2 (bCo (bNm 6) (bCo (bNm 7) bNo))))
  (sRet (sBool (sCh gLe gLe (sCalF g_level_by (sCons (sVar 0) (sCons (sVar 3) (sCons (sVar 5) (sCons (sVar 6) sNil))))) (sVar 4) (sCalF g_level_by (sCons (sVar 0) (sCons (sVar 3) (sCons (sVar 5) (sCons (sVar 7) sNil))))))))))
def g_fits : FnS := fnS 5 8 s_fits
/-- may_be(vat, bounds, seen); slots 0 vat, 1 bounds, 2 seen, 3 found, 4 fault, 5 at, 6 one, 7 other -/
def c_may_be_0 : ES :=
  (sComp [5, 6, 7] (sZip3 (sCons (sOp gIx (sVar 2) (sK (.int 0))) (sCons (sOp gIx (sVar 2) (sK (.int 1))) (sCons (sSl gSl (sOp gIx (sVar 2) (sK (.int 1))) (sPart (sK (.int 1))) sNo) sNil)))) (bTp 3 (bCo (bNm 5) (bCo (bNm 6) (bCo (bNm 7) bNo)))) sYes (sCalF g_fits (sCons (sVar 0) (sCons (sVar 4) (sCons (sVar 5) (sCons (sVar 6) (sCons (sVar 7) sNil)))))))
def b_may_be_0 : SS :=
  (sIfS (sTru (sBlt gAll (sCons c_may_be_0 sNil))) (sApp 3 (sVar 4)) sSkip)
def f_may_be_0 : SS :=
  (sFor (sIt (sCalF g_all_faults (sCons (sVar 1) sNil))) (bNm 4) b_may_be_0)
def s_may_be : SS :=
  (sSeq (sDrop (sCalF g_check_bounds (sCons (sVar 0) (sCons (sVar 1) sNil))))
  (sSeq (sIfS (sNot (sTru (sCalF g_is_seen (sCons (sVar 0) (sCons (sVar 1) (sCons (sVar 2) sNil)))))) sStop sSkip)
  (sSeq (sSet 3 (sLst sNil))
  (sSeq f_may_be_0
  (sRet (sBlt gTuple (sCons (sVar 3) sNil)))))))
def g_may_be : FnS := fnS 3 8 s_may_be
/-- _law_is_course_right(pot, vat, bounds); slots 0 pot, 1 vat, 2 bounds, 3 least, 4 most, 5 fault, 6 level, 7 sets, 8 levels, 9 real, 10 beat, 11 at, 12 weather, 13 new, 14 changes, 15 one, 16 due, 17 open_ones, 18 told -/
def b__law_is_course_right_0 : SS :=
  (sSeq (sSet 11 (sOp gAdd (sOp gIx (sVar 2) (sK (.int 0))) (sCalF g__law_take (sCons (sVar 0) (sCons (sOp gAdd (sOp gSub (sOp gIx (sVar 2) (sK (.int 1))) (sOp gIx (sVar 2) (sK (.int 0)))) (sK (.int 1))) sNil)))))
  (sSeq (sSet 12 (sOp gAdd (sVar 3) (sCalF g__law_take (sCons (sVar 0) (sCons (sOp gAdd (sOp gSub (sVar 4) (sVar 3)) (sK (.int 1))) sNil)))))
  (sSeq (sSet 13 (sOp gAdd (sOp gAdd (sOp gIx (sVar 8) (sUn gNeg (sK (.int 1)))) (sOp gMul (sOp gIx (sVar 1) (sK (.int 2))) (sIf (sTru (sOp gIs (sVar 5) (sK .none))) (sVar 11) (sVar 9)))) (sVar 12)))
  (sIfS (sCh gLe gLe (sUn gNeg (sK (.int 200))) (sVar 13) (sK (.int 200))) (sSeq (sApp 7 (sVar 11))
  (sApp 8 (sVar 13))) sSkip))))
def f__law_is_course_right_0 : SS :=
  (sFor (sRg1 (sCons (sCalF g__law_take (sCons (sVar 0) (sCons (sK (.int 31)) sNil))) sNil)) (bNm 10) b__law_is_course_right_0)
def c__law_is_course_right_0 : ES :=
  (sComp [15, 13] (sZip2 (sCons (sVar 8) (sCons (sSl gSl (sVar 8) (sPart (sK (.int 1))) sNo) sNil))) (bTp 2 (bCo (bNm 15) (bCo (bNm 13) bNo))) sYes (sOp gSub (sVar 13) (sVar 15)))
def c__law_is_course_right_1 : ES :=
  (sComp [15, 11] (sZip2 (sCons (sVar 14) (sCons (sVar 7) sNil))) (bTp 2 (bCo (bNm 15) (bCo (bNm 11) bNo))) sYes (sBool (sCh gLe gLe (sVar 3) (sOp gSub (sVar 15) (sOp gMul (sOp gIx (sVar 1) (sK (.int 2))) (sVar 11))) (sVar 4))))
def b__law_is_course_right_1 : SS :=
  (sIfS (sOr (sTru (sOp gEq (sVar 14) (sLst sNil))) (sAnd (sTru (sOp gLe (sVar 3) (sOp gSub (sBlt gMin (sCons (sVar 14) sNil)) (sOp gMul (sOp gIx (sVar 1) (sK (.int 2))) (sVar 11))))) (sTru (sOp gLe (sOp gSub (sBlt gMax (sCons (sVar 14) sNil)) (sOp gMul (sOp gIx (sVar 1) (sK (.int 2))) (sVar 11))) (sVar 4))))) (sApp 17 (sVar 11)) sSkip)
def f__law_is_course_right_1 : SS :=
  (sFor (sRg2 (sCons (sOp gIx (sVar 2) (sK (.int 0))) (sCons (sOp gAdd (sOp gIx (sVar 2) (sK (.int 1))) (sK (.int 1))) sNil))) (bNm 11) b__law_is_course_right_1)
def c__law_is_course_right_2 : ES :=
  (sComp [11] (sIt (sVar 17)) (bNm 11) sYes (sTup (sCons (sK (.str "stuck")) (sCons (sVar 11) sNil))))
def s__law_is_course_right : SS :=
  (sSeq (sAsg (sOp gIx (sVar 1) (sK (.int 4))) (bTp 2 (bCo (bNm 3) (bCo (bNm 4) bNo))))
  (sSeq (sParT [5, 6, 7, 8] (sCons (sCalF g__law_of (sCons (sVar 0) (sCons (sLst (sCons (sK .none) (sCons (sK (.int 0)) (sCons (sK (.int 0)) sNil)))) sNil))) (sCons (sOp gSub (sCalF g__law_take (sCons (sVar 0) (sCons (sK (.int 101)) sNil))) (sK (.int 50))) (sCons (sLst sNil) (sCons (sLst sNil) sNil)))))
  (sSeq (sSet 9 (sOp gAdd (sOp gIx (sVar 2) (sK (.int 0))) (sCalF g__law_take (sCons (sVar 0) (sCons (sOp gAdd (sOp gSub (sOp gIx (sVar 2) (sK (.int 1))) (sOp gIx (sVar 2) (sK (.int 0)))) (sK (.int 1))) sNil)))))
  (sSeq (sApp 8 (sVar 6))
  (sSeq f__law_is_course_right_0
  (sSeq (sSet 14 c__law_is_course_right_0)
  (sSeq (sSet 16 (sIf (sTru (sBlt gAll (sCons c__law_is_course_right_1 sNil))) (sLst (sCons (sTup (sCons (sK (.str "fine")) sNil)) sNil)) (sLst sNil)))
  (sSeq (sSet 17 (sLst sNil))
  (sSeq f__law_is_course_right_1
  (sSeq (sExt 16 c__law_is_course_right_2)
  (sSeq (sSet 18 (sCalF g_may_be (sCons (sVar 1) (sCons (sVar 2) (sCons (sTup (sCons (sBlt gTuple (sCons (sVar 7) sNil)) (sCons (sBlt gTuple (sCons (sVar 8) sNil)) sNil))) sNil)))))
  (sSeq (sIfS (sOr (sTru (sOp gNe (sBlt gRepr (sCons (sVar 18) sNil)) (sBlt gRepr (sCons (sBlt gTuple (sCons (sVar 16) sNil)) sNil)))) (sTru (sOp gNotIn (sIf (sTru (sOp gIs (sVar 5) (sK .none))) (sTup (sCons (sK (.str "fine")) sNil)) (sTup (sCons (sK (.str "stuck")) (sCons (sVar 9) sNil)))) (sVar 18)))) (sRet (sK (.bool false))) sSkip)
  (sRet (sBool (sOr (sTru (sOp gEq (sVar 17) (sLst sNil))) (sTru (sOp gEq (sVar 17) (sListRg2 (sCons (sOp gIx (sVar 17) (sK (.int 0))) (sCons (sOp gAdd (sOp gIx (sVar 17) (sUn gNeg (sK (.int 1)))) (sK (.int 1))) sNil))))))))))))))))))))
def g__law_is_course_right : FnS := fnS 3 19 s__law_is_course_right
/-- law(script); slots 0 script, 1 place, 2 pot, 3 vat, 4 bounds, 5 apart -/
def b_law_0 : SS :=
  (sSeq (sSet 2 (sCalF g__law_pot (sCons (sVar 0) (sCons (sVar 1) sNil))))
  (sSeq (sAsg (sCalF g__law_drawn (sCons (sVar 2) sNil)) (bTp 3 (bCo (bNm 3) (bCo (bNm 4) (bCo (bNm 5) bNo)))))
  (sSeq (sIfS (sOr (sNot (sTru (sCalF g__law_is_row_right (sCons (sVar 3) (sCons (sVar 4) (sCons (sVar 5) sNil)))))) (sNot (sTru (sCalF g__law_are_rows_told (sCons (sVar 2) (sCons (sVar 3) (sCons (sVar 4) (sCons (sVar 5) sNil)))))))) (sRet (sK (.bool false))) sSkip)
  (sIfS (sNot (sTru (sCalF g__law_is_course_right (sCons (sVar 2) (sCons (sVar 3) (sCons (sVar 4) sNil)))))) (sRet (sK (.bool false))) sSkip))))
def f_law_0 : SS :=
  (sFor (sIt (sCalF g__law_places (sCons (sVar 0) (sCons (sK (.int 2)) sNil)))) (bNm 1) b_law_0)
def s_law : SS :=
  (sSeq f_law_0
  (sRet (sK (.bool true))))
def g_law : FnS := fnS 1 6 s_law

end L41


set_option Elab.async false
set_option linter.all false
set_option maxRecDepth 100000
set_option maxHeartbeats 0
namespace L41
open PySem PySem.Spec PyProof.Rows L2 Sd
abbrev Pw : Program := PySem.Challenge.pw_steeredback_k41_whole_stuck_levers_of_al
def top (i : Nat) : Stmt := PySem.Challenge.pw_steeredback_k41_whole_stuck_levers_of_al.main.body.getD i (.Pass ⟨0, 0, 0, 0⟩)
structure Fx (mg : Str → Option Value) : Prop where
  free_list : mg "list" = none
  free_range : mg "range" = none
  free_len : mg "len" = none
  free_min : mg "min" = none
  free_max : mg "max" = none
  free_sum : mg "sum" = none
  free_abs : mg "abs" = none
  free_int : mg "int" = none
  free_isinstance : mg "isinstance" = none
  free_tuple : mg "tuple" = none
  free_bool : mg "bool" = none
  int_PAIR_vats : ∃ t, mg "PAIR_vats" = some (.int 2 t)
  int_FIVE : ∃ t, mg "FIVE" = some (.int 5 t)
  int_MOST_KEEPS : ∃ t, mg "MOST_KEEPS" = some (.int 20 t)
  int_MOST_UNDER : ∃ t, mg "MOST_UNDER" = some (.int 20 t)
  int_MOST_STRENGTH : ∃ t, mg "MOST_STRENGTH" = some (.int 20 t)
  int_MOST_LEVEL : ∃ t, mg "MOST_LEVEL" = some (.int 200 t)
  int_TRIPLE_vats : ∃ t, mg "TRIPLE_vats" = some (.int 3 t)
  int_MOST_WEATHER : ∃ t, mg "MOST_WEATHER" = some (.int 50 t)
  int_MOST_LEVER : ∃ t, mg "MOST_LEVER" = some (.int 50 t)
  int_TRIPLE_stuck : ∃ t, mg "TRIPLE_stuck" = some (.int 3 t)
  int_PAIR_stuck : ∃ t, mg "PAIR_stuck" = some (.int 2 t)
  str_NEVER : ∃ t, mg "NEVER" = some (.str "never" t)
  free_all : mg "all" = none
  str_ROW : ∃ t, mg "ROW" = some (.str "row" t)
  free_str : mg "str" = none
  free_any : mg "any" = none
  free_repr : mg "repr" = none
  int_MOST_SEEN : ∃ t, mg "MOST_SEEN" = some (.int 60 t)
  str_STUCK : ∃ t, mg "STUCK" = some (.str "stuck" t)
  str_FINE : ∃ t, mg "FINE" = some (.str "fine" t)
  free_zip : mg "zip" = none
section
variable {P : Program} {w : World} {K : PySem.W.Frag} {mg : Str → Option Value} {base : Heap}
abbrev FdOf (K : PySem.W.Frag) (x : Str) (st : Stmt) : Prop := ∃ fd, FunD K x x (defArgs st) (defBody st) (defScope st) [] [] (He.fAd K (x, none)) fd
theorem ok__law_places (fx : Fx mg) (h : FdOf K "_law_places" (top 48)) (gl : mg "_law_places" = some (.ref (He.fAd K ("_law_places", none)))) : Cal P w K mg base 1 "_law_places" (spOf g__law_places) := by
  have nd : (["script", "most"] : List Str).Nodup := by decide
  refine mkFn (N := ["script", "most"]) (ps := ["script", "most"]) (k := 0) (s := s__law_places) h gl ⟨rfl, rfl, rfl, by decide +kernel, rfl, by decide +kernel, by decide +kernel⟩ (fun _ _ _ _ _ _ us hl => match us, hl with | [_, _], _ => rfl) (by decide) (fun f cdv A outer s0 H E hr hgd => ?_)
  exact (bOne (stRet (eListRg1 rfl fx.free_list fx.free_range (eBlt (bMax rfl) fx.free_max (aCons eInt (aCons (eBlt (bMin rfl) fx.free_min (aCons (eVar 1) (aCons (eBlt bLen fx.free_len (aCons (eVar 0) aNil)) aNil))) aNil))))))
theorem ok__law_pot (fx : Fx mg) (h : FdOf K "_law_pot" (top 45)) (gl : mg "_law_pot" = some (.ref (He.fAd K ("_law_pot", none)))) : Cal P w K mg base 1 "_law_pot" (spOf g__law_pot) := by
  have nd : (["script", "place", "cell", "own", "small"] : List Str).Nodup := by decide
  refine mkFn (N := ["script", "place", "cell", "own", "small"]) (ps := ["script", "place"]) (k := 0) (s := s__law_pot) h gl ⟨rfl, rfl, rfl, by decide +kernel, rfl, by decide +kernel, by decide +kernel⟩ (fun _ _ _ _ _ _ us hl => match us, hl with | [_, _], _ => rfl) (by decide) (fun f cdv A outer s0 H E hr hgd => ?_)
  exact (bCons (stSet 2 nd (eIf (cCmp oLt (eVar 1) (eBlt bLen fx.free_len (aCons (eVar 0) aNil))) (eIx xIx (eVar 0) (eVar 1)) (eOp oAdd (eOp oAdd (eOp oMod (eBlt (bSum rfl) fx.free_sum (aCons (eSl xSl (eVar 0) oNo (oPart eInt)) aNil)) eInt) (eOp oMul eInt (eVar 1))) eInt)))
  (bCons (stSet 3 nd (eOp oMul (eOp oMod (eTy bInt fx.free_int (aCons (eBlt bAbs fx.free_abs (aCons (eVar 2) aNil)) aNil)) (eOp oPow (eOp oPow eInt eInt) eInt)) (eTy bInt fx.free_int (aCons (eCmp oGe (eBlt bAbs fx.free_abs (aCons (eVar 2) aNil)) (eOp oPow eInt eInt)) aNil))))
  (bCons (stSet 4 nd (eOp oMod (eTy bInt fx.free_int (aCons (eVar 2) aNil)) eInt))
  (bOne (stRet (eLst (aCons (eVar 3) (aCons (eOp oMod (eTy bInt fx.free_int (aCons (eOp oAdd (eOp oAdd (eOp oMul (eVar 4) eInt) (eOp oMul (eOp oMul eInt (eVar 1)) (eVar 1))) eInt) aNil)) eInt) (aCons eInt aNil)))))))))
theorem ok__law_take (fx : Fx mg) (h : FdOf K "_law_take" (top 46)) (gl : mg "_law_take" = some (.ref (He.fAd K ("_law_take", none)))) : Cal P w K mg base 1 "_law_take" (spOf g__law_take) := by
  have nd : (["pot", "upto", "digit", "prime", "blend"] : List Str).Nodup := by decide
  refine mkFn (N := ["pot", "upto", "digit", "prime", "blend"]) (ps := ["pot", "upto"]) (k := 0) (s := s__law_take) h gl ⟨rfl, rfl, rfl, by decide +kernel, rfl, by decide +kernel, by decide +kernel⟩ (fun _ _ _ _ _ _ us hl => match us, hl with | [_, _], _ => rfl) (by decide) (fun f cdv A outer s0 H E hr hgd => ?_)
  exact (bCons (stIf (cCmp oGt (eIx xIx (eVar 0) eInt) eInt) (bCons (stSet 2 nd (eOp oMod (eTy bInt fx.free_int (aCons (eIx xIx (eVar 0) eInt) aNil)) (eVar 1)))
  (bCons (stPut 0 (eOp oDiv (eIx xIx (eVar 0) eInt) (eVar 1)) eInt)
  (bOne (stRet (eVar 2))))) bNil)
  (bCons (stPut 0 (eOp oAdd (eIx xIx (eVar 0) eInt) eInt) eInt)
  (bCons (stSet 3 nd (eIx xIx (eLst (aCons eInt (aCons eInt (aCons eInt (aCons eInt (aCons eInt aNil)))))) (eOp oMod (eTy bInt fx.free_int (aCons (eIx xIx (eVar 0) eInt) aNil)) eInt)))
  (bCons (stSet 4 nd (eOp oMod (eTy bInt fx.free_int (aCons (eOp oPow (eTy bInt fx.free_int (aCons (eOp oAdd (eOp oAdd (eIx xIx (eVar 0) eInt) (eOp oMul (eOp oMul eInt (eIx xIx (eVar 0) eInt)) (eIx xIx (eVar 0) eInt))) eInt) aNil)) eInt) aNil)) (eVar 3)))
  (bCons (stSet 4 nd (eOp oMod (eTy bInt fx.free_int (aCons (eOp oMul (eVar 4) (eOp oAdd (eOp oMod (eTy bInt fx.free_int (aCons (eVar 4) aNil)) eInt) (eOp oMul eInt (eIx xIx (eVar 0) eInt)))) aNil)) eInt))
  (bOne (stRet (eOp oMod (eTy bInt fx.free_int (aCons (eOp oDiv (eVar 4) eInt) aNil)) (eVar 1)))))))))
theorem ok__law_of (fx : Fx mg) (c__law_take : Cal P w K mg base 1 "_law_take" (spOf g__law_take)) (h : FdOf K "_law_of" (top 47)) (gl : mg "_law_of" = some (.ref (He.fAd K ("_law_of", none)))) : Cal P w K mg base 2 "_law_of" (spOf g__law_of) := by
  have nd : (["pot", "some"] : List Str).Nodup := by decide
  refine mkFn (N := ["pot", "some"]) (ps := ["pot", "some"]) (k := 1) (s := s__law_of) h gl ⟨rfl, rfl, rfl, by decide +kernel, rfl, by decide +kernel, by decide +kernel⟩ (fun _ _ _ _ _ _ us hl => match us, hl with | [_, _], _ => rfl) (by decide) (fun f cdv A outer s0 H E hr hgd => ?_)
  exact (bOne (stRet (eIx xIx (eVar 1) (eCall c__law_take hr hgd (by decide) (aCons (eVar 0) (aCons (eBlt bLen fx.free_len (aCons (eVar 1) aNil)) aNil))))))
theorem ok__law_drawn (fx : Fx mg) (c__law_take : Cal P w K mg base 1 "_law_take" (spOf g__law_take)) (c__law_of : Cal P w K mg base 2 "_law_of" (spOf g__law_of)) (h : FdOf K "_law_drawn" (top 49)) (gl : mg "_law_drawn" = some (.ref (He.fAd K ("_law_drawn", none)))) : Cal P w K mg base 3 "_law_drawn" (spOf g__law_drawn) := by
  have nd : (["pot", "strength", "least", "width", "first", "bounds", "apart"] : List Str).Nodup := by decide
  refine mkFn (N := ["pot", "strength", "least", "width", "first", "bounds", "apart"]) (ps := ["pot"]) (k := 2) (s := s__law_drawn) h gl ⟨rfl, rfl, rfl, by decide +kernel, rfl, by decide +kernel, by decide +kernel⟩ (fun _ _ _ _ _ _ us hl => match us, hl with | [_], _ => rfl) (by decide) (fun f cdv A outer s0 H E hr hgd => ?_)
  exact (bCons (stPar2 1 2 rfl nd (aCons (eCall c__law_of hr hgd (by decide) (aCons (eVar 0) (aCons (eLst (aCons eInt (aCons eInt (aCons (eUn uNeg eInt) (aCons eInt (aCons eInt (aCons eInt (aCons (eUn uNeg eInt) (aCons eInt aNil))))))))) aNil))) (aCons (eOp oSub (eCall c__law_take hr hgd (by decide) (aCons (eVar 0) (aCons eInt aNil))) eInt) aNil)))
  (bCons (stSet 3 nd (eCall c__law_take hr hgd (by decide) (aCons (eVar 0) (aCons (eBlt (bMin rfl) fx.free_min (aCons (eOp oSub eInt (eVar 2)) (aCons eInt aNil))) aNil))))
  (bCons (stSet 4 nd (eOp oSub (eCall c__law_take hr hgd (by decide) (aCons (eVar 0) (aCons eInt aNil))) eInt))
  (bCons (stSet 5 nd (eTup (aCons (eVar 4) (aCons (eOp oAdd (eVar 4) (eCall c__law_take hr hgd (by decide) (aCons (eVar 0) (aCons (eOp oSub eInt (eVar 4)) aNil)))) aNil))))
  (bCons (stSet 6 nd (eIf (cCmp (oEq hr) (eVar 1) eInt) eNone (eOp oAdd (eOp oDiv (eVar 3) (eBlt bAbs fx.free_abs (aCons (eVar 1) aNil))) eInt)))
  (bOne (stRet (eTup (aCons (eTup (aCons eInt (aCons eInt (aCons (eVar 1) (aCons (eTup (aCons (eUn uNeg eInt) (aCons eInt aNil))) (aCons (eTup (aCons (eVar 2) (aCons (eOp oAdd (eVar 2) (eVar 3)) aNil))) aNil)))))) (aCons (eVar 5) (aCons (eVar 6) aNil)))))))))))
theorem ok_is_tuple (fx : Fx mg) (h : FdOf K "is_tuple" (top 1)) (gl : mg "is_tuple" = some (.ref (He.fAd K ("is_tuple", none)))) : Cal P w K mg base 1 "is_tuple" (spOf g_is_tuple) := by
  have nd : (["value", "least", "most"] : List Str).Nodup := by decide
  refine mkFn (N := ["value", "least", "most"]) (ps := ["value", "least", "most"]) (k := 0) (s := s_is_tuple) h gl ⟨rfl, rfl, rfl, by decide +kernel, rfl, by decide +kernel, by decide +kernel⟩ (fun _ _ _ _ _ _ us hl => match us, hl with | [_, _, _], _ => rfl) (by decide) (fun f cdv A outer s0 H E hr hgd => ?_)
  exact (bOne (stRet (bvAnd (eTru (eIsI kt_tuple fx.free_isinstance fx.free_tuple (by decide +kernel) (eVar 0))) (bv1 (eChain oLe oLe (eVar 1) (eBlt bLen fx.free_len (aCons (eVar 0) aNil)) (eVar 2))))))
theorem ok_is_whole (fx : Fx mg) (h : FdOf K "is_whole" (top 2)) (gl : mg "is_whole" = some (.ref (He.fAd K ("is_whole", none)))) : Cal P w K mg base 1 "is_whole" (spOf g_is_whole) := by
  have nd : (["value"] : List Str).Nodup := by decide
  refine mkFn (N := ["value"]) (ps := ["value"]) (k := 0) (s := s_is_whole) h gl ⟨rfl, rfl, rfl, by decide +kernel, rfl, by decide +kernel, by decide +kernel⟩ (fun _ _ _ _ _ _ us hl => match us, hl with | [_], _ => rfl) (by decide) (fun f cdv A outer s0 H E hr hgd => ?_)
  exact (bOne (stRet (bvAnd (eTru (eIsI kt_int fx.free_isinstance fx.free_int (by decide +kernel) (eVar 0))) (bv1 (bvNot (eTru (eIsI kt_bool fx.free_isinstance fx.free_bool (by decide +kernel) (eVar 0))))))))
theorem ok_is_integer (fx : Fx mg) (c_is_whole : Cal P w K mg base 1 "is_whole" (spOf g_is_whole)) (h : FdOf K "is_integer" (top 3)) (gl : mg "is_integer" = some (.ref (He.fAd K ("is_integer", none)))) : Cal P w K mg base 2 "is_integer" (spOf g_is_integer) := by
  have nd : (["value", "low", "high"] : List Str).Nodup := by decide
  refine mkFn (N := ["value", "low", "high"]) (ps := ["value", "low", "high"]) (k := 1) (s := s_is_integer) h gl ⟨rfl, rfl, rfl, by decide +kernel, rfl, by decide +kernel, by decide +kernel⟩ (fun _ _ _ _ _ _ us hl => match us, hl with | [_, _, _], _ => rfl) (by decide) (fun f cdv A outer s0 H E hr hgd => ?_)
  exact (bOne (stRet (bvAnd (eTru (eCall c_is_whole hr hgd (by decide) (aCons (eVar 0) aNil))) (bv1 (eChain oLe oLe (eVar 1) (eVar 0) (eVar 2))))))
theorem ok_is_between (fx : Fx mg) (c_is_tuple : Cal P w K mg base 1 "is_tuple" (spOf g_is_tuple)) (c_is_integer : Cal P w K mg base 2 "is_integer" (spOf g_is_integer)) (h : FdOf K "is_between" (top 20)) (gl : mg "is_between" = some (.ref (He.fAd K ("is_between", none)))) : Cal P w K mg base 3 "is_between" (spOf g_is_between) := by
  have nd : (["value", "most"] : List Str).Nodup := by decide
  refine mkFn (N := ["value", "most"]) (ps := ["value", "most"]) (k := 2) (s := s_is_between) h gl ⟨rfl, rfl, rfl, by decide +kernel, rfl, by decide +kernel, by decide +kernel⟩ (fun _ _ _ _ _ _ us hl => match us, hl with | [_, _], _ => rfl) (by decide) (fun f cdv A outer s0 H E hr hgd => ?_)
  exact (bCons (stIf (cOf (cwOr (cNot (cVal (eCall c_is_tuple hr hgd (by decide) (aCons (eVar 0) (aCons (eGInt fx.int_PAIR_vats) (aCons (eGInt fx.int_PAIR_vats) aNil)))))) (cw1O (cNot (cVal (eCall c_is_integer hr hgd (by decide) (aCons (eIx xIx (eVar 0) eInt) (aCons (eUn uNeg (eVar 1)) (aCons (eVar 1) aNil))))))))) (bOne (stRet eBool)) bNil)
  (bOne (stRet (eCall c_is_integer hr hgd (by decide) (aCons (eIx xIx (eVar 0) eInt) (aCons (eIx xIx (eVar 0) eInt) (aCons (eVar 1) aNil)))))))
theorem ok_is_vat (fx : Fx mg) (c_is_tuple : Cal P w K mg base 1 "is_tuple" (spOf g_is_tuple)) (c_is_integer : Cal P w K mg base 2 "is_integer" (spOf g_is_integer)) (c_is_between : Cal P w K mg base 3 "is_between" (spOf g_is_between)) (h : FdOf K "is_vat" (top 21)) (gl : mg "is_vat" = some (.ref (He.fAd K ("is_vat", none)))) : Cal P w K mg base 4 "is_vat" (spOf g_is_vat) := by
  have nd : (["value"] : List Str).Nodup := by decide
  refine mkFn (N := ["value"]) (ps := ["value"]) (k := 3) (s := s_is_vat) h gl ⟨rfl, rfl, rfl, by decide +kernel, rfl, by decide +kernel, by decide +kernel⟩ (fun _ _ _ _ _ _ us hl => match us, hl with | [_], _ => rfl) (by decide) (fun f cdv A outer s0 H E hr hgd => ?_)
  exact (bCons (stIf (cOf (cwOr (cNot (cVal (eCall c_is_tuple hr hgd (by decide) (aCons (eVar 0) (aCons (eGInt fx.int_FIVE) (aCons (eGInt fx.int_FIVE) aNil)))))) (cw1O (cNot (cVal (eCall c_is_integer hr hgd (by decide) (aCons (eIx xIx (eVar 0) eInt) (aCons eInt (aCons (eGInt fx.int_MOST_KEEPS) aNil))))))))) (bOne (stRet eBool)) bNil)
  (bCons (stIf (cOf (cwOr (cNot (cVal (eCall c_is_integer hr hgd (by decide) (aCons (eIx xIx (eVar 0) eInt) (aCons eInt (aCons (eGInt fx.int_MOST_UNDER) aNil)))))) (cw1O (cNot (cVal (eCall c_is_integer hr hgd (by decide) (aCons (eIx xIx (eVar 0) (eGInt fx.int_PAIR_vats)) (aCons (eUn uNeg (eGInt fx.int_MOST_STRENGTH)) (aCons (eGInt fx.int_MOST_STRENGTH) aNil))))))))) (bOne (stRet eBool)) bNil)
  (bOne (stRet (bvAnd (eTru (eCall c_is_between hr hgd (by decide) (aCons (eIx xIx (eVar 0) (eGInt fx.int_TRIPLE_vats)) (aCons (eGInt fx.int_MOST_LEVEL) aNil)))) (bv1 (eTru (eCall c_is_between hr hgd (by decide) (aCons (eIx xIx (eVar 0) (eOp oAdd (eGInt fx.int_TRIPLE_vats) eInt)) (aCons (eGInt fx.int_MOST_WEATHER) aNil))))))))))
theorem ok_check_vat (fx : Fx mg) (c_is_vat : Cal P w K mg base 4 "is_vat" (spOf g_is_vat)) (h : FdOf K "check_vat" (top 22)) (gl : mg "check_vat" = some (.ref (He.fAd K ("check_vat", none)))) : Cal P w K mg base 5 "check_vat" (spOf g_check_vat) := by
  have nd : (["value"] : List Str).Nodup := by decide
  refine mkFn (N := ["value"]) (ps := ["value"]) (k := 4) (s := s_check_vat) h gl ⟨rfl, rfl, rfl, by decide +kernel, rfl, by decide +kernel, by decide +kernel⟩ (fun _ _ _ _ _ _ us hl => match us, hl with | [_], _ => rfl) (by decide) (fun f cdv A outer s0 H E hr hgd => ?_)
  exact (bOne (stIf (cNot (cVal (eCall c_is_vat hr hgd (by decide) (aCons (eVar 0) aNil)))) (bOne stStop) bNil))
theorem ok_check_bounds (fx : Fx mg) (c_check_vat : Cal P w K mg base 5 "check_vat" (spOf g_check_vat)) (c_is_between : Cal P w K mg base 3 "is_between" (spOf g_is_between)) (h : FdOf K "check_bounds" (top 33)) (gl : mg "check_bounds" = some (.ref (He.fAd K ("check_bounds", none)))) : Cal P w K mg base 6 "check_bounds" (spOf g_check_bounds) := by
  have nd : (["vat", "bounds"] : List Str).Nodup := by decide
  refine mkFn (N := ["vat", "bounds"]) (ps := ["vat", "bounds"]) (k := 5) (s := s_check_bounds) h gl ⟨rfl, rfl, rfl, by decide +kernel, rfl, by decide +kernel, by decide +kernel⟩ (fun _ _ _ _ _ _ us hl => match us, hl with | [_, _], _ => rfl) (by decide) (fun f cdv A outer s0 H E hr hgd => ?_)
  exact (bCons (stExpr (eCall c_check_vat hr hgd (by decide) (aCons (eVar 0) aNil)))
  (bOne (stIf (cNot (cVal (eCall c_is_between hr hgd (by decide) (aCons (eVar 1) (aCons (eGInt fx.int_MOST_LEVER) aNil))))) (bOne stStop) bNil)))
theorem ok_width_of (fx : Fx mg) (h : FdOf K "width_of" (top 38)) (gl : mg "width_of" = some (.ref (He.fAd K ("width_of", none)))) : Cal P w K mg base 1 "width_of" (spOf g_width_of) := by
  have nd : (["vat"] : List Str).Nodup := by decide
  refine mkFn (N := ["vat"]) (ps := ["vat"]) (k := 0) (s := s_width_of) h gl ⟨rfl, rfl, rfl, by decide +kernel, rfl, by decide +kernel, by decide +kernel⟩ (fun _ _ _ _ _ _ us hl => match us, hl with | [_], _ => rfl) (by decide) (fun f cdv A outer s0 H E hr hgd => ?_)
  exact (bOne (stRet (eOp oSub (eIx xIx (eIx xIx (eVar 0) (eOp oAdd (eGInt fx.int_TRIPLE_stuck) eInt)) eInt) (eIx xIx (eIx xIx (eVar 0) (eOp oAdd (eGInt fx.int_TRIPLE_stuck) eInt)) eInt))))
theorem ok_parts (fx : Fx mg) (c_width_of : Cal P w K mg base 1 "width_of" (spOf g_width_of)) (h : FdOf K "parts" (top 39)) (gl : mg "parts" = some (.ref (He.fAd K ("parts", none)))) : Cal P w K mg base 2 "parts" (spOf g_parts) := by
  have nd : (["vat", "at", "other"] : List Str).Nodup := by decide
  refine mkFn (N := ["vat", "at", "other"]) (ps := ["vat", "at", "other"]) (k := 1) (s := s_parts) h gl ⟨rfl, rfl, rfl, by decide +kernel, rfl, by decide +kernel, by decide +kernel⟩ (fun _ _ _ _ _ _ us hl => match us, hl with | [_, _, _], _ => rfl) (by decide) (fun f cdv A outer s0 H E hr hgd => ?_)
  exact (bOne (stRet (eCmp oGt (eBlt bAbs fx.free_abs (aCons (eOp oMul (eIx xIx (eVar 0) (eGInt fx.int_PAIR_stuck)) (eOp oSub (eVar 1) (eVar 2))) aNil)) (eCall c_width_of hr hgd (by decide) (aCons (eVar 0) aNil)))))
theorem ok_least_row (fx : Fx mg) (c_check_bounds : Cal P w K mg base 6 "check_bounds" (spOf g_check_bounds)) (c_parts : Cal P w K mg base 2 "parts" (spOf g_parts)) (h : FdOf K "least_row" (top 41)) (gl : mg "least_row" = some (.ref (He.fAd K ("least_row", none)))) : Cal P w K mg base 7 "least_row" (spOf g_least_row) := by
  have nd : (["vat", "bounds", "every", "lone", "at", "one", "other"] : List Str).Nodup := by decide
  refine mkFn (N := ["vat", "bounds", "every", "lone", "at", "one", "other"]) (ps := ["vat", "bounds"]) (k := 6) (s := s_least_row) h gl ⟨rfl, rfl, rfl, by decide +kernel, rfl, by decide +kernel, by decide +kernel⟩ (fun _ _ _ _ _ _ us hl => match us, hl with | [_, _], _ => rfl) (by decide) (fun f cdv A outer s0 H E hr hgd => ?_)
  exact (bCons (stExpr (eCall c_check_bounds hr hgd (by decide) (aCons (eVar 0) (aCons (eVar 1) aNil))))
  (bCons (stSet 2 nd (eRange2 fx.free_range (aCons (eIx xIx (eVar 1) eInt) (aCons (eOp oAdd (eIx xIx (eVar 1) eInt) eInt) aNil))))
  (bCons (stSetLc 3 (own := [("at", 4)]) rfl nd (iRgV (eVar 2)) (blkOk_by (by rfl)) (fun _ _ _ _ _ => (gNm 4 nd)) (fun _ _ _ _ _ => (t1One (cOf (cwAnd (cNot (cVal (eCall c_parts hr hgd (by decide) (aCons (eVar 0) (aCons (eIx xIx (eVar 1) eInt) (aCons (eVar 4) aNil)))))) (cw1A (cNot (cVal (eCall c_parts hr hgd (by decide) (aCons (eVar 0) (aCons (eIx xIx (eVar 1) eInt) (aCons (eVar 4) aNil))))))))))) (fun _ _ _ _ _ => (eVar 4)) (sw_true rfl rfl rfl rfl))
  (bCons (stIf (cCmp (oNe hr) (eVar 3) (eLst aNil)) (bOne (stRet (eTup (aCons (eGStr fx.str_NEVER) (aCons (eIx xIx (eVar 3) eInt) aNil))))) bNil)
  (bCons (stFor PassesOwn.never rfl (iRgV (eVar 2)) (gNm 5 nd)
  (bOne (stFor PassesOwn.never rfl (iRgV (eVar 2)) (gNm 6 nd)
  (bOne (stIf (cVal (eBlt (bAll rfl) fx.free_all (aCons (eComp (own := [("at", 4)]) rfl nd (iRgV (eVar 2)) (blkOk_by (by rfl)) (fun _ _ _ _ _ => (gNm 4 nd)) (fun _ _ _ _ _ => t1No) (fun _ _ _ _ _ => (bvOr (eTru (eCall c_parts hr hgd (by decide) (aCons (eVar 0) (aCons (eVar 5) (aCons (eVar 4) aNil))))) (bv1 (eTru (eCall c_parts hr hgd (by decide) (aCons (eVar 0) (aCons (eVar 6) (aCons (eVar 4) aNil))))))))) aNil))) (bOne (stRet (eTup (aCons (eGStr fx.str_ROW) (aCons (eTup (aCons (eVar 5) (aCons (eVar 6) aNil))) aNil))))) bNil)))))
  (bOne (stRet (eTup (aCons (eGStr fx.str_ROW) (aCons (eTup (aCons (eIx xIx (eVar 1) eInt) (aCons (eIx xIx (eVar 1) eInt) aNil))) aNil))))))))))
theorem ok_shows_row (fx : Fx mg) (c_check_bounds : Cal P w K mg base 6 "check_bounds" (spOf g_check_bounds)) (c_is_tuple : Cal P w K mg base 1 "is_tuple" (spOf g_is_tuple)) (c_is_integer : Cal P w K mg base 2 "is_integer" (spOf g_is_integer)) (c_parts : Cal P w K mg base 2 "parts" (spOf g_parts)) (h : FdOf K "shows_row" (top 42)) (gl : mg "shows_row" = some (.ref (He.fAd K ("shows_row", none)))) : Cal P w K mg base 7 "shows_row" (spOf g_shows_row) := by
  have nd : (["vat", "bounds", "value", "every", "one", "at"] : List Str).Nodup := by decide
  refine mkFn (N := ["vat", "bounds", "value", "every", "one", "at"]) (ps := ["vat", "bounds", "value"]) (k := 6) (s := s_shows_row) h gl ⟨rfl, rfl, rfl, by decide +kernel, rfl, by decide +kernel, by decide +kernel⟩ (fun _ _ _ _ _ _ us hl => match us, hl with | [_, _, _], _ => rfl) (by decide) (fun f cdv A outer s0 H E hr hgd => ?_)
  exact (bCons (stExpr (eCall c_check_bounds hr hgd (by decide) (aCons (eVar 0) (aCons (eVar 1) aNil))))
  (bCons (stIf (cOf (cwOr (cNot (cVal (eCall c_is_tuple hr hgd (by decide) (aCons (eVar 2) (aCons (eGInt fx.int_PAIR_stuck) (aCons (eGInt fx.int_PAIR_stuck) aNil)))))) (cw1O (cNot (cVal (eIsI kt_str fx.free_isinstance fx.free_str (by decide +kernel) (eIx xIx (eVar 2) eInt))))))) (bOne (stRet eBool)) bNil)
  (bCons (stSet 3 nd (eRange2 fx.free_range (aCons (eIx xIx (eVar 1) eInt) (aCons (eOp oAdd (eIx xIx (eVar 1) eInt) eInt) aNil))))
  (bCons (stIf (cCmp (oEq hr) (eIx xIx (eVar 2) eInt) (eGStr fx.str_NEVER)) (bOne (stRet (bvAnd (eTru (eCall c_is_integer hr hgd (by decide) (aCons (eIx xIx (eVar 2) eInt) (aCons (eIx xIx (eVar 1) eInt) (aCons (eIx xIx (eVar 1) eInt) aNil))))) (bv1 (bvNot (eTru (eBlt (bAny rfl) fx.free_any (aCons (eComp (own := [("one", 4)]) rfl nd (iRgV (eVar 3)) (blkOk_by (by rfl)) (fun _ _ _ _ _ => (gNm 4 nd)) (fun _ _ _ _ _ => t1No) (fun _ _ _ _ _ => (eCall c_parts hr hgd (by decide) (aCons (eVar 0) (aCons (eVar 4) (aCons (eIx xIx (eVar 2) eInt) aNil)))))) aNil)))))))) bNil)
  (bCons (stIf (cOf (cwOr (cCmp (oNe hr) (eIx xIx (eVar 2) eInt) (eGStr fx.str_ROW)) (cw1O (cNot (cVal (eCall c_is_tuple hr hgd (by decide) (aCons (eIx xIx (eVar 2) eInt) (aCons (eGInt fx.int_PAIR_stuck) (aCons (eGInt fx.int_PAIR_stuck) aNil))))))))) (bOne (stRet eBool)) bNil)
  (bCons (stIf (cNot (cVal (eBlt (bAll rfl) fx.free_all (aCons (eComp (own := [("one", 4)]) rfl nd (iSq (eIx xIx (eVar 2) eInt)) (blkOk_by (by rfl)) (fun _ _ _ _ _ => (gNm 4 nd)) (fun _ _ _ _ _ => t1No) (fun _ _ _ _ _ => (eCall c_is_integer hr hgd (by decide) (aCons (eVar 4) (aCons (eIx xIx (eVar 1) eInt) (aCons (eIx xIx (eVar 1) eInt) aNil)))))) aNil)))) (bOne (stRet eBool)) bNil)
  (bOne (stRet (eBlt (bAll rfl) fx.free_all (aCons (eComp (own := [("at", 5)]) rfl nd (iRgV (eVar 3)) (blkOk_by (by rfl)) (fun _ _ _ _ _ => (gNm 5 nd)) (fun _ _ _ _ _ => t1No) (fun _ _ _ _ _ => (eBlt (bAny rfl) fx.free_any (aCons (eComp (own := [("one", 4)]) rfl nd (iSq (eIx xIx (eVar 2) eInt)) (blkOk_by (by rfl)) (fun _ _ _ _ _ => (gNm 4 nd)) (fun _ _ _ _ _ => t1No) (fun _ _ _ _ _ => (eCall c_parts hr hgd (by decide) (aCons (eVar 0) (aCons (eVar 4) (aCons (eVar 5) aNil)))))) aNil)))) aNil))))))))))
theorem ok__law_is_row_right (fx : Fx mg) (c_least_row : Cal P w K mg base 7 "least_row" (spOf g_least_row)) (c_shows_row : Cal P w K mg base 7 "shows_row" (spOf g_shows_row)) (h : FdOf K "_law_is_row_right" (top 51)) (gl : mg "_law_is_row_right" = some (.ref (He.fAd K ("_law_is_row_right", none)))) : Cal P w K mg base 8 "_law_is_row_right" (spOf g__law_is_row_right) := by
  have nd : (["vat", "bounds", "apart", "told", "due", "near"] : List Str).Nodup := by decide
  refine mkFn (N := ["vat", "bounds", "apart", "told", "due", "near"]) (ps := ["vat", "bounds", "apart"]) (k := 7) (s := s__law_is_row_right) h gl ⟨rfl, rfl, rfl, by decide +kernel, rfl, by decide +kernel, by decide +kernel⟩ (fun _ _ _ _ _ _ us hl => match us, hl with | [_, _, _], _ => rfl) (by decide) (fun f cdv A outer s0 H E hr hgd => ?_)
  exact (bCons (stSet 3 nd (eCall c_least_row hr hgd (by decide) (aCons (eVar 0) (aCons (eVar 1) aNil))))
  (bCons (stIf (cOf (cwAnd (cCmp oIsNot (eVar 2) eNone) (cw1A (cCmp oGe (eOp oSub (eIx xIx (eVar 1) eInt) (eIx xIx (eVar 1) eInt)) (eOp oSub (eOp oMul eInt (eVar 2)) eInt))))) (bOne (stSet 4 nd (eTup (aCons eStr (aCons (eTup (aCons (eIx xIx (eVar 1) eInt) (aCons (eOp oSub (eOp oAdd (eIx xIx (eVar 1) eInt) (eOp oMul eInt (eVar 2))) eInt) aNil))) aNil))))) (bOne (stSet 4 nd (eTup (aCons eStr (aCons (eIf (cCmp oIs (eVar 2) eNone) (eIx xIx (eVar 1) eInt) (eBlt (bMax rfl) fx.free_max (aCons (eIx xIx (eVar 1) eInt) (aCons (eOp oAdd (eOp oSub (eIx xIx (eVar 1) eInt) (eVar 2)) eInt) aNil)))) aNil))))))
  (bCons (stIf (cOf (cwOr (cCmp (oNe hr) (eBlt (bRepr hr hgd) fx.free_repr (aCons (eVar 3) aNil)) (eBlt (bRepr hr hgd) fx.free_repr (aCons (eVar 4) aNil))) (cw1O (cCmp oIsNot (eCall c_shows_row hr hgd (by decide) (aCons (eVar 0) (aCons (eVar 1) (aCons (eVar 3) aNil)))) eBool)))) (bOne (stRet eBool)) bNil)
  (bCons (stIf (cCmp (oEq hr) (eIx xIx (eVar 4) eInt) eStr) (bOne (stRet (eCmp oIs (eCall c_shows_row hr hgd (by decide) (aCons (eVar 0) (aCons (eVar 1) (aCons (eTup (aCons eStr (aCons (eVar 1) aNil))) aNil)))) eBool))) bNil)
  (bCons (stSet 5 nd (eTup (aCons (eIx xIx (eVar 1) eInt) (aCons (eOp oSub (eOp oAdd (eIx xIx (eVar 1) eInt) (eOp oMul eInt (eVar 2))) eInt) aNil))))
  (bCons (stIf (cOf (cwOr (cCmp oIsNot (eCall c_shows_row hr hgd (by decide) (aCons (eVar 0) (aCons (eVar 1) (aCons (eTup (aCons eStr (aCons (eVar 5) aNil))) aNil)))) eBool) (cw1O (cCmp oIsNot (eCall c_shows_row hr hgd (by decide) (aCons (eVar 0) (aCons (eVar 1) (aCons (eTup (aCons eStr (aCons (eVar 1) aNil))) aNil)))) eBool)))) (bOne (stRet eBool)) bNil)
  (bOne (stRet (eCmp oIs (eCall c_shows_row hr hgd (by decide) (aCons (eVar 0) (aCons (eVar 1) (aCons (eTup (aCons eStr (aCons (eIx xIx (eVar 1) eInt) aNil))) aNil)))) eBool)))))))))
theorem ok__law_far (fx : Fx mg) (h : FdOf K "_law_far" (top 50)) (gl : mg "_law_far" = some (.ref (He.fAd K ("_law_far", none)))) : Cal P w K mg base 1 "_law_far" (spOf g__law_far) := by
  have nd : (["apart", "one", "other"] : List Str).Nodup := by decide
  refine mkFn (N := ["apart", "one", "other"]) (ps := ["apart", "one", "other"]) (k := 0) (s := s__law_far) h gl ⟨rfl, rfl, rfl, by decide +kernel, rfl, by decide +kernel, by decide +kernel⟩ (fun _ _ _ _ _ _ us hl => match us, hl with | [_, _, _], _ => rfl) (by decide) (fun f cdv A outer s0 H E hr hgd => ?_)
  exact (bOne (stRet (bvAnd (eTru (eCmp oIsNot (eVar 0) eNone)) (bv1 (eTru (eCmp oGe (eBlt bAbs fx.free_abs (aCons (eOp oSub (eVar 1) (eVar 2)) aNil)) (eVar 0)))))))
theorem ok_check_level (fx : Fx mg) (c_check_vat : Cal P w K mg base 5 "check_vat" (spOf g_check_vat)) (c_is_integer : Cal P w K mg base 2 "is_integer" (spOf g_is_integer)) (h : FdOf K "check_level" (top 23)) (gl : mg "check_level" = some (.ref (He.fAd K ("check_level", none)))) : Cal P w K mg base 6 "check_level" (spOf g_check_level) := by
  have nd : (["vat", "value"] : List Str).Nodup := by decide
  refine mkFn (N := ["vat", "value"]) (ps := ["vat", "value"]) (k := 5) (s := s_check_level) h gl ⟨rfl, rfl, rfl, by decide +kernel, rfl, by decide +kernel, by decide +kernel⟩ (fun _ _ _ _ _ _ us hl => match us, hl with | [_, _], _ => rfl) (by decide) (fun f cdv A outer s0 H E hr hgd => ?_)
  exact (bCons (stExpr (eCall c_check_vat hr hgd (by decide) (aCons (eVar 0) aNil)))
  (bOne (stIf (cNot (cVal (eCall c_is_integer hr hgd (by decide) (aCons (eVar 1) (aCons (eIx xIx (eIx xIx (eVar 0) (eGInt fx.int_TRIPLE_vats)) eInt) (aCons (eIx xIx (eIx xIx (eVar 0) (eGInt fx.int_TRIPLE_vats)) eInt) aNil)))))) (bOne stStop) bNil)))
theorem ok_is_told (fx : Fx mg) (c_check_bounds : Cal P w K mg base 6 "check_bounds" (spOf g_check_bounds)) (c_check_level : Cal P w K mg base 6 "check_level" (spOf g_check_level)) (c_is_tuple : Cal P w K mg base 1 "is_tuple" (spOf g_is_tuple)) (c_is_integer : Cal P w K mg base 2 "is_integer" (spOf g_is_integer)) (c_parts : Cal P w K mg base 2 "parts" (spOf g_parts)) (h : FdOf K "is_told" (top 43)) (gl : mg "is_told" = some (.ref (He.fAd K ("is_told", none)))) : Cal P w K mg base 7 "is_told" (spOf g_is_told) := by
  have nd : (["vat", "bounds", "level", "settings", "at", "one"] : List Str).Nodup := by decide
  refine mkFn (N := ["vat", "bounds", "level", "settings", "at", "one"]) (ps := ["vat", "bounds", "level", "settings"]) (k := 6) (s := s_is_told) h gl ⟨rfl, rfl, rfl, by decide +kernel, rfl, by decide +kernel, by decide +kernel⟩ (fun _ _ _ _ _ _ us hl => match us, hl with | [_, _, _, _], _ => rfl) (by decide) (fun f cdv A outer s0 H E hr hgd => ?_)
  exact (bCons (stExpr (eCall c_check_bounds hr hgd (by decide) (aCons (eVar 0) (aCons (eVar 1) aNil))))
  (bCons (stExpr (eCall c_check_level hr hgd (by decide) (aCons (eVar 0) (aCons (eVar 2) aNil))))
  (bCons (stIf (cOf (cwOr (cNot (cVal (eCall c_is_tuple hr hgd (by decide) (aCons (eVar 3) (aCons eInt (aCons (eGInt fx.int_MOST_SEEN) aNil)))))) (cw1O (cNot (cVal (eBlt (bAll rfl) fx.free_all (aCons (eComp (own := [("at", 4)]) rfl nd (iSq (eVar 3)) (blkOk_by (by rfl)) (fun _ _ _ _ _ => (gNm 4 nd)) (fun _ _ _ _ _ => t1No) (fun _ _ _ _ _ => (eCall c_is_integer hr hgd (by decide) (aCons (eVar 4) (aCons (eIx xIx (eVar 1) eInt) (aCons (eIx xIx (eVar 1) eInt) aNil)))))) aNil))))))) (bOne stStop) bNil)
  (bOne (stRet (eBlt (bAll rfl) fx.free_all (aCons (eComp (own := [("at", 4)]) rfl nd (iRg2 fx.free_range (aCons (eIx xIx (eVar 1) eInt) (aCons (eOp oAdd (eIx xIx (eVar 1) eInt) eInt) aNil))) (blkOk_by (by rfl)) (fun _ _ _ _ _ => (gNm 4 nd)) (fun _ _ _ _ _ => t1No) (fun _ _ _ _ _ => (eBlt (bAny rfl) fx.free_any (aCons (eComp (own := [("one", 5)]) rfl nd (iSq (eVar 3)) (blkOk_by (by rfl)) (fun _ _ _ _ _ => (gNm 5 nd)) (fun _ _ _ _ _ => t1No) (fun _ _ _ _ _ => (eCall c_parts hr hgd (by decide) (aCons (eVar 0) (aCons (eVar 5) (aCons (eVar 4) aNil)))))) aNil)))) aNil)))))))
theorem ok_telling (fx : Fx mg) (c_check_bounds : Cal P w K mg base 6 "check_bounds" (spOf g_check_bounds)) (c_is_integer : Cal P w K mg base 2 "is_integer" (spOf g_is_integer)) (c_parts : Cal P w K mg base 2 "parts" (spOf g_parts)) (h : FdOf K "telling" (top 40)) (gl : mg "telling" = some (.ref (He.fAd K ("telling", none)))) : Cal P w K mg base 7 "telling" (spOf g_telling) := by
  have nd : (["vat", "bounds", "at", "one"] : List Str).Nodup := by decide
  refine mkFn (N := ["vat", "bounds", "at", "one"]) (ps := ["vat", "bounds", "at"]) (k := 6) (s := s_telling) h gl ⟨rfl, rfl, rfl, by decide +kernel, rfl, by decide +kernel, by decide +kernel⟩ (fun _ _ _ _ _ _ us hl => match us, hl with | [_, _, _], _ => rfl) (by decide) (fun f cdv A outer s0 H E hr hgd => ?_)
  exact (bCons (stExpr (eCall c_check_bounds hr hgd (by decide) (aCons (eVar 0) (aCons (eVar 1) aNil))))
  (bCons (stIf (cNot (cVal (eCall c_is_integer hr hgd (by decide) (aCons (eVar 2) (aCons (eIx xIx (eVar 1) eInt) (aCons (eIx xIx (eVar 1) eInt) aNil)))))) (bOne stStop) bNil)
  (bOne (stRet (eTy bTuple fx.free_tuple (aCons (eComp (own := [("one", 3)]) rfl nd (iRg2 fx.free_range (aCons (eIx xIx (eVar 1) eInt) (aCons (eOp oAdd (eIx xIx (eVar 1) eInt) eInt) aNil))) (blkOk_by (by rfl)) (fun _ _ _ _ _ => (gNm 3 nd)) (fun _ _ _ _ _ => (t1One (cVal (eCall c_parts hr hgd (by decide) (aCons (eVar 0) (aCons (eVar 3) (aCons (eVar 2) aNil))))))) (fun _ _ _ _ _ => (eVar 3))) aNil))))))
theorem ok__law_are_rows_told (fx : Fx mg) (c__law_take : Cal P w K mg base 1 "_law_take" (spOf g__law_take)) (c__law_far : Cal P w K mg base 1 "_law_far" (spOf g__law_far)) (c_is_told : Cal P w K mg base 7 "is_told" (spOf g_is_told)) (c_telling : Cal P w K mg base 7 "telling" (spOf g_telling)) (h : FdOf K "_law_are_rows_told" (top 52)) (gl : mg "_law_are_rows_told" = some (.ref (He.fAd K ("_law_are_rows_told", none)))) : Cal P w K mg base 8 "_law_are_rows_told" (spOf g__law_are_rows_told) := by
  have nd : (["pot", "vat", "bounds", "apart", "sets", "lap", "some", "row", "due", "one", "at", "level"] : List Str).Nodup := by decide
  refine mkFn (N := ["pot", "vat", "bounds", "apart", "sets", "lap", "some", "row", "due", "one", "at", "level"]) (ps := ["pot", "vat", "bounds", "apart"]) (k := 7) (s := s__law_are_rows_told) h gl ⟨rfl, rfl, rfl, by decide +kernel, rfl, by decide +kernel, by decide +kernel⟩ (fun _ _ _ _ _ _ us hl => match us, hl with | [_, _, _, _], _ => rfl) (by decide) (fun f cdv A outer s0 H E hr hgd => ?_)
  exact (bCons (stSetLc 4 (own := [("lap", 5)]) rfl nd (iRg1 fx.free_range (aCons (eCall c__law_take hr hgd (by decide) (aCons (eVar 0) (aCons eInt aNil))) aNil)) (blkOk_by (by rfl)) (fun _ _ _ _ _ => (gNm 5 nd)) (fun _ _ _ _ _ => t1No) (fun _ _ _ _ _ => (eOp oAdd (eIx xIx (eVar 2) eInt) (eCall c__law_take hr hgd (by decide) (aCons (eVar 0) (aCons (eOp oAdd (eOp oSub (eIx xIx (eVar 2) eInt) (eIx xIx (eVar 2) eInt)) eInt) aNil))))) (sw_true rfl rfl rfl rfl))
  (bCons (stSet 6 nd (eLst (aCons (eVar 4) (aCons (eOp oMul (eVar 4) eInt) (aCons (eOp oAdd (eVar 4) (eLst (aCons (eIx xIx (eVar 2) eInt) aNil))) (aCons (eOp oAdd (eVar 4) (eLst (aCons (eIx xIx (eVar 2) eInt) (aCons (eIx xIx (eVar 2) eInt) aNil)))) (aCons (eOp oAdd (eLst (aCons (eIx xIx (eVar 2) eInt) aNil)) (eSl xSl (eVar 4) oNo (oPart eInt))) aNil)))))))
  (bCons (stFor PassesOwn.never rfl (iSq (eVar 6)) (gNm 7 nd)
  (bCons (stSet 8 nd (eBlt (bAll rfl) fx.free_all (aCons (eComp (own := [("at", 10)]) rfl nd (iRg2 fx.free_range (aCons (eIx xIx (eVar 2) eInt) (aCons (eOp oAdd (eIx xIx (eVar 2) eInt) eInt) aNil))) (blkOk_by (by rfl)) (fun _ _ _ _ _ => (gNm 10 nd)) (fun _ _ _ _ _ => t1No) (fun _ _ _ _ _ => (eBlt (bAny rfl) fx.free_any (aCons (eComp (own := [("one", 9)]) rfl nd (iSq (eVar 7)) (blkOk_by (by rfl)) (fun _ _ _ _ _ => (gNm 9 nd)) (fun _ _ _ _ _ => t1No) (fun _ _ _ _ _ => (eCall c__law_far hr hgd (by decide) (aCons (eVar 3) (aCons (eVar 9) (aCons (eVar 10) aNil)))))) aNil)))) aNil)))
  (bCons (stSet 11 nd (eOp oSub (eCall c__law_take hr hgd (by decide) (aCons (eVar 0) (aCons eInt aNil))) eInt))
  (bOne (stIf (cCmp (oNe hr) (eBlt (bRepr hr hgd) fx.free_repr (aCons (eCall c_is_told hr hgd (by decide) (aCons (eVar 1) (aCons (eVar 2) (aCons (eVar 11) (aCons (eTy bTuple fx.free_tuple (aCons (eSl xSl (eVar 7) oNo (oPart eInt)) aNil)) aNil))))) aNil)) (eBlt (bRepr hr hgd) fx.free_repr (aCons (eVar 8) aNil))) (bOne (stRet eBool)) bNil)))))
  (bCons (stSet 10 nd (eOp oAdd (eIx xIx (eVar 2) eInt) (eCall c__law_take hr hgd (by decide) (aCons (eVar 0) (aCons (eOp oAdd (eOp oSub (eIx xIx (eVar 2) eInt) (eIx xIx (eVar 2) eInt)) eInt) aNil)))))
  (bCons (stSetLc 8 (own := [("one", 9)]) rfl nd (iRg2 fx.free_range (aCons (eIx xIx (eVar 2) eInt) (aCons (eOp oAdd (eIx xIx (eVar 2) eInt) eInt) aNil))) (blkOk_by (by rfl)) (fun _ _ _ _ _ => (gNm 9 nd)) (fun _ _ _ _ _ => (t1One (cVal (eCall c__law_far hr hgd (by decide) (aCons (eVar 3) (aCons (eVar 9) (aCons (eVar 10) aNil))))))) (fun _ _ _ _ _ => (eVar 9)) (sw_true rfl rfl rfl rfl))
  (bOne (stRet (eCmp (oEq hr) (eBlt (bRepr hr hgd) fx.free_repr (aCons (eCall c_telling hr hgd (by decide) (aCons (eVar 1) (aCons (eVar 2) (aCons (eVar 10) aNil)))) aNil)) (eBlt (bRepr hr hgd) fx.free_repr (aCons (eTy bTuple fx.free_tuple (aCons (eVar 8) aNil)) aNil))))))))))
theorem ok_is_seen (fx : Fx mg) (c_is_tuple : Cal P w K mg base 1 "is_tuple" (spOf g_is_tuple)) (c_is_integer : Cal P w K mg base 2 "is_integer" (spOf g_is_integer)) (h : FdOf K "is_seen" (top 35)) (gl : mg "is_seen" = some (.ref (He.fAd K ("is_seen", none)))) : Cal P w K mg base 3 "is_seen" (spOf g_is_seen) := by
  have nd : (["vat", "bounds", "value", "one", "at", "level"] : List Str).Nodup := by decide
  refine mkFn (N := ["vat", "bounds", "value", "one", "at", "level"]) (ps := ["vat", "bounds", "value"]) (k := 2) (s := s_is_seen) h gl ⟨rfl, rfl, rfl, by decide +kernel, rfl, by decide +kernel, by decide +kernel⟩ (fun _ _ _ _ _ _ us hl => match us, hl with | [_, _, _], _ => rfl) (by decide) (fun f cdv A outer s0 H E hr hgd => ?_)
  exact (bCons (stIf (cOf (cwOr (cNot (cVal (eCall c_is_tuple hr hgd (by decide) (aCons (eVar 2) (aCons (eGInt fx.int_PAIR_stuck) (aCons (eGInt fx.int_PAIR_stuck) aNil)))))) (cw1O (cNot (cVal (eBlt (bAll rfl) fx.free_all (aCons (eComp (own := [("one", 3)]) rfl nd (iSq (eVar 2)) (blkOk_by (by rfl)) (fun _ _ _ _ _ => (gNm 3 nd)) (fun _ _ _ _ _ => t1No) (fun _ _ _ _ _ => (eCall c_is_tuple hr hgd (by decide) (aCons (eVar 3) (aCons eInt (aCons (eOp oAdd (eGInt fx.int_MOST_SEEN) eInt) aNil)))))) aNil))))))) (bOne (stRet eBool)) bNil)
  (bCons (stIf (cOf (cwOr (cCmp (oNe hr) (eBlt bLen fx.free_len (aCons (eIx xIx (eVar 2) eInt) aNil)) (eOp oAdd (eBlt bLen fx.free_len (aCons (eIx xIx (eVar 2) eInt) aNil)) eInt)) (cw1O (cNot (cVal (eBlt (bAll rfl) fx.free_all (aCons (eComp (own := [("at", 4)]) rfl nd (iSq (eIx xIx (eVar 2) eInt)) (blkOk_by (by rfl)) (fun _ _ _ _ _ => (gNm 4 nd)) (fun _ _ _ _ _ => t1No) (fun _ _ _ _ _ => (eCall c_is_integer hr hgd (by decide) (aCons (eVar 4) (aCons (eIx xIx (eVar 1) eInt) (aCons (eIx xIx (eVar 1) eInt) aNil)))))) aNil))))))) (bOne (stRet eBool)) bNil)
  (bOne (stRet (eBlt (bAll rfl) fx.free_all (aCons (eComp (own := [("level", 5)]) rfl nd (iSq (eIx xIx (eVar 2) eInt)) (blkOk_by (by rfl)) (fun _ _ _ _ _ => (gNm 5 nd)) (fun _ _ _ _ _ => t1No) (fun _ _ _ _ _ => (eCall c_is_integer hr hgd (by decide) (aCons (eVar 5) (aCons (eIx xIx (eIx xIx (eVar 0) (eGInt fx.int_TRIPLE_stuck)) eInt) (aCons (eIx xIx (eIx xIx (eVar 0) (eGInt fx.int_TRIPLE_stuck)) eInt) aNil)))))) aNil))))))
theorem ok_all_faults (fx : Fx mg) (h : FdOf K "all_faults" (top 34)) (gl : mg "all_faults" = some (.ref (He.fAd K ("all_faults", none)))) : Cal P w K mg base 1 "all_faults" (spOf g_all_faults) := by
  have nd : (["bounds", "at"] : List Str).Nodup := by decide
  refine mkFn (N := ["bounds", "at"]) (ps := ["bounds"]) (k := 0) (s := s_all_faults) h gl ⟨rfl, rfl, rfl, by decide +kernel, rfl, by decide +kernel, by decide +kernel⟩ (fun _ _ _ _ _ _ us hl => match us, hl with | [_], _ => rfl) (by decide) (fun f cdv A outer s0 H E hr hgd => ?_)
  exact (bOne (stRet (eLst (aCons (eTup (aCons (eGStr fx.str_FINE) aNil)) (aStar (eComp (own := [("at", 1)]) rfl nd (iRg2 fx.free_range (aCons (eIx xIx (eVar 0) eInt) (aCons (eOp oAdd (eIx xIx (eVar 0) eInt) eInt) aNil))) (blkOk_by (by rfl)) (fun _ _ _ _ _ => (gNm 1 nd)) (fun _ _ _ _ _ => t1No) (fun _ _ _ _ _ => (eTup (aCons (eGStr fx.str_STUCK) (aCons (eVar 1) aNil))))) aNil)))))
theorem ok_level_by (fx : Fx mg) (h : FdOf K "level_by" (top 24)) (gl : mg "level_by" = some (.ref (He.fAd K ("level_by", none)))) : Cal P w K mg base 1 "level_by" (spOf g_level_by) := by
  have nd : (["vat", "level", "lever", "weather"] : List Str).Nodup := by decide
  refine mkFn (N := ["vat", "level", "lever", "weather"]) (ps := ["vat", "level", "lever", "weather"]) (k := 0) (s := s_level_by) h gl ⟨rfl, rfl, rfl, by decide +kernel, rfl, by decide +kernel, by decide +kernel⟩ (fun _ _ _ _ _ _ us hl => match us, hl with | [_, _, _, _], _ => rfl) (by decide) (fun f cdv A outer s0 H E hr hgd => ?_)
  exact (bOne (stRet (eOp oAdd (eOp oAdd (eOp oDiv (eOp oMul (eIx xIx (eVar 0) eInt) (eVar 1)) (eIx xIx (eVar 0) eInt)) (eOp oMul (eIx xIx (eVar 0) (eGInt fx.int_PAIR_vats)) (eVar 2))) (eVar 3))))
theorem ok_fits (fx : Fx mg) (c_level_by : Cal P w K mg base 1 "level_by" (spOf g_level_by)) (h : FdOf K "fits" (top 36)) (gl : mg "fits" = some (.ref (He.fAd K ("fits", none)))) : Cal P w K mg base 2 "fits" (spOf g_fits) := by
  have nd : (["vat", "fault", "at", "one", "other", "real", "low", "high"] : List Str).Nodup := by decide
  refine mkFn (N := ["vat", "fault", "at", "one", "other", "real", "low", "high"]) (ps := ["vat", "fault", "at", "one", "other"]) (k := 1) (s := s_fits) h gl ⟨rfl, rfl, rfl, by decide +kernel, rfl, by decide +kernel, by decide +kernel⟩ (fun _ _ _ _ _ _ us hl => match us, hl with | [_, _, _, _, _], _ => rfl) (by decide) (fun f cdv A outer s0 H E hr hgd => ?_)
  exact (bCons (stSet 5 nd (eIf (cCmp (oEq hr) (eIx xIx (eVar 1) eInt) (eGStr fx.str_FINE)) (eVar 2) (eIx xIx (eVar 1) eInt)))
  (bCons (stAsg (eIx xIx (eVar 0) (eOp oAdd (eGInt fx.int_TRIPLE_stuck) eInt)) (gTp rfl (gCo (gNm 6 nd) (gCo (gNm 7 nd) gNo))))
  (bOne (stRet (eChain oLe oLe (eCall c_level_by hr hgd (by decide) (aCons (eVar 0) (aCons (eVar 3) (aCons (eVar 5) (aCons (eVar 6) aNil))))) (eVar 4) (eCall c_level_by hr hgd (by decide) (aCons (eVar 0) (aCons (eVar 3) (aCons (eVar 5) (aCons (eVar 7) aNil))))))))))
theorem ok_may_be (fx : Fx mg) (c_check_bounds : Cal P w K mg base 6 "check_bounds" (spOf g_check_bounds)) (c_is_seen : Cal P w K mg base 3 "is_seen" (spOf g_is_seen)) (c_all_faults : Cal P w K mg base 1 "all_faults" (spOf g_all_faults)) (c_fits : Cal P w K mg base 2 "fits" (spOf g_fits)) (h : FdOf K "may_be" (top 37)) (gl : mg "may_be" = some (.ref (He.fAd K ("may_be", none)))) : Cal P w K mg base 7 "may_be" (spOf g_may_be) := by
  have nd : (["vat", "bounds", "seen", "found", "fault", "at", "one", "other"] : List Str).Nodup := by decide
  refine mkFn (N := ["vat", "bounds", "seen", "found", "fault", "at", "one", "other"]) (ps := ["vat", "bounds", "seen"]) (k := 6) (s := s_may_be) h gl ⟨rfl, rfl, rfl, by decide +kernel, rfl, by decide +kernel, by decide +kernel⟩ (fun _ _ _ _ _ _ us hl => match us, hl with | [_, _, _], _ => rfl) (by decide) (fun f cdv A outer s0 H E hr hgd => ?_)
  exact (bCons (stExpr (eCall c_check_bounds hr hgd (by decide) (aCons (eVar 0) (aCons (eVar 1) aNil))))
  (bCons (stIf (cNot (cVal (eCall c_is_seen hr hgd (by decide) (aCons (eVar 0) (aCons (eVar 1) (aCons (eVar 2) aNil)))))) (bOne stStop) bNil)
  (bCons (stSet 3 nd (eLst aNil))
  (bCons (stFor PassesOwn.never rfl (iSq (eCall c_all_faults hr hgd (by decide) (aCons (eVar 1) aNil))) (gNm 4 nd)
  (bOne (stIf (cVal (eBlt (bAll rfl) fx.free_all (aCons (eComp (own := [("at", 5), ("one", 6), ("other", 7)]) rfl nd (iZip3 fx.free_zip (aCons (eIx xIx (eVar 2) eInt) (aCons (eIx xIx (eVar 2) eInt) (aCons (eSl xSl (eIx xIx (eVar 2) eInt) (oPart eInt) oNo) aNil)))) (blkOk_by (by rfl)) (fun _ _ _ _ _ => (gTp rfl (gCo (gNm 5 nd) (gCo (gNm 6 nd) (gCo (gNm 7 nd) gNo))))) (fun _ _ _ _ _ => t1No) (fun _ _ _ _ _ => (eCall c_fits hr hgd (by decide) (aCons (eVar 0) (aCons (eVar 4) (aCons (eVar 5) (aCons (eVar 6) (aCons (eVar 7) aNil)))))))) aNil))) (bOne (stApp 3 (eVar 4))) bNil)))
  (bOne (stRet (eTy bTuple fx.free_tuple (aCons (eVar 3) aNil))))))))
theorem ok__law_is_course_right (fx : Fx mg) (c__law_take : Cal P w K mg base 1 "_law_take" (spOf g__law_take)) (c__law_of : Cal P w K mg base 2 "_law_of" (spOf g__law_of)) (c_may_be : Cal P w K mg base 7 "may_be" (spOf g_may_be)) (h : FdOf K "_law_is_course_right" (top 53)) (gl : mg "_law_is_course_right" = some (.ref (He.fAd K ("_law_is_course_right", none)))) : Cal P w K mg base 8 "_law_is_course_right" (spOf g__law_is_course_right) := by
  have nd : (["pot", "vat", "bounds", "least", "most", "fault", "level", "sets", "levels", "real", "beat", "at", "weather", "new", "changes", "one", "due", "open_ones", "told"] : List Str).Nodup := by decide
  refine mkFn (N := ["pot", "vat", "bounds", "least", "most", "fault", "level", "sets", "levels", "real", "beat", "at", "weather", "new", "changes", "one", "due", "open_ones", "told"]) (ps := ["pot", "vat", "bounds"]) (k := 7) (s := s__law_is_course_right) h gl ⟨rfl, rfl, rfl, by decide +kernel, rfl, by decide +kernel, by decide +kernel⟩ (fun _ _ _ _ _ _ us hl => match us, hl with | [_, _, _], _ => rfl) (by decide) (fun f cdv A outer s0 H E hr hgd => ?_)
  exact (bCons (stAsg (eIx xIx (eVar 1) eInt) (gTp rfl (gCo (gNm 3 nd) (gCo (gNm 4 nd) gNo))))
  (bCons (stParT [5, 6, 7, 8] rfl (aCons (eCall c__law_of hr hgd (by decide) (aCons (eVar 0) (aCons (eLst (aCons eNone (aCons eInt (aCons eInt aNil)))) aNil))) (aCons (eOp oSub (eCall c__law_take hr hgd (by decide) (aCons (eVar 0) (aCons eInt aNil))) eInt) (aCons (eLst aNil) (aCons (eLst aNil) aNil)))) (pgs_cons (pg_name nd rfl (.inl rfl) (.inl rfl)) (pgs_cons (pg_name nd rfl (.inl rfl) (.inl rfl)) (pgs_cons (pg_name nd rfl (.inl rfl) (.inl rfl)) (pgs_cons (pg_name nd rfl (.inl rfl) (.inl rfl)) pgs_nil)))) (fun us σ H Q hl q => match us, hl, q with | [_, _, _, _], _, q => ⟨_, _, rfl, ⟨_, _, rfl, ⟨_, _, rfl, ⟨_, _, rfl, ⟨rfl, q⟩⟩⟩⟩⟩))
  (bCons (stSet 9 nd (eOp oAdd (eIx xIx (eVar 2) eInt) (eCall c__law_take hr hgd (by decide) (aCons (eVar 0) (aCons (eOp oAdd (eOp oSub (eIx xIx (eVar 2) eInt) (eIx xIx (eVar 2) eInt)) eInt) aNil)))))
  (bCons (stApp 8 (eVar 6))
  (bCons (stFor PassesOwn.never rfl (iRg1 fx.free_range (aCons (eCall c__law_take hr hgd (by decide) (aCons (eVar 0) (aCons eInt aNil))) aNil)) (gNm 10 nd)
  (bCons (stSet 11 nd (eOp oAdd (eIx xIx (eVar 2) eInt) (eCall c__law_take hr hgd (by decide) (aCons (eVar 0) (aCons (eOp oAdd (eOp oSub (eIx xIx (eVar 2) eInt) (eIx xIx (eVar 2) eInt)) eInt) aNil)))))
  (bCons (stSet 12 nd (eOp oAdd (eVar 3) (eCall c__law_take hr hgd (by decide) (aCons (eVar 0) (aCons (eOp oAdd (eOp oSub (eVar 4) (eVar 3)) eInt) aNil)))))
  (bCons (stSet 13 nd (eOp oAdd (eOp oAdd (eIx xIx (eVar 8) (eUn uNeg eInt)) (eOp oMul (eIx xIx (eVar 1) eInt) (eIf (cCmp oIs (eVar 5) eNone) (eVar 11) (eVar 9)))) (eVar 12)))
  (bOne (stIf (cChain oLe oLe (eUn uNeg eInt) (eVar 13) eInt) (bCons (stApp 7 (eVar 11))
  (bOne (stApp 8 (eVar 13)))) bNil))))))
  (bCons (stSetLc 14 (own := [("one", 15), ("new", 13)]) rfl nd (iZip2 fx.free_zip (aCons (eVar 8) (aCons (eSl xSl (eVar 8) (oPart eInt) oNo) aNil))) (blkOk_by (by rfl)) (fun _ _ _ _ _ => (gTp rfl (gCo (gNm 15 nd) (gCo (gNm 13 nd) gNo)))) (fun _ _ _ _ _ => t1No) (fun _ _ _ _ _ => (eOp oSub (eVar 13) (eVar 15))) (sw_true rfl rfl rfl rfl))
  (bCons (stSet 16 nd (eIf (cVal (eBlt (bAll rfl) fx.free_all (aCons (eComp (own := [("one", 15), ("at", 11)]) rfl nd (iZip2 fx.free_zip (aCons (eVar 14) (aCons (eVar 7) aNil))) (blkOk_by (by rfl)) (fun _ _ _ _ _ => (gTp rfl (gCo (gNm 15 nd) (gCo (gNm 11 nd) gNo)))) (fun _ _ _ _ _ => t1No) (fun _ _ _ _ _ => (eChain oLe oLe (eVar 3) (eOp oSub (eVar 15) (eOp oMul (eIx xIx (eVar 1) eInt) (eVar 11))) (eVar 4)))) aNil))) (eLst (aCons (eTup (aCons eStr aNil)) aNil)) (eLst aNil)))
  (bCons (stSet 17 nd (eLst aNil))
  (bCons (stFor PassesOwn.never rfl (iRg2 fx.free_range (aCons (eIx xIx (eVar 2) eInt) (aCons (eOp oAdd (eIx xIx (eVar 2) eInt) eInt) aNil))) (gNm 11 nd)
  (bOne (stIf (cOf (cwOr (cCmp (oEq hr) (eVar 14) (eLst aNil)) (cw1O (cOf (cwAnd (cCmp oLe (eVar 3) (eOp oSub (eBlt (bMin rfl) fx.free_min (aCons (eVar 14) aNil)) (eOp oMul (eIx xIx (eVar 1) eInt) (eVar 11)))) (cw1A (cCmp oLe (eOp oSub (eBlt (bMax rfl) fx.free_max (aCons (eVar 14) aNil)) (eOp oMul (eIx xIx (eVar 1) eInt) (eVar 11))) (eVar 4)))))))) (bOne (stApp 17 (eVar 11))) bNil)))
  (bCons (stExt 16 (eComp (own := [("at", 11)]) rfl nd (iSq (eVar 17)) (blkOk_by (by rfl)) (fun _ _ _ _ _ => (gNm 11 nd)) (fun _ _ _ _ _ => t1No) (fun _ _ _ _ _ => (eTup (aCons eStr (aCons (eVar 11) aNil))))))
  (bCons (stSet 18 nd (eCall c_may_be hr hgd (by decide) (aCons (eVar 1) (aCons (eVar 2) (aCons (eTup (aCons (eTy bTuple fx.free_tuple (aCons (eVar 7) aNil)) (aCons (eTy bTuple fx.free_tuple (aCons (eVar 8) aNil)) aNil))) aNil)))))
  (bCons (stIf (cOf (cwOr (cCmp (oNe hr) (eBlt (bRepr hr hgd) fx.free_repr (aCons (eVar 18) aNil)) (eBlt (bRepr hr hgd) fx.free_repr (aCons (eTy bTuple fx.free_tuple (aCons (eVar 16) aNil)) aNil))) (cw1O (cCmp (oNotIn hr) (eIf (cCmp oIs (eVar 5) eNone) (eTup (aCons eStr aNil)) (eTup (aCons eStr (aCons (eVar 9) aNil)))) (eVar 18))))) (bOne (stRet eBool)) bNil)
  (bOne (stRet (bvOr (eTru (eCmp (oEq hr) (eVar 17) (eLst aNil))) (bv1 (eTru (eCmp (oEq hr) (eVar 17) (eListRg2 rfl fx.free_list fx.free_range (eIx xIx (eVar 17) eInt) (eOp oAdd (eIx xIx (eVar 17) (eUn uNeg eInt)) eInt))))))))))))))))))))
theorem ok_law (fx : Fx mg) (c__law_places : Cal P w K mg base 1 "_law_places" (spOf g__law_places)) (c__law_pot : Cal P w K mg base 1 "_law_pot" (spOf g__law_pot)) (c__law_drawn : Cal P w K mg base 3 "_law_drawn" (spOf g__law_drawn)) (c__law_is_row_right : Cal P w K mg base 8 "_law_is_row_right" (spOf g__law_is_row_right)) (c__law_are_rows_told : Cal P w K mg base 8 "_law_are_rows_told" (spOf g__law_are_rows_told)) (c__law_is_course_right : Cal P w K mg base 8 "_law_is_course_right" (spOf g__law_is_course_right)) (h : FdOf K "law" (top 54)) (gl : mg "law" = some (.ref (He.fAd K ("law", none)))) : Cal P w K mg base 9 "law" (spOf g_law) := by
  have nd : (["script", "place", "pot", "vat", "bounds", "apart"] : List Str).Nodup := by decide
  refine mkFn (N := ["script", "place", "pot", "vat", "bounds", "apart"]) (ps := ["script"]) (k := 8) (s := s_law) h gl ⟨rfl, rfl, rfl, by decide +kernel, rfl, by decide +kernel, by decide +kernel⟩ (fun _ _ _ _ _ _ us hl => match us, hl with | [_], _ => rfl) (by decide) (fun f cdv A outer s0 H E hr hgd => ?_)
  exact (bCons (stFor PassesOwn.never rfl (iSq (eCall c__law_places hr hgd (by decide) (aCons (eVar 0) (aCons eInt aNil)))) (gNm 1 nd)
  (bCons (stSet 2 nd (eCall c__law_pot hr hgd (by decide) (aCons (eVar 0) (aCons (eVar 1) aNil))))
  (bCons (stAsg (eCall c__law_drawn hr hgd (by decide) (aCons (eVar 2) aNil)) (gTp rfl (gCo (gNm 3 nd) (gCo (gNm 4 nd) (gCo (gNm 5 nd) gNo)))))
  (bCons (stIf (cOf (cwOr (cNot (cVal (eCall c__law_is_row_right hr hgd (by decide) (aCons (eVar 3) (aCons (eVar 4) (aCons (eVar 5) aNil)))))) (cw1O (cNot (cVal (eCall c__law_are_rows_told hr hgd (by decide) (aCons (eVar 2) (aCons (eVar 3) (aCons (eVar 4) (aCons (eVar 5) aNil)))))))))) (bOne (stRet eBool)) bNil)
  (bOne (stIf (cNot (cVal (eCall c__law_is_course_right hr hgd (by decide) (aCons (eVar 2) (aCons (eVar 3) (aCons (eVar 4) aNil)))))) (bOne (stRet eBool)) bNil))))))
  (bOne (stRet eBool)))
end
section
variable {P : Program} {w : World} {K : PySem.W.Frag} {mg : Str → Option Value} {base : Heap}
theorem fn_law (fx : Fx mg) (c__law_places : Cal P w K mg base 1 "_law_places" (spOf g__law_places)) (c__law_pot : Cal P w K mg base 1 "_law_pot" (spOf g__law_pot)) (c__law_drawn : Cal P w K mg base 3 "_law_drawn" (spOf g__law_drawn)) (c__law_is_row_right : Cal P w K mg base 8 "_law_is_row_right" (spOf g__law_is_row_right)) (c__law_are_rows_told : Cal P w K mg base 8 "_law_are_rows_told" (spOf g__law_are_rows_told)) (c__law_is_course_right : Cal P w K mg base 8 "_law_is_course_right" (spOf g__law_is_course_right)) {fd : FuncData} (FD : FunD K "law" "law" (defArgs (top 54)) (defBody (top 54)) (defScope (top 54)) [] [] (He.fAd K ("law", none)) fd) (gl : mg "law" = some (.ref (He.fAd K ("law", none)))) : FnG P w K mg base 9 (He.fAd K ("law", none)) fd ["script"] (spOf g_law) := by
  have nd : (["script", "place", "pot", "vat", "bounds", "apart"] : List Str).Nodup := by decide
  refine mkFnG (N := ["script", "place", "pot", "vat", "bounds", "apart"]) (ps := ["script"]) (k := 8) (s := s_law) FD ⟨rfl, rfl, rfl, by decide +kernel, rfl, by decide +kernel, by decide +kernel⟩ (by decide) (fun f cdv A outer s0 H E hr hgd => ?_)
  exact (bCons (stFor PassesOwn.never rfl (iSq (eCall c__law_places hr hgd (by decide) (aCons (eVar 0) (aCons eInt aNil)))) (gNm 1 nd)
  (bCons (stSet 2 nd (eCall c__law_pot hr hgd (by decide) (aCons (eVar 0) (aCons (eVar 1) aNil))))
  (bCons (stAsg (eCall c__law_drawn hr hgd (by decide) (aCons (eVar 2) aNil)) (gTp rfl (gCo (gNm 3 nd) (gCo (gNm 4 nd) (gCo (gNm 5 nd) gNo)))))
  (bCons (stIf (cOf (cwOr (cNot (cVal (eCall c__law_is_row_right hr hgd (by decide) (aCons (eVar 3) (aCons (eVar 4) (aCons (eVar 5) aNil)))))) (cw1O (cNot (cVal (eCall c__law_are_rows_told hr hgd (by decide) (aCons (eVar 2) (aCons (eVar 3) (aCons (eVar 4) (aCons (eVar 5) aNil)))))))))) (bOne (stRet eBool)) bNil)
  (bOne (stIf (cNot (cVal (eCall c__law_is_course_right hr hgd (by decide) (aCons (eVar 2) (aCons (eVar 3) (aCons (eVar 4) aNil)))))) (bOne (stRet eBool)) bNil))))))
  (bOne (stRet eBool)))
end

end L41


set_option Elab.async false
set_option maxRecDepth 100000
set_option linter.all false
namespace L41
open PySem PySem.Spec PyProof.Rows L2 Sd
theorem x_is_tuple {l : List PyData} {lo hi : Int} : g_is_tuple [.val (.tuple l), .val (.int lo), .val (.int hi)] = some (.imm (.bool (decide (lo ≤ l.length) && decide ((l.length : Int) ≤ hi))), [.val (.tuple l), .val (.int lo), .val (.int hi)]) := by
  simp [g_is_tuple, fnS, runF, s_is_tuple]
theorem x_is_whole {i : Int} : g_is_whole [.val (.int i)] = some (.imm (.bool true), [.val (.int i)]) := by
  simp [g_is_whole, fnS, runF, s_is_whole]
theorem x_is_integer {i lo hi : Int} : g_is_integer [.val (.int i), .val (.int lo), .val (.int hi)] = some (.imm (.bool (decide (lo ≤ i) && decide (i ≤ hi))), [.val (.int i), .val (.int lo), .val (.int hi)]) := by
  simp [g_is_integer, fnS, runF, s_is_integer, x_is_whole]
theorem x_is_between {a b m : Int} (h : -m ≤ a ∧ a ≤ b ∧ b ≤ m) : g_is_between [.val (.tuple [.int a, .int b]), .val (.int m)] = some (.imm (.bool true), [.val (.tuple [.int a, .int b]), .val (.int m)]) := by
  have h1 : a ≤ m := by omega
  simp [g_is_between, fnS, runF, s_is_between, x_is_integer, x_is_tuple, h, h1]
abbrev vatD (s lo hi : Int) : PyData := .tuple [.int 1, .int 1, .int s, .tuple [.int (-200), .int 200], .tuple [.int lo, .int hi]]
structure Vt (s lo hi : Int) : Prop where
  s : -20 ≤ s ∧ s ≤ 20
  w : -50 ≤ lo ∧ lo ≤ hi ∧ hi ≤ 50
theorem x_is_vat {s lo hi : Int} (h : Vt s lo hi) : g_is_vat [.val (vatD s lo hi)] = some (.imm (.bool true), [.val (vatD s lo hi)]) := by
  simp [g_is_vat, fnS, runF, s_is_vat, x_is_integer, x_is_tuple, x_is_between h.w, x_is_between, h.s]
theorem x_check_vat {s lo hi : Int} (h : Vt s lo hi) : g_check_vat [.val (vatD s lo hi)] = some (.imm .none, [.val (vatD s lo hi)]) := by
  simp [g_check_vat, fnS, runF, s_check_vat, x_is_vat h]
theorem x_check_bounds {s lo hi a b : Int} (h : Vt s lo hi) (hb : -50 ≤ a ∧ a ≤ b ∧ b ≤ 50) : g_check_bounds [.val (vatD s lo hi), .val (.tuple [.int a, .int b])] = some (.imm .none, [.val (vatD s lo hi), .val (.tuple [.int a, .int b])]) := by
  simp [g_check_bounds, fnS, runF, s_check_bounds, x_check_vat h, x_is_between hb]
theorem x_check_level {s lo hi l : Int} (h : Vt s lo hi) (hl : -200 ≤ l ∧ l ≤ 200) : g_check_level [.val (vatD s lo hi), .val (.int l)] = some (.imm .none, [.val (vatD s lo hi), .val (.int l)]) := by
  simp [g_check_level, fnS, runF, s_check_level, x_check_vat h, x_is_integer, hl]
theorem x_level_by {s lo hi l x w : Int} (h : Vt s lo hi) (hx : -1000 ≤ x ∧ x ≤ 1000) (hl : -1000000 ≤ l ∧ l ≤ 1000000) : g_level_by [.val (vatD s lo hi), .val (.int l), .val (.int x), .val (.int w)] = some (.imm (.int (l + s * x + w)), [.val (vatD s lo hi), .val (.int l), .val (.int x), .val (.int w)]) := by
  have hs := h.s
  have m1 : gMul (.int 1) (.int l) = some (.at (.int (1 * l))) := gMul_ok (by omega) (by omega)
  have m2 : gMul (.int s) (.int x) = some (.at (.int (s * x))) := gMul_ok (by omega) (by omega)
  have m3 : gDiv (.int l) (.int 1) = some (.at (.int (l / 1))) := gDiv_ok (by omega) (by omega)
  simp [g_level_by, fnS, runF, s_level_by, m1, m2, m3]
theorem x_width_of {s lo hi : Int} : g_width_of [.val (vatD s lo hi)] = some (.imm (.int (hi - lo)), [.val (vatD s lo hi)]) := by
  simp [g_width_of, fnS, runF, s_width_of]
def far (s lo hi x y : Int) : Bool := decide (hi - lo < ((s * (x - y)).natAbs : Int))
theorem x_parts {s lo hi x y : Int} (h : Vt s lo hi) (hx : -1000 ≤ x ∧ x ≤ 1000) (hy : -1000 ≤ y ∧ y ≤ 1000) : g_parts [.val (vatD s lo hi), .val (.int x), .val (.int y)] = some (.imm (.bool (far s lo hi x y)), [.val (vatD s lo hi), .val (.int x), .val (.int y)]) := by
  have hs := h.s
  have m2 : gMul (.int s) (.int (x - y)) = some (.at (.int (s * (x - y)))) := gMul_ok (by omega) (by omega)
  simp [g_parts, fnS, runF, s_parts, m2, x_width_of, far]
/-! telling -/
abbrev bdD (a b : Int) : PyData := .tuple [.int a, .int b]
structure Bd (a b : Int) : Prop where
  b : -50 ≤ a ∧ a ≤ b ∧ b ≤ 50
theorem xc_telling_0 {s lo hi a b t : Int} (h : Vt s lo hi) (hb : Bd a b) (ht : -1000 ≤ t ∧ t ≤ 1000) :
    c_telling_0 [.val (vatD s lo hi), .val (bdD a b), .val (.int t), .emp] = some (.tmp (.lst (((rgI a (b + 1)).filter fun x => far s lo hi x t).map .int)), [.val (vatD s lo hi), .val (bdD a b), .val (.int t), .emp]) := by
  have hb' := hb.b
  have r : rgOk a (b + 1) := by unfold rgOk; omega
  unfold c_telling_0
  refine (sComp_val (f := .int) (fun x => far s lo hi x t) .int (rgI a (b + 1)) (ρ0 := [.val (vatD s lo hi), .val (bdD a b), .val (.int t), .emp]) ?_ ?_ ?_ ?_).trans ?_
  · simp [r, rgD_eq]
  · rw [rgI_len]; omega
  · simp
  · intro x m
    obtain ⟨m1, m2⟩ := mem_rgI.mp m
    simp [x_parts h (show -1000 ≤ x ∧ x ≤ 1000 by omega) ht]
  · simp
theorem x_telling {s lo hi a b t : Int} (h : Vt s lo hi) (hb : Bd a b) (ht : a ≤ t ∧ t ≤ b) :
    g_telling [.val (vatD s lo hi), .val (bdD a b), .val (.int t)] = some (.imm (.tuple (((rgI a (b + 1)).filter fun x => far s lo hi x t).map .int)), [.val (vatD s lo hi), .val (bdD a b), .val (.int t)]) := by
  have hb' := hb.b
  simp [g_telling, fnS, runF, s_telling, x_check_bounds h hb', x_is_integer, ht, xc_telling_0 h hb (show -1000 ≤ t ∧ t ≤ 1000 by omega)]
/-! the rows -/
theorem xc_is_told_0 {s lo hi a b l : Int} (h : Vt s lo hi) (hb : Bd a b) {xs : List Int} (hl : xs.length ≤ 1000) (hx : ∀ x ∈ xs, a ≤ x ∧ x ≤ b) :
    c_is_told_0 [.val (vatD s lo hi), .val (bdD a b), .val (.int l), .val (.tuple (xs.map .int)), .emp, .emp] = some (.tmp (.lst (xs.map fun _ => .bool true)), [.val (vatD s lo hi), .val (bdD a b), .val (.int l), .val (.tuple (xs.map .int)), .emp, .emp]) := by
  unfold c_is_told_0
  refine (sComp_map (f := .int) (fun _ => .bool true) xs (ρ0 := [.val (vatD s lo hi), .val (bdD a b), .val (.int l), .val (.tuple (xs.map .int)), .emp, .emp]) ?_ (by omega) (by simp) ?_).trans ?_
  · simp
  · intro x m
    simp [x_is_integer, hx x m]
  · simp
theorem xc_is_told_1 {s lo hi a b l t : Int} (h : Vt s lo hi) (hb : Bd a b) (ht : -1000 ≤ t ∧ t ≤ 1000) {xs : List Int} (hl : xs.length ≤ 1000) (hx : ∀ x ∈ xs, a ≤ x ∧ x ≤ b) :
    c_is_told_1 [.val (vatD s lo hi), .val (bdD a b), .val (.int l), .val (.tuple (xs.map .int)), .val (.int t), .emp] = some (.tmp (.lst (xs.map fun x => .bool (far s lo hi x t))), [.val (vatD s lo hi), .val (bdD a b), .val (.int l), .val (.tuple (xs.map .int)), .val (.int t), .emp]) := by
  have hb' := hb.b
  unfold c_is_told_1
  refine (sComp_map (f := .int) (fun x => .bool (far s lo hi x t)) xs (ρ0 := [.val (vatD s lo hi), .val (bdD a b), .val (.int l), .val (.tuple (xs.map .int)), .val (.int t), .emp]) ?_ (by omega) (by simp) ?_).trans ?_
  · simp
  · intro x m
    have := hx x m
    simp [x_parts h (show -1000 ≤ x ∧ x ≤ 1000 by omega) ht]
  · simp
theorem xc_is_told_2 {s lo hi a b l : Int} (h : Vt s lo hi) (hb : Bd a b) {xs : List Int} (hl : xs.length ≤ 1000) (hx : ∀ x ∈ xs, a ≤ x ∧ x ≤ b) :
    c_is_told_2 [.val (vatD s lo hi), .val (bdD a b), .val (.int l), .val (.tuple (xs.map .int)), .emp, .emp] = some (.tmp (.lst ((rgI a (b + 1)).map fun t => .bool (xs.any fun x => far s lo hi x t))), [.val (vatD s lo hi), .val (bdD a b), .val (.int l), .val (.tuple (xs.map .int)), .emp, .emp]) := by
  have hb' := hb.b
  have r : rgOk a (b + 1) := by unfold rgOk; omega
  unfold c_is_told_2
  refine (sComp_map (f := .int) (fun t => .bool (xs.any fun x => far s lo hi x t)) (rgI a (b + 1)) (ρ0 := [.val (vatD s lo hi), .val (bdD a b), .val (.int l), .val (.tuple (xs.map .int)), .emp, .emp]) ?_ (by rw [rgI_len]; omega) (by simp) ?_).trans ?_
  · simp [r, rgD_eq]
  · intro t m
    obtain ⟨m1, m2⟩ := mem_rgI.mp m
    simp [xc_is_told_1 h hb (show -1000 ≤ t ∧ t ≤ 1000 by omega) hl hx]
  · simp
theorem x_is_told {s lo hi a b l : Int} (h : Vt s lo hi) (hb : Bd a b) (hl : -200 ≤ l ∧ l ≤ 200) {xs : List Int} (hn : xs.length ≤ 60) (hx : ∀ x ∈ xs, a ≤ x ∧ x ≤ b) :
    g_is_told [.val (vatD s lo hi), .val (bdD a b), .val (.int l), .val (.tuple (xs.map .int))] = some (.imm (.bool ((rgI a (b + 1)).all fun t => xs.any fun x => far s lo hi x t)), [.val (vatD s lo hi), .val (bdD a b), .val (.int l), .val (.tuple (xs.map .int))]) := by
  have hb' := hb.b
  have e1 := xc_is_told_0 (l := l) h hb (show xs.length ≤ 1000 by omega) hx
  have e2 := xc_is_told_2 (l := l) h hb (show xs.length ≤ 1000 by omega) hx
  simp [g_is_told, fnS, runF, s_is_told, x_check_bounds h hb', x_check_level h hl, x_is_tuple, show ¬ (60 : Int) < xs.length by omega, e1, e2]
end L41


set_option linter.all false
set_option Elab.async false
set_option maxRecDepth 100000
namespace L41
open PySem PySem.Spec PyProof.Rows L2 Sd
theorem filter_rgI {lo hi m n : Int} {p : Int → Bool} (h1 : lo ≤ m) (h2 : m ≤ n) (h3 : n ≤ hi) (hp : ∀ x, lo ≤ x → x < hi → (p x = true ↔ m ≤ x ∧ x < n)) : (rgI lo hi).filter p = rgI m n := by
  rw [rgI_app (lo := lo) (mid := m) (hi := hi) h1 (by omega), rgI_app (lo := m) (mid := n) (hi := hi) h2 h3, List.filter_append, List.filter_append]
  rw [List.filter_eq_nil_iff.mpr, List.filter_eq_self.mpr, List.filter_eq_nil_iff.mpr, List.nil_append, List.append_nil]
  · intro x mx
    obtain ⟨a, b⟩ := mem_rgI.mp mx
    rw [hp x (by omega) (by omega)]; omega
  · intro x mx
    obtain ⟨a, b⟩ := mem_rgI.mp mx
    rw [hp x (by omega) (by omega)]; omega
  · intro x mx
    obtain ⟨a, b⟩ := mem_rgI.mp mx
    rw [hp x (by omega) (by omega)]; omega
/-- how far apart two settings tell of one another -/
def kk (s w : Int) : Int := if s = 0 then 100000 else w / (s.natAbs : Int) + 1
theorem kk_pos {s w : Int} (hw : 0 ≤ w) : 1 ≤ kk s w := by
  unfold kk
  split
  · decide
  · have := Int.ediv_nonneg hw (show (0 : Int) ≤ (s.natAbs : Int) by omega)
    omega
theorem far_kk {s lo hi x y : Int} (hxy : (x - y).natAbs ≤ 10000) (hw : lo ≤ hi) : far s lo hi x y = decide (kk s (hi - lo) ≤ ((x - y).natAbs : Int)) := by
  unfold far kk
  rw [decide_eq_decide]
  split
  · rename_i h
    subst h
    simp only [Int.zero_mul, Int.natAbs_zero]
    omega
  · rename_i h
    have hs : (0 : Int) < (s.natAbs : Int) := by omega
    rw [Int.natAbs_mul]
    have := Int.ediv_lt_iff_lt_mul (a := hi - lo) (b := ((x - y).natAbs : Int)) hs
    rw [show (((s.natAbs * (x - y).natAbs : Nat)) : Int) = ((x - y).natAbs : Int) * (s.natAbs : Int) by rw [Int.natCast_mul, Int.mul_comm], ← this]
    omega
theorem far_k {s lo hi a b x y : Int} (h : Vt s lo hi) (hb : Bd a b) (hx : a ≤ x ∧ x ≤ b) (hy : a ≤ y ∧ y ≤ b) : far s lo hi x y = decide (kk s (hi - lo) ≤ ((x - y).natAbs : Int)) :=
  far_kk (by have := hb.b; omega) h.w.2.1
theorem xc_least_row_0 {s lo hi a b : Int} (h : Vt s lo hi) (hb : Bd a b) :
    c_least_row_0 [.val (vatD s lo hi), .val (bdD a b), .own false (.rng a (b + 1)), .emp, .emp, .emp, .emp] = some (.tmp (.lst (((rgI a (b + 1)).filter fun x => !far s lo hi a x && !far s lo hi b x).map .int)), [.val (vatD s lo hi), .val (bdD a b), .own false (.rng a (b + 1)), .emp, .emp, .emp, .emp]) := by
  have hb' := hb.b
  have r : rgOk a (b + 1) := by unfold rgOk; omega
  unfold c_least_row_0
  refine (sComp_val (f := .int) (fun x => !far s lo hi a x && !far s lo hi b x) .int (rgI a (b + 1)) (ρ0 := [.val (vatD s lo hi), .val (bdD a b), .own false (.rng a (b + 1)), .emp, .emp, .emp, .emp]) ?_ (by rw [rgI_len]; omega) (by simp) ?_).trans ?_
  · simp [r, rgD_eq]
  · intro x m
    obtain ⟨m1, m2⟩ := mem_rgI.mp m
    simp [x_parts h (show -1000 ≤ a ∧ a ≤ 1000 by omega) (show -1000 ≤ x ∧ x ≤ 1000 by omega), x_parts h (show -1000 ≤ b ∧ b ≤ 1000 by omega) (show -1000 ≤ x ∧ x ≤ 1000 by omega)]
  · simp
theorem xc_least_row_1 {s lo hi a b x y : Int} (h : Vt s lo hi) (hb : Bd a b) (hx : a ≤ x ∧ x ≤ b) (hy : a ≤ y ∧ y ≤ b) :
    c_least_row_1 [.val (vatD s lo hi), .val (bdD a b), .own false (.rng a (b + 1)), .own false (.lst []), .emp, .val (.int x), .val (.int y)] = some (.tmp (.lst ((rgI a (b + 1)).map fun t => .bool (far s lo hi x t || far s lo hi y t))), [.val (vatD s lo hi), .val (bdD a b), .own false (.rng a (b + 1)), .own false (.lst []), .emp, .val (.int x), .val (.int y)]) := by
  have hb' := hb.b
  have r : rgOk a (b + 1) := by unfold rgOk; omega
  unfold c_least_row_1
  refine (sComp_map (f := .int) (fun t => .bool (far s lo hi x t || far s lo hi y t)) (rgI a (b + 1)) (ρ0 := [.val (vatD s lo hi), .val (bdD a b), .own false (.rng a (b + 1)), .own false (.lst []), .emp, .val (.int x), .val (.int y)]) ?_ (by rw [rgI_len]; omega) (by simp) ?_).trans ?_
  · simp [r, rgD_eq]
  · intro t m
    obtain ⟨m1, m2⟩ := mem_rgI.mp m
    simp [x_parts h (show -1000 ≤ x ∧ x ≤ 1000 by omega) (show -1000 ≤ t ∧ t ≤ 1000 by omega), x_parts h (show -1000 ≤ y ∧ y ≤ 1000 by omega) (show -1000 ≤ t ∧ t ≤ 1000 by omega)]
  · simp
/-- the second loop of the rows -/
theorem xf_least_row_0 {s lo hi a b : Int} (h : Vt s lo hi) (hb : Bd a b) (hk : 2 * kk s (hi - lo) - 1 ≤ b - a) :
    f_least_row_0 [.val (vatD s lo hi), .val (bdD a b), .own false (.rng a (b + 1)), .own false (.lst []), .emp, .val (.int a), .emp] = some (.rt (.imm (.tuple [.str "row", .tuple [.int a, .int (a + 2 * kk s (hi - lo) - 1)]])), [.val (vatD s lo hi), .val (bdD a b), .own false (.rng a (b + 1)), .own false (.lst []), .emp, .val (.int a), .val (.int (a + 2 * kk s (hi - lo) - 1))]) := by
  have hb' := hb.b
  have hk1 := kk_pos (s := s) (w := hi - lo) (by have := h.w; omega)
  have r : rgOk a (b + 1) := by unfold rgOk; omega
  have step : ∀ y s6, a ≤ y → y ≤ b → (s6 = Slot.emp ∨ ∃ v, s6 = .val v) → bNm 6 (.int y) [.val (vatD s lo hi), .val (bdD a b), .own false (.rng a (b + 1)), .own false (.lst []), .emp, .val (.int a), s6] = some [.val (vatD s lo hi), .val (bdD a b), .own false (.rng a (b + 1)), .own false (.lst []), .emp, .val (.int a), .val (.int y)] := by
    intro y s6 h1 h2 h3
    rcases h3 with rfl | ⟨v, rfl⟩ <;> simp
  have body : ∀ y, a ≤ y → y ≤ b → b_least_row_0 [.val (vatD s lo hi), .val (bdD a b), .own false (.rng a (b + 1)), .own false (.lst []), .emp, .val (.int a), .val (.int y)] =
      if (rgI a (b + 1)).all (fun t => far s lo hi a t || far s lo hi y t) = true then some (.rt (.imm (.tuple [.str "row", .tuple [.int a, .int y]])), [.val (vatD s lo hi), .val (bdD a b), .own false (.rng a (b + 1)), .own false (.lst []), .emp, .val (.int a), .val (.int y)])
      else some (.nx, [.val (vatD s lo hi), .val (bdD a b), .own false (.rng a (b + 1)), .own false (.lst []), .emp, .val (.int a), .val (.int y)]) := by
    intro y h1 h2
    have e := xc_least_row_1 (x := a) (y := y) h hb ⟨Int.le_refl a, by omega⟩ ⟨h1, h2⟩
    unfold b_least_row_0
    simp only [ap_sIfS, ap_sTru, ap_sBlt, ap_sCons, e, ap_sNil, Option.bind_some, lookAll, look, gAll_of, RR.toR, boolS_some]
    split
    · simp
    · simp
  unfold f_least_row_0
  simp only [ap_sFor, ap_sRgV, ap_sVar, List.getElem?_cons_succ, List.getElem?_cons_zero, varS_own, Option.bind_some, lookR, r, if_true, rgD_eq]
  rw [rgI_app (lo := a) (mid := a + 2 * kk s (hi - lo) - 1) (hi := b + 1) (by omega) (by omega), rgI_cons (lo := a + 2 * kk s (hi - lo) - 1) (by omega), List.map_append, List.map_cons]
  obtain ⟨ρ', ⟨s6, h6, rfl⟩, e⟩ := loop_inv (f := .int) (b := bNm 6) (body := b_least_row_0) (fun _ ρ => ∃ s6, (s6 = Slot.emp ∨ ∃ v, s6 = .val v) ∧ ρ = [.val (vatD s lo hi), .val (bdD a b), .own false (.rng a (b + 1)), .own false (.lst []), .emp, .val (.int a), s6]) [] (rgI a (a + 2 * kk s (hi - lo) - 1)) (.int (a + 2 * kk s (hi - lo) - 1) :: (rgI (a + 2 * kk s (hi - lo) - 1 + 1) (b + 1)).map .int) _ ⟨.emp, .inl rfl, rfl⟩ (by
    rintro pre y post ρ hy ⟨s6, h6, rfl⟩
    have my : y ∈ rgI a (a + 2 * kk s (hi - lo) - 1) := by rw [hy]; simp
    obtain ⟨m1, m2⟩ := mem_rgI.mp my
    refine ⟨_, _, .nx, step y s6 m1 (by omega) h6, (body y m1 (by omega)).trans (if_neg ?_), .inl rfl, .val (.int y), .inr ⟨_, rfl⟩, rfl⟩
    rw [rgI_all]
    intro hall
    have h1 := hall (a + kk s (hi - lo) - 1) (by omega) (by omega)
    rw [far_k h hb ⟨Int.le_refl a, by omega⟩ ⟨by omega, by omega⟩, far_k h hb ⟨m1, by omega⟩ ⟨by omega, by omega⟩, Bool.or_eq_true, decide_eq_true_eq, decide_eq_true_eq] at h1
    omega)
  rw [e]
  show ((bNm 6 _ _).bind _) = _
  rw [step _ s6 (by omega) (by omega) h6]
  show ((b_least_row_0 _).bind _) = _
  rw [body _ (by omega) (by omega), if_pos]
  · rfl
  · rw [rgI_all]
    intro t t1 t2
    rw [far_k h hb ⟨Int.le_refl a, by omega⟩ ⟨by omega, by omega⟩, far_k h hb ⟨by omega, by omega⟩ ⟨by omega, by omega⟩, Bool.or_eq_true, decide_eq_true_eq, decide_eq_true_eq]
    omega
def rowD (a b k : Int) : PyData := if 2 * k - 1 ≤ b - a then .tuple [.str "row", .tuple [.int a, .int (a + 2 * k - 1)]] else .tuple [.str "never", .int (max a (b - k + 1))]
theorem x_least_row {s lo hi a b : Int} (h : Vt s lo hi) (hb : Bd a b) :
    g_least_row [.val (vatD s lo hi), .val (bdD a b)] = some (.imm (rowD a b (kk s (hi - lo))), [.val (vatD s lo hi), .val (bdD a b)]) := by
  have hb' := hb.b
  have hk1 := kk_pos (s := s) (w := hi - lo) (by have := h.w; omega)
  have r : rgOk a (b + 1) := by unfold rgOk; omega
  unfold rowD
  by_cases hk : 2 * kk s (hi - lo) - 1 ≤ b - a
  · rw [if_pos hk]
    have e0 := xc_least_row_0 h hb
    rw [List.filter_eq_nil_iff.mpr (by
      intro x mx
      obtain ⟨m1, m2⟩ := mem_rgI.mp mx
      rw [far_k h hb ⟨Int.le_refl a, by omega⟩ ⟨by omega, by omega⟩, far_k h hb ⟨by omega, Int.le_refl b⟩ ⟨by omega, by omega⟩]
      simp
      omega)] at e0
    have e1 := xf_least_row_0 h hb hk
    have e2 : f_least_row_1 [.val (vatD s lo hi), .val (bdD a b), .own false (.rng a (b + 1)), .own false (.lst []), .emp, .emp, .emp] = some (.rt (.imm (.tuple [.str "row", .tuple [.int a, .int (a + 2 * kk s (hi - lo) - 1)]])), [.val (vatD s lo hi), .val (bdD a b), .own false (.rng a (b + 1)), .own false (.lst []), .emp, .val (.int a), .val (.int (a + 2 * kk s (hi - lo) - 1))]) := by
      unfold f_least_row_1
      simp only [ap_sFor, ap_sRgV, ap_sVar, List.getElem?_cons_succ, List.getElem?_cons_zero, varS_own, Option.bind_some, lookR, r, if_true, rgD_eq]
      rw [rgI_cons (by omega), List.map_cons]
      unfold b_least_row_1
      simp [loopS, e1]
    have n1 : gNe (.list []) (.list []) = some (.at (.bool false)) := by rw [gNe_nil sm_nil]; rfl
    simp [g_least_row, fnS, runF, s_least_row, x_check_bounds h hb', e0, e2, n1]
  · rw [if_neg hk]
    have e0 := xc_least_row_0 h hb
    rw [filter_rgI (m := max a (b - kk s (hi - lo) + 1)) (n := min (b + 1) (a + kk s (hi - lo))) (by omega) (by omega) (by omega) (by
      intro x m1 m2
      rw [far_k h hb ⟨Int.le_refl a, by omega⟩ ⟨by omega, by omega⟩, far_k h hb ⟨by omega, Int.le_refl b⟩ ⟨by omega, by omega⟩]
      simp
      omega), rgI_cons (by omega)] at e0
    have n1 : ∀ l : List Int, Sm (.list (l.map .int)) → gNe (.list (l.map .int)) (.list []) = some (.at (.bool (!decide (l = [])))) := fun l hs => by
      rw [gNe_nil hs]
      cases l <;> rfl
    have n2 := n1 (max a (b - kk s (hi - lo) + 1) :: rgI (max a (b - kk s (hi - lo) + 1) + 1) (min (b + 1) (a + kk s (hi - lo)))) (sm_ints (by rw [List.length_cons, rgI_len]; omega) (by
      intro x mx
      rcases List.mem_cons.mp mx with rfl | mx
      · omega
      · have := mem_rgI.mp mx
        omega))
    simp at n2
    simp [g_least_row, fnS, runF, s_least_row, x_check_bounds h hb', e0, n2]
end L41


set_option linter.all false
set_option Elab.async false
set_option maxRecDepth 100000
namespace L41
open PySem PySem.Spec PyProof.Rows L2 Sd
theorem str_row_never : ¬ (("row" : Str) = "never") := by decide
theorem str_never_row : ¬ (("never" : Str) = "row") := by decide
theorem xc_shows_row_0 {s lo hi a b m : Int} (h : Vt s lo hi) (hb : Bd a b) (hm : a ≤ m ∧ m ≤ b) :
    c_shows_row_0 [.val (vatD s lo hi), .val (bdD a b), .val (.tuple [.str "never", .int m]), .own false (.rng a (b + 1)), .emp, .emp] = some (.tmp (.lst ((rgI a (b + 1)).map fun x => .bool (far s lo hi x m))), [.val (vatD s lo hi), .val (bdD a b), .val (.tuple [.str "never", .int m]), .own false (.rng a (b + 1)), .emp, .emp]) := by
  have hb' := hb.b
  have r : rgOk a (b + 1) := by unfold rgOk; omega
  unfold c_shows_row_0
  refine (sComp_map (f := .int) (fun x => .bool (far s lo hi x m)) (rgI a (b + 1)) (ρ0 := [.val (vatD s lo hi), .val (bdD a b), .val (.tuple [.str "never", .int m]), .own false (.rng a (b + 1)), .emp, .emp]) ?_ (by rw [rgI_len]; omega) (by simp) ?_).trans ?_
  · simp [r, rgD_eq]
  · intro t ht
    obtain ⟨m1, m2⟩ := mem_rgI.mp ht
    simp [x_parts h (show -1000 ≤ t ∧ t ≤ 1000 by omega) (show -1000 ≤ m ∧ m ≤ 1000 by omega)]
  · simp
theorem x_shows_never {s lo hi a b m : Int} (h : Vt s lo hi) (hb : Bd a b) (hm : a ≤ m ∧ m ≤ b) :
    g_shows_row [.val (vatD s lo hi), .val (bdD a b), .val (.tuple [.str "never", .int m])] = some (.imm (.bool (!(rgI a (b + 1)).any fun x => far s lo hi x m)), [.val (vatD s lo hi), .val (bdD a b), .val (.tuple [.str "never", .int m])]) := by
  have hb' := hb.b
  simp [g_shows_row, fnS, runF, s_shows_row, x_check_bounds h hb', x_is_tuple, isK, x_is_integer, hm, xc_shows_row_0 h hb hm]
theorem xc_shows_row_1 {s lo hi a b x y : Int} (h : Vt s lo hi) (hb : Bd a b) (hx : a ≤ x ∧ x ≤ b) (hy : a ≤ y ∧ y ≤ b) :
    c_shows_row_1 [.val (vatD s lo hi), .val (bdD a b), .val (.tuple [.str "row", .tuple [.int x, .int y]]), .own false (.rng a (b + 1)), .emp, .emp] = some (.tmp (.lst (([x, y] : List Int).map fun x => .bool true)), [.val (vatD s lo hi), .val (bdD a b), .val (.tuple [.str "row", .tuple [.int x, .int y]]), .own false (.rng a (b + 1)), .emp, .emp]) := by
  unfold c_shows_row_1
  refine (sComp_map (f := .int) (fun x => .bool true) [x, y] (ρ0 := [.val (vatD s lo hi), .val (bdD a b), .val (.tuple [.str "row", .tuple [.int x, .int y]]), .own false (.rng a (b + 1)), .emp, .emp]) ?_ (by simp) (by simp) ?_).trans ?_
  · simp
  · intro t ht
    have ht' : a ≤ t ∧ t ≤ b := by
      simp at ht
      rcases ht with rfl | rfl
      · exact hx
      · exact hy
    simp [x_is_integer, ht']
  · simp
theorem xc_shows_row_2 {s lo hi a b x y t : Int} (h : Vt s lo hi) (hb : Bd a b) (hx : a ≤ x ∧ x ≤ b) (hy : a ≤ y ∧ y ≤ b) (ht : a ≤ t ∧ t ≤ b) :
    c_shows_row_2 [.val (vatD s lo hi), .val (bdD a b), .val (.tuple [.str "row", .tuple [.int x, .int y]]), .own false (.rng a (b + 1)), .emp, .val (.int t)] = some (.tmp (.lst (([x, y] : List Int).map fun x => .bool (far s lo hi x t))), [.val (vatD s lo hi), .val (bdD a b), .val (.tuple [.str "row", .tuple [.int x, .int y]]), .own false (.rng a (b + 1)), .emp, .val (.int t)]) := by
  have hb' := hb.b
  unfold c_shows_row_2
  refine (sComp_map (f := .int) (fun x => .bool (far s lo hi x t)) [x, y] (ρ0 := [.val (vatD s lo hi), .val (bdD a b), .val (.tuple [.str "row", .tuple [.int x, .int y]]), .own false (.rng a (b + 1)), .emp, .val (.int t)]) ?_ (by simp) (by simp) ?_).trans ?_
  · simp
  · intro z hz
    have hz' : -1000 ≤ z ∧ z ≤ 1000 := by
      simp at hz
      rcases hz with rfl | rfl <;> omega
    simp [x_parts h hz' (show -1000 ≤ t ∧ t ≤ 1000 by omega)]
  · simp
theorem xc_shows_row_3 {s lo hi a b x y : Int} (h : Vt s lo hi) (hb : Bd a b) (hx : a ≤ x ∧ x ≤ b) (hy : a ≤ y ∧ y ≤ b) :
    c_shows_row_3 [.val (vatD s lo hi), .val (bdD a b), .val (.tuple [.str "row", .tuple [.int x, .int y]]), .own false (.rng a (b + 1)), .emp, .emp] = some (.tmp (.lst ((rgI a (b + 1)).map fun t => .bool (([x, y] : List Int).any fun x => far s lo hi x t))), [.val (vatD s lo hi), .val (bdD a b), .val (.tuple [.str "row", .tuple [.int x, .int y]]), .own false (.rng a (b + 1)), .emp, .emp]) := by
  have hb' := hb.b
  have r : rgOk a (b + 1) := by unfold rgOk; omega
  unfold c_shows_row_3
  refine (sComp_map (f := .int) (fun t => .bool (([x, y] : List Int).any fun x => far s lo hi x t)) (rgI a (b + 1)) (ρ0 := [.val (vatD s lo hi), .val (bdD a b), .val (.tuple [.str "row", .tuple [.int x, .int y]]), .own false (.rng a (b + 1)), .emp, .emp]) ?_ (by rw [rgI_len]; omega) (by simp) ?_).trans ?_
  · simp [r, rgD_eq]
  · intro t ht
    obtain ⟨m1, m2⟩ := mem_rgI.mp ht
    have e := xc_shows_row_2 (t := t) h hb hx hy ⟨m1, by omega⟩
    refine ⟨[.val (vatD s lo hi), .val (bdD a b), .val (.tuple [.str "row", .tuple [.int x, .int y]]), .own false (.rng a (b + 1)), .emp, .val (.int t)], by simp, by simp, ?_⟩
    simp only [ap_sBlt, ap_sCons, e, ap_sNil, Option.bind_some, lookAll, look, gAny_of, RR.toR]
  · simp
theorem x_shows_row {s lo hi a b x y : Int} (h : Vt s lo hi) (hb : Bd a b) (hx : a ≤ x ∧ x ≤ b) (hy : a ≤ y ∧ y ≤ b) :
    g_shows_row [.val (vatD s lo hi), .val (bdD a b), .val (.tuple [.str "row", .tuple [.int x, .int y]])] = some (.imm (.bool ((rgI a (b + 1)).all fun t => far s lo hi x t || far s lo hi y t)), [.val (vatD s lo hi), .val (bdD a b), .val (.tuple [.str "row", .tuple [.int x, .int y]])]) := by
  have hb' := hb.b
  have e1 := xc_shows_row_1 h hb hx hy
  have e3 := xc_shows_row_3 h hb hx hy
  have g1 : gAll [.list (([x, y] : List Int).map fun x => .bool true)] = some (.at (.bool true)) := rfl
  simp at e1 e3 g1
  have g3 := gAll_of (fun t => far s lo hi x t || far s lo hi y t) (rgI a (b + 1))
  simp at g3
  simp [g_shows_row, fnS, runF, s_shows_row, x_check_bounds h hb', x_is_tuple, isK, str_row_never, e1, e3, g1, g3]
end L41


set_option linter.all false
set_option Elab.async false
set_option maxRecDepth 100000
namespace L41
open PySem PySem.Spec PyProof.Rows L2 Sd
def fD : Option Int → PyData
  | none => .tuple [.str "fine"]
  | some c => .tuple [.str "stuck", .int c]
def trD (t : Int × Int × Int) : PyData := .tuple [.int t.1, .int t.2.1, .int t.2.2]
def faults (a b : Int) : List (Option Int) := none :: (rgI a (b + 1)).map some
theorem str_stuck_fine : ¬ (("stuck" : Str) = "fine") := by decide
theorem x_all_faults {a b : Int} (hb : Bd a b) : g_all_faults [.val (bdD a b)] = some (.tmp (.lst ((faults a b).map fD)), [.val (bdD a b)]) := by
  have hb' := hb.b
  have r : rgOk a (b + 1) := by unfold rgOk; omega
  have e : c_all_faults_0 [.val (bdD a b), .emp] = some (.tmp (.lst ((rgI a (b + 1)).map fun c => .tuple [.str "stuck", .int c])), [.val (bdD a b), .emp]) := by
    unfold c_all_faults_0
    refine (sComp_map (f := .int) (fun c => .tuple [.str "stuck", .int c]) (rgI a (b + 1)) (ρ0 := [.val (bdD a b), .emp]) ?_ (by rw [rgI_len]; omega) (by simp) ?_).trans ?_
    · simp [r, rgD_eq]
    · intro t ht
      simp
    · simp
  have hl : (rgI a (b + 1)).length ≤ 999 := by rw [rgI_len]; omega
  have hf : (faults a b).map fD = .tuple [.str "fine"] :: (rgI a (b + 1)).map fun c => .tuple [.str "stuck", .int c] := by
    unfold faults
    rw [List.map_cons, List.map_map]; rfl
  rw [hf]
  simp [g_all_faults, fnS, runF, s_all_faults, e, Function.comp_def, hl]
def realOf (f : Option Int) (c : Int) : Int := match f with
  | none => c
  | some x => x
def fitB (s lo hi : Int) (f : Option Int) (t : Int × Int × Int) : Bool := decide (t.2.1 + s * realOf f t.1 + lo ≤ t.2.2) && decide (t.2.2 ≤ t.2.1 + s * realOf f t.1 + hi)
theorem x_fits {s lo hi : Int} (h : Vt s lo hi) {f : Option Int} {c u v : Int} (hf : ∀ x, f = some x → -1000 ≤ x ∧ x ≤ 1000) (hc : -1000 ≤ c ∧ c ≤ 1000) (hu : -1000 ≤ u ∧ u ≤ 1000) :
    g_fits [.val (vatD s lo hi), .val (fD f), .val (.int c), .val (.int u), .val (.int v)] = some (.imm (.bool (fitB s lo hi f (c, u, v))), [.val (vatD s lo hi), .val (fD f), .val (.int c), .val (.int u), .val (.int v)]) := by
  cases f with
  | none =>
    have e1 := x_level_by (l := u) (x := c) (w := lo) h hc (by omega)
    have e2 := x_level_by (l := u) (x := c) (w := hi) h hc (by omega)
    simp [g_fits, fnS, runF, s_fits, fD, e1, e2, fitB, realOf]
    rfl
  | some x =>
    have hx := hf x rfl
    have e1 := x_level_by (l := u) (x := x) (w := lo) h hx (by omega)
    have e2 := x_level_by (l := u) (x := x) (w := hi) h hx (by omega)
    simp [g_fits, fnS, runF, s_fits, fD, str_stuck_fine, e1, e2, fitB, realOf]
    rfl
/-! what is seen -/
abbrev seenD (xs ys : List Int) : PyData := .tuple [.tuple (xs.map .int), .tuple (ys.map .int)]
structure Sn (a b : Int) (xs ys : List Int) : Prop where
  n : xs.length ≤ 60
  m : ys.length = xs.length + 1
  x : ∀ x ∈ xs, a ≤ x ∧ x ≤ b
  y : ∀ y ∈ ys, -200 ≤ y ∧ y ≤ 200
theorem x_is_seen {s lo hi a b : Int} (h : Vt s lo hi) (hb : Bd a b) {xs ys : List Int} (hs : Sn a b xs ys) : g_is_seen [.val (vatD s lo hi), .val (bdD a b), .val (seenD xs ys)] = some (.imm (.bool true), [.val (vatD s lo hi), .val (bdD a b), .val (seenD xs ys)]) := by
  have hn := hs.n
  have hm := hs.m
  have e0 : c_is_seen_0 [.val (vatD s lo hi), .val (bdD a b), .val (seenD xs ys), .emp, .emp, .emp] = some (.tmp (.lst (([xs, ys] : List (List Int)).map fun l => .bool true)), [.val (vatD s lo hi), .val (bdD a b), .val (seenD xs ys), .emp, .emp, .emp]) := by
    unfold c_is_seen_0
    refine (sComp_map (f := fun l : List Int => .tuple (l.map .int)) (fun l => .bool true) [xs, ys] (ρ0 := [.val (vatD s lo hi), .val (bdD a b), .val (seenD xs ys), .emp, .emp, .emp]) ?_ (by simp) (by simp) ?_).trans ?_
    · simp
    · intro l hl
      have hl' : (l.length : Int) ≤ 61 := by
        simp at hl
        rcases hl with rfl | rfl <;> omega
      simp [x_is_tuple, hl']
    · simp
  have e1 : c_is_seen_1 [.val (vatD s lo hi), .val (bdD a b), .val (seenD xs ys), .emp, .emp, .emp] = some (.tmp (.lst (xs.map fun l => .bool true)), [.val (vatD s lo hi), .val (bdD a b), .val (seenD xs ys), .emp, .emp, .emp]) := by
    unfold c_is_seen_1
    refine (sComp_map (f := .int) (fun l => .bool true) xs (ρ0 := [.val (vatD s lo hi), .val (bdD a b), .val (seenD xs ys), .emp, .emp, .emp]) ?_ (by omega) (by simp) ?_).trans ?_
    · simp
    · intro l hl
      simp [x_is_integer, hs.x l hl]
    · simp
  have e2 : c_is_seen_2 [.val (vatD s lo hi), .val (bdD a b), .val (seenD xs ys), .emp, .emp, .emp] = some (.tmp (.lst (ys.map fun l => .bool true)), [.val (vatD s lo hi), .val (bdD a b), .val (seenD xs ys), .emp, .emp, .emp]) := by
    unfold c_is_seen_2
    refine (sComp_map (f := .int) (fun l => .bool true) ys (ρ0 := [.val (vatD s lo hi), .val (bdD a b), .val (seenD xs ys), .emp, .emp, .emp]) ?_ (by omega) (by simp) ?_).trans ?_
    · simp
    · intro l hl
      simp [x_is_integer, hs.y l hl]
    · simp
  have g1 : gAll [.list (([xs, ys] : List (List Int)).map fun x => .bool true)] = some (.at (.bool true)) := rfl
  simp at e0 g1
  simp [g_is_seen, fnS, runF, s_is_seen, x_is_tuple, e0, e1, e2, g1, hm]
def trs (xs ys : List Int) : List (Int × Int × Int) := xs.zip (ys.zip (ys.drop 1))
theorem trs_mem {a b : Int} {xs ys : List Int} (hs : Sn a b xs ys) {t : Int × Int × Int} (m : t ∈ trs xs ys) : (a ≤ t.1 ∧ t.1 ≤ b) ∧ (-200 ≤ t.2.1 ∧ t.2.1 ≤ 200) := by
  obtain ⟨t1, t2, t3⟩ := t
  have h1 := List.of_mem_zip m
  have h2 := List.of_mem_zip h1.2
  exact ⟨hs.x _ h1.1, hs.y _ h2.1⟩
theorem xc_may_be_0 {s lo hi a b : Int} (h : Vt s lo hi) (hb : Bd a b) {xs ys : List Int} (hs : Sn a b xs ys) {f : Option Int} (hf : ∀ x, f = some x → -1000 ≤ x ∧ x ≤ 1000) (L : List PyData) :
    c_may_be_0 [.val (vatD s lo hi), .val (bdD a b), .val (seenD xs ys), .own false (.lst L), .val (fD f), .emp, .emp, .emp] = some (.tmp (.lst ((trs xs ys).map fun t => .bool (fitB s lo hi f t))), [.val (vatD s lo hi), .val (bdD a b), .val (seenD xs ys), .own false (.lst L), .val (fD f), .emp, .emp, .emp]) := by
  have hb' := hb.b
  unfold c_may_be_0
  refine (sComp_map (f := trD) (fun t => .bool (fitB s lo hi f t)) (trs xs ys) (ρ0 := [.val (vatD s lo hi), .val (bdD a b), .val (seenD xs ys), .own false (.lst L), .val (fD f), .emp, .emp, .emp]) ?_ ?_ (by simp) ?_).trans ?_
  · have e := zip3D_map PyData.int PyData.int PyData.int xs ys (ys.drop 1)
    have e' : zip3D (xs.map .int) (ys.map .int) (ys.map PyData.int).tail = (trs xs ys).map trD := by
      rw [← List.map_tail, ← List.drop_one]; exact e
    simp [cutD_from1]
    exact e'
  · have := hs.n
    unfold trs
    rw [List.length_zip]
    omega
  · intro t ht
    obtain ⟨m1, m2⟩ := trs_mem hs ht
    obtain ⟨t1, t2, t3⟩ := t
    have e := x_fits (f := f) (c := t1) (u := t2) (v := t3) h hf (by dsimp only at m1; omega) (by dsimp only at m2; omega)
    simp [trD, e]
  · simp
theorem x_may_be {s lo hi a b : Int} (h : Vt s lo hi) (hb : Bd a b) {xs ys : List Int} (hs : Sn a b xs ys) :
    g_may_be [.val (vatD s lo hi), .val (bdD a b), .val (seenD xs ys)] = some (.imm (.tuple (((faults a b).filter fun f => (trs xs ys).all fun t => fitB s lo hi f t).map fD)), [.val (vatD s lo hi), .val (bdD a b), .val (seenD xs ys)]) := by
  have hb' := hb.b
  have hfl : (faults a b).length ≤ 200 := by
    unfold faults
    rw [List.length_cons, List.length_map, rgI_len]; omega
  obtain ⟨ρ', ⟨s4, h4, rfl⟩, e⟩ := loop_all (f := fD) (b := bNm 4) (body := b_may_be_0) (xs := faults a b) (ρ := [.val (vatD s lo hi), .val (bdD a b), .val (seenD xs ys), .own false (.lst []), .emp, .emp, .emp, .emp])
    (fun done ρ => ∃ s4, (s4 = Slot.emp ∨ ∃ v, s4 = .val v) ∧ ρ = [.val (vatD s lo hi), .val (bdD a b), .val (seenD xs ys), .own false (.lst ((done.filter fun f => (trs xs ys).all fun t => fitB s lo hi f t).map fD)), s4, .emp, .emp, .emp]) ⟨.emp, .inl rfl, rfl⟩ (by
    rintro pre f post ρ hy ⟨s4, h4, rfl⟩
    have mf : f ∈ faults a b := by rw [hy]; simp
    have hf : ∀ x, f = some x → -1000 ≤ x ∧ x ≤ 1000 := by
      rintro x rfl
      unfold faults at mf
      simp only [List.mem_cons, List.mem_map] at mf
      rcases mf with z | ⟨y, my, e⟩
      · cases z
      · cases e
        have := mem_rgI.mp my
        omega
    have hlen : ((pre.filter fun f => (trs xs ys).all fun t => fitB s lo hi f t).map fD).length < 1000000 := by
      rw [List.length_map]
      have h1 := List.length_filter_le (fun f => (trs xs ys).all fun t => fitB s lo hi f t) pre
      have : (faults a b).length = pre.length + (post.length + 1) := by rw [hy, List.length_append, List.length_cons]
      omega
    have e0 := xc_may_be_0 (f := f) h hb hs hf ((pre.filter fun f => (trs xs ys).all fun t => fitB s lo hi f t).map fD)
    have st : bNm 4 (fD f) [.val (vatD s lo hi), .val (bdD a b), .val (seenD xs ys), .own false (.lst ((pre.filter fun f => (trs xs ys).all fun t => fitB s lo hi f t).map fD)), s4, .emp, .emp, .emp] = some [.val (vatD s lo hi), .val (bdD a b), .val (seenD xs ys), .own false (.lst ((pre.filter fun f => (trs xs ys).all fun t => fitB s lo hi f t).map fD)), .val (fD f), .emp, .emp, .emp] := by
      rcases h4 with rfl | ⟨v, rfl⟩ <;> simp
    refine ⟨_, [.val (vatD s lo hi), .val (bdD a b), .val (seenD xs ys), .own false (.lst (((pre ++ [f]).filter fun f => (trs xs ys).all fun t => fitB s lo hi f t).map fD)), .val (fD f), .emp, .emp, .emp], .nx, st, ?_, .inl rfl, .val (fD f), .inr ⟨_, rfl⟩, rfl⟩
    unfold b_may_be_0
    simp only [ap_sIfS, ap_sTru, ap_sBlt, ap_sCons, e0, ap_sNil, Option.bind_some, lookAll, look, gAll_of, RR.toR, boolS_some]
    rw [List.filter_append, List.filter_cons, List.filter_nil]
    split
    · rename_i hc
      have hc' : ((trs xs ys).all fun t => fitB s lo hi f t) = true := hc
      simp only [hc', if_true, List.map_append]
      simp only [ap_sApp, List.getElem?_cons_succ, List.getElem?_cons_zero, ownL, Option.bind_some, ap_sVar, varS_val, fz, hlen, if_true, List.set_cons_succ, List.set_cons_zero]
      rfl
    · rename_i hc
      have hc' : ¬ ((trs xs ys).all fun t => fitB s lo hi f t) = true := hc
      simp only [hc', if_false, List.append_nil]; rfl)
  have e2 : f_may_be_0 [.val (vatD s lo hi), .val (bdD a b), .val (seenD xs ys), .own false (.lst []), .emp, .emp, .emp, .emp] = some (.nx, [.val (vatD s lo hi), .val (bdD a b), .val (seenD xs ys), .own false (.lst (((faults a b).filter fun f => (trs xs ys).all fun t => fitB s lo hi f t).map fD)), s4, .emp, .emp, .emp]) := by
    unfold f_may_be_0
    simp [x_all_faults hb, e]
  simp [g_may_be, fnS, runF, s_may_be, x_check_bounds h hb', x_is_seen h hb hs, e2]
end L41


set_option linter.all false
set_option Elab.async false
set_option maxRecDepth 100000
namespace L41
open PySem PySem.Spec PyProof.Rows L2 Sd
/-- what a pot holds -/
def Pt (n : Int) (o : Ob) : Prop := ∃ p0 p1 p2 : Int, o = .lst [.int p0, .int p1, .int p2] ∧ 0 ≤ p0 ∧ 0 ≤ p1 ∧ p1 < 2305843009213693921 ∧ 0 ≤ p2 ∧ p2 ≤ n
theorem x_take {n u : Int} {o : Ob} (h : Pt n o) (hn : n ≤ 1000000) (hu : 0 < u) (hu2 : u ≤ 1000000000) :
    ∃ v o', g__law_take [.own true o, .val (.int u)] = some (.imm (.int v), [.own true o', .val (.int u)]) ∧ Pt (n + 1) o' ∧ 0 ≤ v ∧ v < u := by
  obtain ⟨p0, p1, p2, rfl, h0, h1, h2, h3, h4⟩ := h
  have e0 : gMod (.int p0) (.int u) = some (.at (.int (p0 % u))) := gMod_ok hu
  have e1 : gDiv (.int p0) (.int u) = some (.at (.int (p0 / u))) := gDiv_ok hu (by omega)
  by_cases hp : 0 < p0
  · refine ⟨p0 % u, .lst [.int (p0 / u), .int p1, .int p2], ?_, ⟨_, _, _, rfl, Int.ediv_nonneg h0 (by omega), h1, h2, h3, by omega⟩, Int.emod_nonneg _ (by omega), Int.emod_lt_of_pos _ hu⟩
    simp [g__law_take, fnS, runF, s__law_take, e0, e1, hp]
  · have hp0 : p0 = 0 := by omega
    have q2 : 0 ≤ p2 + 1 ∧ p2 + 1 ≤ 1000001 := by omega
    have f1 : gMod (.int (p2 + 1)) (.int 5) = some (.at (.int ((p2 + 1) % 5))) := gMod_ok (by decide)
    have f2 : gMul (.int 85275) (.int (p2 + 1)) = some (.at (.int (85275 * (p2 + 1)))) := gMul_ok (by decide) (by omega)
    have b2 : 0 ≤ 85275 * (p2 + 1) ∧ 85275 * (p2 + 1) ≤ 100000000000 := by omega
    have f3 : gMul (.int (85275 * (p2 + 1))) (.int (p2 + 1)) = some (.at (.int (85275 * (p2 + 1) * (p2 + 1)))) := gMul_ok (by omega) (by omega)
    have b3 : 0 ≤ 85275 * (p2 + 1) * (p2 + 1) ∧ 85275 * (p2 + 1) * (p2 + 1) ≤ 100000000000 * 1000001 := ⟨Int.mul_nonneg b2.1 q2.1, Int.mul_le_mul b2.2 q2.2 q2.1 (by omega)⟩
    obtain ⟨m, hm⟩ : ∃ m, m = p1 + 85275 * (p2 + 1) * (p2 + 1) + 113 := ⟨_, rfl⟩
    have bm : 0 ≤ m ∧ m < 10000000000000000000 := by omega
    have f4 : gPow (.int m) (.int 3) = some (.at (.int (m ^ 3))) := gPow_ok 100 (by decide) (Nat.lt_of_lt_of_le (show m.natAbs < 10000000000000000000 by omega) (by decide)) (by decide) (by decide) (by decide)
    have hpr : ∃ q, atI [PyData.int 2147483647, .int 2147483629, .int 2147483587, .int 2147483579, .int 2147483563] ((p2 + 1) % 5) = some (.int q) ∧ 0 < q ∧ q ≤ 2147483647 := by
      have c0 := Int.emod_nonneg (p2 + 1) (show (5 : Int) ≠ 0 by decide)
      have c1 := Int.emod_lt_of_pos (p2 + 1) (show (0 : Int) < 5 by decide)
      generalize (p2 + 1) % 5 = j at c0 c1
      have : j = 0 ∨ j = 1 ∨ j = 2 ∨ j = 3 ∨ j = 4 := by omega
      rcases this with rfl | rfl | rfl | rfl | rfl
      · exact ⟨_, atI_0, by decide⟩
      · exact ⟨_, atI_1, by decide⟩
      · exact ⟨_, atI_2, by decide⟩
      · exact ⟨_, atI_3, by decide⟩
      · exact ⟨_, atI_4, by decide⟩
    obtain ⟨q, hq, q0, q1⟩ := hpr
    have f5 : gMod (.int (m ^ 3)) (.int q) = some (.at (.int (m ^ 3 % q))) := gMod_ok q0
    obtain ⟨r, hr⟩ : ∃ r, r = m ^ 3 % q := ⟨_, rfl⟩
    have br : 0 ≤ r ∧ r < q := by rw [hr]; exact ⟨Int.emod_nonneg _ (by omega), Int.emod_lt_of_pos _ q0⟩
    rw [← hr] at f5
    have f6 : gMod (.int r) (.int 10383) = some (.at (.int (r % 10383))) := gMod_ok (by decide)
    have b6 : 0 ≤ r % 10383 ∧ r % 10383 < 10383 := ⟨Int.emod_nonneg _ (by decide), Int.emod_lt_of_pos _ (by decide)⟩
    have f7 : gMul (.int 172) (.int (p2 + 1)) = some (.at (.int (172 * (p2 + 1)))) := gMul_ok (by decide) (by omega)
    have f8 : gMul (.int r) (.int (r % 10383 + 172 * (p2 + 1))) = some (.at (.int (r * (r % 10383 + 172 * (p2 + 1))))) := gMul_ok (by omega) (by omega)
    obtain ⟨z, hz⟩ : ∃ z, z = r * (r % 10383 + 172 * (p2 + 1)) := ⟨_, rfl⟩
    rw [← hz] at f8
    have f9 : gMod (.int z) (.int 2305843009213693907) = some (.at (.int (z % 2305843009213693907))) := gMod_ok (by decide)
    have f10 : gDiv (.int (z % 2305843009213693907)) (.int 263) = some (.at (.int (z % 2305843009213693907 / 263))) := gDiv_ok (by decide) (by decide)
    have f11 : gMod (.int (z % 2305843009213693907 / 263)) (.int u) = some (.at (.int (z % 2305843009213693907 / 263 % u))) := gMod_ok hu
    refine ⟨z % 2305843009213693907 / 263 % u, .lst [.int 0, .int p1, .int (p2 + 1)], ?_, ⟨_, _, _, rfl, Int.le_refl 0, h1, h2, by omega, by omega⟩, Int.emod_nonneg _ (by omega), Int.emod_lt_of_pos _ hu⟩
    simp [g__law_take, fnS, runF, s__law_take, hp0, f1, f2, f3, ← hm, f4, hq, f5, f6, f7, f8, f9, f10, f11]
end L41


set_option linter.all false
set_option Elab.async false
set_option maxRecDepth 100000
namespace L41
open PySem PySem.Spec PyProof.Rows L2 Sd
theorem x_of {n : Int} {o : Ob} {l : List PyData} (h : Pt n o) (hn : n ≤ 1000000) (hl : l ≠ []) (hl2 : l.length ≤ 1000) :
    ∃ d o', g__law_of [.own true o, .own true (.lst l)] = some (.imm d, [.own true o', .own true (.lst l)]) ∧ Pt (n + 1) o' ∧ d ∈ l := by
  have h0 : 0 < l.length := List.length_pos_iff.mpr hl
  obtain ⟨v, o', e, P, v0, v1⟩ := x_take (u := (l.length : Int)) h hn (by omega) (by omega)
  have hv : v.toNat < l.length := by omega
  refine ⟨l[v.toNat], o', ?_, P, List.getElem_mem hv⟩
  have ei : atI l v = some l[v.toNat] := atI_of v0 (List.getElem?_eq_getElem hv)
  simp [g__law_of, fnS, runF, s__law_of, e, ei]
def apD (s w : Int) : PyData := if s = 0 then .none else .int (w / (s.natAbs : Int) + 1)
theorem x_law_far {s lo hi x y : Int} (hxy : (x - y).natAbs ≤ 10000) (hw : lo ≤ hi) : g__law_far [.val (apD s (hi - lo)), .val (.int x), .val (.int y)] = some (.imm (.bool (far s lo hi x y)), [.val (apD s (hi - lo)), .val (.int x), .val (.int y)]) := by
  rw [far_kk hxy hw]
  unfold kk apD
  by_cases h : s = 0
  · rw [if_pos h, if_pos h]
    have : ¬ ((100000 : Int) ≤ ((x - y).natAbs : Int)) := by omega
    simp [g__law_far, fnS, runF, s__law_far]
    omega
  · rw [if_neg h, if_neg h]
    simp [g__law_far, fnS, runF, s__law_far]
theorem kk_le {s lo hi : Int} (h : Vt s lo hi) (hs : s ≠ 0) : kk s (hi - lo) ≤ 101 := by
  unfold kk
  rw [if_neg hs]
  have hw := h.w
  have : (hi - lo) / (s.natAbs : Int) ≤ hi - lo := Int.ediv_le_self _ (by omega)
  omega
theorem any_false {l : List Int} {p : Int → Bool} (h : ∀ x ∈ l, p x = false) : l.any p = false := by
  rw [List.any_eq_false]
  intro x m
  rw [h x m]; decide
theorem sm_rowD {a b k : Int} (hb : Bd a b) (hk1 : 1 ≤ k) : Sm (rowD a b k) := by
  have hb' := hb.b
  unfold rowD
  split
  · exact (sz_tup2 (sz_str (x := "row") (by decide +kernel)) (sz_tup2 (sz_int (i := a) (by omega)) (sz_int (i := a + 2 * k - 1) (by omega)))).sm
  · exact (sz_tup2 (sz_str (x := "never") (by decide +kernel)) (sz_int (i := max a (b - k + 1)) (by omega))).sm
/-- the least row shows itself -/
theorem x_shows_self {s lo hi a b : Int} (h : Vt s lo hi) (hb : Bd a b) : g_shows_row [.val (vatD s lo hi), .val (bdD a b), .val (rowD a b (kk s (hi - lo)))] = some (.imm (.bool true), [.val (vatD s lo hi), .val (bdD a b), .val (rowD a b (kk s (hi - lo)))]) := by
  have hb' := hb.b
  have hk1 := kk_pos (s := s) (w := hi - lo) (by have := h.w; omega)
  unfold rowD
  split
  · rename_i hk
    rw [x_shows_row h hb (by omega) (by omega), rgI_all.mpr]
    intro t t1 t2
    rw [far_k h hb ⟨Int.le_refl a, by omega⟩ ⟨by omega, by omega⟩, far_k h hb ⟨by omega, by omega⟩ ⟨by omega, by omega⟩, Bool.or_eq_true, decide_eq_true_eq, decide_eq_true_eq]
    omega
  · rename_i hk
    rw [x_shows_never h hb (by omega), any_false]
    · rfl
    · intro x mx
      have := mem_rgI.mp mx
      rw [far_k h hb ⟨by omega, by omega⟩ ⟨by omega, by omega⟩, decide_eq_false_iff_not]
      omega
theorem x_shows_ends {s lo hi a b : Int} (h : Vt s lo hi) (hb : Bd a b) : g_shows_row [.val (vatD s lo hi), .val (bdD a b), .val (.tuple [.str "row", bdD a b])] = some (.imm (.bool (decide (2 * kk s (hi - lo) - 1 ≤ b - a))), [.val (vatD s lo hi), .val (bdD a b), .val (.tuple [.str "row", bdD a b])]) := by
  have hb' := hb.b
  have hk1 := kk_pos (s := s) (w := hi - lo) (by have := h.w; omega)
  rw [x_shows_row h hb (by omega) (by omega)]
  congr 5
  rw [Bool.eq_iff_iff, rgI_all, decide_eq_true_eq]
  constructor
  · intro hall
    apply Decidable.byContradiction
    intro hk
    have h1 := hall (max a (b - kk s (hi - lo) + 1)) (by omega) (by omega)
    rw [far_k h hb ⟨Int.le_refl a, by omega⟩ ⟨by omega, by omega⟩, far_k h hb ⟨by omega, by omega⟩ ⟨by omega, by omega⟩, Bool.or_eq_true, decide_eq_true_eq, decide_eq_true_eq] at h1
    omega
  · intro hk t t1 t2
    rw [far_k h hb ⟨Int.le_refl a, by omega⟩ ⟨by omega, by omega⟩, far_k h hb ⟨by omega, by omega⟩ ⟨by omega, by omega⟩, Bool.or_eq_true, decide_eq_true_eq, decide_eq_true_eq]
    omega
theorem x_shows_near {s lo hi a b : Int} (h : Vt s lo hi) (hb : Bd a b) (hk : 2 * kk s (hi - lo) - 1 ≤ b - a) : g_shows_row [.val (vatD s lo hi), .val (bdD a b), .val (.tuple [.str "row", .tuple [.int a, .int (a + 2 * kk s (hi - lo) - 2)]])] = some (.imm (.bool false), [.val (vatD s lo hi), .val (bdD a b), .val (.tuple [.str "row", .tuple [.int a, .int (a + 2 * kk s (hi - lo) - 2)]])]) := by
  have hb' := hb.b
  have hk1 := kk_pos (s := s) (w := hi - lo) (by have := h.w; omega)
  rw [x_shows_row h hb (by omega) (by omega)]
  congr 5
  rw [Bool.eq_false_iff, ne_eq, rgI_all]
  intro hall
  have h1 := hall (a + kk s (hi - lo) - 1) (by omega) (by omega)
  rw [far_k h hb ⟨Int.le_refl a, by omega⟩ ⟨by omega, by omega⟩, far_k h hb ⟨by omega, by omega⟩ ⟨by omega, by omega⟩, Bool.or_eq_true, decide_eq_true_eq, decide_eq_true_eq] at h1
  omega
theorem x_shows_least {s lo hi a b : Int} (h : Vt s lo hi) (hb : Bd a b) (hk : 2 * kk s (hi - lo) - 1 ≤ b - a) : g_shows_row [.val (vatD s lo hi), .val (bdD a b), .val (.tuple [.str "never", .int a])] = some (.imm (.bool false), [.val (vatD s lo hi), .val (bdD a b), .val (.tuple [.str "never", .int a])]) := by
  have hb' := hb.b
  have hk1 := kk_pos (s := s) (w := hi - lo) (by have := h.w; omega)
  rw [x_shows_never h hb (by omega)]
  rw [rgI_any.mpr]
  · rfl
  · refine ⟨b, by omega, by omega, ?_⟩
    rw [far_k h hb ⟨by omega, Int.le_refl b⟩ ⟨Int.le_refl a, by omega⟩, decide_eq_true_eq]
    omega
theorem x_row_right {s lo hi a b : Int} (h : Vt s lo hi) (hb : Bd a b) : g__law_is_row_right [.val (vatD s lo hi), .val (bdD a b), .val (apD s (hi - lo))] = some (.imm (.bool true), [.val (vatD s lo hi), .val (bdD a b), .val (apD s (hi - lo))]) := by
  have hb' := hb.b
  have hk1 := kk_pos (s := s) (w := hi - lo) (by have := h.w; omega)
  have e1 := x_least_row h hb
  have e2 := x_shows_self h hb
  have e3 := x_shows_ends h hb
  have e4 := gRepr_sm (sm_rowD (k := kk s (hi - lo)) hb hk1)
  by_cases hs : s = 0
  · have hkk : kk s (hi - lo) = 100000 := by unfold kk; rw [if_pos hs]
    have hk : ¬ (2 * kk s (hi - lo) - 1 ≤ b - a) := by omega
    have hap : apD s (hi - lo) = .none := by unfold apD; rw [if_pos hs]
    have hm : max a (b - kk s (hi - lo) + 1) = a := by omega
    simp only [rowD, if_neg hk, hm] at e1 e2 e4
    rw [decide_eq_false hk] at e3
    rw [hap]
    simp [g__law_is_row_right, fnS, runF, s__law_is_row_right, e1, e2, e3, e4]
  · have hkk : kk s (hi - lo) = (hi - lo) / (s.natAbs : Int) + 1 := by unfold kk; rw [if_neg hs]
    have hap : apD s (hi - lo) = .int (kk s (hi - lo)) := by unfold apD; rw [if_neg hs, hkk]
    have hle := kk_le h hs
    have m1 : gMul (.int 2) (.int (kk s (hi - lo))) = some (.at (.int (2 * kk s (hi - lo)))) := gMul_ok (by decide) (by omega)
    have e5 := @x_shows_near s lo hi a b h hb
    have e6 := @x_shows_least s lo hi a b h hb
    rw [hap]
    generalize kk s (hi - lo) = k at *
    by_cases hk : 2 * k - 1 ≤ b - a
    · simp only [rowD, if_pos hk] at e1 e2 e4
      rw [decide_eq_true hk] at e3
      have e5 := e5 hk
      have e6 := e6 hk
      have hk' : 2 * k ≤ b - a + 1 := by omega
      simp [g__law_is_row_right, fnS, runF, s__law_is_row_right, e1, e2, e3, e4, e5, e6, m1, hk, hk', str_row_never]
    · simp only [rowD, if_neg hk] at e1 e2 e4
      rw [decide_eq_false hk] at e3
      simp [g__law_is_row_right, fnS, runF, s__law_is_row_right, e1, e2, e3, e4, m1, hk]
end L41


set_option linter.all false
set_option Elab.async false
set_option maxRecDepth 100000
namespace L41
open PySem PySem.Spec PyProof.Rows L2 Sd
theorem xc_rows_0 {n s lo hi a b : Int} {o : Ob} (h : Vt s lo hi) (hb : Bd a b) (P : Pt n o) (hn : n ≤ 100000) :
    ∃ (zs : List Int) (o' : Ob), c__law_are_rows_told_0 [.own true o, .val (vatD s lo hi), .val (bdD a b), .val (apD s (hi - lo)), .emp, .emp, .emp, .emp, .emp, .emp, .emp, .emp] = some (.tmp (.lst (zs.map .int)), [.own true o', .val (vatD s lo hi), .val (bdD a b), .val (apD s (hi - lo)), .emp, .emp, .emp, .emp, .emp, .emp, .emp, .emp]) ∧ Pt (n + 10) o' ∧ zs.length ≤ 5 ∧ ∀ z ∈ zs, a ≤ z ∧ z ≤ b := by
  have hb' := hb.b
  obtain ⟨v, o1, e1, P1, v0, v1⟩ := x_take (u := 6) P (by omega) (by decide) (by decide)
  have r : rgOk 0 v := by unfold rgOk; omega
  unfold c__law_are_rows_told_0
  obtain ⟨out, ρ', ⟨o2, zs, rfl, hzl, hz, P2, rfl⟩, e⟩ := sComp_state (f := PyData.int) (vs := [5]) (b := bNm 5) (te := sOp gAdd (sOp gIx (sVar 2) (sK (.int 0))) (sCalF g__law_take (sCons (sVar 0) (sCons (sOp gAdd (sOp gSub (sOp gIx (sVar 2) (sK (.int 1))) (sOp gIx (sVar 2) (sK (.int 0)))) (sK (.int 1))) sNil))))
    (it := sRg1 (sCons (sCalF g__law_take (sCons (sVar 0) (sCons (sK (.int 6)) sNil))) sNil)) (ρ := [.own true o, .val (vatD s lo hi), .val (bdD a b), .val (apD s (hi - lo)), .emp, .emp, .emp, .emp, .emp, .emp, .emp, .emp])
    (ρ0 := [.own true o1, .val (vatD s lo hi), .val (bdD a b), .val (apD s (hi - lo)), .emp, .emp, .emp, .emp, .emp, .emp, .emp, .emp])
    (fun done out ρ => ∃ (o2 : Ob) (zs : List Int), out = zs.map .int ∧ zs.length = done.length ∧ (∀ z ∈ zs, a ≤ z ∧ z ≤ b) ∧ Pt (n + 1 + done.length) o2 ∧ ρ = [.own true o2, .val (vatD s lo hi), .val (bdD a b), .val (apD s (hi - lo)), .emp, .emp, .emp, .emp, .emp, .emp, .emp, .emp]) (rgI 0 v)
    (by simp [e1, r, rgD_eq]) (by rw [rgI_len]; omega) (by simp) ⟨o1, [], rfl, rfl, by simp, by simpa using P1, by simp⟩ (by
      rintro pre x post out ρ hy ⟨o2, zs, rfl, hzl, hz, P2, rfl⟩
      have hlen : (rgI 0 v).length = pre.length + (post.length + 1) := by rw [hy, List.length_append, List.length_cons]
      rw [rgI_len] at hlen
      obtain ⟨w, o3, e3, P3, w0, w1⟩ := x_take (u := b - a + 1) P2 (by omega) (by omega) (by omega)
      refine ⟨[.own true o2, .val (vatD s lo hi), .val (bdD a b), .val (apD s (hi - lo)), .emp, .val (.int x), .emp, .emp, .emp, .emp, .emp, .emp], .imm (.int (a + w)), [.own true o3, .val (vatD s lo hi), .val (bdD a b), .val (apD s (hi - lo)), .emp, .val (.int x), .emp, .emp, .emp, .emp, .emp, .emp], .int (a + w), _, by simp, by simp [e3], rfl, o3, zs ++ [a + w], by simp, by simp [hzl], ?_, ?_, by simp⟩
      · intro z hz'
        rcases List.mem_append.mp hz' with q | q
        · exact hz z q
        · simp at q
          omega
      · rw [List.length_append]
        have : n + 1 + ((pre.length + [x].length : Nat) : Int) = n + 1 + (pre.length : Int) + 1 := by simp; omega
        rw [this]; exact P3)
  rw [rgI_len] at hzl
  refine ⟨zs, o2, by rw [e]; simp, ?_, by omega, hz⟩
  obtain ⟨p0, p1, p2, q, q0, q1, q2, q3, q4⟩ := P2
  refine ⟨p0, p1, p2, q, q0, q1, q2, q3, ?_⟩
  rw [rgI_len] at q4
  omega
theorem Pt.up {n m : Int} {o : Ob} (h : Pt n o) (hm : n ≤ m) : Pt m o :=
  let ⟨p0, p1, p2, q, q0, q1, q2, q3, q4⟩ := h
  ⟨p0, p1, p2, q, q0, q1, q2, q3, by omega⟩
abbrev listD (l : List Int) : PyData := .list (l.map .int)
def tellB (s lo hi a b : Int) (l : List Int) : Bool := (rgI a (b + 1)).all fun t => l.any fun x => far s lo hi x t
theorem xc_rows_1 {s lo hi a b t : Int} {o : Ob} {v4 v6 s8 s11 : Slot} {l : List Int} (h : Vt s lo hi) (hb : Bd a b) (hl : l.length ≤ 1000) (hx : ∀ x ∈ l, a ≤ x ∧ x ≤ b) (ht : a ≤ t ∧ t ≤ b) :
    c__law_are_rows_told_1 [.own true o, .val (vatD s lo hi), .val (bdD a b), .val (apD s (hi - lo)), v4, .emp, v6, .val (listD l), s8, .emp, .val (.int t), s11] = some (.tmp (.lst (l.map fun x => .bool (far s lo hi x t))), [.own true o, .val (vatD s lo hi), .val (bdD a b), .val (apD s (hi - lo)), v4, .emp, v6, .val (listD l), s8, .emp, .val (.int t), s11]) := by
  have hb' := hb.b
  have hw := h.w
  unfold c__law_are_rows_told_1
  refine (sComp_map (f := .int) (fun x => .bool (far s lo hi x t)) l (ρ0 := [.own true o, .val (vatD s lo hi), .val (bdD a b), .val (apD s (hi - lo)), v4, .emp, v6, .val (listD l), s8, .emp, .val (.int t), s11]) ?_ (by omega) (by simp) ?_).trans ?_
  · simp
  · intro x m
    have := hx x m
    have e := x_law_far (s := s) (lo := lo) (hi := hi) (x := x) (y := t) (by omega) hw.2.1
    simp [e]
  · simp
theorem xc_rows_2 {s lo hi a b : Int} {o : Ob} {v4 v6 s8 s11 : Slot} {l : List Int} (h : Vt s lo hi) (hb : Bd a b) (hl : l.length ≤ 1000) (hx : ∀ x ∈ l, a ≤ x ∧ x ≤ b) :
    c__law_are_rows_told_2 [.own true o, .val (vatD s lo hi), .val (bdD a b), .val (apD s (hi - lo)), v4, .emp, v6, .val (listD l), s8, .emp, .emp, s11] = some (.tmp (.lst ((rgI a (b + 1)).map fun t => .bool (l.any fun x => far s lo hi x t))), [.own true o, .val (vatD s lo hi), .val (bdD a b), .val (apD s (hi - lo)), v4, .emp, v6, .val (listD l), s8, .emp, .emp, s11]) := by
  have hb' := hb.b
  have r : rgOk a (b + 1) := by unfold rgOk; omega
  unfold c__law_are_rows_told_2
  refine (sComp_map (f := .int) (fun t => .bool (l.any fun x => far s lo hi x t)) (rgI a (b + 1)) (ρ0 := [.own true o, .val (vatD s lo hi), .val (bdD a b), .val (apD s (hi - lo)), v4, .emp, v6, .val (listD l), s8, .emp, .emp, s11]) ?_ (by rw [rgI_len]; omega) (by simp) ?_).trans ?_
  · simp [r, rgD_eq]
  · intro t m
    obtain ⟨m1, m2⟩ := mem_rgI.mp m
    have e := xc_rows_1 (o := o) (v4 := v4) (v6 := v6) (s8 := s8) (s11 := s11) (t := t) h hb hl hx ⟨m1, by omega⟩
    simp [e]
  · simp
theorem xb_rows {n s lo hi a b : Int} {o : Ob} {v4 v6 s8 s11 : Slot} {l : List Int} (h : Vt s lo hi) (hb : Bd a b) (P : Pt n o) (hn : n ≤ 100000) (hl : l.length ≤ 60) (hx : ∀ x ∈ l, a ≤ x ∧ x ≤ b) (h8 : emV s8) (h11 : emV s11) :
    ∃ o' s8' s11', b__law_are_rows_told_0 [.own true o, .val (vatD s lo hi), .val (bdD a b), .val (apD s (hi - lo)), v4, .emp, v6, .val (listD l), s8, .emp, .emp, s11] = some (.nx, [.own true o', .val (vatD s lo hi), .val (bdD a b), .val (apD s (hi - lo)), v4, .emp, v6, .val (listD l), s8', .emp, .emp, s11']) ∧ Pt (n + 1) o' ∧ emV s8' ∧ emV s11' := by
  obtain ⟨w, o1, e1, P1, w0, w1⟩ := x_take (u := 401) P (by omega) (by decide) (by decide)
  have e2 := xc_rows_2 (o := o) (v4 := v4) (v6 := v6) (s8 := s8) (s11 := s11) h hb (by omega) hx
  have e3 := x_is_told (l := w - 200) h hb (by omega) hl hx
  have ht : (l.map PyData.int).take 60 = l.map .int := List.take_of_length_le (by rw [List.length_map]; exact hl)
  have sb : ∀ c, Sm (.bool c) := fun c => sz_bool.sm
  refine ⟨o1, .val (.bool (tellB s lo hi a b l)), .val (.int (w - 200)), ?_, P1, rfl, rfl⟩
  simp [b__law_are_rows_told_0, e2, e1, e3, gRepr_sm (sb _), h8.w, h11.w, ht, tellB]
end L41


set_option linter.all false
set_option Elab.async false
set_option maxRecDepth 100000
namespace L41
open PySem PySem.Spec PyProof.Rows L2 Sd
theorem xf_rows {n s lo hi a b : Int} {o : Ob} {v4 : Slot} {L : List (List Int)} (h : Vt s lo hi) (hb : Bd a b) (P : Pt n o) (hn : n ≤ 10000) (hL : L.length ≤ 1000) (hl : ∀ l ∈ L, l.length ≤ 60) (hx : ∀ l ∈ L, ∀ x ∈ l, a ≤ x ∧ x ≤ b) :
    ∃ o' s7 s8 s11, f__law_are_rows_told_0 [.own true o, .val (vatD s lo hi), .val (bdD a b), .val (apD s (hi - lo)), v4, .emp, .own false (.lst (L.map listD)), .emp, .emp, .emp, .emp, .emp] = some (.nx, [.own true o', .val (vatD s lo hi), .val (bdD a b), .val (apD s (hi - lo)), v4, .emp, .val (.list (L.map listD)), s7, s8, .emp, .emp, s11]) ∧ Pt (n + 1000) o' ∧ emV s8 := by
  obtain ⟨ρ', ⟨o', s7, s8, s11, P', h7, h8, h11, rfl⟩, e⟩ := loop_all (f := listD) (b := bNm 7) (body := b__law_are_rows_told_0) (xs := L) (ρ := [.own true o, .val (vatD s lo hi), .val (bdD a b), .val (apD s (hi - lo)), v4, .emp, .val (.list (L.map listD)), .emp, .emp, .emp, .emp, .emp])
    (fun done ρ => ∃ o' s7 s8 s11, Pt (n + done.length) o' ∧ emV s7 ∧ emV s8 ∧ emV s11 ∧ ρ = [.own true o', .val (vatD s lo hi), .val (bdD a b), .val (apD s (hi - lo)), v4, .emp, .val (.list (L.map listD)), s7, s8, .emp, .emp, s11]) ⟨o, .emp, .emp, .emp, by simpa using P, rfl, rfl, rfl, rfl⟩ (by
      rintro pre l post ρ hy ⟨o2, s7, s8, s11, P2, h7, h8, h11, rfl⟩
      have ml : l ∈ L := by rw [hy]; simp
      have hlen : L.length = pre.length + (post.length + 1) := by rw [hy, List.length_append, List.length_cons]
      obtain ⟨o3, s8', s11', e, P3, k8, k11⟩ := xb_rows (l := l) (v4 := v4) (v6 := .val (.list (L.map listD))) h hb P2 (by omega) (hl l ml) (hx l ml) h8 h11
      refine ⟨_, _, .nx, ?_, e, .inl rfl, o3, .val (listD l), s8', s11', ?_, rfl, k8, k11, rfl⟩
      · simp [h7.w]
      · rw [List.length_append]
        have : n + ((pre.length + [l].length : Nat) : Int) = n + (pre.length : Int) + 1 := by simp; omega
        rw [this]; exact P3)
  refine ⟨o', s7, s8, s11, ?_, P'.up (by omega), h8⟩
  unfold f__law_are_rows_told_0
  simp [e]
theorem xc_rows_3 {s lo hi a b t : Int} {o : Ob} {v4 v6 s7 s8 s11 : Slot} (h : Vt s lo hi) (hb : Bd a b) (ht : a ≤ t ∧ t ≤ b) :
    c__law_are_rows_told_3 [.own true o, .val (vatD s lo hi), .val (bdD a b), .val (apD s (hi - lo)), v4, .emp, v6, s7, s8, .emp, .val (.int t), s11] = some (.tmp (.lst (((rgI a (b + 1)).filter fun x => far s lo hi x t).map .int)), [.own true o, .val (vatD s lo hi), .val (bdD a b), .val (apD s (hi - lo)), v4, .emp, v6, s7, s8, .emp, .val (.int t), s11]) := by
  have hb' := hb.b
  have hw := h.w
  have r : rgOk a (b + 1) := by unfold rgOk; omega
  unfold c__law_are_rows_told_3
  refine (sComp_val (f := .int) (fun x => far s lo hi x t) .int (rgI a (b + 1)) (ρ0 := [.own true o, .val (vatD s lo hi), .val (bdD a b), .val (apD s (hi - lo)), v4, .emp, v6, s7, s8, .emp, .val (.int t), s11]) ?_ (by rw [rgI_len]; omega) (by simp) ?_).trans ?_
  · simp [r, rgD_eq]
  · intro x m
    obtain ⟨m1, m2⟩ := mem_rgI.mp m
    have e := x_law_far (s := s) (lo := lo) (hi := hi) (x := x) (y := t) (by omega) hw.2.1
    simp [e]
  · simp
theorem x_rows_told {n s lo hi a b : Int} {o : Ob} (h : Vt s lo hi) (hb : Bd a b) (P : Pt n o) (hn : n ≤ 1000) :
    ∃ o', g__law_are_rows_told [.own true o, .val (vatD s lo hi), .val (bdD a b), .val (apD s (hi - lo))] = some (.imm (.bool true), [.own true o', .val (vatD s lo hi), .val (bdD a b), .val (apD s (hi - lo))]) ∧ Pt (n + 2000) o' := by
  have hb' := hb.b
  obtain ⟨zs, o1, e1, P1, z1, z2⟩ := xc_rows_0 h hb P (by omega)
  let L : List (List Int) := [zs, (List.replicate 10 zs).flatten, zs ++ [a], zs ++ [a, b], b :: zs.take 1]
  have hflen : (List.replicate 10 zs).flatten.length ≤ 50 := by
    rw [List.length_flatten, List.map_replicate, List.sum_replicate_nat]; omega
  have hl : ∀ l ∈ L, l.length ≤ 60 := by
    intro l m
    simp only [L, List.mem_cons, List.not_mem_nil, or_false] at m
    rcases m with rfl | rfl | rfl | rfl | rfl
    · omega
    · omega
    · simp; omega
    · simp; omega
    · simp
      omega
  have hx : ∀ l ∈ L, ∀ x ∈ l, a ≤ x ∧ x ≤ b := by
    intro l m x mx
    simp only [L, List.mem_cons, List.not_mem_nil, or_false] at m
    rcases m with rfl | rfl | rfl | rfl | rfl
    · exact z2 x mx
    · simp at mx
      exact z2 x mx
    · simp at mx
      rcases mx with q | rfl
      · exact z2 x q
      · omega
    · simp at mx
      rcases mx with q | rfl | rfl
      · exact z2 x q
      · omega
      · omega
    · rcases List.mem_cons.mp mx with rfl | q
      · omega
      · exact z2 x (List.mem_of_mem_take q)
  obtain ⟨o2, s7, s8, s11, e2, P2, h8⟩ := xf_rows (v4 := .val (listD zs)) (L := L) h hb P1 (by omega) (by simp [L]) hl hx
  obtain ⟨w, o3, e3, P3, w0, w1⟩ := x_take (u := b - a + 1) P2 (by omega) (by omega) (by omega)
  have e4 := xc_rows_3 (t := a + w) (o := o3) (v4 := .val (listD zs)) (v6 := .val (.list (L.map listD))) (s7 := s7) (s8 := s8) (s11 := s11) h hb ⟨by omega, by omega⟩
  have e5 := x_telling (t := a + w) h hb ⟨by omega, by omega⟩
  have hs : Sm (.tuple (((rgI a (b + 1)).filter fun x => far s lo hi x (a + w)).map .int)) := sm_intsT (by
    have := List.length_filter_le (fun x => far s lo hi x (a + w)) (rgI a (b + 1))
    rw [rgI_len] at this
    omega) (fun x m => by
      have := mem_rgI.mp (List.mem_filter.mp m).1
      omega)
  have m1 : gMul (.list (zs.map .int)) (.int 10) = some (.nl (List.replicate 10 (zs.map PyData.int)).flatten) := gMul_list (by decide) (by decide) (by rw [List.length_map]; omega)
  have hLm : L.map listD = [.list (zs.map .int), .list (List.replicate 10 (zs.map PyData.int)).flatten, .list (zs.map .int ++ [.int a]), .list (zs.map .int ++ [.int a, .int b]), .list (.int b :: (zs.map .int).take 1)] := by
    simp [L, List.map_flatten]
  rw [hLm] at e2 e4
  generalize (List.replicate 10 (zs.map PyData.int)).flatten = R10 at m1 e2 e4
  have l1 : zs.length + 1 ≤ 1000000 := by omega
  have l2 : zs.length + 2 ≤ 1000000 := by omega
  have l3 : 1 + min 1 zs.length ≤ 1000000 := by omega
  refine ⟨o3, ?_, P3.up (by omega)⟩
  simp [g__law_are_rows_told, fnS, runF, s__law_are_rows_told, e1, m1, l1, l2, l3, e2, e3, e4, e5, gRepr_sm hs, h8.w]
end L41


set_option linter.all false
set_option Elab.async false
set_option maxRecDepth 100000
namespace L41
open PySem PySem.Spec PyProof.Rows L2 Sd
theorem trs_snoc : ∀ {xs ys : List Int} {c u v : Int}, ys.length = xs.length + 1 → ys.getLast? = some u → trs (xs ++ [c]) (ys ++ [v]) = trs xs ys ++ [(c, u, v)]
  | [], [y], c, u, v, _, hu => by
    have : y = u := by simpa using hu
    subst this; rfl
  | x :: xs, y :: z :: ys, c, u, v, hl, hu => by
    have ih := trs_snoc (xs := xs) (ys := z :: ys) (c := c) (u := u) (v := v) (by simpa using hl) (by simpa using hu)
    show (x, y, z) :: trs (xs ++ [c]) ((z :: ys) ++ [v]) = _
    rw [ih]; rfl
  | [], [], _, _, _, hl, _ => by simp at hl
  | [], _ :: _ :: _, _, _, _, hl, _ => by simp at hl
  | _ :: _, [], _, _, _, hl, _ => by simp at hl
  | _ :: _, [_], _, _, _, hl, _ => by simp at hl
def chs (ys : List Int) : List Int := (ys.zip (ys.drop 1)).map fun p => p.2 - p.1
theorem chs_len {ys : List Int} : (chs ys).length = ys.length - 1 := by
  unfold chs
  rw [List.length_map, List.length_zip, List.length_drop]; omega
/-- what fits a fault, by the changes -/
theorem fit_stuck : ∀ {xs ys : List Int} {s lo hi r : Int}, ys.length = xs.length + 1 → ((trs xs ys).all (fun t => fitB s lo hi (some r) t) = true ↔ ∀ c ∈ chs ys, lo ≤ c - s * r ∧ c - s * r ≤ hi)
  | [], [y], s, lo, hi, r, _ => by simp [trs, chs]
  | x :: xs, y :: z :: ys, s, lo, hi, r, hl => by
    have ih := fit_stuck (xs := xs) (ys := z :: ys) (s := s) (lo := lo) (hi := hi) (r := r) (by simpa using hl)
    have e1 : trs (x :: xs) (y :: z :: ys) = (x, y, z) :: trs xs (z :: ys) := rfl
    have e2 : chs (y :: z :: ys) = (z - y) :: chs (z :: ys) := rfl
    rw [e1, e2, List.all_cons, Bool.and_eq_true, ih, List.forall_mem_cons]
    unfold fitB realOf
    rw [Bool.and_eq_true, decide_eq_true_eq, decide_eq_true_eq]
    dsimp only
    constructor
    · rintro ⟨⟨h1, h2⟩, h3⟩; exact ⟨⟨by omega, by omega⟩, h3⟩
    · rintro ⟨⟨h1, h2⟩, h3⟩; exact ⟨⟨by omega, by omega⟩, h3⟩
  | [], [], _, _, _, _, hl => by simp at hl
  | [], _ :: _ :: _, _, _, _, _, hl => by simp at hl
  | _ :: _, [], _, _, _, _, hl => by simp at hl
  | _ :: _, [_], _, _, _, _, hl => by simp at hl
theorem fit_fine : ∀ {xs ys : List Int} {s lo hi : Int}, ys.length = xs.length + 1 → ((chs ys).zip xs).all (fun p => decide (lo ≤ p.1 - s * p.2) && decide (p.1 - s * p.2 ≤ hi)) = (trs xs ys).all (fun t => fitB s lo hi none t)
  | [], [y], s, lo, hi, _ => by simp [trs, chs]
  | x :: xs, y :: z :: ys, s, lo, hi, hl => by
    have ih := fit_fine (xs := xs) (ys := z :: ys) (s := s) (lo := lo) (hi := hi) (by simpa using hl)
    have e1 : trs (x :: xs) (y :: z :: ys) = (x, y, z) :: trs xs (z :: ys) := rfl
    have e2 : (chs (y :: z :: ys)).zip (x :: xs) = (z - y, x) :: (chs (z :: ys)).zip xs := rfl
    rw [e1, e2, List.all_cons, List.all_cons, ih]
    congr 1
    unfold fitB realOf
    rw [Bool.eq_iff_iff, Bool.and_eq_true, Bool.and_eq_true, decide_eq_true_eq, decide_eq_true_eq, decide_eq_true_eq, decide_eq_true_eq]
    dsimp only
    constructor
    · rintro ⟨h1, h2⟩; exact ⟨by omega, by omega⟩
    · rintro ⟨h1, h2⟩; exact ⟨by omega, by omega⟩
  | [], [], _, _, _, hl => by simp at hl
  | [], _ :: _ :: _, _, _, _, hl => by simp at hl
  | _ :: _, [], _, _, _, hl => by simp at hl
  | _ :: _, [_], _, _, _, hl => by simp at hl
/-- a run of neighbours -/
theorem convex_filter {p : Int → Bool} (hp : ∀ t1 t t2, t1 ≤ t → t ≤ t2 → p t1 = true → p t2 = true → p t = true) : ∀ (n : Nat) (lo hi : Int), (hi - lo).toNat = n → (rgI lo hi).filter p = [] ∨ ∃ m k, lo ≤ m ∧ m < k ∧ k ≤ hi ∧ (rgI lo hi).filter p = rgI m k
  | 0, lo, hi, h => by
    left
    rw [rgI_nil (by omega)]; rfl
  | n + 1, lo, hi, h => by
    rw [rgI_cons (by omega)]
    have ih := convex_filter hp n (lo + 1) hi (by omega)
    by_cases h0 : p lo = true
    · right
      rw [List.filter_cons, if_pos h0]
      rcases ih with e | ⟨m, k, h1, h2, h3, e⟩
      · refine ⟨lo, lo + 1, by omega, by omega, by omega, ?_⟩
        rw [e, rgI_cons (by omega), rgI_nil (by omega)]
      · have hm : p m = true := by
          have : m ∈ (rgI (lo + 1) hi).filter p := by rw [e]; exact mem_rgI.mpr ⟨by omega, h2⟩
          exact (List.mem_filter.mp this).2
        have h4 : p (lo + 1) = true := hp lo (lo + 1) m (by omega) h1 h0 hm
        have h5 : lo + 1 ∈ (rgI (lo + 1) hi).filter p := List.mem_filter.mpr ⟨mem_rgI.mpr ⟨by omega, by omega⟩, h4⟩
        rw [e] at h5
        have := mem_rgI.mp h5
        have hm1 : m = lo + 1 := by omega
        subst hm1
        refine ⟨lo, k, by omega, by omega, h3, ?_⟩
        rw [e, ← rgI_cons (by omega)]
    · rw [List.filter_cons, if_neg h0]
      rcases ih with e | ⟨m, k, h1, h2, h3, e⟩
      · exact .inl e
      · exact .inr ⟨m, k, by omega, h2, h3, e⟩
theorem rgI_last {m k : Int} (h : m < k) : (rgI m k).getLast? = some (k - 1) := by
  have e : rgI (k - 1) k = [k - 1] := by
    rw [rgI_cons (by omega), rgI_nil (by omega)]
  rw [rgI_app (lo := m) (mid := k - 1) (hi := k) (by omega) (by omega), e]
  simp
theorem stuck_convex {xs ys : List Int} {s lo hi : Int} (hl : ys.length = xs.length + 1) (t1 t t2 : Int) (h1 : t1 ≤ t) (h2 : t ≤ t2) (p1 : (trs xs ys).all (fun u => fitB s lo hi (some t1) u) = true) (p2 : (trs xs ys).all (fun u => fitB s lo hi (some t2) u) = true) : (trs xs ys).all (fun u => fitB s lo hi (some t) u) = true := by
  rw [fit_stuck hl] at *
  intro c m
  have a1 := p1 c m
  have a2 := p2 c m
  by_cases hs : 0 ≤ s
  · have b1 := Int.mul_le_mul_of_nonneg_left h1 hs
    have b2 := Int.mul_le_mul_of_nonneg_left h2 hs
    omega
  · have b1 := Int.mul_le_mul_of_nonpos_left (a := s) (by omega) h1
    have b2 := Int.mul_le_mul_of_nonpos_left (a := s) (by omega) h2
    omega
structure Co (a b s lo hi : Int) (F : Option Int) (xs ys : List Int) : Prop where
  m : ys.length = xs.length + 1
  x : ∀ x ∈ xs, a ≤ x ∧ x ≤ b
  y : ∀ y ∈ ys, -200 ≤ y ∧ y ≤ 200
  fit : ∀ t ∈ trs xs ys, fitB s lo hi F t = true
theorem Co.snoc {a b s lo hi : Int} {F : Option Int} {xs ys : List Int} (h : Co a b s lo hi F xs ys) {c u v : Int} (hc : a ≤ c ∧ c ≤ b) (hu : ys.getLast? = some u) (hv : -200 ≤ v ∧ v ≤ 200) (hf : fitB s lo hi F (c, u, v) = true) : Co a b s lo hi F (xs ++ [c]) (ys ++ [v]) := by
  refine ⟨by rw [List.length_append, List.length_append, h.m]; rfl, fun x m => ?_, fun y m => ?_, fun t m => ?_⟩
  · rcases List.mem_append.mp m with q | q
    · exact h.x x q
    · rw [List.mem_singleton.mp q]; exact hc
  · rcases List.mem_append.mp m with q | q
    · exact h.y y q
    · rw [List.mem_singleton.mp q]; exact hv
  · rw [trs_snoc h.m hu] at m
    rcases List.mem_append.mp m with q | q
    · exact h.fit t q
    · rw [List.mem_singleton.mp q]; exact hf
end L41


set_option linter.all false
set_option Elab.async false
set_option maxRecDepth 100000
namespace L41
open PySem PySem.Spec PyProof.Rows L2 Sd
/-- a fault as the law draws it -/
def ftD : Option Int → PyData
  | none => .none
  | some _ => .int 0
theorem xb_course {n s lo hi a b : Int} {o : Ob} {F : Option Int} {lv r x : Int} {xs ys : List Int} {s11 s12 s13 : Slot} (h : Vt s lo hi) (hb : Bd a b) (P : Pt n o) (hn : n ≤ 100000) (hr : a ≤ r ∧ r ≤ b) (hF : ∀ z, F = some z → z = r) (C : Co a b s lo hi F xs ys) (hl : xs.length ≤ 1000) (v11 : evV s11) (v12 : evV s12) (v13 : evV s13) :
    ∃ o' xs' ys' s11' s12' s13', b__law_is_course_right_0 [.own true o, .val (vatD s lo hi), .val (bdD a b), .val (.int lo), .val (.int hi), .val (ftD F), .val (.int lv), .own false (.lst (xs.map .int)), .own false (.lst (ys.map .int)), .val (.int r), .val (.int x), s11, s12, s13, .emp, .emp, .emp, .emp, .emp] =
      some (.nx, [.own true o', .val (vatD s lo hi), .val (bdD a b), .val (.int lo), .val (.int hi), .val (ftD F), .val (.int lv), .own false (.lst (xs'.map .int)), .own false (.lst (ys'.map .int)), .val (.int r), .val (.int x), s11', s12', s13', .emp, .emp, .emp, .emp, .emp]) ∧
      Pt (n + 2) o' ∧ Co a b s lo hi F xs' ys' ∧ xs'.length ≤ xs.length + 1 ∧ evV s11' ∧ evV s12' ∧ evV s13' := by
  have hb' := hb.b
  have hs := h.s
  have hw := h.w
  obtain ⟨w1, o1, e1, P1, w10, w11⟩ := x_take (u := b - a + 1) P (by omega) (by omega) (by omega)
  obtain ⟨w2, o2, e2, P2, w20, w21⟩ := x_take (u := hi - lo + 1) P1 (by omega) (by omega) (by omega)
  have hm := C.m
  have hne : ys ≠ [] := by intro z; rw [z] at hm; simp at hm
  obtain ⟨u, hu⟩ : ∃ u, ys.getLast? = some u := ⟨ys.getLast hne, List.getLast?_eq_some_getLast hne⟩
  have hu' : (ys.map PyData.int).getLast? = some (.int u) := by rw [List.getLast?_map, hu]; rfl
  have hc : a ≤ a + w1 ∧ a + w1 ≤ b := by omega
  have hreal : -1000 ≤ realOf F (a + w1) ∧ realOf F (a + w1) ≤ 1000 := by
    unfold realOf
    cases F with
    | none => dsimp only; omega
    | some z => have := hF z rfl; dsimp only; omega
  have m1 : gMul (.int s) (.int (realOf F (a + w1))) = some (.at (.int (s * realOf F (a + w1)))) := gMul_ok (by omega) (by omega)
  have l1 : xs.length < 1000000 := by omega
  have l2 : ys.length < 1000000 := by omega
  have hlen : ys.length = xs.length + 1 := C.m
  obtain ⟨v, hv⟩ : ∃ v, v = u + s * realOf F (a + w1) + (lo + w2) := ⟨_, rfl⟩
  have c11 := v11.2
  have c12 := v12.2
  have c13 := v13.2
  by_cases hr2 : -200 ≤ v ∧ v ≤ 200
  · refine ⟨o2, xs ++ [a + w1], ys ++ [v], .val (.int (a + w1)), .val (.int (lo + w2)), .val (.int v), ?_, P2.up (by omega), C.snoc hc hu hr2 ?_, by simp, evV_val, evV_val, evV_val⟩
    · cases F with
      | none =>
        simp only [realOf] at m1 hv
        simp [b__law_is_course_right_0, e1, e2, c11, c12, c13, hu', ftD, m1, ← hv, hr2, l1, l2]
      | some z =>
        have hz := hF z rfl
        subst hz
        simp only [realOf] at m1 hv
        simp [b__law_is_course_right_0, e1, e2, c11, c12, c13, hu', ftD, m1, ← hv, hr2, l1, l2]
    · unfold fitB
      rw [Bool.and_eq_true, decide_eq_true_eq, decide_eq_true_eq]
      dsimp only
      omega
  · refine ⟨o2, xs, ys, .val (.int (a + w1)), .val (.int (lo + w2)), .val (.int v), ?_, P2.up (by omega), C, by omega, evV_val, evV_val, evV_val⟩
    have hf : (decide (-200 ≤ v) && decide (v ≤ 200)) = false := by
      rw [Bool.eq_false_iff, ne_eq, Bool.and_eq_true, decide_eq_true_eq, decide_eq_true_eq]; exact hr2
    cases F with
    | none =>
      simp only [realOf] at m1 hv
      by_cases q : -200 ≤ v
      · have q2 : ¬ v ≤ 200 := fun z => hr2 ⟨q, z⟩
        simp [b__law_is_course_right_0, e1, e2, c11, c12, c13, hu', ftD, m1, ← hv, q, q2]
      · simp [b__law_is_course_right_0, e1, e2, c11, c12, c13, hu', ftD, m1, ← hv, q]
    | some z =>
      have hz := hF z rfl
      subst hz
      simp only [realOf] at m1 hv
      by_cases q : -200 ≤ v
      · have q2 : ¬ v ≤ 200 := fun z => hr2 ⟨q, z⟩
        simp [b__law_is_course_right_0, e1, e2, c11, c12, c13, hu', ftD, m1, ← hv, q, q2]
      · simp [b__law_is_course_right_0, e1, e2, c11, c12, c13, hu', ftD, m1, ← hv, q]
theorem xf_course {n s lo hi a b : Int} {o : Ob} {F : Option Int} {lv r : Int} (h : Vt s lo hi) (hb : Bd a b) (P : Pt n o) (hn : n ≤ 10000) (hr : a ≤ r ∧ r ≤ b) (hF : ∀ z, F = some z → z = r) (hlv : -200 ≤ lv ∧ lv ≤ 200) :
    ∃ o' xs ys s10 s11 s12 s13, f__law_is_course_right_0 [.own true o, .val (vatD s lo hi), .val (bdD a b), .val (.int lo), .val (.int hi), .val (ftD F), .val (.int lv), .own false (.lst []), .own false (.lst [.int lv]), .val (.int r), .emp, .emp, .emp, .emp, .emp, .emp, .emp, .emp, .emp] =
      some (.nx, [.own true o', .val (vatD s lo hi), .val (bdD a b), .val (.int lo), .val (.int hi), .val (ftD F), .val (.int lv), .own false (.lst (xs.map .int)), .own false (.lst (ys.map .int)), .val (.int r), s10, s11, s12, s13, .emp, .emp, .emp, .emp, .emp]) ∧
      Pt (n + 100) o' ∧ Co a b s lo hi F xs ys ∧ xs.length ≤ 30 ∧ evV s11 ∧ evV s13 := by
  obtain ⟨w, o1, e1, P1, w0, w1⟩ := x_take (u := 31) P (by omega) (by decide) (by decide)
  have r0 : rgOk 0 w := by unfold rgOk; omega
  obtain ⟨ρ', ⟨o', xs, ys, s10, s11, s12, s13, P', C', hl', v10, v11, v12, v13, rfl⟩, e⟩ := loop_all (f := PyData.int) (b := bNm 10) (body := b__law_is_course_right_0) (xs := rgI 0 w) (ρ := [.own true o1, .val (vatD s lo hi), .val (bdD a b), .val (.int lo), .val (.int hi), .val (ftD F), .val (.int lv), .own false (.lst []), .own false (.lst [.int lv]), .val (.int r), .emp, .emp, .emp, .emp, .emp, .emp, .emp, .emp, .emp])
    (fun done ρ => ∃ (o' : Ob) (xs ys : List Int) (s10 s11 s12 s13 : Slot), Pt (n + 1 + 2 * done.length) o' ∧ Co a b s lo hi F xs ys ∧ xs.length ≤ done.length ∧ evV s10 ∧ evV s11 ∧ evV s12 ∧ evV s13 ∧ ρ = [.own true o', .val (vatD s lo hi), .val (bdD a b), .val (.int lo), .val (.int hi), .val (ftD F), .val (.int lv), .own false (.lst (xs.map .int)), .own false (.lst (ys.map .int)), .val (.int r), s10, s11, s12, s13, .emp, .emp, .emp, .emp, .emp])
    ⟨o1, [], [lv], .emp, .emp, .emp, .emp, by simpa using P1, ⟨rfl, by simp, by simpa using hlv, by simp [trs]⟩, Nat.le_refl _, evV_emp, evV_emp, evV_emp, evV_emp, rfl⟩ (by
      rintro pre x post ρ hy ⟨o2, xs, ys, s10, s11, s12, s13, P2, C2, hl2, v10, v11, v12, v13, rfl⟩
      have hlen : (rgI 0 w).length = pre.length + (post.length + 1) := by rw [hy, List.length_append, List.length_cons]
      rw [rgI_len] at hlen
      obtain ⟨o3, xs', ys', s11', s12', s13', e3, P3, C3, hl3, k11, k12, k13⟩ := xb_course (x := x) (lv := lv) h hb P2 (by omega) hr hF C2 (by omega) v11 v12 v13
      refine ⟨_, _, .nx, ?_, e3, .inl rfl, o3, xs', ys', .val (.int x), s11', s12', s13', P3.up ?_, C3, ?_, evV_val, k11, k12, k13, rfl⟩
      · have := v10.2
        simp [this]
      · rw [List.length_append]
        simp
        omega
      · rw [List.length_append]
        simp
        omega)
  rw [rgI_len] at hl' P'
  refine ⟨o', xs, ys, s10, s11, s12, s13, ?_, P'.up (by omega), C', by omega, v11, v13⟩
  unfold f__law_is_course_right_0
  simp [e1, r0, rgD_eq, e]
end L41


set_option linter.all false
set_option Elab.async false
set_option maxRecDepth 100000
namespace L41
open PySem PySem.Spec PyProof.Rows L2 Sd
section
variable {n s lo hi a b : Int} {o : Ob} {F : Option Int} {lv r : Int} {xs ys : List Int} {s10 s11 s12 s13 s15 s16 s17 : Slot}
theorem xc_course_0 (hl : ys.length ≤ 1000) (v13 : evV s13) (v15 : evV s15) {vs7 : Slot} {d1 d2 : PyData} {q3 q4 q5 q6 q9 : Slot} :
    c__law_is_course_right_0 [.own true o, .val d1, .val d2, q3, q4, q5, q6, vs7, .own false (.lst (ys.map .int)), q9, s10, s11, s12, s13, .emp, s15, .emp, .emp, .emp] = some (.tmp (.lst ((chs ys).map .int)), [.own true o, .val d1, .val d2, q3, q4, q5, q6, vs7, .val (.list (ys.map .int)), q9, s10, s11, s12, s13, .emp, s15, .emp, .emp, .emp]) := by
  have e := zip2D_map PyData.int PyData.int ys (ys.drop 1)
  have e' : zip2D (ys.map .int) (ys.map PyData.int).tail = (ys.zip (ys.drop 1)).map fun p => .tuple [.int p.1, .int p.2] := by
    rw [← List.map_tail, ← List.drop_one]; exact e
  have a1 := v13.1
  have a2 := v15.1
  unfold c__law_is_course_right_0
  refine (sComp_map (f := fun p : Int × Int => .tuple [.int p.1, .int p.2]) (fun p => .int (p.2 - p.1)) (ys.zip (ys.drop 1)) (ρ0 := [.own true o, .val d1, .val d2, q3, q4, q5, q6, vs7, .val (.list (ys.map .int)), q9, s10, s11, s12, s13, .emp, s15, .emp, .emp, .emp]) ?_ ?_ ?_ ?_).trans ?_
  · simp [cutD_from1, e']
  · rw [List.length_zip]; omega
  · simp [a1, a2]
  · rintro ⟨p1, p2⟩ m
    simp
  · unfold chs
    simp
theorem xc_course_1 (h : Vt s lo hi) (hx : ∀ x ∈ xs, -1000 ≤ x ∧ x ≤ 1000) (hl : xs.length ≤ 1000) (v11 : evV s11) (v15 : evV s15) {cs : List Int} {d2 : PyData} {q5 q6 q8 q9 : Slot} :
    c__law_is_course_right_1 [.own true o, .val (vatD s lo hi), .val d2, .val (.int lo), .val (.int hi), q5, q6, .own false (.lst (xs.map .int)), q8, q9, s10, s11, s12, s13, .own false (.lst (cs.map .int)), s15, .emp, .emp, .emp] = some (.tmp (.lst ((cs.zip xs).map fun p => .bool (decide (lo ≤ p.1 - s * p.2) && decide (p.1 - s * p.2 ≤ hi)))), [.own true o, .val (vatD s lo hi), .val d2, .val (.int lo), .val (.int hi), q5, q6, .val (.list (xs.map .int)), q8, q9, s10, s11, s12, s13, .val (.list (cs.map .int)), s15, .emp, .emp, .emp]) := by
  have hs := h.s
  have e := zip2D_map PyData.int PyData.int cs xs
  have a1 := v11.1
  have a2 := v15.1
  unfold c__law_is_course_right_1
  refine (sComp_map (f := fun p : Int × Int => .tuple [.int p.1, .int p.2]) (fun p => .bool (decide (lo ≤ p.1 - s * p.2) && decide (p.1 - s * p.2 ≤ hi))) (cs.zip xs) (ρ0 := [.own true o, .val (vatD s lo hi), .val d2, .val (.int lo), .val (.int hi), q5, q6, .val (.list (xs.map .int)), q8, q9, s10, s11, s12, s13, .val (.list (cs.map .int)), s15, .emp, .emp, .emp]) ?_ ?_ ?_ ?_).trans ?_
  · simp [e]
  · rw [List.length_zip]; omega
  · simp [a1, a2]
  · rintro ⟨p1, p2⟩ m
    have hp := hx p2 (List.of_mem_zip m).2
    have m1 : gMul (.int s) (.int p2) = some (.at (.int (s * p2))) := gMul_ok (by omega) (by omega)
    simp [m1]
  · simp
def opB (s lo hi : Int) (cs : List Int) (t : Int) : Bool := decide (∀ c ∈ cs, lo ≤ c - s * t ∧ c - s * t ≤ hi)
theorem xf_open (h : Vt s lo hi) (hb : Bd a b) {cs : List Int} (hcl : cs.length ≤ 1000) (hcs : ∀ c ∈ cs, c.natAbs < 1000000) (v11 : evV s11) {q5 q6 q7 q8 q9 : Slot} :
    ∃ s11', f__law_is_course_right_1 [.own true o, .val (vatD s lo hi), .val (bdD a b), .val (.int lo), .val (.int hi), q5, q6, q7, q8, q9, s10, s11, s12, s13, .val (.list (cs.map .int)), s15, s16, .own false (.lst []), .emp] =
      some (.nx, [.own true o, .val (vatD s lo hi), .val (bdD a b), .val (.int lo), .val (.int hi), q5, q6, q7, q8, q9, s10, s11', s12, s13, .val (.list (cs.map .int)), s15, s16, .own false (.lst (((rgI a (b + 1)).filter (opB s lo hi cs)).map .int)), .emp]) ∧ evV s11' := by
  have hb' := hb.b
  have hs := h.s
  have hw := h.w
  have r : rgOk a (b + 1) := by unfold rgOk; omega
  have hrl : (rgI a (b + 1)).length ≤ 101 := by rw [rgI_len]; omega
  obtain ⟨ρ', ⟨s11', v11', rfl⟩, e⟩ := loop_all (f := PyData.int) (b := bNm 11) (body := b__law_is_course_right_1) (xs := rgI a (b + 1)) (ρ := [.own true o, .val (vatD s lo hi), .val (bdD a b), .val (.int lo), .val (.int hi), q5, q6, q7, q8, q9, s10, s11, s12, s13, .val (.list (cs.map .int)), s15, s16, .own false (.lst []), .emp])
    (fun done ρ => ∃ s11', evV s11' ∧ ρ = [.own true o, .val (vatD s lo hi), .val (bdD a b), .val (.int lo), .val (.int hi), q5, q6, q7, q8, q9, s10, s11', s12, s13, .val (.list (cs.map .int)), s15, s16, .own false (.lst ((done.filter (opB s lo hi cs)).map .int)), .emp]) ⟨s11, v11, rfl⟩ (by
      rintro pre t post ρ hy ⟨s11', v11', rfl⟩
      have hlen : (rgI a (b + 1)).length = pre.length + (post.length + 1) := by rw [hy, List.length_append, List.length_cons]
      have mt : t ∈ rgI a (b + 1) := by rw [hy]; simp
      have ht := mem_rgI.mp mt
      have hpl := List.length_filter_le (opB s lo hi cs) pre
      have hpl2 : (pre.filter (opB s lo hi cs)).length < 1000000 := by omega
      have m1 : gMul (.int s) (.int t) = some (.at (.int (s * t))) := gMul_ok (by omega) (by omega)
      have sm : Sm (.list (cs.map .int)) := sm_ints (by omega) (fun c m => by have := hcs c m; omega)
      have n1 := gEq_nil sm
      have cw := v11'.2
      refine ⟨[.own true o, .val (vatD s lo hi), .val (bdD a b), .val (.int lo), .val (.int hi), q5, q6, q7, q8, q9, s10, .val (.int t), s12, s13, .val (.list (cs.map .int)), s15, s16, .own false (.lst ((pre.filter (opB s lo hi cs)).map .int)), .emp], [.own true o, .val (vatD s lo hi), .val (bdD a b), .val (.int lo), .val (.int hi), q5, q6, q7, q8, q9, s10, .val (.int t), s12, s13, .val (.list (cs.map .int)), s15, s16, .own false (.lst (((pre ++ [t]).filter (opB s lo hi cs)).map .int)), .emp], .nx, by simp [cw], ?_, .inl rfl, _, evV_val, rfl⟩
      rw [List.filter_append, List.filter_cons, List.filter_nil]
      by_cases hc : cs = []
      · subst hc
        have ho : opB s lo hi [] t = true := by unfold opB; simp
        rw [if_pos ho]
        simp at n1
        simp [b__law_is_course_right_1, n1, hpl2]
      · have hc' : ¬ (cs.map PyData.int = []) := by simpa using hc
        have g1 := gMin_ints hc
        have g2 := gMax_ints hc
        rw [decide_eq_false hc'] at n1
        have k1 : (lo ≤ minL cs - s * t ∧ maxL cs - s * t ≤ hi) ↔ opB s lo hi cs t = true := by
          unfold opB
          rw [decide_eq_true_eq]
          have l1 := le_minL hc (c := lo + s * t)
          have l2 := maxL_le hc (c := hi + s * t)
          constructor
          · rintro ⟨q1, q2⟩ c m
            have := l1.mp (by omega) c m
            have := l2.mp (by omega) c m
            omega
          · intro q
            have := l1.mpr fun c m => by have := q c m; omega
            have := l2.mpr fun c m => by have := q c m; omega
            omega
        by_cases hp : opB s lo hi cs t = true
        · rw [if_pos hp]
          obtain ⟨q1, q2⟩ := k1.mpr hp
          simp [b__law_is_course_right_1, n1, g1, g2, m1, q1, q2, hpl2]
        · rw [if_neg hp]
          by_cases q1 : lo ≤ minL cs - s * t
          · have q2 : ¬ maxL cs - s * t ≤ hi := fun z => hp (k1.mp ⟨q1, z⟩)
            simp [b__law_is_course_right_1, n1, g1, g2, m1, q1, q2]
          · simp [b__law_is_course_right_1, n1, g1, g2, m1, q1])
  refine ⟨s11', ?_, v11'⟩
  unfold f__law_is_course_right_1
  simp [r, rgD_eq, e]
theorem xc_course_2 {zs : List Int} (hl : zs.length ≤ 1000) (v11 : evV s11) {d1 d2 : PyData} {q3 q4 q5 q6 q7 q8 q9 s14 s18 : Slot} :
    c__law_is_course_right_2 [.own true o, .val d1, .val d2, q3, q4, q5, q6, q7, q8, q9, s10, s11, s12, s13, s14, s15, s16, .own false (.lst (zs.map .int)), s18] = some (.tmp (.lst (zs.map fun t => .tuple [.str "stuck", .int t])), [.own true o, .val d1, .val d2, q3, q4, q5, q6, q7, q8, q9, s10, s11, s12, s13, s14, s15, s16, .val (.list (zs.map .int)), s18]) := by
  have a1 := v11.1
  unfold c__law_is_course_right_2
  refine (sComp_map (f := .int) (fun t => .tuple [.str "stuck", .int t]) zs (ρ0 := [.own true o, .val d1, .val d2, q3, q4, q5, q6, q7, q8, q9, s10, s11, s12, s13, s14, s15, s16, .val (.list (zs.map .int)), s18]) ?_ (by omega) (by simp [a1]) ?_).trans ?_
  · simp
  · intro t m
    simp
  · simp
end
end L41


set_option linter.all false
set_option Elab.async false
set_option maxRecDepth 100000
set_option maxHeartbeats 0
namespace L41
open PySem PySem.Spec PyProof.Rows L2 Sd
theorem sz_fD {f : Option Int} (hf : ∀ x, f = some x → x.natAbs < 1000000) : Sz 500 1 (fD f) := by
  cases f with
  | none => exact (sz_tup (m := 400) (k := 0) (n := 1) (fun d m => by rw [List.mem_singleton.mp m]; exact sz_str (by decide +kernel)) (Nat.le_refl _)).up
  | some x => exact (sz_tup2 (sz_str (x := "stuck") (by decide +kernel)) (sz_int (i := x) (by have := hf x rfl; omega))).up
theorem opB_eq {s lo hi : Int} {xs ys : List Int} (hl : ys.length = xs.length + 1) (t : Int) : opB s lo hi (chs ys) t = (trs xs ys).all fun u => fitB s lo hi (some t) u := by
  rw [Bool.eq_iff_iff, fit_stuck hl]
  unfold opB
  rw [decide_eq_true_eq]
theorem x_course_right {n s lo hi a b : Int} {o : Ob} (h : Vt s lo hi) (hb : Bd a b) (P : Pt n o) (hn : n ≤ 9000) :
    ∃ o', g__law_is_course_right [.own true o, .val (vatD s lo hi), .val (bdD a b)] = some (.imm (.bool true), [.own true o', .val (vatD s lo hi), .val (bdD a b)]) ∧ Pt (n + 200) o' := by
  have hb' := hb.b
  have hw := h.w
  obtain ⟨d, o1, e1, P1, md⟩ := x_of (l := [.none, .int 0, .int 0]) P (by omega) (by simp) (by simp)
  obtain ⟨w1, o2, e2, P2, w10, w11⟩ := x_take (u := 101) P1 (by omega) (by decide) (by decide)
  obtain ⟨w2, o3, e3, P3, w20, w21⟩ := x_take (u := b - a + 1) P2 (by omega) (by omega) (by omega)
  obtain ⟨F, hd, hF⟩ : ∃ F : Option Int, d = ftD F ∧ ∀ z, F = some z → z = a + w2 := by
    simp only [List.mem_cons, List.not_mem_nil, or_false] at md
    rcases md with rfl | rfl | rfl
    · exact ⟨none, rfl, fun _ z => nomatch z⟩
    · exact ⟨some (a + w2), rfl, fun _ z => (Option.some.inj z).symm⟩
    · exact ⟨some (a + w2), rfl, fun _ z => (Option.some.inj z).symm⟩
  subst hd
  obtain ⟨o4, xs, ys, s10, s11, s12, s13, e4, P4, C, hxl, v11, v13⟩ := xf_course (lv := w1 - 50) (r := a + w2) h hb P3 (by omega) ⟨by omega, by omega⟩ hF ⟨by omega, by omega⟩
  have hm := C.m
  have e5 := @xc_course_0 o4 ys s10 s11 s12 s13 .emp (by omega) v13 evV_emp (.own false (.lst (xs.map .int))) (vatD s lo hi) (bdD a b) (.val (.int lo)) (.val (.int hi)) (.val (ftD F)) (.val (.int (w1 - 50))) (.val (.int (a + w2)))
  have e6 := @xc_course_1 s lo hi o4 xs s10 s11 s12 s13 .emp h (fun x m => by have := C.x x m; omega) (by omega) v11 evV_emp (chs ys) (bdD a b) (.val (ftD F)) (.val (.int (w1 - 50))) (.val (.list (ys.map .int))) (.val (.int (a + w2)))
  have hcl : (chs ys).length ≤ 1000 := by rw [chs_len]; omega
  have hcs : ∀ c ∈ chs ys, c.natAbs < 1000000 := by
    intro c m
    unfold chs at m
    obtain ⟨⟨p1, p2⟩, mp, rfl⟩ := List.mem_map.mp m
    have h1 := List.of_mem_zip mp
    have h2 := C.y p1 h1.1
    have h3 := C.y p2 (List.mem_of_mem_drop h1.2)
    dsimp only
    omega
  obtain ⟨u, hu⟩ : ∃ u : List PyData, u = if (trs xs ys).all (fun t => fitB s lo hi none t) = true then [fD none] else [] := ⟨_, rfl⟩
  obtain ⟨s11', e7, v11'⟩ := @xf_open s lo hi a b o4 s10 s11 s12 s13 .emp (.own false (.lst u)) h hb (chs ys) hcl hcs v11 (.val (ftD F)) (.val (.int (w1 - 50))) (.val (.list (xs.map .int))) (.val (.list (ys.map .int))) (.val (.int (a + w2)))
  obtain ⟨zs, hzs⟩ : ∃ zs, zs = (rgI a (b + 1)).filter (opB s lo hi (chs ys)) := ⟨_, rfl⟩
  rw [← hzs] at e7
  have hzl : zs.length ≤ 101 := by
    have := List.length_filter_le (opB s lo hi (chs ys)) (rgI a (b + 1))
    rw [← hzs, rgI_len] at this
    omega
  have e8 := @xc_course_2 o4 s10 s11' s12 s13 .emp (.own false (.lst u)) zs (by omega) v11' (vatD s lo hi) (bdD a b) (.val (.int lo)) (.val (.int hi)) (.val (ftD F)) (.val (.int (w1 - 50))) (.val (.list (xs.map .int))) (.val (.list (ys.map .int))) (.val (.int (a + w2))) (.val (.list ((chs ys).map .int))) .emp
  have e9 := x_may_be h hb (xs := xs) (ys := ys) ⟨by omega, hm, C.x, C.y⟩
  have hfine := fit_fine (s := s) (lo := lo) (hi := hi) hm
  -- what is due is what is told
  have hdue : ((faults a b).filter fun f => (trs xs ys).all fun t => fitB s lo hi f t).map fD = u ++ zs.map fun t => .tuple [.str "stuck", .int t] := by
    unfold faults
    rw [List.filter_cons, hzs, hu]
    have e : (((rgI a (b + 1)).map some).filter fun f => (trs xs ys).all fun t => fitB s lo hi f t) = ((rgI a (b + 1)).filter (opB s lo hi (chs ys))).map some := by
      rw [List.filter_map]
      congr 1
      refine List.filter_congr fun t _ => ?_
      rw [opB_eq hm]; rfl
    rw [e]
    split
    · rw [List.map_cons, List.map_map]; rfl
    · rw [List.map_map]; rfl
  rw [hdue] at e9
  unfold seenD at e9
  have sz1 : ∀ d ∈ u ++ zs.map (fun t => PyData.tuple [.str "stuck", .int t]), Sz 500 1 d := by
    intro d m
    rw [← hdue] at m
    obtain ⟨f, mf, rfl⟩ := List.mem_map.mp m
    refine sz_fD fun x hx => ?_
    subst hx
    have := (List.mem_filter.mp mf).1
    unfold faults at this
    simp only [List.mem_cons, List.mem_map] at this
    rcases this with z | ⟨y, my, e⟩
    · cases z
    · cases e
      have := mem_rgI.mp my
      omega
  have hul : u.length ≤ 1 := by rw [hu]; split <;> simp
  have smT : Sm (.tuple (u ++ zs.map (fun t => PyData.tuple [.str "stuck", .int t]))) := (sz_tup (n := 200) sz1 (by rw [List.length_append, List.length_map]; omega)).sm
  -- the true fault is told
  have hmem : fD F ∈ u ++ zs.map (fun t => PyData.tuple [.str "stuck", .int t]) := by
    rw [← hdue]
    refine List.mem_map_of_mem (List.mem_filter.mpr ⟨?_, List.all_eq_true.mpr C.fit⟩)
    unfold faults
    cases F with
    | none => simp
    | some z =>
      have := hF z rfl
      subst this
      exact List.mem_cons_of_mem _ (List.mem_map_of_mem (mem_rgI.mpr ⟨by omega, by omega⟩))
  have smF : Sm (fD F) := (sz1 _ hmem).sm
  have n1 := gNotIn_tup smF smT
  rw [any_mem hmem smF] at n1
  -- the open ones are neighbours
  have smz : Sm (.list (zs.map .int)) := sm_ints (by omega) (fun x m => by
    rw [hzs] at m
    have := mem_rgI.mp (List.mem_filter.mp m).1
    omega)
  have n2 := gEq_nil smz
  have ulen : u.length + (zs.map (fun t => PyData.tuple [.str "stuck", .int t])).length ≤ 1000000 := by rw [List.length_map]; omega
  have rp := gRepr_sm smT
  have hWl : (zs.map (fun t => PyData.tuple [.str "stuck", .int t])).length ≤ 101 := by rw [List.length_map]; exact hzl
  refine ⟨o4, ?_, P4.up (by omega)⟩
  have hcv := convex_filter (p := opB s lo hi (chs ys)) (fun t1 t t2 h1 h2 p1 p2 => by
    rw [opB_eq hm] at *
    exact stuck_convex hm t1 t t2 h1 h2 p1 p2) _ a (b + 1) rfl
  rw [← hzs] at hcv
  have hfin2 : zs = [] ∨ ∃ m k, m < k ∧ atI (zs.map PyData.int) 0 = some (.int m) ∧ (zs.map PyData.int).getLast? = some (.int (k - 1)) ∧ rgOk m k ∧ k - m ≤ 1000000 ∧ gEq (.list (zs.map .int)) (.list ((rgI m k).map .int)) = some (.at (.bool true)) := by
    rcases hcv with e | ⟨m, k, h1, h2, h3, e⟩
    · exact .inl e
    · refine .inr ⟨m, k, h2, ?_, ?_, by unfold rgOk; omega, by omega, ?_⟩
      · rw [e, rgI_cons h2, List.map_cons]; exact atI_0
      · rw [e, List.getLast?_map, rgI_last h2]; rfl
      · rw [e] at smz ⊢
        rw [gEq_ints smz smz, decide_eq_true rfl]
  have g6 := gAll_of (fun p : Int × Int => decide (lo ≤ p.1 - s * p.2) && decide (p.1 - s * p.2 ≤ hi)) ((chs ys).zip xs)
  rw [hfine] at g6
  generalize (((chs ys).zip xs).map fun p : Int × Int => PyData.bool (decide (lo ≤ p.1 - s * p.2) && decide (p.1 - s * p.2 ≤ hi))) = M at e6 g6
  generalize (trs xs ys).all (fun t => fitB s lo hi none t) = B at hu g6
  generalize (chs ys).map PyData.int = CH at e5 e6 e7 e8
  generalize hc2 : decide (zs.map PyData.int = []) = c2 at n2
  generalize zs.map (fun t => PyData.tuple [.str "stuck", .int t]) = W at e8 e9 rp n1 hWl
  have hz0 : c2 = true ∨ ∃ m k, m < k ∧ atI (zs.map PyData.int) 0 = some (.int m) ∧ (zs.map PyData.int).getLast? = some (.int (k - 1)) ∧ rgOk m k ∧ k - m ≤ 1000000 ∧ gEq (.list (zs.map .int)) (.list ((rgI m k).map .int)) = some (.at (.bool true)) := by
    rcases hfin2 with e | e
    · left
      rw [← hc2, e]; rfl
    · exact .inr e
  have hW1 : 1 + W.length ≤ 1000000 := by omega
  have hW0 : W.length ≤ 1000000 := by omega
  clear hfin2 hc2
  generalize zs.map PyData.int = Z at e7 e8 n2 hz0
  generalize hxs : xs.map PyData.int = XS at e4 e5 e6 e7 e8 e9
  generalize hys : ys.map PyData.int = YS at e4 e5 e6 e7 e8 e9
  cases F with
  | none =>
    simp only [ftD, fD] at *
    cases B with
    | true =>
      simp only [if_true] at hu
      subst hu
      simp only [List.cons_append, List.nil_append] at e9 rp n1
      rcases hz0 with rfl | ⟨m, k, z1, z2, z3, z4, z5, z6⟩
      · simp [g__law_is_course_right, fnS, runF, s__law_is_course_right, e1, e2, e3, e4, e5, e6, g6, e7, e8, e9, n1, n2, rp, hW1, hW0]
      · cases c2 with
        | true => simp [g__law_is_course_right, fnS, runF, s__law_is_course_right, e1, e2, e3, e4, e5, e6, g6, e7, e8, e9, n1, n2, rp, hW1, hW0]
        | false => simp [g__law_is_course_right, fnS, runF, s__law_is_course_right, e1, e2, e3, e4, e5, e6, g6, e7, e8, e9, n1, n2, rp, hW1, hW0, z2, z3, z4, z5, z6, rgD_eq]
    | false =>
      simp only [Bool.false_eq_true, if_false] at hu
      subst hu
      simp only [List.cons_append, List.nil_append] at e9 rp n1
      rcases hz0 with rfl | ⟨m, k, z1, z2, z3, z4, z5, z6⟩
      · simp [g__law_is_course_right, fnS, runF, s__law_is_course_right, e1, e2, e3, e4, e5, e6, g6, e7, e8, e9, n1, n2, rp, hW1, hW0]
      · cases c2 with
        | true => simp [g__law_is_course_right, fnS, runF, s__law_is_course_right, e1, e2, e3, e4, e5, e6, g6, e7, e8, e9, n1, n2, rp, hW1, hW0]
        | false => simp [g__law_is_course_right, fnS, runF, s__law_is_course_right, e1, e2, e3, e4, e5, e6, g6, e7, e8, e9, n1, n2, rp, hW1, hW0, z2, z3, z4, z5, z6, rgD_eq]
  | some z =>
    have hzz := hF z rfl
    subst hzz
    simp only [ftD, fD] at *
    cases B with
    | true =>
      simp only [if_true] at hu
      subst hu
      simp only [List.cons_append, List.nil_append] at e9 rp n1
      rcases hz0 with rfl | ⟨m, k, z1, z2, z3, z4, z5, z6⟩
      · simp [g__law_is_course_right, fnS, runF, s__law_is_course_right, e1, e2, e3, e4, e5, e6, g6, e7, e8, e9, n1, n2, rp, hW1, hW0]
      · cases c2 with
        | true => simp [g__law_is_course_right, fnS, runF, s__law_is_course_right, e1, e2, e3, e4, e5, e6, g6, e7, e8, e9, n1, n2, rp, hW1, hW0]
        | false => simp [g__law_is_course_right, fnS, runF, s__law_is_course_right, e1, e2, e3, e4, e5, e6, g6, e7, e8, e9, n1, n2, rp, hW1, hW0, z2, z3, z4, z5, z6, rgD_eq]
    | false =>
      simp only [Bool.false_eq_true, if_false] at hu
      subst hu
      simp only [List.cons_append, List.nil_append] at e9 rp n1
      rcases hz0 with rfl | ⟨m, k, z1, z2, z3, z4, z5, z6⟩
      · simp [g__law_is_course_right, fnS, runF, s__law_is_course_right, e1, e2, e3, e4, e5, e6, g6, e7, e8, e9, n1, n2, rp, hW1, hW0]
      · cases c2 with
        | true => simp [g__law_is_course_right, fnS, runF, s__law_is_course_right, e1, e2, e3, e4, e5, e6, g6, e7, e8, e9, n1, n2, rp, hW1, hW0]
        | false => simp [g__law_is_course_right, fnS, runF, s__law_is_course_right, e1, e2, e3, e4, e5, e6, g6, e7, e8, e9, n1, n2, rp, hW1, hW0, z2, z3, z4, z5, z6, rgD_eq]
end L41


set_option linter.all false
set_option Elab.async false
set_option maxRecDepth 100000
set_option maxHeartbeats 0
set_option exponentiation.threshold 2000
namespace L41
open PySem PySem.Spec PyProof.Rows L2 Sd
theorem x_drawn {n : Int} {o : Ob} (P : Pt n o) (hn : n ≤ 1000) :
    ∃ s lo hi a b o', g__law_drawn [.own true o] = some (.imm (.tuple [vatD s lo hi, bdD a b, apD s (hi - lo)]), [.own true o']) ∧ Vt s lo hi ∧ Bd a b ∧ Pt (n + 10) o' := by
  obtain ⟨d, o1, e1, P1, md⟩ := x_of (l := [.int 1, .int 2, .int (-1), .int 3, .int 7, .int 20, .int (-20), .int 0]) P (by omega) (by simp) (by simp)
  obtain ⟨s, hs, hd⟩ : ∃ s : Int, (-20 ≤ s ∧ s ≤ 20) ∧ d = .int s := by
    simp only [List.mem_cons, List.not_mem_nil, or_false] at md
    rcases md with rfl | rfl | rfl | rfl | rfl | rfl | rfl | rfl <;> exact ⟨_, by decide, rfl⟩
  subst hd
  obtain ⟨w1, o2, e2, P2, w10, w11⟩ := x_take (u := 60) P1 (by omega) (by decide) (by decide)
  obtain ⟨lo, hlo⟩ : ∃ lo, lo = w1 - 40 := ⟨_, rfl⟩
  obtain ⟨wd, o3, e3, P3, w20, w21⟩ := x_take (u := min (51 - lo) 90) P2 (by omega) (by omega) (by omega)
  obtain ⟨w3, o4, e4, P4, w30, w31⟩ := x_take (u := 60) P3 (by omega) (by decide) (by decide)
  obtain ⟨a, ha⟩ : ∃ a, a = w3 - 50 := ⟨_, rfl⟩
  obtain ⟨w4, o5, e5, P5, w40, w41⟩ := x_take (u := 51 - a) P4 (by omega) (by omega) (by omega)
  refine ⟨s, lo, lo + wd, a, a + w4, o5, ?_, ⟨hs, by omega⟩, ⟨by omega⟩, P5.up (by omega)⟩
  have hw : lo + wd - lo = wd := by omega
  rw [hw]
  by_cases h0 : s = 0
  · subst h0
    simp [g__law_drawn, fnS, runF, s__law_drawn, e1, e2, ← hlo, e3, e4, ← ha, e5, apD]
  · have m1 : gDiv (.int wd) (.int (s.natAbs : Int)) = some (.at (.int (wd / (s.natAbs : Int)))) := gDiv_ok (by omega) (by omega)
    simp [g__law_drawn, fnS, runF, s__law_drawn, e1, e2, ← hlo, e3, e4, ← ha, e5, apD, h0, m1]
theorem x_places {ns : List Int} (hl : ns.length ≤ 1000) : g__law_places [.val (.list (ns.map .int)), .val (.int 2)] = some (.tmp (.lst ((rgI 0 (max 1 (min 2 (ns.length : Int)))).map .int)), [.val (.list (ns.map .int)), .val (.int 2)]) := by
  have r : rgOk 0 (max 1 (min 2 (ns.length : Int))) := by unfold rgOk; omega
  have r2 : max 1 (min 2 (ns.length : Int)) ≤ 1000000 := by omega
  simp [g__law_places, fnS, runF, s__law_places, r, r2, rgD_eq]
theorem x_pot {ns : List Int} {k : Int} (hl : ns.length ≤ 1000) (hk : 0 ≤ k ∧ k ≤ 1000) : ∃ o, g__law_pot [.val (.list (ns.map .int)), .val (.int k)] = some (.tmp o, [.val (.list (ns.map .int)), .val (.int k)]) ∧ Pt 0 o := by
  obtain ⟨c, hc⟩ : ∃ c, c = if k < (ns.length : Int) then ns.getD k.toNat 0 else (ns.take 1).sum % 1000003 + 6889 * k + 679 := ⟨_, rfl⟩
  have p1 : gPow (.int 10) (.int 60) = some (.at (.int (10 ^ 60))) := gPow_ok 100 (by decide) (by decide) (by decide) (by decide) (by decide)
  have p2 : gPow (.int (10 ^ 60)) (.int 5) = some (.at (.int ((10 ^ 60) ^ 5))) := gPow_ok 300 (by decide) (by decide +kernel) (by decide) (by decide) (by decide)
  have p3 : gPow (.int 10) (.int 18) = some (.at (.int (10 ^ 18))) := gPow_ok 100 (by decide) (by decide) (by decide) (by decide) (by decide)
  have q0 : (0 : Int) < (10 ^ 60) ^ 5 := by decide +kernel
  obtain ⟨T, hT⟩ : ∃ T : Int, T = (10 ^ 60) ^ 5 := ⟨_, rfl⟩
  obtain ⟨U, hU⟩ : ∃ U : Int, U = 10 ^ 60 := ⟨_, rfl⟩
  have hTb : T < 2 ^ 1000 := by rw [hT]; decide +kernel
  rw [← hU] at p1 p2
  rw [show U ^ 5 = T from by rw [hT, hU]] at p2
  rw [← hT] at q0
  have m1 : gMod (.int (c.natAbs : Int)) (.int T) = some (.at (.int ((c.natAbs : Int) % T))) := gMod_ok q0
  have b1 : 0 ≤ (c.natAbs : Int) % T ∧ (c.natAbs : Int) % T < T := ⟨Int.emod_nonneg _ (by omega), Int.emod_lt_of_pos _ q0⟩
  have m2 : ∀ z : Int, z = 0 ∨ z = 1 → gMul (.int ((c.natAbs : Int) % T)) (.int z) = some (.at (.int ((c.natAbs : Int) % T * z))) := fun z hz => gMul_n 1000 (by decide) (by decide) (by omega) (by
    rcases hz with rfl | rfl
    · exact Nat.lt_of_lt_of_le (by decide) (Nat.pow_le_pow_right (by decide) (show 1 ≤ 1000 by decide))
    · exact Nat.lt_of_lt_of_le (by decide) (Nat.pow_le_pow_right (by decide) (show 1 ≤ 1000 by decide)))
  have m3 : gMod (.int c) (.int 2305843009213693951) = some (.at (.int (c % 2305843009213693951))) := gMod_ok (by decide)
  have b3 : 0 ≤ c % 2305843009213693951 ∧ c % 2305843009213693951 < 2305843009213693951 := ⟨Int.emod_nonneg _ (by decide), Int.emod_lt_of_pos _ (by decide)⟩
  obtain ⟨sm, hsm⟩ : ∃ sm, sm = c % 2305843009213693951 := ⟨_, rfl⟩
  rw [← hsm] at m3 b3
  have m4 : gMul (.int sm) (.int 282745) = some (.at (.int (sm * 282745))) := gMul_ok (by omega) (by decide)
  have m5 : gMul (.int 10661) (.int k) = some (.at (.int (10661 * k))) := gMul_ok (by decide) (by omega)
  have m6 : gMul (.int (10661 * k)) (.int k) = some (.at (.int (10661 * k * k))) := gMul_ok (by omega) (by omega)
  have m7 : gMod (.int (sm * 282745 + 10661 * k * k + 138)) (.int 2305843009213693921) = some (.at (.int ((sm * 282745 + 10661 * k * k + 138) % 2305843009213693921))) := gMod_ok (by decide)
  have m8 : gMul (.int 6889) (.int k) = some (.at (.int (6889 * k))) := gMul_ok (by decide) (by omega)
  have m9 : ∀ z, gMod (.int z) (.int 1000003) = some (.at (.int (z % 1000003))) := fun z => gMod_ok (by decide)
  obtain ⟨C, hC⟩ : ∃ C : ES, C = sIf (sTru (sOp gLt (sVar 1) (sBlt gLen (sCons (sVar 0) sNil)))) (sOp gIx (sVar 0) (sVar 1)) (sOp gAdd (sOp gAdd (sOp gMod (sBlt gSum (sCons (sSl gSl (sVar 0) sNo (sPart (sK (.int 1)))) sNil)) (sK (.int 1000003))) (sOp gMul (sK (.int 6889)) (sVar 1))) (sK (.int 679))) := ⟨_, rfl⟩
  have hcell : C [.val (.list (ns.map .int)), .val (.int k), .emp, .emp, .emp] = some (.imm (.int c), [.val (.list (ns.map .int)), .val (.int k), .emp, .emp, .emp]) := by
    rw [hC]
    by_cases hkl : k < (ns.length : Int)
    · rw [if_pos hkl] at hc
      have hk2 : k.toNat < ns.length := by omega
      have ei : atI (ns.map PyData.int) k = some (.int c) := atI_of hk.1 (by
        rw [List.getElem?_map, List.getElem?_eq_getElem hk2, hc, List.getD_eq_getElem?_getD, List.getElem?_eq_getElem hk2]; rfl)
      simp [hkl, ei]
    · rw [if_neg hkl] at hc
      have e1 : gSum [.list ((ns.map PyData.int).take 1)] = some (.at (.int (ns.take 1).sum)) := by
        rw [← List.map_take]; exact gSum_ints
      simp [hkl, e1, m9, m8, ← hc]
  have ps := Int.emod_nonneg (sm * 282745 + 10661 * k * k + 138) (show (2305843009213693921 : Int) ≠ 0 by decide)
  have pl := Int.emod_lt_of_pos (sm * 282745 + 10661 * k * k + 138) (show (0 : Int) < 2305843009213693921 by decide)
  by_cases hg : (1000000000000000000 : Int) ≤ (c.natAbs : Int)
  · refine ⟨.lst [.int ((c.natAbs : Int) % T * 1), .int ((sm * 282745 + 10661 * k * k + 138) % 2305843009213693921), .int 0], ?_, _, _, _, rfl, by omega, ps, pl, Int.le_refl 0, Int.le_refl 0⟩
    have mm := m2 1 (.inr rfl)
    simp only [g__law_pot, fnS, runF, s__law_pot, ← hC]
    simp [hcell, p1, p2, p3, m1, mm, m3, m4, m5, m6, m7, hg]
  · refine ⟨.lst [.int ((c.natAbs : Int) % T * 0), .int ((sm * 282745 + 10661 * k * k + 138) % 2305843009213693921), .int 0], ?_, _, _, _, rfl, by omega, ps, pl, Int.le_refl 0, Int.le_refl 0⟩
    have mm := m2 0 (.inl rfl)
    simp only [g__law_pot, fnS, runF, s__law_pot, ← hC]
    simp [hcell, p1, p2, p3, m1, mm, m3, m4, m5, m6, m7, hg]
end L41


set_option linter.all false
set_option Elab.async false
set_option maxRecDepth 100000
set_option maxHeartbeats 0
namespace L41
open PySem PySem.Spec PyProof.Rows L2 Sd
theorem xb_law {ns : List Int} {k : Int} {s2 s3 s4 s5 : Slot} (hl : ns.length ≤ 1000) (hk : 0 ≤ k ∧ k ≤ 1000) (v2 : emV s2) (v3 : emV s3) (v4 : emV s4) (v5 : emV s5) :
    ∃ o d3 d4 d5, b_law_0 [.val (.list (ns.map .int)), .val (.int k), s2, s3, s4, s5] = some (.nx, [.val (.list (ns.map .int)), .val (.int k), .own false o, .val d3, .val d4, .val d5]) := by
  obtain ⟨o0, e0, P0⟩ := x_pot hl hk
  obtain ⟨s, lo, hi, a, b, o1, e1, hv, hb, P1⟩ := x_drawn P0 (by decide)
  have e2 := x_row_right hv hb
  obtain ⟨o2, e3, P2⟩ := x_rows_told hv hb P1 (by decide)
  obtain ⟨o3, e4, P3⟩ := x_course_right hv hb P2 (by decide)
  refine ⟨o3, vatD s lo hi, bdD a b, apD s (hi - lo), ?_⟩
  simp [b_law_0, e0, v2.w, e1, v3.w, v4.w, v5.w, e2, e3, e4]
theorem law_true : ∀ ns : List Int, ns.length ≤ 63 → ∃ fins, g_law [.val (.list (ns.map PyData.int))] = some (.imm (.bool true), fins) := by
  intro ns hl
  have hle : (rgI 0 (max 1 (min 2 (ns.length : Int)))).length ≤ 2 := by rw [rgI_len]; omega
  obtain ⟨ρ', ⟨s1, s2, s3, s4, s5, w1, w2, w3, w4, w5, rfl⟩, e⟩ := loop_all (f := PyData.int) (b := bNm 1) (body := b_law_0) (xs := rgI 0 (max 1 (min 2 (ns.length : Int)))) (ρ := [.val (.list (ns.map .int)), .emp, .emp, .emp, .emp, .emp])
    (fun _ ρ => ∃ s1 s2 s3 s4 s5, emV s1 ∧ emV s2 ∧ emV s3 ∧ emV s4 ∧ emV s5 ∧ ρ = [.val (.list (ns.map .int)), s1, s2, s3, s4, s5]) ⟨_, _, _, _, _, emV_emp, emV_emp, emV_emp, emV_emp, emV_emp, rfl⟩ (by
      rintro pre x post ρ hy ⟨s1, s2, s3, s4, s5, v1, v2, v3, v4, v5, rfl⟩
      have mx : x ∈ rgI 0 (max 1 (min 2 (ns.length : Int))) := by rw [hy]; simp
      have := mem_rgI.mp mx
      obtain ⟨o, d3, d4, d5, e⟩ := xb_law (ns := ns) (k := x) (by omega) ⟨by omega, by omega⟩ v2 v3 v4 v5
      exact ⟨_, _, .nx, by simp [v1.w], e, .inl rfl, _, _, _, _, _, emV_val, emV_own, emV_val, emV_val, emV_val, rfl⟩)
  have ep := x_places (ns := ns) (by omega)
  have ef : f_law_0 [.val (.list (ns.map .int)), .emp, .emp, .emp, .emp, .emp] = some (.nx, [.val (.list (ns.map .int)), s1, s2, s3, s4, s5]) := by
    unfold f_law_0
    simp [ep, e]
  exact ⟨[.val (.list (ns.map .int))], by simp [g_law, fnS, runF, s_law, ef]⟩
end L41


set_option Elab.async false
set_option linter.all false
set_option maxRecDepth 100000
set_option maxHeartbeats 0
namespace L41
open PySem PySem.Spec PyProof.Rows L2 Sd
def d48 : He.DefD := ⟨("_law_places", none), "_law_places", "_law_places", defArgs (top 48), defBody (top 48), defScope (top 48), [], []⟩
def d45 : He.DefD := ⟨("_law_pot", none), "_law_pot", "_law_pot", defArgs (top 45), defBody (top 45), defScope (top 45), [], []⟩
def d46 : He.DefD := ⟨("_law_take", none), "_law_take", "_law_take", defArgs (top 46), defBody (top 46), defScope (top 46), [], []⟩
def d47 : He.DefD := ⟨("_law_of", none), "_law_of", "_law_of", defArgs (top 47), defBody (top 47), defScope (top 47), [], []⟩
def d49 : He.DefD := ⟨("_law_drawn", none), "_law_drawn", "_law_drawn", defArgs (top 49), defBody (top 49), defScope (top 49), [], []⟩
def d1 : He.DefD := ⟨("is_tuple", none), "is_tuple", "is_tuple", defArgs (top 1), defBody (top 1), defScope (top 1), [], []⟩
def d2 : He.DefD := ⟨("is_whole", none), "is_whole", "is_whole", defArgs (top 2), defBody (top 2), defScope (top 2), [], []⟩
def d3 : He.DefD := ⟨("is_integer", none), "is_integer", "is_integer", defArgs (top 3), defBody (top 3), defScope (top 3), [], []⟩
def d20 : He.DefD := ⟨("is_between", none), "is_between", "is_between", defArgs (top 20), defBody (top 20), defScope (top 20), [], []⟩
def d21 : He.DefD := ⟨("is_vat", none), "is_vat", "is_vat", defArgs (top 21), defBody (top 21), defScope (top 21), [], []⟩
def d22 : He.DefD := ⟨("check_vat", none), "check_vat", "check_vat", defArgs (top 22), defBody (top 22), defScope (top 22), [], []⟩
def d33 : He.DefD := ⟨("check_bounds", none), "check_bounds", "check_bounds", defArgs (top 33), defBody (top 33), defScope (top 33), [], []⟩
def d38 : He.DefD := ⟨("width_of", none), "width_of", "width_of", defArgs (top 38), defBody (top 38), defScope (top 38), [], []⟩
def d39 : He.DefD := ⟨("parts", none), "parts", "parts", defArgs (top 39), defBody (top 39), defScope (top 39), [], []⟩
def d41 : He.DefD := ⟨("least_row", none), "least_row", "least_row", defArgs (top 41), defBody (top 41), defScope (top 41), [], []⟩
def d42 : He.DefD := ⟨("shows_row", none), "shows_row", "shows_row", defArgs (top 42), defBody (top 42), defScope (top 42), [], []⟩
def d51 : He.DefD := ⟨("_law_is_row_right", none), "_law_is_row_right", "_law_is_row_right", defArgs (top 51), defBody (top 51), defScope (top 51), [], []⟩
def d50 : He.DefD := ⟨("_law_far", none), "_law_far", "_law_far", defArgs (top 50), defBody (top 50), defScope (top 50), [], []⟩
def d23 : He.DefD := ⟨("check_level", none), "check_level", "check_level", defArgs (top 23), defBody (top 23), defScope (top 23), [], []⟩
def d43 : He.DefD := ⟨("is_told", none), "is_told", "is_told", defArgs (top 43), defBody (top 43), defScope (top 43), [], []⟩
def d40 : He.DefD := ⟨("telling", none), "telling", "telling", defArgs (top 40), defBody (top 40), defScope (top 40), [], []⟩
def d52 : He.DefD := ⟨("_law_are_rows_told", none), "_law_are_rows_told", "_law_are_rows_told", defArgs (top 52), defBody (top 52), defScope (top 52), [], []⟩
def d35 : He.DefD := ⟨("is_seen", none), "is_seen", "is_seen", defArgs (top 35), defBody (top 35), defScope (top 35), [], []⟩
def d34 : He.DefD := ⟨("all_faults", none), "all_faults", "all_faults", defArgs (top 34), defBody (top 34), defScope (top 34), [], []⟩
def d24 : He.DefD := ⟨("level_by", none), "level_by", "level_by", defArgs (top 24), defBody (top 24), defScope (top 24), [], []⟩
def d36 : He.DefD := ⟨("fits", none), "fits", "fits", defArgs (top 36), defBody (top 36), defScope (top 36), [], []⟩
def d37 : He.DefD := ⟨("may_be", none), "may_be", "may_be", defArgs (top 37), defBody (top 37), defScope (top 37), [], []⟩
def d53 : He.DefD := ⟨("_law_is_course_right", none), "_law_is_course_right", "_law_is_course_right", defArgs (top 53), defBody (top 53), defScope (top 53), [], []⟩
def d54 : He.DefD := ⟨("law", none), "law", "law", defArgs (top 54), defBody (top 54), defScope (top 54), [], []⟩
def fn : List He.DefD := [d48, d45, d46, d47, d49, d1, d2, d3, d20, d21, d22, d33, d38, d39, d41, d42, d51, d50, d23, d43, d40, d52, d35, d34, d24, d36, d37, d53, d54]
def fa : List He.Fa := [.glo "_law_places", .glo "_law_pot", .glo "_law_take", .glo "_law_of", .glo "_law_drawn", .glo "is_tuple", .glo "is_whole", .glo "is_integer", .glo "is_between", .glo "is_vat", .glo "check_vat", .glo "check_bounds", .glo "width_of", .glo "parts", .glo "least_row", .glo "shows_row", .glo "_law_is_row_right", .glo "_law_far", .glo "check_level", .glo "is_told", .glo "telling", .glo "_law_are_rows_told", .glo "is_seen", .glo "all_faults", .glo "level_by", .glo "fits", .glo "may_be", .glo "_law_is_course_right", .glo "law", .free "list", .free "range", .free "len", .free "min", .free "max", .free "sum", .free "abs", .free "int", .free "isinstance", .free "tuple", .free "bool", .int "PAIR_vats" 2, .int "FIVE" 5, .int "MOST_KEEPS" 20, .int "MOST_UNDER" 20, .int "MOST_STRENGTH" 20, .int "MOST_LEVEL" 200, .int "TRIPLE_vats" 3, .int "MOST_WEATHER" 50, .int "MOST_LEVER" 50, .int "TRIPLE_stuck" 3, .int "PAIR_stuck" 2, .str "NEVER" "never", .free "all", .str "ROW" "row", .free "str", .free "any", .free "repr", .int "MOST_SEEN" 60, .str "STUCK" "stuck", .str "FINE" "fine", .free "zip"]
def loose0 : List PySem.Str := ["is_tuple", "is_whole", "is_integer", "LeverError", "BadVat", "BadLevel", "BadLever", "BadReadings", "MOST_KEEPS", "MOST_UNDER", "MOST_STRENGTH", "MOST_LEVEL", "MOST_WEATHER", "MOST_LEVER", "PAIR_vats"]
def loose1 : List PySem.Str := ["TRIPLE_vats", "FIVE", "is_between", "is_vat", "check_vat", "check_level", "level_by", "MOST_SEEN", "PAIR_stuck", "TRIPLE_stuck", "FINE", "STUCK", "ROW", "NEVER", "check_bounds"]
def loose2 : List PySem.Str := ["all_faults", "is_seen", "fits", "may_be", "width_of", "parts", "telling", "least_row", "shows_row", "is_told", "_law_pot", "_law_take", "_law_of", "_law_places", "_law_drawn"]
def loose3 : List PySem.Str := ["_law_far", "_law_is_row_right", "_law_are_rows_told", "_law_is_course_right"]
def loose : List PySem.Str := loose0 ++ loose1 ++ loose2 ++ loose3
abbrev Rr : PySem.W.OpenRow := PySem.W.OpenLaw.row PySem.Challenge.rw_steeredback_k41_whole_stuck_levers_of_al
abbrev hk : PySem.W.Hook := hookL 4 fa fn
def ob (s : PySem.W.SharedT) : Bool × He.AlD := obL 4 fa fn s
theorem ob_eq (s : PySem.W.SharedT) : ob s = hk.obs s.abs := obL_eq 4 fa fn s
theorem run (w : World) : HandSHeadRun.RunEq Rr (PySem.W.view Rr.prog [54]) hk ob 12000 loose w := by
  intro os
  kernel_rfl
theorem facts {P : Program} {w : World} {K : PySem.W.Frag} {h : Heap} {mg : Str → Option Value} {f : Addr} (X : K.In h) (G : h.Ns mainGlobals mg) (hfa : mg ("law" : Str) = some (.ref f)) (c : He.SaysD fa fn K) :
    ∃ fd : FuncData, (∀ (s : Shared) (v : Value), BindsTo s fd ⟨[v], []⟩ [("script", v)]) ∧ ∀ base : Heap, K.In base → base.Ns mainGlobals mg → FnG P w K mg base 9 f fd ["script"] (spOf g_law) := by
  have fx : Fx mg := ⟨He.free_ok X G (c.fact 29 (f := .free "list") rfl), He.free_ok X G (c.fact 30 (f := .free "range") rfl), He.free_ok X G (c.fact 31 (f := .free "len") rfl), He.free_ok X G (c.fact 32 (f := .free "min") rfl), He.free_ok X G (c.fact 33 (f := .free "max") rfl), He.free_ok X G (c.fact 34 (f := .free "sum") rfl), He.free_ok X G (c.fact 35 (f := .free "abs") rfl), He.free_ok X G (c.fact 36 (f := .free "int") rfl), He.free_ok X G (c.fact 37 (f := .free "isinstance") rfl), He.free_ok X G (c.fact 38 (f := .free "tuple") rfl), He.free_ok X G (c.fact 39 (f := .free "bool") rfl), He.int_ok X G (c.fact 40 (f := .int "PAIR_vats" 2) rfl), He.int_ok X G (c.fact 41 (f := .int "FIVE" 5) rfl), He.int_ok X G (c.fact 42 (f := .int "MOST_KEEPS" 20) rfl), He.int_ok X G (c.fact 43 (f := .int "MOST_UNDER" 20) rfl), He.int_ok X G (c.fact 44 (f := .int "MOST_STRENGTH" 20) rfl), He.int_ok X G (c.fact 45 (f := .int "MOST_LEVEL" 200) rfl), He.int_ok X G (c.fact 46 (f := .int "TRIPLE_vats" 3) rfl), He.int_ok X G (c.fact 47 (f := .int "MOST_WEATHER" 50) rfl), He.int_ok X G (c.fact 48 (f := .int "MOST_LEVER" 50) rfl), He.int_ok X G (c.fact 49 (f := .int "TRIPLE_stuck" 3) rfl), He.int_ok X G (c.fact 50 (f := .int "PAIR_stuck" 2) rfl), He.str_ok X G (c.fact 51 (f := .str "NEVER" "never") rfl), He.free_ok X G (c.fact 52 (f := .free "all") rfl), He.str_ok X G (c.fact 53 (f := .str "ROW" "row") rfl), He.free_ok X G (c.fact 54 (f := .free "str") rfl), He.free_ok X G (c.fact 55 (f := .free "any") rfl), He.free_ok X G (c.fact 56 (f := .free "repr") rfl), He.int_ok X G (c.fact 57 (f := .int "MOST_SEEN" 60) rfl), He.str_ok X G (c.fact 58 (f := .str "STUCK" "stuck") rfl), He.str_ok X G (c.fact 59 (f := .str "FINE" "fine") rfl), He.free_ok X G (c.fact 60 (f := .free "zip") rfl)⟩
  obtain ⟨fd48, F48⟩ := c.def_ 0 (d := d48) rfl
  have g48 := He.glo_ok X G (c.fact 0 (f := .glo "_law_places") rfl)
  obtain ⟨fd45, F45⟩ := c.def_ 1 (d := d45) rfl
  have g45 := He.glo_ok X G (c.fact 1 (f := .glo "_law_pot") rfl)
  obtain ⟨fd46, F46⟩ := c.def_ 2 (d := d46) rfl
  have g46 := He.glo_ok X G (c.fact 2 (f := .glo "_law_take") rfl)
  obtain ⟨fd47, F47⟩ := c.def_ 3 (d := d47) rfl
  have g47 := He.glo_ok X G (c.fact 3 (f := .glo "_law_of") rfl)
  obtain ⟨fd49, F49⟩ := c.def_ 4 (d := d49) rfl
  have g49 := He.glo_ok X G (c.fact 4 (f := .glo "_law_drawn") rfl)
  obtain ⟨fd1, F1⟩ := c.def_ 5 (d := d1) rfl
  have g1 := He.glo_ok X G (c.fact 5 (f := .glo "is_tuple") rfl)
  obtain ⟨fd2, F2⟩ := c.def_ 6 (d := d2) rfl
  have g2 := He.glo_ok X G (c.fact 6 (f := .glo "is_whole") rfl)
  obtain ⟨fd3, F3⟩ := c.def_ 7 (d := d3) rfl
  have g3 := He.glo_ok X G (c.fact 7 (f := .glo "is_integer") rfl)
  obtain ⟨fd20, F20⟩ := c.def_ 8 (d := d20) rfl
  have g20 := He.glo_ok X G (c.fact 8 (f := .glo "is_between") rfl)
  obtain ⟨fd21, F21⟩ := c.def_ 9 (d := d21) rfl
  have g21 := He.glo_ok X G (c.fact 9 (f := .glo "is_vat") rfl)
  obtain ⟨fd22, F22⟩ := c.def_ 10 (d := d22) rfl
  have g22 := He.glo_ok X G (c.fact 10 (f := .glo "check_vat") rfl)
  obtain ⟨fd33, F33⟩ := c.def_ 11 (d := d33) rfl
  have g33 := He.glo_ok X G (c.fact 11 (f := .glo "check_bounds") rfl)
  obtain ⟨fd38, F38⟩ := c.def_ 12 (d := d38) rfl
  have g38 := He.glo_ok X G (c.fact 12 (f := .glo "width_of") rfl)
  obtain ⟨fd39, F39⟩ := c.def_ 13 (d := d39) rfl
  have g39 := He.glo_ok X G (c.fact 13 (f := .glo "parts") rfl)
  obtain ⟨fd41, F41⟩ := c.def_ 14 (d := d41) rfl
  have g41 := He.glo_ok X G (c.fact 14 (f := .glo "least_row") rfl)
  obtain ⟨fd42, F42⟩ := c.def_ 15 (d := d42) rfl
  have g42 := He.glo_ok X G (c.fact 15 (f := .glo "shows_row") rfl)
  obtain ⟨fd51, F51⟩ := c.def_ 16 (d := d51) rfl
  have g51 := He.glo_ok X G (c.fact 16 (f := .glo "_law_is_row_right") rfl)
  obtain ⟨fd50, F50⟩ := c.def_ 17 (d := d50) rfl
  have g50 := He.glo_ok X G (c.fact 17 (f := .glo "_law_far") rfl)
  obtain ⟨fd23, F23⟩ := c.def_ 18 (d := d23) rfl
  have g23 := He.glo_ok X G (c.fact 18 (f := .glo "check_level") rfl)
  obtain ⟨fd43, F43⟩ := c.def_ 19 (d := d43) rfl
  have g43 := He.glo_ok X G (c.fact 19 (f := .glo "is_told") rfl)
  obtain ⟨fd40, F40⟩ := c.def_ 20 (d := d40) rfl
  have g40 := He.glo_ok X G (c.fact 20 (f := .glo "telling") rfl)
  obtain ⟨fd52, F52⟩ := c.def_ 21 (d := d52) rfl
  have g52 := He.glo_ok X G (c.fact 21 (f := .glo "_law_are_rows_told") rfl)
  obtain ⟨fd35, F35⟩ := c.def_ 22 (d := d35) rfl
  have g35 := He.glo_ok X G (c.fact 22 (f := .glo "is_seen") rfl)
  obtain ⟨fd34, F34⟩ := c.def_ 23 (d := d34) rfl
  have g34 := He.glo_ok X G (c.fact 23 (f := .glo "all_faults") rfl)
  obtain ⟨fd24, F24⟩ := c.def_ 24 (d := d24) rfl
  have g24 := He.glo_ok X G (c.fact 24 (f := .glo "level_by") rfl)
  obtain ⟨fd36, F36⟩ := c.def_ 25 (d := d36) rfl
  have g36 := He.glo_ok X G (c.fact 25 (f := .glo "fits") rfl)
  obtain ⟨fd37, F37⟩ := c.def_ 26 (d := d37) rfl
  have g37 := He.glo_ok X G (c.fact 26 (f := .glo "may_be") rfl)
  obtain ⟨fd53, F53⟩ := c.def_ 27 (d := d53) rfl
  have g53 := He.glo_ok X G (c.fact 27 (f := .glo "_law_is_course_right") rfl)
  obtain ⟨fd54, F54⟩ := c.def_ 28 (d := d54) rfl
  have g54 := He.glo_ok X G (c.fact 28 (f := .glo "law") rfl)
  have e := hfa.symm.trans g54
  cases e
  have b := FunD.bindsA (ps := ["script"]) F54 fun _ _ _ _ _ _ us hl => match us, hl with | [_], _ => rfl
  refine ⟨fd54, fun s v => b s [v] rfl, fun base _ _ => ?_⟩
  have c48 := ok__law_places (P := P) (w := w) (base := base) fx ⟨_, F48⟩ g48
  have c45 := ok__law_pot (P := P) (w := w) (base := base) fx ⟨_, F45⟩ g45
  have c46 := ok__law_take (P := P) (w := w) (base := base) fx ⟨_, F46⟩ g46
  have c47 := ok__law_of (P := P) (w := w) (base := base) fx c46 ⟨_, F47⟩ g47
  have c49 := ok__law_drawn (P := P) (w := w) (base := base) fx c46 c47 ⟨_, F49⟩ g49
  have c1 := ok_is_tuple (P := P) (w := w) (base := base) fx ⟨_, F1⟩ g1
  have c2 := ok_is_whole (P := P) (w := w) (base := base) fx ⟨_, F2⟩ g2
  have c3 := ok_is_integer (P := P) (w := w) (base := base) fx c2 ⟨_, F3⟩ g3
  have c20 := ok_is_between (P := P) (w := w) (base := base) fx c1 c3 ⟨_, F20⟩ g20
  have c21 := ok_is_vat (P := P) (w := w) (base := base) fx c1 c3 c20 ⟨_, F21⟩ g21
  have c22 := ok_check_vat (P := P) (w := w) (base := base) fx c21 ⟨_, F22⟩ g22
  have c33 := ok_check_bounds (P := P) (w := w) (base := base) fx c22 c20 ⟨_, F33⟩ g33
  have c38 := ok_width_of (P := P) (w := w) (base := base) fx ⟨_, F38⟩ g38
  have c39 := ok_parts (P := P) (w := w) (base := base) fx c38 ⟨_, F39⟩ g39
  have c41 := ok_least_row (P := P) (w := w) (base := base) fx c33 c39 ⟨_, F41⟩ g41
  have c42 := ok_shows_row (P := P) (w := w) (base := base) fx c33 c1 c3 c39 ⟨_, F42⟩ g42
  have c51 := ok__law_is_row_right (P := P) (w := w) (base := base) fx c41 c42 ⟨_, F51⟩ g51
  have c50 := ok__law_far (P := P) (w := w) (base := base) fx ⟨_, F50⟩ g50
  have c23 := ok_check_level (P := P) (w := w) (base := base) fx c22 c3 ⟨_, F23⟩ g23
  have c43 := ok_is_told (P := P) (w := w) (base := base) fx c33 c23 c1 c3 c39 ⟨_, F43⟩ g43
  have c40 := ok_telling (P := P) (w := w) (base := base) fx c33 c3 c39 ⟨_, F40⟩ g40
  have c52 := ok__law_are_rows_told (P := P) (w := w) (base := base) fx c46 c50 c43 c40 ⟨_, F52⟩ g52
  have c35 := ok_is_seen (P := P) (w := w) (base := base) fx c1 c3 ⟨_, F35⟩ g35
  have c34 := ok_all_faults (P := P) (w := w) (base := base) fx ⟨_, F34⟩ g34
  have c24 := ok_level_by (P := P) (w := w) (base := base) fx ⟨_, F24⟩ g24
  have c36 := ok_fits (P := P) (w := w) (base := base) fx c24 ⟨_, F36⟩ g36
  have c37 := ok_may_be (P := P) (w := w) (base := base) fx c33 c35 c34 c36 ⟨_, F37⟩ g37
  have c53 := ok__law_is_course_right (P := P) (w := w) (base := base) fx c46 c47 c37 ⟨_, F53⟩ g53
  exact fn_law fx c48 c45 c49 c51 c52 c53 F54 g54

end L41


open PySem PySem.W PySem.Calls PyProof.Rows in
theorem PySem.Challenge.cw_steeredback_k41_whole_stuck_levers_of_al_holds : PySem.Challenge.rw_steeredback_k41_whole_stuck_levers_of_al.Holds := by
  w_on; o_law
  refine HandSHeadRun.head_any (r := OpenLaw.row PySem.Challenge.rw_steeredback_k41_whole_stuck_levers_of_al) (q := view (OpenLaw.row PySem.Challenge.rw_steeredback_k41_whole_stuck_levers_of_al).prog [54]) (H := L41.hk) (ob := L41.ob) (M := 12000) (loose := L41.loose) (d := HandSHeadRun.topDef (OpenLaw.row PySem.Challenge.rw_steeredback_k41_whole_stuck_levers_of_al).prog 54) (kwd := []) L41.ob_eq
    (by kernel_rfl) (fun s => by kernel_rfl) L41.run (by kernel_rfl) (by kernel_rfl) (by kernel_rfl) (by rfl) (by first | assumption | decide +kernel) (by decide +kernel) ⟨rfl, rfl, rfl, rfl, rfl, by decide +kernel⟩ ?hw ?hc
  case hw => w_witness2
  case hc =>
    refine Sd.walk_G (l := PySem.Challenge.rw_steeredback_k41_whole_stuck_levers_of_al) (n := 63) (k := 9) (x := "script") (g := L41.g_law) rfl (by decide) (by kernel_rfl) ⟨rfl, by decide, by decide⟩ ?F L41.law_true
    intro w mg fa h Y G hmg0
    obtain ⟨K, KX, c, nl⟩ := Y
    have hmg : mg ("law" : PySem.Str) = some (.ref fa) := by
      have e : (HandSHeadRun.topDef (OpenLaw.row PySem.Challenge.rw_steeredback_k41_whole_stuck_levers_of_al).prog 54).name = ("law" : PySem.Str) := by kernel_rfl
      rw [← e]
      exact hmg0
    obtain ⟨fd, hb, hF⟩ := L41.facts (P := (PySem.Challenge.rw_steeredback_k41_whole_stuck_levers_of_al).prog) (w := w) KX G hmg c
    exact ⟨K, fd, KX, nl, hb, hF⟩

