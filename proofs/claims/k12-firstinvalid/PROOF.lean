import PyProof.Rows.All
import Wide.All
import OpenK.AllK
import Wide.FinOn
import HandS.ForMost
import HandS.ForExc
import HandS.Flow
import HandS.StrMore
import HandS.NoneIn
import HandS.TupAny
import HandS.IsInst
import HandS.Deep
import HandS.RaiseMore
import HandS.CallSlots
import HandS.TryOnly
import HandS.ExcIs
import HandS.ExcField
import HandS.WordsExc
import PyProof.ExcBaseAll.ValueError
import PyProof.ZipIter
import PyProof.Draws
import HandS.Star
import HandS.More
import PyProof.StrOps2
import PyProof.StrReplace2
import PyProof.ToksMono
import HandS.ReplaceLit
import HandS.ExcInit
import KE.KExcSuper
import KE.RegKSuper
import PySem.Challenge.RW_letterheld_k12_first_invalid_line_of_a_j
set_option Elab.async false
set_option linter.all false
set_option maxRecDepth 100000
set_option maxHeartbeats 4000000
/-! Pd: pure defs over data. A def's body is read as a function of its slots; what it makes stands in new objects. -/
namespace Pd
open PySem PySem.Spec L2
open PyProof.Rows hiding St

/-- data -/
inductive D where
  | non | bool (b : Bool) | int (i : Int) | str (x : Str) | lst (xs : List D) | tup (xs : List D) | scr (ns : List Int) | loc (n : Nat)

mutual
/-- the value v is the data d, as the heap Hs has it -/
inductive Rp (K : PySem.W.Frag) (μ : List Addr) (H : Hp) : V → D → Prop
  | non : Rp K μ H .non .non
  | bool (b : Bool) : Rp K μ H (.bl b) (.bool b)
  | int (i : Int) : Rp K μ H (.int i) (.int i)
  | str (x : Str) : Rp K μ H (.str x) (.str x)
  | lst {a : Addr} {xs : List V} {ds : List D} : H a = some (.lst xs) → RpA K μ H xs ds → Rp K μ H (.ref a) (.lst ds)
  | tup {a : Addr} {xs : List V} {ds : List D} : SqT K H a xs → RpA K μ H xs ds → Rp K μ H (.ref a) (.tup ds)
  | scr {a : Addr} {ns : List Int} : SqL K H a (ns.map V.int) → Rp K μ H (.ref a) (.scr ns)
  | loc {a : Addr} {n : Nat} : μ[n]? = some a → Rp K μ H (.ref a) (.loc n)
inductive RpA (K : PySem.W.Frag) (μ : List Addr) (H : Hp) : List V → List D → Prop
  | nil : RpA K μ H [] []
  | cons {v : V} {vs : List V} {d : D} {ds : List D} : Rp K μ H v d → RpA K μ H vs ds → RpA K μ H (v :: vs) (d :: ds)
end

theorem sqT_mono {K : PySem.W.Frag} {H H' : Hp} {a : Addr} {xs : List V} (e : Same H H') (h : SqT K H a xs) : SqT K H' a xs := by
  rcases h with (h | ⟨o, h⟩) | h
  · exact .inl (.inl (e _ _ h))
  · exact .inl (.inr ⟨o, e _ _ h⟩)
  · exact .inr h
section
variable {K : PySem.W.Frag} {μ : List Addr} {H H' : Hp}
mutual
theorem Rp.mono (e : Same H H') : ∀ (d : D) (v : V), Rp K μ H v d → Rp K μ H' v d
  | .non, _, h => by cases h; exact .non
  | .bool b, _, h => by cases h; exact .bool _
  | .int i, _, h => by cases h; exact .int _
  | .str x, _, h => by cases h; exact .str _
  | .lst ds, _, h => by
    cases h with
    | lst h1 h2 => exact .lst (e _ _ h1) (RpA.mono e _ _ h2)
  | .tup ds, _, h => by
    cases h with
    | tup h1 h2 => exact .tup (sqT_mono e h1) (RpA.mono e _ _ h2)
  | .scr ns, _, h => by
    cases h with
    | scr h1 => exact .scr (e.seq h1)
  | .loc n, _, h => by
    cases h with
    | loc h1 => exact .loc h1
theorem RpA.mono (e : Same H H') : ∀ (ds : List D) (vs : List V), RpA K μ H vs ds → RpA K μ H' vs ds
  | [], _, h => by cases h; exact .nil
  | d :: ds, _, h => by
    cases h with
    | cons h1 h2 => exact .cons (Rp.mono e _ _ h1) (RpA.mono e _ _ h2)
end
theorem RpA.len : ∀ {ds : List D} {vs : List V}, RpA K μ H vs ds → vs.length = ds.length
  | [], _, h => by cases h; rfl
  | d :: ds, _, h => by
    cases h with
    | cons h1 h2 => simp only [List.length_cons, RpA.len h2]
theorem RpA.get : ∀ {ds : List D} {vs : List V} {i : Nat} {v : V}, RpA K μ H vs ds → vs[i]? = some v → ∃ d, ds[i]? = some d ∧ Rp K μ H v d
  | _, _, _, _, .nil, e => by simp at e
  | _, _, 0, _, .cons h1 _, e => by simp at e; subst e; exact ⟨_, rfl, h1⟩
  | _, _, i + 1, v, .cons _ h2, e => by
    obtain ⟨d, h3, h4⟩ := RpA.get (i := i) (v := v) h2 (by simpa using e)
    exact ⟨d, by simpa using h3, h4⟩
theorem RpA.getD : ∀ {ds : List D} {vs : List V} {i : Nat} {d : D}, RpA K μ H vs ds → ds[i]? = some d → ∃ v, vs[i]? = some v ∧ Rp K μ H v d
  | _, _, _, _, .nil, e => by simp at e
  | _, _, 0, _, .cons h1 _, e => by simp at e; subst e; exact ⟨_, rfl, h1⟩
  | _, _, i + 1, v, .cons _ h2, e => by
    obtain ⟨d, h3, h4⟩ := RpA.getD (i := i) (d := v) h2 (by simpa using e)
    exact ⟨d, by simpa using h3, h4⟩
theorem RpA.app : ∀ {ds es : List D} {vs us : List V}, RpA K μ H vs ds → RpA K μ H us es → RpA K μ H (vs ++ us) (ds ++ es)
  | _, _, _, _, .nil, h => h
  | _, _, _, _, .cons h1 h2, h => .cons h1 (RpA.app h2 h)
theorem RpA.snoc {d : D} {ds : List D} {v : V} {vs : List V} (h : RpA K μ H vs ds) (h1 : Rp K μ H v d) : RpA K μ H (vs ++ [v]) (ds ++ [d]) := h.app (.cons h1 .nil)
theorem RpA.take : ∀ (n : Nat) {ds : List D} {vs : List V}, RpA K μ H vs ds → RpA K μ H (vs.take n) (ds.take n)
  | 0, _, _, _ => by simp; exact .nil
  | n + 1, _, _, .nil => by simp; exact .nil
  | n + 1, _, _, .cons h1 h2 => by simp only [List.take_succ_cons]; exact .cons h1 (RpA.take n h2)
theorem RpA.drop : ∀ (n : Nat) {ds : List D} {vs : List V}, RpA K μ H vs ds → RpA K μ H (vs.drop n) (ds.drop n)
  | 0, _, _, h => by simpa using h
  | n + 1, _, _, .nil => by simp; exact .nil
  | n + 1, _, _, .cons h1 h2 => by simp only [List.drop_succ_cons]; exact RpA.drop n h2
theorem RpA.ints : ∀ {ns : List Int}, RpA K μ H (ns.map V.int) (ns.map D.int)
  | [] => .nil
  | n :: ns => .cons (.int n) RpA.ints
theorem RpA.strs : ∀ {ns : List Str}, RpA K μ H (ns.map V.str) (ns.map D.str)
  | [] => .nil
  | n :: ns => .cons (.str n) RpA.strs
end

/-! ### equality of data -/
mutual
def D.py : D → PyData
  | .non => .none
  | .bool b => .bool b
  | .int i => .int i
  | .str x => .str x
  | .lst ds => .list (D.pyA ds)
  | .tup ds => .tuple (D.pyA ds)
  | .scr ns => .list (ns.map PyData.int)
  | .loc _ => .dict []
def D.pyA : List D → List PyData
  | [] => []
  | d :: ds => d.py :: D.pyA ds
end
section
variable {K : PySem.W.Frag} {μ : List Addr} {H : Hp}
theorem dpAll_ints : ∀ {ns : List Int}, DpAll K H (ns.map V.int) (ns.map PyData.int)
  | [] => .nil
  | n :: ns => .cons (.int n) dpAll_ints
mutual
theorem Rp.dp : ∀ (d : D) (v : V), Rp K μ H v d → d.py.canLay0 = true → Dp K H v d.py
  | .non, _, h, _ => by cases h; exact .non
  | .bool b, _, h, _ => by cases h; exact .bl _
  | .int i, _, h, _ => by cases h; exact .int _
  | .str x, _, h, _ => by cases h; exact .str _
  | .lst ds, _, h, c => by
    cases h with
    | lst h1 h2 => exact .lst (SqL.of h1) (RpA.dp _ _ h2 c)
  | .tup ds, _, h, c => by
    cases h with
    | tup h1 h2 => exact .tup h1 (RpA.dp _ _ h2 c)
  | .scr ns, _, h, _ => by
    cases h with
    | scr h1 => exact .lst h1 dpAll_ints
  | .loc _, _, _, c => nomatch c
theorem RpA.dp : ∀ (ds : List D) (vs : List V), RpA K μ H vs ds → PyData.canLayAll0 (D.pyA ds) = true → DpAll K H vs (D.pyA ds)
  | [], _, h, _ => by cases h; exact .nil
  | d :: ds, _, h, c => by
    have c' : (d.py.canLay0 && PyData.canLayAll0 (D.pyA ds)) = true := c
    rw [Bool.and_eq_true] at c'
    cases h with
    | cons h1 h2 => exact .cons (Rp.dp _ _ h1 c'.1) (RpA.dp _ _ h2 c'.2)
end
end

/-! ### a part of the heap that grows -/
structure Ext (Hs H Hs' H' : Hp) : Prop where
  all : Same H H'
  part : Same Hs Hs'
  sub : Same Hs' H'
  new : ∀ a o, Hs' a = some o → Hs a = some o ∨ H a = none
theorem Ext.refl {Hs H : Hp} (s : Same Hs H) : Ext Hs H Hs H := ⟨Same.refl _, Same.refl _, s, fun _ _ h => .inl h⟩
theorem Ext.trans {Hs H Hs1 H1 Hs2 H2 : Hp} (a : Ext Hs H Hs1 H1) (b : Ext Hs1 H1 Hs2 H2) : Ext Hs H Hs2 H2 :=
  ⟨a.all.trans b.all, a.part.trans b.part, b.sub, fun x o h => by
    rcases b.new x o h with h1 | h1
    · exact a.new x o h1
    · exact .inr (a.all.free h1)⟩
/-- a new object -/
theorem Ext.made {Hs H : Hp} (s : Same Hs H) {p : Addr} {o : HO} (hp : H p = none) : Ext Hs H (upd Hs p o) (upd H p o) := by
  have hs : Hs p = none := s.free hp
  refine ⟨fun b u h => ?_, fun b u h => ?_, fun b u h => ?_, fun b u h => ?_⟩
  · rw [upd_ne (ne_of_none h hp)]; exact h
  · rw [upd_ne (ne_of_none h hs)]; exact h
  · by_cases hb : b = p
    · subst hb; rw [upd_same] at h ⊢; exact h
    · rw [upd_ne hb] at h ⊢; exact s b u h
  · by_cases hb : b = p
    · subst hb; exact .inr hp
    · rw [upd_ne hb] at h; exact .inl h
/-- new objects beside the part -/
theorem Ext.side {Hs H H' : Hp} (s : Same Hs H) (e : Same H H') : Ext Hs H Hs H' := ⟨e, Same.refl _, s.trans e, fun _ _ h => .inl h⟩

/-! ### slots -/
inductive Sl where
  | val (d : D) | own (ds : List D) | raw (v : V) | junk
  | exc (a : Addr) (d : Option Addr) (fs : List (Str × D))
abbrev Rho := List Sl
def VOk (K : PySem.W.Frag) (μ : List Addr) (Hs : Hp) (ov : Option V) : Sl → Prop
  | .val d => ∃ v, ov = some v ∧ Rp K μ Hs v d
  | .raw v => ov = some v
  | .own _ => True
  | .junk => True
  | .exc a d fs => ov = some (.ref a) ∧ (fs = [] ∨ ∃ dd vs, d = some dd ∧ Hs dd = some (.xd vs) ∧ Paired (fun p q => p.1 = q.1 ∧ Rp K μ Hs p.2 q.2) vs fs)
def VEnv (K : PySem.W.Frag) (μ : List Addr) (Hs : Hp) (σ : St) (ρ : Rho) : Prop := Paired (VOk K μ Hs) σ ρ
theorem paired_imp {α β : Type} {F G : α → β → Prop} (i : ∀ a b, F a b → G a b) : ∀ {l : List α} {m : List β}, Paired F l m → Paired G l m
  | _, _, .nil => .nil
  | _, _, .cons h t => .cons (i _ _ h) (paired_imp i t)
theorem VOk.mono {K : PySem.W.Frag} {μ : List Addr} {H H' : Hp} (e : Same H H') {ov : Option V} : ∀ {x : Sl}, VOk K μ H ov x → VOk K μ H' ov x
  | .val d, ⟨v, h1, h2⟩ => ⟨v, h1, h2.mono e⟩
  | .raw v, h => h
  | .own _, _ => trivial
  | .junk, _ => trivial
  | .exc _ _ _, ⟨h1, h2⟩ => ⟨h1, h2.imp id fun ⟨dd, vs, q1, q2, q3⟩ => ⟨dd, vs, q1, e _ _ q2, paired_imp (fun _ _ z => ⟨z.1, z.2.mono e⟩) q3⟩⟩
theorem VEnv.mono {K : PySem.W.Frag} {μ : List Addr} {H H' : Hp} (e : Same H H') {σ : St} {ρ : Rho} (h : VEnv K μ H σ ρ) : VEnv K μ H' σ ρ := paired_imp (fun _ _ => VOk.mono e) h
theorem paired_get {α β : Type} {F : α → β → Prop} : ∀ {l : List α} {m : List β} {i : Nat} {b : β}, Paired F l m → m[i]? = some b → ∃ a, l[i]? = some a ∧ F a b
  | _, _, _, _, .nil, e => by simp at e
  | _, _, 0, _, .cons h _, e => by simp at e; subst e; exact ⟨_, rfl, h⟩
  | _, _, i + 1, b, .cons _ t, e => by
    obtain ⟨a, h1, h2⟩ := paired_get (i := i) (b := b) t (by simpa using e)
    exact ⟨a, by simpa using h1, h2⟩
theorem paired_set {α β : Type} {F : α → β → Prop} {a : α} {b : β} (h : F a b) : ∀ {l : List α} {m : List β} (i : Nat), Paired F l m → Paired F (l.set i a) (m.set i b)
  | _, _, _, .nil => .nil
  | _, _, 0, .cons _ t => .cons h t
  | _, _, i + 1, .cons h1 t => .cons h1 (paired_set h i t)

/-! ### the judgements -/
abbrev F := Rho → Option D
abbrev Fs := Rho → Option (List D)
abbrev Ft := Rho → Option Bool
def tD (K : PySem.W.Frag) (f : F) : TE := fun σ H Q => ∃ (μ : List Addr) (Hs : Hp) (ρ : Rho) (d : D), Same Hs H ∧ VEnv K μ Hs σ ρ ∧ f ρ = some d ∧ ∀ v H' Hs', Ext Hs H Hs' H' → Rp K μ Hs' v d → Q v H'
def tDs (K : PySem.W.Frag) (f : Fs) : TA := fun σ H Q => ∃ (μ : List Addr) (Hs : Hp) (ρ : Rho) (ds : List D), Same Hs H ∧ VEnv K μ Hs σ ρ ∧ f ρ = some ds ∧ ∀ vs H' Hs', Ext Hs H Hs' H' → RpA K μ Hs' vs ds → Q vs H'
def tDT (K : PySem.W.Frag) (f : Ft) : TT := fun σ H Q => ∃ (μ : List Addr) (Hs : Hp) (ρ : Rho) (b : Bool), Same Hs H ∧ VEnv K μ Hs σ ρ ∧ f ρ = some b ∧ ∀ H', Same H H' → Q b H'

theorem pe_imp {X : Cx} {e : Expr} {t t' : TE} (h : PE X e t) (i : ∀ σ H Q, t' σ H Q → t σ H Q) : PE X e t' := ⟨fun pins s σ H Q I q => h.run pins s σ H Q I (i _ _ _ q)⟩
theorem pt_imp {X : Cx} {e : Expr} {t t' : TT} (h : PT X e t) (i : ∀ σ H Q, t' σ H Q → t σ H Q) : PT X e t' := ⟨fun pins s σ H Q I q => h.run pins s σ H Q I (i _ _ _ q)⟩
theorem pw_imp {X : Cx} {e : Expr} {t t' : TT} (h : PW X e t) (i : ∀ σ H Q, t' σ H Q → t σ H Q) : PW X e t' := ⟨fun wh pins s σ H Q I q => h.run wh pins s σ H Q I (i _ _ _ q)⟩
theorem pa_imp {X : Cx} {es : List Expr} {t t' : TA} (h : PA X es t) (i : ∀ σ H Q, t' σ H Q → t σ H Q) : PA X es t' := ⟨fun p pins s σ H Q I q => h.run p pins s σ H Q I (i _ _ _ q)⟩
theorem ps_imp {X : Cx} {st : Stmt} {t t' : TS} (h : PS X st t) (i : ∀ Dn σ H, t' Dn σ H → t Dn σ H) : PS X st t' := ⟨fun pins s σ H Dn I q => h.run pins s σ H Dn I (i _ _ _ q)⟩
theorem pss_imp {X : Cx} {st : List Stmt} {t t' : TS} (h : PSs X st t) (i : ∀ Dn σ H, t' Dn σ H → t Dn σ H) : PSs X st t' := ⟨fun pins s σ H Dn I q => h.run pins s σ H Dn I (i _ _ _ q)⟩

/-- b = F a: binds -/
def b1 {α β : Type} (a : Option α) (G : α → Option β) : Option β := match a with
  | some x => G x
  | none => none
theorem b1_some {α β : Type} {a : α} {G : α → Option β} : b1 (some a) G = G a := rfl
theorem b1_none {α β : Type} {G : α → Option β} : b1 (none : Option α) G = none := rfl
theorem b1_eq {α β : Type} {a : Option α} {G : α → Option β} {y : β} (h : b1 a G = some y) : ∃ x, a = some x ∧ G x = some y := by
  cases a with
  | none => cases h
  | some x => exact ⟨x, rfl, h⟩

def fVar (i : Nat) : F := fun ρ => match ρ[i]? with
  | some (.val d) => some d
  | _ => none
def fC (d : D) : F := fun _ => some d
def f1 (G : D → Option D) (f : F) : F := fun ρ => b1 (f ρ) G
def f2 (G : D → D → Option D) (f g : F) : F := fun ρ => b1 (f ρ) fun d => b1 (g ρ) fun e => G d e
def fNil : Fs := fun _ => some []
def fCons (f : F) (g : Fs) : Fs := fun ρ => b1 (f ρ) fun d => b1 (g ρ) fun ds => some (d :: ds)
def fL (G : List D → Option D) (f : Fs) : F := fun ρ => b1 (f ρ) G

section
variable {X : Cx} {e a b c : Expr} {es : List Expr} {f g h : F} {fs : Fs} {pos : Pos}
theorem pd_var (i : Nat) {x : Str} (hN : X.N[i]? = some x := by rfl) (hv : Vis X.env.scope x := by first | exact Or.inl rfl | exact Or.inr (Or.inl rfl) | exact Or.inr (Or.inr rfl)) (hd : (x == ("__debug__" : Str)) = false := by decide)
    (hcd : (x == ("__classdict__" : Str)) = false := by decide) : PE X (.Name x pos) (tD X.K (fVar i)) := by
  refine pe_imp (pe_var hN hv hd hcd) fun σ H Q ⟨μ, Hs, ρ, d, s, env, e, k⟩ => ?_
  unfold fVar at e
  cases q : ρ[i]? with
  | none => rw [q] at e; cases e
  | some x =>
    rw [q] at e
    cases x with
    | val d' =>
      cases e
      obtain ⟨ov, h1, v, h2, h3⟩ := paired_get env q
      subst h2
      exact ⟨v, h1, k v H Hs (Ext.refl s) h3⟩
    | own _ => cases e
    | raw _ => cases e
    | junk => cases e
    | exc _ _ _ => cases e
theorem pd_const {v : V} {d : D} (h : PE X e (tC v)) (hr : ∀ μ H, Rp X.K μ H v d) : PE X e (tD X.K (fC d)) :=
  pe_imp h fun σ H Q ⟨μ, Hs, ρ, d', s, env, e, k⟩ => by cases e; exact k v H Hs (Ext.refl s) (hr _ _)
theorem pd_int {i : Int} {j} : PE X (.Constant (.int i) j pos) (tD X.K (fC (.int i))) := pd_const pe_int fun _ _ => .int _
theorem pd_bool {i : Bool} {j} : PE X (.Constant (.bool i) j pos) (tD X.K (fC (.bool i))) := pd_const pe_bl fun _ _ => .bool _
theorem pd_str {i : Str} {j} : PE X (.Constant (.str i) j pos) (tD X.K (fC (.str i))) := pd_const pe_str fun _ _ => .str _
theorem pd_non {j} : PE X (.Constant .none j pos) (tD X.K (fC .non)) := pd_const pe_non fun _ _ => .non
/-- a module's constant: a number, a text -/
theorem pd_glob {x : Str} {v : V} {d : D} {u : Value} (hm : X.mg x = some u) (r : RelV v u) (hr : ∀ μ H, Rp X.K μ H v d) (hg : Gl X x := by rfl) (hd : (x == ("__debug__" : Str)) = false := by decide) : PE X (.Name x pos) (tD X.K (fC d)) :=
  pd_const (pe_glob hg hm r hd) hr

/-- a rule for one value -/
def Imp1 (K : PySem.W.Frag) (r : V → Hp → VK → Prop) (G : D → Option D) : Prop := ∀ μ H Hs x d o Q, Same Hs H → Rp K μ Hs x d → G d = some o → (∀ v H' Hs', Ext Hs H Hs' H' → Rp K μ Hs' v o → Q v H') → r x H Q
def Imp2 (K : PySem.W.Frag) (r : R2) (G : D → D → Option D) : Prop := ∀ μ H Hs x y d e o Q, Same Hs H → Rp K μ Hs x d → Rp K μ Hs y e → G d e = some o → (∀ v H' Hs', Ext Hs H Hs' H' → Rp K μ Hs' v o → Q v H') → r x y H Q
def ImpL (K : PySem.W.Frag) (r : List V → Hp → VK → Prop) (G : List D → Option D) : Prop := ∀ μ H Hs xs ds o Q, Same Hs H → RpA K μ Hs xs ds → G ds = some o → (∀ v H' Hs', Ext Hs H Hs' H' → Rp K μ Hs' v o → Q v H') → r xs H Q
theorem tD_1 {K : PySem.W.Frag} {r : V → Hp → VK → Prop} {G : D → Option D} (hG : Imp1 K r G) : ∀ σ H Q, tD K (f1 G f) σ H Q → tUn r (tD K f) σ H Q := by
  rintro σ H Q ⟨μ, Hs, ρ, d, s, env, e, k⟩
  obtain ⟨d1, e1, e2⟩ := b1_eq e
  exact ⟨μ, Hs, ρ, d1, s, env, e1, fun v H1 Hs1 x1 r1 => hG _ H1 Hs1 v d1 d Q x1.sub r1 e2 fun v' H' Hs' x2 r2 => k v' H' Hs' (x1.trans x2) r2⟩
theorem tD_2 {K : PySem.W.Frag} {r : R2} {G : D → D → Option D} (hG : Imp2 K r G) : ∀ σ H Q, tD K (f2 G f g) σ H Q → tOp r (tD K f) (tD K g) σ H Q := by
  rintro σ H Q ⟨μ, Hs, ρ, d, s, env, e, k⟩
  obtain ⟨d1, e1, e2⟩ := b1_eq e
  obtain ⟨d2, e3, e4⟩ := b1_eq e2
  refine ⟨μ, Hs, ρ, d1, s, env, e1, fun v H1 Hs1 x1 r1 => ⟨μ, Hs1, ρ, d2, x1.sub, env.mono x1.part, e3, fun u H2 Hs2 x2 r2 => ?_⟩⟩
  exact hG _ H2 Hs2 v u d1 d2 d Q x2.sub (r1.mono x2.part) r2 e4 fun v' H' Hs' x3 r3 => k v' H' Hs' (x1.trans (x2.trans x3)) r3
theorem pda_nil : PA X [] (tDs X.K fNil) := pa_imp pa_nil fun σ H Q ⟨μ, Hs, ρ, d, s, env, e, k⟩ => by cases e; exact k [] H Hs (Ext.refl s) .nil
theorem pda_cons (he : PE X e (tD X.K f)) (ht : PA X es (tDs X.K fs)) (hs : starEach (e :: es) X.env = (false, eval e X.env) :: starEach es X.env := by rfl) : PA X (e :: es) (tDs X.K (fCons f fs)) := by
  refine pa_imp (pa_cons he ht hs) fun σ H Q ⟨μ, Hs, ρ, d, s, env, e, k⟩ => ?_
  obtain ⟨d1, e1, e2⟩ := b1_eq e
  obtain ⟨d2, e3, e4⟩ := b1_eq e2
  cases e4
  refine ⟨μ, Hs, ρ, d1, s, env, e1, fun v H1 Hs1 x1 r1 => ⟨μ, Hs1, ρ, d2, x1.sub, env.mono x1.part, e3, fun u H2 Hs2 x2 r2 => ?_⟩⟩
  exact k _ H2 Hs2 (x1.trans x2) (.cons (r1.mono x2.part) r2)
theorem tD_L {K : PySem.W.Frag} {r : List V → Hp → VK → Prop} {G : List D → Option D} (hG : ImpL K r G) : ∀ σ H Q, tD K (fL G fs) σ H Q → tCB r (tDs K fs) σ H Q := by
  rintro σ H Q ⟨μ, Hs, ρ, d, s, env, e, k⟩
  obtain ⟨d1, e1, e2⟩ := b1_eq e
  exact ⟨μ, Hs, ρ, d1, s, env, e1, fun v H1 Hs1 x1 r1 => hG _ H1 Hs1 v d1 d Q x1.sub r1 e2 fun v' H' Hs' x2 r2 => k v' H' Hs' (x1.trans x2) r2⟩

theorem pd_op {op : Operator} {r : R2} {G : D → D → Option D} (ho : OpR X (binaryOp op) r) (hG : Imp2 X.K r G) (ha : PE X a (tD X.K f)) (hb : PE X b (tD X.K g)) : PE X (.BinOp a op b pos) (tD X.K (f2 G f g)) := pe_imp (pe_op ho ha hb) (tD_2 hG)
theorem pd_cmp {op : CmpOp} {r : R2} {G : D → D → Option D} (ho : OpR X (compareOp op) r) (hG : Imp2 X.K r G) (ha : PE X a (tD X.K f)) (hb : PE X b (tD X.K g)) (hm : behindInMarks op b = false := by first | exact nomark _ | rfl) :
    PE X (.Compare a [op] [b] pos) (tD X.K (f2 G f g)) := pe_imp (pe_cmpR ho ha hb hm) (tD_2 hG)
theorem pd_un {op : UnaryOp} {r : V → Hp → VK → Prop} {G : D → Option D} (ho : UnR X (unaryOp op) r) (hG : Imp1 X.K r G) (ha : PE X a (tD X.K f)) : PE X (.UnaryOp op a pos) (tD X.K (f1 G f)) := pe_imp (pe_un ho ha) (tD_1 hG)
theorem pd_ix {r : R2} {G : D → D → Option D} (hr : IxR X r) (hG : Imp2 X.K r G) (ha : PE X a (tD X.K f)) (hb : PE X b (tD X.K g)) (hs : PlainIx b := by exact fun _ _ => rfl) : PE X (.Subscript a b pos) (tD X.K (f2 G f g)) := pe_imp (pe_ix hr ha hb hs) (tD_2 hG)
theorem pd_callB {id : String} {r : List V → Hp → VK → Prop} {G : List D → Option D} {x : Str} {p : Pos} (hc : CallR X (.builtin id) r) (hG : ImpL X.K r G) (hm : X.mg x = none) (ha : PA X (e :: es) (tDs X.K fs)) (hg : Gl X x := by rfl) (hv : bootBuiltins x = some (.builtin id) := by decide +kernel)
    (hn : x ≠ "__name__" := by decide) (hdb : (x == ("__debug__" : Str)) = false := by decide) (he : starEach (e :: es) X.env = (false, eval e X.env) :: starEach es X.env := by rfl) (hpl : (backTo pos (starEach es X.env)).any (·.1) = false := by rfl) :
    PE X (.Call (.Name x p) (e :: es) [] pos) (tD X.K (fL G fs)) := pe_imp (pe_callB hc hg hm hv ha hn hdb he hpl) (tD_L hG)
theorem pd_callTy {T : String} {r : List V → Hp → VK → Prop} {G : List D → Option D} {x : Str} {p : Pos} (hc : CallR X (.type T) r) (hG : ImpL X.K r G) (hm : X.mg x = none) (ha : PA X (e :: es) (tDs X.K fs)) (hg : Gl X x := by rfl) (hv : bootBuiltins x = some (.type T) := by decide +kernel)
    (hn : x ≠ "__name__" := by decide) (hdb : (x == ("__debug__" : Str)) = false := by decide) (he : starEach (e :: es) X.env = (false, eval e X.env) :: starEach es X.env := by rfl) (hpl : (backTo pos (starEach es X.env)).any (·.1) = false := by rfl) :
    PE X (.Call (.Name x p) (e :: es) [] pos) (tD X.K (fL G fs)) := pe_imp (pe_callTy hc hg hm hv ha hn hdb he hpl) (tD_L hG)
end
end Pd

/-! Pd1: the operations on data. -/
namespace Pd
open PySem PySem.Spec L2
open PyProof.Rows hiding St

theorem OpR.or {X : Cx} {f : Value → Value → Sem Value} {r r' : R2} (h : OpR X f r) (h' : OpR X f r') : OpR X f (fun x y H Q => r x y H Q ∨ r' x y H Q) := by
  intro pins s σ H x y v u Q I rx ry q
  rcases q with q | q
  · exact h pins s σ H x y v u Q I rx ry q
  · exact h' pins s σ H x y v u Q I rx ry q
def rOr (r r' : R2) : R2 := fun x y H Q => r x y H Q ∨ r' x y H Q
/-! ### arithmetic -/
def gI (G : Int → Int → Option D) : D → D → Option D
  | .int i, .int j => G i j
  | _, _ => none
theorem imp_I0 {K : PySem.W.Frag} {g : Int → Int → V} {G : Int → Int → D} (hG : ∀ μ i j H, Rp K μ H (g i j) (G i j)) : Imp2 K (rI0 g) (gI fun i j => some (G i j)) := by
  intro μ H Hs x y d e o Q s rx ry gg k
  cases rx <;> cases ry <;> try (cases gg)
  exact ⟨_, _, rfl, rfl, k _ H Hs (Ext.refl s) (hG _ _ _ _)⟩
theorem imp_I {K : PySem.W.Frag} {C : Int → Int → Prop} [DecidableRel C] {g : Int → Int → V} {G : Int → Int → D} (hG : ∀ μ i j H, Rp K μ H (g i j) (G i j)) : Imp2 K (rI C g) (gI fun i j => if C i j then some (G i j) else none) := by
  intro μ H Hs x y d e o Q s rx ry gg k
  cases rx <;> cases ry <;> try (cases gg)
  rename_i i j
  by_cases hc : C i j
  · have gg' : (if C i j then some (G i j) else none) = some o := gg
    rw [if_pos hc] at gg'
    cases gg'
    exact ⟨_, _, rfl, rfl, hc, k _ H Hs (Ext.refl s) (hG _ _ _ _)⟩
  · have gg' : (if C i j then some (G i j) else none) = some o := gg
    rw [if_neg hc] at gg'
    cases gg'
instance : DecidableRel CMul := fun i j => by unfold CMul; infer_instance
instance : DecidableRel CDiv := fun i j => by unfold CDiv; infer_instance
instance : DecidableRel (fun (_ j : Int) => 0 < j) := fun i j => by infer_instance
def gSub : D → D → Option D := gI fun i j => some (.int (i - j))
def gMul : D → D → Option D := gI fun i j => if CMul i j then some (.int (i * j)) else none
def gDiv : D → D → Option D := gI fun i j => if CDiv i j then some (.int (i / j)) else none
def gMod : D → D → Option D := gI fun i j => if 0 < j then some (.int (i % j)) else none
theorem imp_sub {K : PySem.W.Frag} : Imp2 K (rI0 fun i j => .int (i - j)) gSub := imp_I0 fun _ _ _ _ => .int _
theorem imp_mul {K : PySem.W.Frag} : Imp2 K (rI CMul fun i j => .int (i * j)) gMul := imp_I fun _ _ _ _ => .int _
theorem imp_div {K : PySem.W.Frag} : Imp2 K (rI CDiv fun i j => .int (i / j)) gDiv := imp_I fun _ _ _ _ => .int _
theorem imp_mod {K : PySem.W.Frag} : Imp2 K (rI (fun _ j => 0 < j) fun i j => .int (i % j)) gMod := imp_I fun _ _ _ _ => .int _

/-- a + b: numbers, texts, lists, tuples -/
def gAdd : D → D → Option D
  | .int i, .int j => some (.int (i + j))
  | .str a, .str b => if a.length + b.length ≤ sizeLine then some (.str (a ++ b)) else none
  | .lst xs, .lst ys => if xs.length + ys.length ≤ sizeLine then some (.lst (xs ++ ys)) else none
  | .tup xs, .tup ys => if xs.length + ys.length ≤ sizeLine then some (.tup (xs ++ ys)) else none
  | _, _ => none
def rAddA (K : PySem.W.Frag) : R2 := fun x y H Q => (rI0 fun i j => .int (i + j)) x y H Q ∨ (∃ i j, x = .str i ∧ y = .str j ∧ i.length + j.length ≤ sizeLine ∧ Q (.str (i ++ j)) H) ∨ rCat x y H Q ∨ rCatA K x y H Q
theorem op_addA {X : Cx} : OpR X (binaryOp .Add) (rAddA X.K) := OpR.or op_add (OpR.or op_add_str (OpR.or op_cat op_catA))
theorem ite_some {α : Type} {c : Prop} [Decidable c] {a b : α} (h : (if c then some a else none) = some b) : c ∧ a = b := by
  by_cases hc : c
  · rw [if_pos hc] at h
    cases h
    exact ⟨hc, rfl⟩
  · rw [if_neg hc] at h
    cases h
theorem imp_add {K : PySem.W.Frag} : Imp2 K (rAddA K) gAdd := by
  intro μ H Hs x y d e o Q s rx ry g k
  cases rx with
  | int i =>
    cases ry <;> try (cases g)
    exact .inl ⟨_, _, rfl, rfl, k _ H Hs (Ext.refl s) (.int _)⟩
  | str a =>
    cases ry <;> try (cases g)
    obtain ⟨hc, rfl⟩ := ite_some g
    exact .inr (.inl ⟨_, _, rfl, rfl, hc, k _ H Hs (Ext.refl s) (.str _)⟩)
  | lst h1 r1 =>
    cases ry <;> try (cases g)
    rename_i h2 r2
    obtain ⟨hc, rfl⟩ := ite_some g
    refine .inr (.inr (.inl ⟨_, _, _, _, rfl, rfl, s _ _ h1, s _ _ h2, by rw [r1.len, r2.len]; exact hc, fun p hp => ?_⟩))
    exact k _ _ _ (Ext.made s hp) (.lst upd_same ((r1.app r2).mono (Ext.made s hp).part))
  | tup h1 r1 =>
    cases ry <;> try (cases g)
    rename_i h2 r2
    obtain ⟨hc, rfl⟩ := ite_some g
    refine .inr (.inr (.inr ⟨_, _, _, _, rfl, rfl, sqT_mono s h1, sqT_mono s h2, by rw [r1.len, r2.len]; exact hc, fun e1 => ?_, fun e1 e2 => ?_, fun e1 e2 p hp => ?_⟩))
    · subst e1
      cases r1
      exact k _ H Hs (Ext.refl s) (.tup h2 r2)
    · subst e2
      cases r2
      exact k _ H Hs (Ext.refl s) (.tup h1 (by simpa using r1))
    · exact k _ _ _ (Ext.made s hp) (.tup (SqT.of upd_same) ((r1.app r2).mono (Ext.made s hp).part))
  | non => cases g
  | bool b => cases g
  | scr h1 => cases g
  | loc h1 => cases g

/-! ### comparisons -/
def D.sc2 : D → D → Bool
  | .non, .non => true | .non, .int _ => true | .int _, .non => true | .non, .bool _ => true | .bool _, .non => true | .non, .str _ => true | .str _, .non => true
  | .int _, .int _ => true | .bool _, .bool _ => true | .str _, .str _ => true
  | .int _, .str _ => true | .str _, .int _ => true | .bool _, .str _ => true | .str _, .bool _ => true
  | _, _ => false
def D.eqs : D → D → Bool
  | .non, .non => true
  | .int i, .int j => decide (i = j)
  | .bool i, .bool j => decide (i = j)
  | .str i, .str j => decide (i = j)
  | _, _ => false
def gEq (d e : D) : Option D := if d.sc2 e then some (.bool (d.eqs e)) else if SeqAt.shaped d.py && SeqAt.shaped e.py then some (.bool (PyData.eqv d.py e.py)) else none
def gNe (d e : D) : Option D := if d.sc2 e then some (.bool (!d.eqs e)) else if SeqAt.shaped d.py && SeqAt.shaped e.py then some (.bool (!PyData.eqv d.py e.py)) else none
theorem eqs_v {K : PySem.W.Frag} {μ : List Addr} {H : Hp} {x y : V} {d e : D} (rx : Rp K μ H x d) (ry : Rp K μ H y e) (h : d.sc2 e = true) : scal x y = true ∧ decide (x = y) = d.eqs e := by
  cases rx <;> cases ry <;> first | exact ⟨rfl, by simp [D.eqs]⟩ | (exact absurd h (by decide)) | (exact absurd h Bool.false_ne_true)
theorem imp_eq {K : PySem.W.Frag} : Imp2 K (fun x y H Q => rEq x y H Q ∨ rEqD K x y H Q) gEq := by
  intro μ H Hs x y d e o Q s rx ry g k
  unfold gEq at g
  by_cases h1 : d.sc2 e = true
  · rw [if_pos h1] at g
    cases g
    obtain ⟨a, b⟩ := eqs_v rx ry h1
    exact .inl ⟨a, by rw [b]; exact k _ H Hs (Ext.refl s) (.bool _)⟩
  · rw [if_neg h1] at g
    by_cases h2 : (SeqAt.shaped d.py && SeqAt.shaped e.py) = true
    · rw [if_pos h2] at g
      cases g
      rw [Bool.and_eq_true] at h2
      exact .inr ⟨_, _, Rp.dp _ _ (rx.mono s) (SeqAt.canLay_of_shaped h2.1), Rp.dp _ _ (ry.mono s) (SeqAt.canLay_of_shaped h2.2), h2.1, h2.2, k _ H Hs (Ext.refl s) (.bool _)⟩
    · rw [if_neg h2] at g
      cases g
theorem imp_ne {K : PySem.W.Frag} : Imp2 K (fun x y H Q => rNe x y H Q ∨ rNeD K x y H Q) gNe := by
  intro μ H Hs x y d e o Q s rx ry g k
  unfold gNe at g
  by_cases h1 : d.sc2 e = true
  · rw [if_pos h1] at g
    cases g
    obtain ⟨a, b⟩ := eqs_v rx ry h1
    exact .inl ⟨a, by rw [b]; exact k _ H Hs (Ext.refl s) (.bool _)⟩
  · rw [if_neg h1] at g
    by_cases h2 : (SeqAt.shaped d.py && SeqAt.shaped e.py) = true
    · rw [if_pos h2] at g
      cases g
      rw [Bool.and_eq_true] at h2
      exact .inr ⟨_, _, Rp.dp _ _ (rx.mono s) (SeqAt.canLay_of_shaped h2.1), Rp.dp _ _ (ry.mono s) (SeqAt.canLay_of_shaped h2.2), h2.1, h2.2, k _ H Hs (Ext.refl s) (.bool _)⟩
    · rw [if_neg h2] at g
      cases g
theorem op_eqA {X : Cx} (hu : X.A.units + 64 < cLine) : OpR X (compareOp .Eq) (fun x y H Q => rEq x y H Q ∨ rEqD X.K x y H Q) := OpR.or op_eq (op_eqD hu)
theorem op_neA {X : Cx} (hu : X.A.units + 64 < cLine) : OpR X (compareOp .NotEq) (fun x y H Q => rNe x y H Q ∨ rNeD X.K x y H Q) := OpR.or op_ne (op_neD hu)

/-- order: numbers, texts -/
def gOrd (p : Int → Int → Bool) (q : List Nat → List Nat → Bool) : D → D → Option D
  | .int i, .int j => some (.bool (p i j))
  | .str a, .str b => some (.bool (q a.cps.toList b.cps.toList))
  | _, _ => none
def rOrd (p : Int → Int → Bool) (q : List Nat → List Nat → Bool) : R2 := fun x y H Q => (rI0 fun i j => .bl (p i j)) x y H Q ∨ ∃ i j, x = .str i ∧ y = .str j ∧ Q (.bl (q i.cps.toList j.cps.toList)) H
theorem imp_ord {K : PySem.W.Frag} {p : Int → Int → Bool} {q : List Nat → List Nat → Bool} : Imp2 K (rOrd p q) (gOrd p q) := by
  intro μ H Hs x y d e o Q s rx ry g k
  cases rx <;> cases ry <;> try (cases g)
  · exact .inl ⟨_, _, rfl, rfl, k _ H Hs (Ext.refl s) (.bool _)⟩
  · exact .inr ⟨_, _, rfl, rfl, k _ H Hs (Ext.refl s) (.bool _)⟩
def gLt : D → D → Option D := gOrd (fun i j => decide (i < j)) (fun a b => decide (a < b))
def gLe : D → D → Option D := gOrd (fun i j => decide (i ≤ j)) (fun a b => !decide (b < a))
def gGt : D → D → Option D := gOrd (fun i j => decide (j < i)) (fun a b => decide (b < a))
def gGe : D → D → Option D := gOrd (fun i j => decide (j ≤ i)) (fun a b => !decide (a < b))
section
variable {X : Cx}
theorem op_ltA : OpR X (compareOp .Lt) (rOrd (fun i j => decide (i < j)) (fun a b => decide (a < b))) := OpR.or op_lt op_lt_str
theorem op_leA : OpR X (compareOp .LtE) (rOrd (fun i j => decide (i ≤ j)) (fun a b => !decide (b < a))) := OpR.or op_le op_le_str
theorem op_gtA : OpR X (compareOp .Gt) (rOrd (fun i j => decide (j < i)) (fun a b => decide (b < a))) := OpR.or op_gt op_gt_str
theorem op_geA : OpR X (compareOp .GtE) (rOrd (fun i j => decide (j ≤ i)) (fun a b => !decide (a < b))) := OpR.or op_ge op_ge_str
end

/-- x in y: one sign in a text, an item in a list or tuple of plain items, data in a list of data -/
def D.flat : D → Bool
  | .non => true | .bool _ => true | .int _ => true | .str _ => true
  | _ => false
def D.eqF : D → D → Bool
  | .non, .non => true
  | .bool a, .bool b => a == b
  | .bool a, .int b => (if a then 1 else 0) == b
  | .int a, .bool b => a == (if b then 1 else 0)
  | .int a, .int b => a == b
  | .str a, .str b => a == b
  | _, _ => false
def D.v : D → V
  | .non => .non | .bool b => .bl b | .int i => .int i | .str x => .str x
  | _ => .non
def gIn0 : D → D → Option Bool
  | .str a, .str z => match a.cps with
    | ⟨[c]⟩ => some (decide (c ∈ z.cps.toList))
    | _ => none
  | d, .lst ds => if d.flat && ds.all D.flat then some (ds.any fun z => z.eqF d) else if SeqAt.shaped d.py && SeqAt.shaped (D.lst ds).py then some ((D.pyA ds).any fun z => PyData.eqv z d.py) else none
  | d, .tup ds => if d.flat && ds.all D.flat then some (ds.any fun z => z.eqF d) else none
  | _, _ => none
def gIn (d e : D) : Option D := b1 (gIn0 d e) fun b => some (.bool b)
def gNotIn (d e : D) : Option D := b1 (gIn0 d e) fun b => some (.bool (!b))
section
variable {K : PySem.W.Frag} {μ : List Addr} {H : Hp}
theorem Rp.flat {v : V} {d : D} (r : Rp K μ H v d) (f : d.flat = true) : flatV v = true ∧ v = d.v := by
  cases r <;> first | exact ⟨rfl, rfl⟩ | (exact absurd f Bool.false_ne_true)
theorem RpA.flat : ∀ {ds : List D} {vs : List V}, RpA K μ H vs ds → ds.all D.flat = true → vs.all flatV = true ∧ vs = ds.map D.v
  | _, _, .nil, _ => ⟨rfl, rfl⟩
  | _, _, .cons h t, f => by
    rw [List.all_cons, Bool.and_eq_true] at f
    obtain ⟨a, b⟩ := h.flat f.1
    obtain ⟨a', b'⟩ := t.flat f.2
    exact ⟨by rw [List.all_cons, a, a']; rfl, by rw [List.map_cons, ← b, ← b']⟩
theorem eqF_v : ∀ {d e : D}, d.flat = true → e.flat = true → eqV d.v e.v = d.eqF e := by
  intro d e h1 h2
  cases d <;> cases e <;> first | rfl | (exact absurd h1 Bool.false_ne_true) | (exact absurd h2 Bool.false_ne_true)
theorem inV_eq {d : D} {ds : List D} (h1 : d.flat = true) (h2 : ds.all D.flat = true) : inV d.v (ds.map D.v) = ds.any fun z => z.eqF d := by
  unfold inV
  rw [List.any_map]
  induction ds with
  | nil => rfl
  | cons z ds ih =>
    rw [List.all_cons, Bool.and_eq_true] at h2
    rw [List.any_cons, List.any_cons, ih h2.2]
    show (eqV z.v d.v || _) = _
    rw [eqF_v h2.1 h1]
end
def rInA (K : PySem.W.Frag) : R2 := fun x y H Q => (∃ (c : Nat) (z : Str), x = .str ⟨#[c]⟩ ∧ y = .str z ∧ Q (.bl (decide (c ∈ z.cps.toList))) H) ∨ rIn K false x y H Q ∨ rInD K x y H Q
def rNotInA (K : PySem.W.Frag) : R2 := fun x y H Q => (∃ (c : Nat) (z : Str), x = .str ⟨#[c]⟩ ∧ y = .str z ∧ Q (.bl (!decide (c ∈ z.cps.toList))) H) ∨ rIn K true x y H Q ∨ rNotInD K x y H Q
theorem op_inA {X : Cx} (hu : X.A.units + 65 < cLine) : OpR X (compareOp .In) (rInA X.K) := OpR.or op_in_sign (OpR.or op_in_seq (op_inD hu))
theorem op_notInA {X : Cx} (hu : X.A.units + 65 < cLine) : OpR X (compareOp .NotIn) (rNotInA X.K) := OpR.or op_notIn_sign (OpR.or op_notIn_seq (op_notInD hu))
theorem in0_cases {K : PySem.W.Frag} {μ : List Addr} {H Hs : Hp} {x y : V} {d e : D} {b : Bool} (s : Same Hs H) (rx : Rp K μ Hs x d) (ry : Rp K μ Hs y e) (g : gIn0 d e = some b) :
    (∃ (c : Nat) (z : Str), x = .str ⟨#[c]⟩ ∧ y = .str z ∧ b = decide (c ∈ z.cps.toList)) ∨
    (∃ p xs, y = .ref p ∧ (SqL K H p xs ∨ SqT K H p xs) ∧ flatV x = true ∧ xs.all flatV = true ∧ b = inV x xs) ∨
    (∃ ds, Dp K H x d.py ∧ Dp K H y (.list ds) ∧ SeqAt.shaped d.py = true ∧ SeqAt.shaped (.list ds) = true ∧ b = ds.any fun z => PyData.eqv z d.py) := by
  cases ry with
  | str z =>
    cases rx with
    | str a =>
      obtain ⟨⟨l⟩⟩ := a
      cases l with
      | nil => exact nomatch g
      | cons c l =>
        cases l with
        | nil => cases g; exact .inl ⟨c, z, rfl, rfl, rfl⟩
        | cons c2 l => exact nomatch g
    | _ => exact nomatch g
  | lst h1 r1 =>
    rename_i a xs ds
    have g' : (if (d.flat && ds.all D.flat) = true then some (ds.any fun z => z.eqF d) else if (SeqAt.shaped d.py && SeqAt.shaped (D.lst ds).py) = true then some ((D.pyA ds).any fun z => PyData.eqv z d.py) else none) = some b := by
      cases rx <;> exact g
    by_cases hf : (d.flat && ds.all D.flat) = true
    · rw [if_pos hf] at g'
      rw [Bool.and_eq_true] at hf
      obtain ⟨f1, rfl⟩ := rx.flat hf.1
      obtain ⟨f2, rfl⟩ := r1.flat hf.2
      cases g'
      exact .inr (.inl ⟨a, _, rfl, .inl (SqL.of (s _ _ h1)), f1, f2, (inV_eq hf.1 hf.2).symm⟩)
    · rw [if_neg hf] at g'
      obtain ⟨hc, rfl⟩ := ite_some g'
      rw [Bool.and_eq_true] at hc
      exact .inr (.inr ⟨D.pyA ds, Rp.dp _ _ (rx.mono s) (SeqAt.canLay_of_shaped hc.1), .lst (SqL.of (s _ _ h1)) (RpA.dp _ _ (r1.mono s) (SeqAt.canLay_of_shaped hc.2)), hc.1, hc.2, rfl⟩)
  | tup h1 r1 =>
    rename_i a xs ds
    have g' : (if (d.flat && ds.all D.flat) = true then some (ds.any fun z => z.eqF d) else none) = some b := by
      cases rx <;> exact g
    obtain ⟨hf, rfl⟩ := ite_some g'
    rw [Bool.and_eq_true] at hf
    obtain ⟨f1, rfl⟩ := rx.flat hf.1
    obtain ⟨f2, rfl⟩ := r1.flat hf.2
    exact .inr (.inl ⟨a, _, rfl, .inr (sqT_mono s h1), f1, f2, (inV_eq hf.1 hf.2).symm⟩)
  | non => exact absurd g (by cases rx <;> (intro q; exact nomatch q))
  | bool _ => exact absurd g (by cases rx <;> (intro q; exact nomatch q))
  | int _ => exact absurd g (by cases rx <;> (intro q; exact nomatch q))
  | scr _ => exact absurd g (by cases rx <;> (intro q; exact nomatch q))
  | loc _ => exact absurd g (by cases rx <;> (intro q; exact nomatch q))
theorem imp_in {K : PySem.W.Frag} : Imp2 K (rInA K) gIn := by
  intro μ H Hs x y d e o Q s rx ry g k
  obtain ⟨b, g1, g2⟩ := b1_eq g
  cases g2
  have kk := k (.bl b) H Hs (Ext.refl s) (.bool _)
  rcases in0_cases s rx ry g1 with ⟨c, z, h1, h2, rfl⟩ | ⟨p, xs, h1, h2, h3, h4, rfl⟩ | ⟨ds, h1, h2, h3, h4, rfl⟩
  · exact .inl ⟨c, z, h1, h2, kk⟩
  · exact .inr (.inl ⟨p, xs, h1, h2, h3, h4, kk⟩)
  · exact .inr (.inr ⟨_, ds, h1, h2, h3, h4, kk⟩)
theorem imp_notIn {K : PySem.W.Frag} : Imp2 K (rNotInA K) gNotIn := by
  intro μ H Hs x y d e o Q s rx ry g k
  obtain ⟨b, g1, g2⟩ := b1_eq g
  cases g2
  have kk := k (.bl (!b)) H Hs (Ext.refl s) (.bool _)
  rcases in0_cases s rx ry g1 with ⟨c, z, h1, h2, rfl⟩ | ⟨p, xs, h1, h2, h3, h4, rfl⟩ | ⟨ds, h1, h2, h3, h4, rfl⟩
  · exact .inl ⟨c, z, h1, h2, kk⟩
  · exact .inr (.inl ⟨p, xs, h1, h2, h3, h4, kk⟩)
  · exact .inr (.inr ⟨_, ds, h1, h2, h3, h4, kk⟩)

/-- is None -/
def gIsN : D → D → Option D
  | .non, .non => some (.bool true)
  | _, .non => some (.bool false)
  | _, _ => none
def gNotN : D → D → Option D
  | .non, .non => some (.bool false)
  | _, .non => some (.bool true)
  | _, _ => none
theorem imp_isN {K : PySem.W.Frag} : Imp2 K (fun x y H Q => y = .non ∧ Q (.bl (decide (x = .non))) H) gIsN := by
  intro μ H Hs x y d e o Q s rx ry g k
  cases ry <;> cases rx <;> first | (cases g; exact ⟨rfl, k _ H Hs (Ext.refl s) (.bool _)⟩) | exact nomatch g
theorem imp_notN {K : PySem.W.Frag} : Imp2 K (fun x y H Q => y = .non ∧ Q (.bl (!decide (x = .non))) H) gNotN := by
  intro μ H Hs x y d e o Q s rx ry g k
  cases ry <;> cases rx <;> first | (cases g; exact ⟨rfl, k _ H Hs (Ext.refl s) (.bool _)⟩) | exact nomatch g

/-! ### items -/
def gIx : D → D → Option D
  | .lst xs, .int i => atI xs i
  | .tup xs, .int i => atI xs i
  | .str z, .int i => if z.length ≤ sizeLine then (atI z.cps.toList i).map fun c => .str ⟨#[c]⟩ else none
  | .scr ns, .int i => (atI ns i).map D.int
  | _, _ => none
section
variable {K : PySem.W.Frag} {μ : List Addr} {H : Hp}
theorem RpA.atI {ds : List D} {vs : List V} {i : Int} {d : D} (r : RpA K μ H vs ds) (h : atI ds i = some d) : ∃ v, atI vs i = some v ∧ Rp K μ H v d := by
  unfold L2.atI at h ⊢
  rw [r.len]
  cases q : ixN ds.length i with
  | none => rw [q] at h; cases h
  | some j =>
    rw [q] at h
    exact r.getD h
end
theorem imp_ix {K : PySem.W.Frag} : Imp2 K (rIx K) gIx := by
  intro μ H Hs x y d e o Q s rx ry g k
  cases ry with
  | int i =>
    cases rx with
    | lst h1 r1 =>
      obtain ⟨v, e1, r2⟩ := r1.atI g
      exact .inl ⟨_, _, _, v, rfl, rfl, SqL.of (s _ _ h1), e1, k v H Hs (Ext.refl s) r2⟩
    | tup h1 r1 =>
      obtain ⟨v, e1, r2⟩ := r1.atI g
      exact .inr (.inl ⟨_, _, _, v, rfl, rfl, sqT_mono s h1, e1, k v H Hs (Ext.refl s) r2⟩)
    | str z =>
      have g' : (if z.length ≤ sizeLine then (atI z.cps.toList i).map fun c => D.str ⟨#[c]⟩ else none) = some o := g
      by_cases hz : z.length ≤ sizeLine
      · rw [if_pos hz] at g'
        cases q : atI z.cps.toList i with
        | none => rw [q] at g'; cases g'
        | some c =>
          rw [q] at g'
          cases g'
          exact .inr (.inr ⟨_, _, c, rfl, rfl, hz, q, k _ H Hs (Ext.refl s) (.str _)⟩)
      · rw [if_neg hz] at g'
        cases g'
    | scr h1 =>
      rename_i a ns
      have g' : (atI ns i).map D.int = some o := g
      cases q : atI ns i with
      | none => rw [q] at g'; cases g'
      | some n =>
        rw [q] at g'
        cases g'
        refine .inl ⟨_, _, _, .int n, rfl, rfl, s.seq h1, ?_, k _ H Hs (Ext.refl s) (.int _)⟩
        unfold atI at q ⊢
        rw [List.length_map]
        cases q2 : ixN ns.length i with
        | none => rw [q2] at q; cases q
        | some j =>
          rw [q2] at q
          show (ns.map V.int)[j]? = _
          rw [List.getElem?_map, show ns[j]? = some n from q]
          rfl
    | non => exact nomatch g
    | bool _ => exact nomatch g
    | int _ => exact nomatch g
    | loc _ => exact nomatch g
  | _ => exact absurd g (by cases rx <;> (intro q; exact nomatch q))
end Pd

/-! Pd2: slices, calls, methods, displays, tests. -/
namespace Pd
open PySem PySem.Spec L2 SkE
open PyProof.Rows hiding St

/-! ### slices -/
abbrev Fo := Rho → Option (Option Int)
def tDO (K : PySem.W.Frag) (f : Fo) : TO := fun σ H Q => ∃ (μ : List Addr) (Hs : Hp) (ρ : Rho) (d : Option Int), Same Hs H ∧ VEnv K μ Hs σ ρ ∧ f ρ = some d ∧ ∀ H', Same H H' → Q d H'
def foNo : Fo := fun _ => some none
def foE (f : F) : Fo := fun ρ => b1 (f ρ) fun d => match d with
  | .int i => some (some i)
  | _ => none
theorem po_imp {X : Cx} {e : Option Expr} {t t' : TO} (h : PO X e t) (i : ∀ σ H Q, t' σ H Q → t σ H Q) : PO X e t' := ⟨fun pins s σ H Q I q => h.run pins s σ H Q I (i _ _ _ q)⟩
def cutD (xs : List D) (lo hi : Option Int) : List D := (xs.drop (HT.sIx xs.length 0 lo)).take (HT.sIx xs.length xs.length hi - HT.sIx xs.length 0 lo)
def cutN (xs : List Int) (lo hi : Option Int) : List Int := (xs.drop (HT.sIx xs.length 0 lo)).take (HT.sIx xs.length xs.length hi - HT.sIx xs.length 0 lo)
def gSl (d : D) (lo hi : Option Int) : Option D := match d with
  | .lst xs => some (.lst (cutD xs lo hi))
  | .tup xs => some (.tup (cutD xs lo hi))
  | .str z => if z.length ≤ sizeLine then some (.str (cutS z lo hi)) else none
  | .scr ns => some (.lst ((cutN ns lo hi).map D.int))
  | _ => none
def fSl (f : F) (l h : Fo) : F := fun ρ => b1 (f ρ) fun d => b1 (l ρ) fun lo => b1 (h ρ) fun hi => gSl d lo hi
section
variable {X : Cx} {e a b c : Expr} {es : List Expr} {f g h : F} {fs : Fs} {pos p2 : Pos}
theorem pdo_none : PO X none (tDO X.K foNo) := po_imp po_none fun σ H Q ⟨μ, Hs, ρ, d, s, env, e, k⟩ => by cases e; exact k H (Same.refl _)
theorem pdo_some (he : PE X e (tD X.K f)) : PO X (some e) (tDO X.K (foE f)) := po_imp (po_some he) fun σ H Q ⟨μ, Hs, ρ, d, s, env, e, k⟩ => by
  obtain ⟨d1, e1, e2⟩ := b1_eq e
  refine ⟨μ, Hs, ρ, d1, s, env, e1, fun v H' Hs' x r => ?_⟩
  cases d1 with
  | int i => cases e2; cases r; exact ⟨i, rfl, k _ x.all⟩
  | _ => exact nomatch e2
theorem cut_rp {K : PySem.W.Frag} {μ : List Addr} {H : Hp} {xs : List V} {ds : List D} (r : RpA K μ H xs ds) (lo hi : Option Int) : RpA K μ H (cutV xs lo hi) (cutD ds lo hi) := by
  unfold cutV cutD
  rw [r.len]
  exact (r.drop _).take _
theorem cut_ints (ns : List Int) (lo hi : Option Int) : cutV (ns.map V.int) lo hi = (cutN ns lo hi).map V.int := by
  unfold cutV cutN
  rw [List.length_map, List.map_take, List.map_drop]
theorem pd_slice {lo hi : Option Expr} {fl fh : Fo} (he : PE X e (tD X.K f)) (hl : PO X lo (tDO X.K fl)) (hh : PO X hi (tDO X.K fh)) : PE X (.Subscript e (.Slice lo hi none p2) pos) (tD X.K (fSl f fl fh)) := by
  refine pe_imp (pe_slice (SlR.or sl_list (SlR.or sl_tupA sl_str)) he hl hh) fun σ H Q ⟨μ, Hs, ρ, d, s, env, e, k⟩ => ?_
  obtain ⟨d1, e1, e2⟩ := b1_eq e
  obtain ⟨l1, e3, e4⟩ := b1_eq e2
  obtain ⟨h1, e5, e6⟩ := b1_eq e4
  refine ⟨μ, Hs, ρ, d1, s, env, e1, fun v H1 Hs1 x1 r1 => ⟨μ, Hs, ρ, l1, s.trans x1.all, env, e3, fun H2 y2 => ⟨μ, Hs, ρ, h1, s.trans (x1.all.trans y2), env, e5, fun H3 y3 => ?_⟩⟩⟩
  have x3 : Ext Hs H Hs1 H3 := x1.trans ((Ext.side x1.sub y2).trans (Ext.side (x1.sub.trans y2) y3))
  cases r1 with
  | lst q1 q2 =>
    cases e6
    refine .inl ⟨_, _, rfl, SqL.of (x3.sub _ _ q1), fun p hp => ?_⟩
    exact k _ _ _ (x3.trans (Ext.made x3.sub hp)) (.lst upd_same ((cut_rp q2 _ _).mono (Ext.made x3.sub hp).part))
  | tup q1 q2 =>
    cases e6
    refine .inr (.inl ⟨_, _, rfl, sqT_mono x3.sub q1, fun w => ?_, fun w p hp => ?_⟩)
    · refine k _ _ _ x3 (.tup q1 ?_)
      have e7 : ∀ (ds : List D), HT.sIx ds.length 0 l1 = 0 → HT.sIx ds.length ds.length h1 = ds.length → cutD ds l1 h1 = ds := fun ds w1 w2 => by
        unfold cutD
        rw [w1, w2]
        simp
      rw [q2.len] at w
      rw [e7 _ w.1 w.2]
      exact q2
    · exact k _ _ _ (x3.trans (Ext.made x3.sub hp)) (.tup (SqT.of upd_same) ((cut_rp q2 _ _).mono (Ext.made x3.sub hp).part))
  | str z =>
    obtain ⟨hz, rfl⟩ := ite_some e6
    exact .inr (.inr ⟨_, rfl, hz, k _ _ _ x3 (.str _)⟩)
  | scr q1 =>
    cases e6
    refine .inl ⟨_, _, rfl, x3.sub.seq q1, fun p hp => ?_⟩
    rw [cut_ints]
    exact k _ _ _ (x3.trans (Ext.made x3.sub hp)) (.lst upd_same RpA.ints)
  | _ => exact nomatch e6

/-! ### displays -/
theorem pd_tup {x1} (ha : PA X es (tDs X.K fs)) : PE X (.Tuple es x1 pos) (tD X.K (fL (fun ds => if ds.length ≤ sizeLine then some (.tup ds) else none) fs)) := by
  refine pe_imp (pe_tup ha) fun σ H Q ⟨μ, Hs, ρ, d, s, env, e, k⟩ => ?_
  obtain ⟨d1, e1, e2⟩ := b1_eq e
  obtain ⟨hz, rfl⟩ := ite_some e2
  refine ⟨μ, Hs, ρ, d1, s, env, e1, fun vs H1 Hs1 x1 r1 => ⟨by rw [r1.len]; exact hz, fun p hp => ?_⟩⟩
  exact k _ _ _ (x1.trans (Ext.made x1.sub hp)) (.tup (SqT.of upd_same) (r1.mono (Ext.made x1.sub hp).part))
theorem pd_lst (ha : PA X es (tDs X.K fs)) : PE X (.List es pos) (tD X.K (fL (fun ds => if ds.length ≤ sizeLine then some (.lst ds) else none) fs)) := by
  refine pe_imp (pe_lst ha) fun σ H Q ⟨μ, Hs, ρ, d, s, env, e, k⟩ => ?_
  obtain ⟨d1, e1, e2⟩ := b1_eq e
  obtain ⟨hz, rfl⟩ := ite_some e2
  refine ⟨μ, Hs, ρ, d1, s, env, e1, fun vs H1 Hs1 x1 r1 => ⟨by rw [r1.len]; exact hz, fun p hp => ?_⟩⟩
  exact k _ _ _ (x1.trans (Ext.made x1.sub hp)) (.lst upd_same (r1.mono (Ext.made x1.sub hp).part))

/-! ### tests -/
def D.tru : D → Option Bool
  | .non => some false
  | .bool b => some b
  | .int i => some (i != 0)
  | .str x => if x.length ≤ sizeLine then some ((x.length : Int) != 0) else none
  | .lst ds => some (!ds.isEmpty)
  | .tup ds => some (!ds.isEmpty)
  | .scr ns => some (!ns.isEmpty)
  | .loc _ => none
def ftV (f : F) : Ft := fun ρ => b1 (f ρ) D.tru
def ftB (f : F) : Ft := fun ρ => b1 (f ρ) fun d => match d with
  | .bool b => some b
  | _ => none
def ftAnd (f g : Ft) : Ft := fun ρ => b1 (f ρ) fun b => if b = true then g ρ else some false
def ftOr (f g : Ft) : Ft := fun ρ => b1 (f ρ) fun b => if b = true then some true else g ρ
def ftNot (f : Ft) : Ft := fun ρ => b1 (f ρ) fun b => some (!b)
theorem isEmpty_rp {K : PySem.W.Frag} {μ : List Addr} {H : Hp} {xs : List V} {ds : List D} (r : RpA K μ H xs ds) : xs.isEmpty = ds.isEmpty := by cases r <;> rfl
theorem Rp.tru {K : PySem.W.Frag} {μ : List Addr} {H : Hp} {v : V} {d : D} {b : Bool} (r : Rp K μ H v d) (h : d.tru = some b) : TruV K v H b := by
  cases r with
  | non => cases h; rfl
  | bool _ => cases h; rfl
  | int _ => cases h; rfl
  | str x => obtain ⟨hz, rfl⟩ := ite_some h; exact ⟨hz, rfl⟩
  | lst h1 h2 => cases h; exact .inl ⟨_, SqL.of h1, by rw [isEmpty_rp h2]⟩
  | tup h1 h2 => cases h; exact .inr (.inl ⟨_, h1, by rw [isEmpty_rp h2]⟩)
  | scr h1 => cases h; exact .inl ⟨_, h1, by cases ‹List Int› <;> rfl⟩
  | loc h1 => exact nomatch h
theorem pdt_val (ha : PE X e (tD X.K f)) (he : ∀ whole, isTrue e X.env whole = (do let v ← whole; standAt e.pos; holding [v] (truthy v)) := by intro _; rfl) : PT X e (tDT X.K (ftV f)) := by
  refine pt_imp (pt_truth ha he) fun σ H Q ⟨μ, Hs, ρ, b, s, env, e, k⟩ => ?_
  obtain ⟨d1, e1, e2⟩ := b1_eq e
  exact ⟨μ, Hs, ρ, d1, s, env, e1, fun v H1 Hs1 x1 r1 => ⟨b, (r1.mono x1.sub).tru e2, k _ x1.all⟩⟩
theorem pdt_cmp {op : CmpOp} {r : R2} {G : D → D → Option D} (ho : OpR X (compareOp op) r) (hG : Imp2 X.K r G) (ha : PE X a (tD X.K f)) (hb : PE X b (tD X.K g)) (hm : behindInMarks op b = false := by first | exact nomark _ | rfl) :
    PT X (.Compare a [op] [b] pos) (tDT X.K (ftB (f2 G f g))) := by
  refine pt_imp (pt_cmpR ho ha hb hm) fun σ H Q ⟨μ, Hs, ρ, b, s, env, e, k⟩ => ?_
  obtain ⟨d1, e1, e2⟩ := b1_eq e
  refine tD_2 hG σ H _ ⟨μ, Hs, ρ, d1, s, env, e1, fun v H1 Hs1 x1 r1 => ?_⟩
  cases d1 with
  | bool b' => cases e2; cases r1; exact ⟨_, rfl, k _ x1.all⟩
  | _ => exact nomatch e2
theorem pdw_and1 {ft : Ft} (h : PT X a (tDT X.K ft)) : PW X (.BoolOp .And [a] pos) (tDT X.K ft) := pw_and1 h
theorem pdw_or1 {ft : Ft} (h : PT X a (tDT X.K ft)) : PW X (.BoolOp .Or [a] pos) (tDT X.K ft) := pw_or1 h
theorem pdw_and {ft gt : Ft} (h : PT X a (tDT X.K ft)) (h2 : PW X (.BoolOp .And (b :: es) pos) (tDT X.K gt)) : PW X (.BoolOp .And (a :: b :: es) pos) (tDT X.K (ftAnd ft gt)) := by
  refine pw_imp (pw_and h h2) fun σ H Q ⟨μ, Hs, ρ, r, s, env, e, k⟩ => ?_
  obtain ⟨b1', e1, e2⟩ := b1_eq e
  refine ⟨μ, Hs, ρ, b1', s, env, e1, fun H' x => ?_⟩
  cases b1' with
  | true => exact iteT ⟨μ, Hs, ρ, r, s.trans x, env, e2, fun H2 x2 => k H2 (x.trans x2)⟩
  | false => cases e2; exact iteF (k H' x)
theorem pdw_or {ft gt : Ft} (h : PT X a (tDT X.K ft)) (h2 : PW X (.BoolOp .Or (b :: es) pos) (tDT X.K gt)) : PW X (.BoolOp .Or (a :: b :: es) pos) (tDT X.K (ftOr ft gt)) := by
  refine pw_imp (pw_or h h2) fun σ H Q ⟨μ, Hs, ρ, r, s, env, e, k⟩ => ?_
  obtain ⟨b1', e1, e2⟩ := b1_eq e
  refine ⟨μ, Hs, ρ, b1', s, env, e1, fun H' x => ?_⟩
  cases b1' with
  | false => exact iteF ⟨μ, Hs, ρ, r, s.trans x, env, e2, fun H2 x2 => k H2 (x.trans x2)⟩
  | true => cases e2; exact iteT (k H' x)
theorem pdt_w {ft : Ft} (h : PW X e (tDT X.K ft)) : PT X e (tDT X.K ft) := h.pt
theorem pdt_not {ft : Ft} (h : PT X a (tDT X.K ft)) : PT X (.UnaryOp .Not a pos) (tDT X.K (ftNot ft)) := by
  refine pt_imp (pt_not h) fun σ H Q ⟨μ, Hs, ρ, r, s, env, e, k⟩ => ?_
  obtain ⟨b1', e1, e2⟩ := b1_eq e
  cases e2
  exact ⟨μ, Hs, ρ, b1', s, env, e1, fun H' x => k H' x⟩
/-- and, or, not as values -/
def fAnd (f g : F) : F := fun ρ => b1 (f ρ) fun d => b1 d.tru fun b => if b = true then g ρ else some d
def fOr (f g : F) : F := fun ρ => b1 (f ρ) fun d => b1 d.tru fun b => if b = true then some d else g ρ
def fNot (f : F) : F := fun ρ => b1 (f ρ) fun d => b1 d.tru fun b => some (.bool (!b))
def fIf (c : Ft) (f g : F) : F := fun ρ => b1 (c ρ) fun b => if b = true then f ρ else g ρ
theorem pd_one {op} (h : PE X a (tD X.K f)) : PE X (.BoolOp op [a] pos) (tD X.K f) := pe_one h
theorem pd_and (ha : PE X a (tD X.K f)) (hb : PE X (.BoolOp .And (b :: es) pos) (tD X.K g)) : PE X (.BoolOp .And (a :: b :: es) pos) (tD X.K (fAnd f g)) := by
  refine pe_imp (pe_andT ha hb) fun σ H Q ⟨μ, Hs, ρ, d, s, env, e, k⟩ => ?_
  obtain ⟨d1, e1, e2⟩ := b1_eq e
  obtain ⟨t, e3, e4⟩ := b1_eq e2
  refine ⟨μ, Hs, ρ, d1, s, env, e1, fun v H1 Hs1 x1 r1 => ⟨t, (r1.mono x1.sub).tru e3, ?_⟩⟩
  cases t with
  | true => exact iteT ⟨μ, Hs1, ρ, d, x1.sub, env.mono x1.part, e4, fun v H' Hs' x r => k v H' Hs' (x1.trans x) r⟩
  | false => cases e4; exact iteF (k v H1 Hs1 x1 r1)
theorem pd_or (ha : PE X a (tD X.K f)) (hb : PE X (.BoolOp .Or (b :: es) pos) (tD X.K g)) : PE X (.BoolOp .Or (a :: b :: es) pos) (tD X.K (fOr f g)) := by
  refine pe_imp (pe_orT ha hb) fun σ H Q ⟨μ, Hs, ρ, d, s, env, e, k⟩ => ?_
  obtain ⟨d1, e1, e2⟩ := b1_eq e
  obtain ⟨t, e3, e4⟩ := b1_eq e2
  refine ⟨μ, Hs, ρ, d1, s, env, e1, fun v H1 Hs1 x1 r1 => ⟨t, (r1.mono x1.sub).tru e3, ?_⟩⟩
  cases t with
  | false => exact iteF ⟨μ, Hs1, ρ, d, x1.sub, env.mono x1.part, e4, fun v H' Hs' x r => k v H' Hs' (x1.trans x) r⟩
  | true => cases e4; exact iteT (k v H1 Hs1 x1 r1)
theorem pd_not (ha : PE X a (tD X.K f)) : PE X (.UnaryOp .Not a pos) (tD X.K (fNot f)) := by
  refine pe_imp (pe_notT ha) fun σ H Q ⟨μ, Hs, ρ, d, s, env, e, k⟩ => ?_
  obtain ⟨d1, e1, e2⟩ := b1_eq e
  obtain ⟨t, e3, e4⟩ := b1_eq e2
  cases e4
  exact ⟨μ, Hs, ρ, d1, s, env, e1, fun v H1 Hs1 x1 r1 => ⟨t, (r1.mono x1.sub).tru e3, k _ H1 Hs1 x1 (.bool _)⟩⟩
theorem pd_ifExp {ft : Ft} (hc : PT X c (tDT X.K ft)) (ha : PE X a (tD X.K f)) (hb : PE X b (tD X.K g)) : PE X (.IfExp c a b pos) (tD X.K (fIf ft f g)) := by
  refine pe_imp (pe_ifExp hc ha hb) fun σ H Q ⟨μ, Hs, ρ, d, s, env, e, k⟩ => ?_
  obtain ⟨t, e1, e2⟩ := b1_eq e
  refine ⟨μ, Hs, ρ, t, s, env, e1, fun H1 x1 => ?_⟩
  have y1 : Ext Hs H Hs H1 := Ext.side s x1
  cases t with
  | true => exact iteT ⟨μ, Hs, ρ, d, y1.sub, env, e2, fun v H' Hs' x r => k v H' Hs' (y1.trans x) r⟩
  | false => exact iteF ⟨μ, Hs, ρ, d, y1.sub, env, e2, fun v H' Hs' x r => k v H' Hs' (y1.trans x) r⟩
/-- a op b op c -/
def fChain (G G' : D → D → Option D) (f g h : F) : F := fun ρ => b1 (f ρ) fun d => b1 (g ρ) fun e => b1 (G d e) fun o => match o with
  | .bool true => b1 (h ρ) fun e' => G' e e'
  | .bool false => some (.bool false)
  | _ => none
theorem tD_ch {K : PySem.W.Frag} {r r' : R2} {G G' : D → D → Option D} (hG : Imp2 K r G) (hG' : Imp2 K r' G') : ∀ σ H Q, tD K (fChain G G' f g h) σ H Q → tChain r r' (tD K f) (tD K g) (tD K h) σ H Q := by
  rintro σ H Q ⟨μ, Hs, ρ, d, s, env, e, k⟩
  obtain ⟨d1, e1, e2⟩ := b1_eq e
  obtain ⟨d2, e3, e4⟩ := b1_eq e2
  obtain ⟨o, e5, e6⟩ := b1_eq e4
  refine ⟨μ, Hs, ρ, d1, s, env, e1, fun v H1 Hs1 x1 r1 => ⟨μ, Hs1, ρ, d2, x1.sub, env.mono x1.part, e3, fun u H2 Hs2 x2 r2 => ?_⟩⟩
  refine hG _ H2 Hs2 v u d1 d2 o _ x2.sub (r1.mono x2.part) r2 e5 fun z H3 Hs3 x3 r3 => ?_
  have x13 := x1.trans (x2.trans x3)
  cases o with
  | bool b =>
    cases r3
    refine ⟨b, rfl, ?_⟩
    cases b with
    | true =>
      obtain ⟨d3, e7, e8⟩ := b1_eq e6
      refine iteT ⟨μ, Hs3, ρ, d3, x3.sub, env.mono x13.part, e7, fun w H4 Hs4 x4 r4 => ?_⟩
      exact hG' _ H4 Hs4 u w d2 d3 d Q x4.sub (r2.mono (x3.trans x4).part) r4 e8 fun v' H' Hs' x5 r5 => k v' H' Hs' (x13.trans (x4.trans x5)) r5
    | false => cases e6; exact iteF (k _ H3 Hs3 x13 (.bool _))
  | _ => exact nomatch e6
theorem pd_chain {op op' : CmpOp} {r r' : R2} {G G' : D → D → Option D} (ho : OpR X (compareOp op) r) (ho' : OpR X (compareOp op') r') (hG : Imp2 X.K r G) (hG' : Imp2 X.K r' G') (ha : PE X a (tD X.K f)) (hb : PE X b (tD X.K g)) (hc : PE X c (tD X.K h))
    (hm : lastMarks [op, op'] [b, c] = false := by with_unfolding_all rfl) : PE X (.Compare a [op, op'] [b, c] pos) (tD X.K (fChain G G' f g h)) := pe_imp (pe_chain ho ho' ha hb hc hm) (tD_ch hG hG')
theorem pdt_chain {op op' : CmpOp} {r r' : R2} {G G' : D → D → Option D} (ho : OpR X (compareOp op) r) (ho' : OpR X (compareOp op') r') (hG : Imp2 X.K r G) (hG' : Imp2 X.K r' G') (ha : PE X a (tD X.K f)) (hb : PE X b (tD X.K g)) (hc : PE X c (tD X.K h))
    (hm : lastMarks [op, op'] [b, c] = false := by with_unfolding_all rfl) : PT X (.Compare a [op, op'] [b, c] pos) (tDT X.K (ftB (fChain G G' f g h))) := by
  refine pt_imp (pt_chain ho ho' ha hb hc hm) fun σ H Q ⟨μ, Hs, ρ, b, s, env, e, k⟩ => ?_
  obtain ⟨d1, e1, e2⟩ := b1_eq e
  refine tD_ch hG hG' σ H _ ⟨μ, Hs, ρ, d1, s, env, e1, fun v H1 Hs1 x1 r1 => ?_⟩
  cases d1 with
  | bool b' => cases e2; cases r1; exact ⟨_, rfl, k _ x1.all⟩
  | _ => exact nomatch e2

/-! ### built-in calls -/
def one (G : D → Option D) (ds : List D) : Option D := match ds with
  | [d] => G d
  | _ => none
def two (G : D → D → Option D) (ds : List D) : Option D := match ds with
  | [d, e] => G d e
  | _ => none
theorem one_eq {G : D → Option D} {ds : List D} {o : D} (h : one G ds = some o) : ∃ d, ds = [d] ∧ G d = some o := by
  match ds, h with
  | [d], h => exact ⟨d, rfl, h⟩
  | [], h => exact nomatch h
  | _ :: _ :: _, h => exact nomatch h
theorem two_eq {G : D → D → Option D} {ds : List D} {o : D} (h : two G ds = some o) : ∃ d e, ds = [d, e] ∧ G d e = some o := by
  match ds, h with
  | [d, e], h => exact ⟨d, e, rfl, h⟩
  | [], h => exact nomatch h
  | [_], h => exact nomatch h
  | _ :: _ :: _ :: _, h => exact nomatch h
def gLen1 : D → Option D
  | .str x => if x.length ≤ sizeLine then some (.int x.length) else none
  | .lst ds => some (.int ds.length)
  | .tup ds => some (.int ds.length)
  | .scr ns => some (.int ns.length)
  | _ => none
def gLen : List D → Option D := one gLen1
theorem rpa1 {K : PySem.W.Frag} {μ : List Addr} {H : Hp} {vs : List V} {d : D} (r : RpA K μ H vs [d]) : ∃ v, vs = [v] ∧ Rp K μ H v d := by
  cases r with
  | cons h t => cases t; exact ⟨_, rfl, h⟩
theorem rpa2 {K : PySem.W.Frag} {μ : List Addr} {H : Hp} {vs : List V} {d e : D} (r : RpA K μ H vs [d, e]) : ∃ v u, vs = [v, u] ∧ Rp K μ H v d ∧ Rp K μ H u e := by
  cases r with
  | cons h t =>
    obtain ⟨u, rfl, h2⟩ := rpa1 t
    exact ⟨_, _, rfl, h, h2⟩
theorem imp_len {K : PySem.W.Frag} : ImpL K (fun xs H Q => ∃ x n, xs = [x] ∧ LenV K x H n ∧ Q (.int n) H) gLen := by
  intro μ H Hs xs ds o Q s r g k
  obtain ⟨d, rfl, g⟩ := one_eq g
  · obtain ⟨v, rfl, rv⟩ := rpa1 r
    cases rv with
    | str z =>
      obtain ⟨hz, rfl⟩ := ite_some g
      exact ⟨_, _, rfl, ⟨hz, rfl⟩, k _ H Hs (Ext.refl s) (.int _)⟩
    | lst h1 h2 =>
      cases g
      refine ⟨_, _, rfl, .inl ⟨_, SqL.of (s _ _ h1), rfl⟩, ?_⟩
      rw [h2.len]
      exact k _ H Hs (Ext.refl s) (.int _)
    | tup h1 h2 =>
      cases g
      refine ⟨_, _, rfl, .inr ⟨_, sqT_mono s h1, rfl⟩, ?_⟩
      rw [h2.len]
      exact k _ H Hs (Ext.refl s) (.int _)
    | scr h1 =>
      cases g
      refine ⟨_, _, rfl, .inl ⟨_, s.seq h1, rfl⟩, ?_⟩
      rw [List.length_map]
      exact k _ H Hs (Ext.refl s) (.int _)
    | _ => exact nomatch g
/-- int(x): a number, a truth value, a text of digits -/
def gInt1 : D → Option D
  | .int i => some (.int i)
  | .bool k => some (.int (if k then 1 else 0))
  | .str a => if a.length ≤ 640 then (PySem.intText? a).map D.int else none
  | _ => none
def gInt : List D → Option D := one gInt1
def rInt : List V → Hp → VK → Prop := fun xs H Q => ((∃ i, xs = [.int i] ∧ Q (.int i) H) ∨ ∃ k, xs = [.bl k] ∧ Q (.int (if k then 1 else 0)) H) ∨ ∃ a n, xs = [.str a] ∧ PySem.intText? a = some n ∧ a.length ≤ 640 ∧ Q (.int n) H
theorem call_intA : CallR X (.type "int") rInt := CallR.or call_int1 call_int_str
theorem imp_int {K : PySem.W.Frag} : ImpL K rInt gInt := by
  intro μ H Hs xs ds o Q s r g k
  obtain ⟨d, rfl, g⟩ := one_eq g
  · obtain ⟨v, rfl, rv⟩ := rpa1 r
    cases rv with
    | int i => cases g; exact .inl (.inl ⟨_, rfl, k _ H Hs (Ext.refl s) (.int _)⟩)
    | bool i => cases g; exact .inl (.inr ⟨_, rfl, k _ H Hs (Ext.refl s) (.int _)⟩)
    | str a =>
      have g' : (if a.length ≤ 640 then (PySem.intText? a).map D.int else none) = some o := g
      by_cases hz : a.length ≤ 640
      · rw [if_pos hz] at g'
        cases q : PySem.intText? a with
        | none => rw [q] at g'; cases g'
        | some n => rw [q] at g'; cases g'; exact .inr ⟨a, n, rfl, q, hz, k _ H Hs (Ext.refl s) (.int _)⟩
      · rw [if_neg hz] at g'
        cases g'
    | _ => exact nomatch g
def gStr1 : D → Option D
  | .int i => if i.natAbs.log2 < 1920 then some (.str (toString i)) else none
  | .str a => some (.str a)
  | _ => none
def gStr : List D → Option D := one gStr1
def rStr : List V → Hp → VK → Prop := fun xs H Q => (∃ i, xs = [.int i] ∧ i.natAbs.log2 < 1920 ∧ Q (.str (toString i)) H) ∨ ∃ a, xs = [.str a] ∧ Q (.str a) H
theorem call_strA : CallR X (.type "str") rStr := CallR.or call_str_int call_str_str
theorem imp_str {K : PySem.W.Frag} : ImpL K rStr gStr := by
  intro μ H Hs xs ds o Q s r g k
  obtain ⟨d, rfl, g⟩ := one_eq g
  · obtain ⟨v, rfl, rv⟩ := rpa1 r
    cases rv with
    | int i => obtain ⟨hz, rfl⟩ := ite_some g; exact .inl ⟨_, rfl, hz, k _ H Hs (Ext.refl s) (.str _)⟩
    | str i => cases g; exact .inr ⟨_, rfl, k _ H Hs (Ext.refl s) (.str _)⟩
    | _ => exact nomatch g
def gAbs1 : D → Option D
  | .int i => some (.int (if i < 0 then -i else i))
  | _ => none
def gAbs : List D → Option D := one gAbs1
theorem imp_abs {K : PySem.W.Frag} : ImpL K (fun xs H Q => ∃ i, xs = [.int i] ∧ Q (.int (if i < 0 then -i else i)) H) gAbs := by
  intro μ H Hs xs ds o Q s r g k
  obtain ⟨d, rfl, g⟩ := one_eq g
  · obtain ⟨v, rfl, rv⟩ := rpa1 r
    cases rv with
    | int i => cases g; exact ⟨_, rfl, k _ H Hs (Ext.refl s) (.int _)⟩
    | _ => exact nomatch g
def gMax21 : D → D → Option D
  | .int i, .int j => some (.int (if j > i then j else i))
  | _, _ => none
def gMax2 : List D → Option D := two gMax21
def gMin21 : D → D → Option D
  | .int i, .int j => some (.int (if j < i then j else i))
  | _, _ => none
def gMin2 : List D → Option D := two gMin21
theorem imp_max2 {K : PySem.W.Frag} : ImpL K (fun xs H Q => ∃ i j, xs = [.int i, .int j] ∧ Q (.int (if j > i then j else i)) H) gMax2 := by
  intro μ H Hs xs ds o Q s r g k
  obtain ⟨d, e, rfl, g⟩ := two_eq g
  · obtain ⟨v, u, rfl, rv, ru⟩ := rpa2 r
    cases rv <;> cases ru <;> first | (cases g; exact ⟨_, _, rfl, k _ H Hs (Ext.refl s) (.int _)⟩) | exact nomatch g
theorem imp_min2 {K : PySem.W.Frag} : ImpL K (fun xs H Q => ∃ i j, xs = [.int i, .int j] ∧ Q (.int (if j < i then j else i)) H) gMin2 := by
  intro μ H Hs xs ds o Q s r g k
  obtain ⟨d, e, rfl, g⟩ := two_eq g
  · obtain ⟨v, u, rfl, rv, ru⟩ := rpa2 r
    cases rv <;> cases ru <;> first | (cases g; exact ⟨_, _, rfl, k _ H Hs (Ext.refl s) (.int _)⟩) | exact nomatch g
/-- list(x), tuple(x) -/
def gList1 : D → Option D
  | .lst ds => some (.lst ds)
  | .tup ds => some (.lst ds)
  | .scr ns => some (.lst (ns.map D.int))
  | _ => none
def gList : List D → Option D := one gList1
def gTuple1 : D → Option D
  | .lst ds => some (.tup ds)
  | .tup ds => some (.tup ds)
  | _ => none
def gTuple : List D → Option D := one gTuple1
theorem imp_list {K : PySem.W.Frag} : ImpL K (fun xs H Q => ∃ p ys, xs = [.ref p] ∧ (SqL K H p ys ∨ SqT K H p ys) ∧ ∀ l, H l = none → Q (.ref l) (upd H l (.lst ys))) gList := by
  intro μ H Hs xs ds o Q s r g k
  obtain ⟨d, rfl, g⟩ := one_eq g
  · obtain ⟨v, rfl, rv⟩ := rpa1 r
    cases rv with
    | lst h1 h2 => cases g; exact ⟨_, _, rfl, .inl (SqL.of (s _ _ h1)), fun l hl => k _ _ _ (Ext.made s hl) (.lst upd_same (h2.mono (Ext.made s hl).part))⟩
    | tup h1 h2 => cases g; exact ⟨_, _, rfl, .inr (sqT_mono s h1), fun l hl => k _ _ _ (Ext.made s hl) (.lst upd_same (h2.mono (Ext.made s hl).part))⟩
    | scr h1 => cases g; exact ⟨_, _, rfl, .inl (s.seq h1), fun l hl => k _ _ _ (Ext.made s hl) (.lst upd_same RpA.ints)⟩
    | _ => exact nomatch g
theorem imp_tuple {K : PySem.W.Frag} : ImpL K (fun xs H Q => ∃ p ys, xs = [.ref p] ∧ ((SqL K H p ys ∧ ∀ l, H l = none → Q (.ref l) (upd H l (.tup ys))) ∨ (SqT K H p ys ∧ Q (.ref p) H))) gTuple := by
  intro μ H Hs xs ds o Q s r g k
  obtain ⟨d, rfl, g⟩ := one_eq g
  · obtain ⟨v, rfl, rv⟩ := rpa1 r
    cases rv with
    | lst h1 h2 => cases g; exact ⟨_, _, rfl, .inl ⟨SqL.of (s _ _ h1), fun l hl => k _ _ _ (Ext.made s hl) (.tup (SqT.of upd_same) (h2.mono (Ext.made s hl).part))⟩⟩
    | tup h1 h2 => cases g; exact ⟨_, _, rfl, .inr ⟨sqT_mono s h1, k _ H Hs (Ext.refl s) (.tup h1 h2)⟩⟩
    | _ => exact nomatch g
/-- a list of numbers, of texts -/
def D.ints? : List D → Option (List Int)
  | [] => some []
  | .int i :: ds => (D.ints? ds).map (i :: ·)
  | _ :: _ => none
def D.strs? : List D → Option (List Str)
  | [] => some []
  | .str i :: ds => (D.strs? ds).map (i :: ·)
  | _ :: _ => none
theorem ints_rp {K : PySem.W.Frag} {μ : List Addr} {H : Hp} : ∀ {ds : List D} {vs : List V} {ns : List Int}, RpA K μ H vs ds → D.ints? ds = some ns → vs = ns.map V.int
  | [], _, _, r, h => by cases r; cases h; rfl
  | d :: ds, _, _, r, h => by
    cases r with
    | cons r1 r2 =>
      cases d with
      | int i =>
        cases q : D.ints? ds with
        | none => simp only [D.ints?, q] at h; cases h
        | some ns => simp only [D.ints?, q] at h; cases h; cases r1; rw [ints_rp r2 q]; rfl
      | _ => exact nomatch h
theorem strs_rp {K : PySem.W.Frag} {μ : List Addr} {H : Hp} : ∀ {ds : List D} {vs : List V} {ns : List Str}, RpA K μ H vs ds → D.strs? ds = some ns → vs = ns.map V.str
  | [], _, _, r, h => by cases r; cases h; rfl
  | d :: ds, _, _, r, h => by
    cases r with
    | cons r1 r2 =>
      cases d with
      | str i =>
        cases q : D.strs? ds with
        | none => simp only [D.strs?, q] at h; cases h
        | some ns => simp only [D.strs?, q] at h; cases h; cases r1; rw [strs_rp r2 q]; rfl
      | _ => exact nomatch h
theorem ints_map (ns : List Int) : D.ints? (ns.map D.int) = some ns := by
  induction ns with
  | nil => rfl
  | cons n ns ih => simp only [List.map_cons, D.ints?, ih, Option.map_some]
theorem strs_map (ns : List Str) : D.strs? (ns.map D.str) = some ns := by
  induction ns with
  | nil => rfl
  | cons n ns ih => simp only [List.map_cons, D.strs?, ih, Option.map_some]
def gSum1 : D → Option D
  | .lst ds => (D.ints? ds).map fun ns => .int ns.sum
  | .scr ns => some (.int ns.sum)
  | _ => none
def gSum : List D → Option D := one gSum1
theorem imp_sum {K : PySem.W.Frag} : ImpL K (rSum K) gSum := by
  intro μ H Hs xs ds o Q s r g k
  obtain ⟨d, rfl, g⟩ := one_eq g
  · obtain ⟨v, rfl, rv⟩ := rpa1 r
    cases rv with
    | lst h1 h2 =>
      have g' : (D.ints? _).map (fun ns => D.int ns.sum) = some o := g
      cases q : D.ints? ‹_› with
      | none => rw [q] at g'; cases g'
      | some ns =>
        rw [q] at g'
        cases g'
        rw [ints_rp h2 q] at h1
        exact ⟨_, ns, rfl, SqL.of (s _ _ h1), k _ H Hs (Ext.refl s) (.int _)⟩
    | scr h1 => cases g; exact ⟨_, _, rfl, s.seq h1, k _ H Hs (Ext.refl s) (.int _)⟩
    | _ => exact nomatch g
end
end Pd

/-! Pd3: methods, walks, comprehensions, statements, defs. -/
namespace Pd
open PySem PySem.Spec L2 SkE
open PyProof.Rows hiding St

/-! ### methods of texts and lists -/
def TyD (T : String) : D → Prop
  | .str _ => T = "str"
  | .lst _ => T = "list"
  | .scr _ => T = "list"
  | _ => False
theorem Rp.ty {K : PySem.W.Frag} {μ : List Addr} {H : Hp} {v : V} {d : D} {T : String} (r : Rp K μ H v d) (h : TyD T d) : tyV K T v H := by
  cases r with
  | str _ => exact h
  | lst h1 _ => exact .inl ⟨h, _, SqL.of h1⟩
  | scr h1 => exact .inl ⟨h, _, h1⟩
  | _ => exact h.elim
def ImpM (K : PySem.W.Frag) (T : String) (r : V → List V → Hp → VK → Prop) (G : D → List D → Option D) : Prop := ∀ μ H Hs x xs d ds o Q, Same Hs H → Rp K μ Hs x d → RpA K μ Hs xs ds → G d ds = some o → (∀ v H' Hs', Ext Hs H Hs' H' → Rp K μ Hs' v o → Q v H') → r x xs H Q
def fM (G : D → List D → Option D) (f : F) (fs : Fs) : F := fun ρ => b1 (f ρ) fun d => b1 (fs ρ) fun ds => G d ds
def mS0 (G : Str → Option D) : D → List D → Option D
  | .str a, [] => G a
  | _, _ => none
def mS1 (G : Str → Str → Option D) : D → List D → Option D
  | .str a, [.str b] => G a b
  | _, _ => none
section
variable {X : Cx} {e a b c o : Expr} {es : List Expr} {f g h : F} {fs : Fs} {pos p2 apos cpos : Pos}
theorem mS0_eq {G : Str → Option D} {d : D} {ds : List D} {o : D} (h : mS0 G d ds = some o) : ∃ a, d = .str a ∧ ds = [] ∧ G a = some o := by
  cases d with
  | str a =>
    cases ds with
    | nil => exact ⟨a, rfl, rfl, h⟩
    | cons _ _ => exact nomatch h
  | _ => exact nomatch h
theorem mS1_eq {G : Str → Str → Option D} {d : D} {ds : List D} {o : D} (h : mS1 G d ds = some o) : ∃ a b, d = .str a ∧ ds = [.str b] ∧ G a b = some o := by
  cases d with
  | str a =>
    match ds, h with
    | [.str b], h => exact ⟨a, b, rfl, rfl, h⟩
    | [], h => exact nomatch h
    | [.non], h => exact nomatch h
    | [.bool _], h => exact nomatch h
    | [.int _], h => exact nomatch h
    | [.lst _], h => exact nomatch h
    | [.tup _], h => exact nomatch h
    | [.scr _], h => exact nomatch h
    | [.loc _], h => exact nomatch h
    | _ :: _ :: _, h => exact absurd h (by unfold mS1; intro q; split at q <;> simp_all)
  | _ => exact nomatch h
theorem pd_m0 {T id : String} {name : Str} {r : V → List V → Hp → VK → Prop} {G : D → List D → Option D} (pa : PlainAttrs T) (slot : Slot T name id) (hty : typeOf (.builtin id) = pure (.type "method_descriptor")) (hm : MtR X id r) (hG : ImpM X.K T r G) (hT : ∀ d ds o, G d ds = some o → TyD T d)
    (ho : PE X o (tD X.K f)) (hbase : attributeBase o name X.env (eval o X.env) = eval o X.env := by rfl) (hline : (apos.endLine == cpos.line) = true := by rfl) : PE X (.Call (.Attribute o name apos) [] [] cpos) (tD X.K (fM G f fNil)) := by
  refine pe_imp (pe_bm0 pa slot hty hm ho hbase hline) fun σ H Q ⟨μ, Hs, ρ, d, s, env, e, k⟩ => ?_
  obtain ⟨d1, e1, e2⟩ := b1_eq e
  exact ⟨μ, Hs, ρ, d1, s, env, e1, fun v H1 Hs1 x1 r1 => ⟨(r1.mono x1.sub).ty (hT _ _ _ e2), hG _ H1 Hs1 v [] d1 [] d Q x1.sub r1 .nil e2 fun v' H' Hs' x2 r2 => k v' H' Hs' (x1.trans x2) r2⟩⟩
theorem pd_m {T id : String} {name : Str} {r : V → List V → Hp → VK → Prop} {G : D → List D → Option D} (pa : PlainAttrs T) (slot : Slot T name id) (hty : typeOf (.builtin id) = pure (.type "method_descriptor")) (hm : MtR X id r) (hG : ImpM X.K T r G) (hT : ∀ d ds o, G d ds = some o → TyD T d)
    (ho : PE X o (tD X.K f)) (ha : PA X (e :: es) (tDs X.K fs)) (hbase : attributeBase o name X.env (eval o X.env) = eval o X.env := by rfl)
    (hfew : ((backTo cpos (starEach (e :: es) X.env)).all (fun x => !x.1) && (backToKw cpos (keywordEach [] X.env)).all (fun x => x.1.isSome)
      && decide ((e :: es).length + ([] : List Keyword).length + (if ([] : List Keyword).isEmpty then 0 else 1) < 30)) = true := by rfl)
    (hline : (apos.endLine == cpos.line) = true := by rfl) (hs : starEach (e :: es) X.env = (false, eval e X.env) :: starEach es X.env := by rfl) (hplain : (backTo cpos (starEach es X.env)).any (·.1) = false := by rfl) :
    PE X (.Call (.Attribute o name apos) (e :: es) [] cpos) (tD X.K (fM G f fs)) := by
  refine pe_imp (pe_bm pa slot hty hm ho ha hbase hfew hline hs hplain) fun σ H Q ⟨μ, Hs, ρ, d, s, env, e, k⟩ => ?_
  obtain ⟨d1, e1, e2⟩ := b1_eq e
  obtain ⟨ds, e3, e4⟩ := b1_eq e2
  refine ⟨μ, Hs, ρ, d1, s, env, e1, fun v H1 Hs1 x1 r1 => ⟨(r1.mono x1.sub).ty (hT _ _ _ e4), μ, Hs1, ρ, ds, x1.sub, env.mono x1.part, e3, fun vs H2 Hs2 x2 r2 => ?_⟩⟩
  exact hG _ H2 Hs2 v vs d1 ds d Q x2.sub (r1.mono x2.part) r2 e4 fun v' H' Hs' x3 r3 => k v' H' Hs' (x1.trans (x2.trans x3)) r3
theorem ty_S0 {G : Str → Option D} : ∀ d ds o, mS0 G d ds = some o → TyD "str" d := fun d ds o h => by obtain ⟨a, rfl, _⟩ := mS0_eq h; rfl
theorem ty_S1 {G : Str → Str → Option D} : ∀ d ds o, mS1 G d ds = some o → TyD "str" d := fun d ds o h => by obtain ⟨a, b, rfl, _⟩ := mS1_eq h; rfl
def gSplit : D → List D → Option D := mS1 fun a b => if (b.length == 0) = false ∧ a.length + 2 ≤ sizeLine then some (.lst ((Txt.split a b).map D.str)) else none
def gPartition : D → List D → Option D := mS1 fun a b => if (b.length == 0) = false ∧ a.length ≤ sizeLine then some (.tup [.str (Txt.partition a b).1, .str (Txt.partition a b).2.1, .str (Txt.partition a b).2.2]) else none
def gStarts : D → List D → Option D := mS1 fun a b => some (.bool (Txt.startswith a b))
def gEnds : D → List D → Option D := mS1 fun a b => some (.bool (Txt.endswith a b))
def gUpper : D → List D → Option D := mS0 fun a => if a.length ≤ 5592405 then some (.str (Txt.upper a)) else none
def gJoin : D → List D → Option D
  | .str a, [.lst ds] => b1 (D.strs? ds) fun ys => if (ys.map (·.length)).sum + ys.length * a.length ≤ 16777216 then some (.str (Txt.join a ys)) else none
  | .str a, [.tup ds] => b1 (D.strs? ds) fun ys => if (ys.map (·.length)).sum + ys.length * a.length ≤ 16777216 then some (.str (Txt.join a ys)) else none
  | _, _ => none
theorem ty_join : ∀ d ds o, gJoin d ds = some o → TyD "str" d := fun d ds o h => by
  cases d with
  | str a => rfl
  | _ => exact nomatch h
theorem pd_split (ho : PE X o (tD X.K f)) (ha : PE X e (tD X.K g)) (hs : starEach [e] X.env = (false, eval e X.env) :: starEach [] X.env := by rfl) (hbase : attributeBase o "split" X.env (eval o X.env) = eval o X.env := by rfl) (hline : (apos.endLine == cpos.line) = true := by rfl)
    (hfew : ((backTo cpos (starEach [e] X.env)).all (fun x => !x.1) && (backToKw cpos (keywordEach [] X.env)).all (fun x => x.1.isSome) && decide ([e].length + ([] : List Keyword).length + (if ([] : List Keyword).isEmpty then 0 else 1) < 30)) = true := by rfl) :
    PE X (.Call (.Attribute o "split" apos) [e] [] cpos) (tD X.K (fM gSplit f (fCons g fNil))) :=
  pd_m PySem.F.plainAttrs_str PySem.F.slot_str_split PySem.F.type_str_split mt_split (fun μ H Hs x xs d ds o Q s rx rs gg k => by
    obtain ⟨a, b, rfl, rfl, g2⟩ := mS1_eq gg
    obtain ⟨⟨h1, h2⟩, rfl⟩ := ite_some g2
    obtain ⟨v, rfl, rv⟩ := rpa1 rs
    cases rx
    cases rv
    exact ⟨a, b, rfl, rfl, h1, h2, fun p hp => k _ _ _ (Ext.made s hp) (.lst upd_same RpA.strs)⟩) ty_S1 ho (pda_cons ha pda_nil hs) hbase hfew hline hs
theorem pd_partition (ho : PE X o (tD X.K f)) (ha : PE X e (tD X.K g)) (hs : starEach [e] X.env = (false, eval e X.env) :: starEach [] X.env := by rfl) (hbase : attributeBase o "partition" X.env (eval o X.env) = eval o X.env := by rfl) (hline : (apos.endLine == cpos.line) = true := by rfl)
    (hfew : ((backTo cpos (starEach [e] X.env)).all (fun x => !x.1) && (backToKw cpos (keywordEach [] X.env)).all (fun x => x.1.isSome) && decide ([e].length + ([] : List Keyword).length + (if ([] : List Keyword).isEmpty then 0 else 1) < 30)) = true := by rfl) :
    PE X (.Call (.Attribute o "partition" apos) [e] [] cpos) (tD X.K (fM gPartition f (fCons g fNil))) :=
  pd_m PySem.F.plainAttrs_str PySem.F.slot_str_partition PySem.F.type_str_partition mt_partition (fun μ H Hs x xs d ds o Q s rx rs gg k => by
    obtain ⟨a, b, rfl, rfl, g2⟩ := mS1_eq gg
    obtain ⟨⟨h1, h2⟩, rfl⟩ := ite_some g2
    obtain ⟨v, rfl, rv⟩ := rpa1 rs
    cases rx
    cases rv
    exact ⟨a, b, rfl, rfl, h1, h2, fun p hp => k _ _ _ (Ext.made s hp) (.tup (SqT.of upd_same) (.cons (.str _) (.cons (.str _) (.cons (.str _) .nil))))⟩) ty_S1 ho (pda_cons ha pda_nil hs) hbase hfew hline hs
theorem pd_starts (ho : PE X o (tD X.K f)) (ha : PE X e (tD X.K g)) (hs : starEach [e] X.env = (false, eval e X.env) :: starEach [] X.env := by rfl) (hbase : attributeBase o "startswith" X.env (eval o X.env) = eval o X.env := by rfl) (hline : (apos.endLine == cpos.line) = true := by rfl)
    (hfew : ((backTo cpos (starEach [e] X.env)).all (fun x => !x.1) && (backToKw cpos (keywordEach [] X.env)).all (fun x => x.1.isSome) && decide ([e].length + ([] : List Keyword).length + (if ([] : List Keyword).isEmpty then 0 else 1) < 30)) = true := by rfl) :
    PE X (.Call (.Attribute o "startswith" apos) [e] [] cpos) (tD X.K (fM gStarts f (fCons g fNil))) :=
  pd_m PySem.F.plainAttrs_str PySem.F.slot_str_startswith PySem.F.type_str_startswith mt_startswith (fun μ H Hs x xs d ds o Q s rx rs gg k => by
    obtain ⟨a, b, rfl, rfl, g2⟩ := mS1_eq gg
    cases g2
    obtain ⟨v, rfl, rv⟩ := rpa1 rs
    cases rx
    cases rv
    exact ⟨a, b, rfl, rfl, k _ _ _ (Ext.refl s) (.bool _)⟩) ty_S1 ho (pda_cons ha pda_nil hs) hbase hfew hline hs
theorem pd_ends (ho : PE X o (tD X.K f)) (ha : PE X e (tD X.K g)) (hs : starEach [e] X.env = (false, eval e X.env) :: starEach [] X.env := by rfl) (hbase : attributeBase o "endswith" X.env (eval o X.env) = eval o X.env := by rfl) (hline : (apos.endLine == cpos.line) = true := by rfl)
    (hfew : ((backTo cpos (starEach [e] X.env)).all (fun x => !x.1) && (backToKw cpos (keywordEach [] X.env)).all (fun x => x.1.isSome) && decide ([e].length + ([] : List Keyword).length + (if ([] : List Keyword).isEmpty then 0 else 1) < 30)) = true := by rfl) :
    PE X (.Call (.Attribute o "endswith" apos) [e] [] cpos) (tD X.K (fM gEnds f (fCons g fNil))) :=
  pd_m PySem.F.plainAttrs_str PySem.F.slot_str_endswith PySem.F.type_str_endswith mt_endswith (fun μ H Hs x xs d ds o Q s rx rs gg k => by
    obtain ⟨a, b, rfl, rfl, g2⟩ := mS1_eq gg
    cases g2
    obtain ⟨v, rfl, rv⟩ := rpa1 rs
    cases rx
    cases rv
    exact ⟨a, b, rfl, rfl, k _ _ _ (Ext.refl s) (.bool _)⟩) ty_S1 ho (pda_cons ha pda_nil hs) hbase hfew hline hs
theorem pd_upper (ho : PE X o (tD X.K f)) (hbase : attributeBase o "upper" X.env (eval o X.env) = eval o X.env := by rfl) (hline : (apos.endLine == cpos.line) = true := by rfl) :
    PE X (.Call (.Attribute o "upper" apos) [] [] cpos) (tD X.K (fM gUpper f fNil)) :=
  pd_m0 PySem.F.plainAttrs_str PySem.F.slot_str_upper PySem.F.type_str_upper mt_upper (fun μ H Hs x xs d ds o Q s rx rs gg k => by
    obtain ⟨a, rfl, rfl, g2⟩ := mS0_eq gg
    obtain ⟨h1, rfl⟩ := ite_some g2
    cases rx
    cases rs
    exact ⟨a, rfl, rfl, h1, k _ _ _ (Ext.refl s) (.str _)⟩) ty_S0 ho hbase hline
theorem pd_join (ho : PE X o (tD X.K f)) (ha : PE X e (tD X.K g)) (hs : starEach [e] X.env = (false, eval e X.env) :: starEach [] X.env := by rfl) (hbase : attributeBase o "join" X.env (eval o X.env) = eval o X.env := by rfl) (hline : (apos.endLine == cpos.line) = true := by rfl)
    (hfew : ((backTo cpos (starEach [e] X.env)).all (fun x => !x.1) && (backToKw cpos (keywordEach [] X.env)).all (fun x => x.1.isSome) && decide ([e].length + ([] : List Keyword).length + (if ([] : List Keyword).isEmpty then 0 else 1) < 30)) = true := by rfl) :
    PE X (.Call (.Attribute o "join" apos) [e] [] cpos) (tD X.K (fM gJoin f (fCons g fNil))) :=
  pd_m PySem.F.plainAttrs_str PySem.F.slot_str_join PySem.F.type_str_join mt_join (fun μ H Hs x xs d ds o Q s rx rs gg k => by
    cases rx with
    | str a =>
      match ds, rs, gg with
      | [d], rs, gg =>
        obtain ⟨v, rfl, rv⟩ := rpa1 rs
        cases rv with
        | lst h1 h2 =>
          obtain ⟨ys, q1, q2⟩ := b1_eq gg
          obtain ⟨hz, rfl⟩ := ite_some q2
          rw [strs_rp h2 q1] at h1
          exact ⟨a, _, ys, rfl, rfl, .inl (SqL.of (s _ _ h1)), hz, k _ _ _ (Ext.refl s) (.str _)⟩
        | tup h1 h2 =>
          obtain ⟨ys, q1, q2⟩ := b1_eq gg
          obtain ⟨hz, rfl⟩ := ite_some q2
          rw [strs_rp h2 q1] at h1
          exact ⟨a, _, ys, rfl, rfl, .inr (sqT_mono s h1), hz, k _ _ _ (Ext.refl s) (.str _)⟩
        | _ => exact nomatch gg
      | [], _, gg => exact nomatch gg
      | .lst _ :: _ :: _, _, gg => exact nomatch gg
      | .tup _ :: _ :: _, _, gg => exact nomatch gg
      | .non :: _ :: _, _, gg => exact nomatch gg
      | .bool _ :: _ :: _, _, gg => exact nomatch gg
      | .int _ :: _ :: _, _, gg => exact nomatch gg
      | .str _ :: _ :: _, _, gg => exact nomatch gg
      | .scr _ :: _ :: _, _, gg => exact nomatch gg
      | .loc _ :: _ :: _, _, gg => exact nomatch gg
    | _ => exact nomatch gg) ty_join ho (pda_cons ha pda_nil hs) hbase hfew hline hs
end

/-! ### walks -/
structure Wk (K : PySem.W.Frag) (μ : List Addr) (J : It) (ds : List D) (Hs : Hp) : Prop where
  go : ∀ i H, Same Hs H → i < ds.length → J.go i H
  stop : ∀ i H, Same Hs H → ds.length ≤ i → J.stop i H
  yld : ∀ i H Hs1 x H', Same Hs Hs1 → Same Hs1 H → J.yld i H x H' → ∀ d, ds[i]? = some d → ∃ Hs', Ext Hs1 H Hs' H' ∧ Rp K μ Hs' x d
theorem Wk.mono {K : PySem.W.Frag} {μ : List Addr} {J : It} {ds : List D} {Hs Hs' : Hp} (e : Same Hs Hs') (w : Wk K μ J ds Hs) : Wk K μ J ds Hs' :=
  ⟨fun i H s => w.go i H (e.trans s), fun i H s => w.stop i H (e.trans s), fun i H Hs1 x H' s1 => w.yld i H Hs1 x H' (e.trans s1)⟩
def tDI (K : PySem.W.Frag) (f : Fs) : TI := fun σ H R => ∃ (μ : List Addr) (Hs : Hp) (ρ : Rho) (ds : List D), Same Hs H ∧ VEnv K μ Hs σ ρ ∧ f ρ = some ds ∧ ∀ J H' Hs', Ext Hs H Hs' H' → Wk K μ J ds Hs' → R J H'
theorem pi_imp {X : Cx} {tg e : Expr} {t t' : TI} (h : PI X tg e t) (i : ∀ σ H Q, t' σ H Q → t σ H Q) : PI X tg e t' := ⟨fun pins s σ H Q I q => h.run pins s σ H Q I (i _ _ _ q)⟩
def itL : D → Option (List D)
  | .lst ds => some ds
  | .scr ns => some (ns.map D.int)
  | _ => none
def itT : D → Option (List D)
  | .tup ds => some ds
  | _ => none
def itS : D → Option (List D)
  | .str z => some (z.cps.toList.map fun c => .str ⟨#[c]⟩)
  | _ => none
def fI (G : D → Option (List D)) (f : F) : Fs := fun ρ => b1 (f ρ) G
theorem wk_list {K : PySem.W.Frag} {μ : List Addr} {Hs : Hp} {a : Addr} {xs : List V} {ds : List D} (h : SqL K Hs a xs) (r : RpA K μ Hs xs ds) : Wk K μ (Itl K a) ds Hs := by
  refine ⟨fun i H s hi => ?_, fun i H s hi => ⟨xs, s.seq h, by rw [r.len]; exact hi⟩, fun i H Hs1 x H' s1 s hy d hd => ?_⟩
  · have hl : i < xs.length := by rw [r.len]; exact hi
    exact ⟨xs, xs[i], s.seq h, by simp [hl]⟩
  · obtain ⟨rfl, hy⟩ := hy
    obtain ⟨v, e1, r1⟩ := r.getD hd
    have e2 := hy xs ((s1.trans s).seq h)
    rw [e1] at e2
    cases e2
    exact ⟨Hs1, Ext.refl s, r1.mono s1⟩
theorem wk_tup {K : PySem.W.Frag} {μ : List Addr} {Hs : Hp} {a : Addr} {xs : List V} {ds : List D} (h : SqT K Hs a xs) (r : RpA K μ Hs xs ds) : Wk K μ (Itt K a) ds Hs := by
  refine ⟨fun i H s hi => ?_, fun i H s hi => ⟨xs, sqT_mono s h, by rw [r.len]; exact hi⟩, fun i H Hs1 x H' s1 s hy d hd => ?_⟩
  · have hl : i < xs.length := by rw [r.len]; exact hi
    exact ⟨xs, xs[i], sqT_mono s h, by simp [hl]⟩
  · obtain ⟨rfl, hy⟩ := hy
    obtain ⟨v, e1, r1⟩ := r.getD hd
    have e2 := hy xs (sqT_mono (s1.trans s) h)
    rw [e1] at e2
    cases e2
    exact ⟨Hs1, Ext.refl s, r1.mono s1⟩
theorem wk_str {K : PySem.W.Frag} {μ : List Addr} {Hs : Hp} {z : Str} : Wk K μ (Its z) (z.cps.toList.map fun c => .str ⟨#[c]⟩) Hs := by
  refine ⟨fun i H s hi => ?_, fun i H s hi => ?_, fun i H Hs1 x H' s1 s hy d hd => ?_⟩
  · show i < z.cps.size
    simpa using hi
  · show z.cps.size ≤ i
    simpa using hi
  · obtain ⟨rfl, c, e1, rfl⟩ := hy
    have e2 : z.cps.toList[i]? = some c := by simpa using e1
    rw [List.getElem?_map, e2] at hd
    cases hd
    exact ⟨Hs1, Ext.refl s, .str _⟩
def rngD (lo : Int) (n : Nat) : List D := (List.range n).map fun k => .int (lo + (k : Nat))
theorem wk_range {K : PySem.W.Frag} {μ : List Addr} {Hs : Hp} {lo : Int} {n : Nat} : Wk K μ (Itr lo n) (rngD lo n) Hs := by
  refine ⟨fun i H s hi => ?_, fun i H s hi => ?_, fun i H Hs1 x H' s1 s hy d hd => ?_⟩
  · show i < n
    simpa [rngD] using hi
  · show n ≤ i
    simpa [rngD] using hi
  · obtain ⟨rfl, rfl⟩ := hy
    unfold rngD at hd
    rw [List.getElem?_map] at hd
    by_cases hi : i < n
    · rw [List.getElem?_range hi] at hd
      cases hd
      exact ⟨Hs1, Ext.refl s, .int _⟩
    · rw [List.getElem?_eq_none (by simpa using hi)] at hd
      cases hd
section
variable {X : Cx} {tg e a b c o : Expr} {es : List Expr} {f g h : F} {fs : Fs} {pos p p2 apos cpos tpos : Pos}
theorem pdi_list (he : PE X e (tD X.K f)) : PI X tg e (tDI X.K (fI itL f)) := by
  refine pi_imp (pi_list he) fun σ H R ⟨μ, Hs, ρ, ds, s, env, e, k⟩ => ?_
  obtain ⟨d1, e1, e2⟩ := b1_eq e
  refine ⟨μ, Hs, ρ, d1, s, env, e1, fun v H1 Hs1 x1 r1 => ?_⟩
  cases r1 with
  | lst h1 h2 => cases e2; exact ⟨_, rfl, ⟨_, SqL.of (x1.sub _ _ h1)⟩, k _ _ Hs1 x1 (wk_list (SqL.of h1) h2)⟩
  | scr h1 => cases e2; exact ⟨_, rfl, ⟨_, x1.sub.seq h1⟩, k _ _ Hs1 x1 (wk_list h1 RpA.ints)⟩
  | _ => exact nomatch e2
theorem pdi_tup (he : PE X e (tD X.K f)) : PI X tg e (tDI X.K (fI itT f)) := by
  refine pi_imp (pi_tup he) fun σ H R ⟨μ, Hs, ρ, ds, s, env, e, k⟩ => ?_
  obtain ⟨d1, e1, e2⟩ := b1_eq e
  refine ⟨μ, Hs, ρ, d1, s, env, e1, fun v H1 Hs1 x1 r1 => ?_⟩
  cases r1 with
  | tup h1 h2 => cases e2; exact ⟨_, rfl, ⟨_, sqT_mono x1.sub h1⟩, k _ _ Hs1 x1 (wk_tup h1 h2)⟩
  | _ => exact nomatch e2
theorem pdi_str (he : PE X e (tD X.K f)) : PI X tg e (tDI X.K (fI itS f)) := by
  refine pi_imp (pi_str he) fun σ H R ⟨μ, Hs, ρ, ds, s, env, e, k⟩ => ?_
  obtain ⟨d1, e1, e2⟩ := b1_eq e
  refine ⟨μ, Hs, ρ, d1, s, env, e1, fun v H1 Hs1 x1 r1 => ?_⟩
  cases r1 with
  | str z => cases e2; exact ⟨_, rfl, k _ _ Hs1 x1 wk_str⟩
  | _ => exact nomatch e2
/-- range(n), range(a, b) -/
def itR1 : List D → Option (List D)
  | [.int j] => if -(2 ^ 62) ≤ j ∧ j < 2 ^ 62 then some (rngD 0 j.toNat) else none
  | _ => none
def itR2 : List D → Option (List D)
  | [.int i, .int j] => if -(2 ^ 62) ≤ i ∧ i < 2 ^ 62 ∧ -(2 ^ 62) ≤ j ∧ j < 2 ^ 62 then some (rngD i (j - i).toNat) else none
  | _ => none
def fIs (G : List D → Option (List D)) (f : Fs) : Fs := fun ρ => b1 (f ρ) G
theorem pdi_range1 (hm : X.mg "range" = none) (ha : PA X [a] (tDs X.K fs)) (hg : Gl X "range" := by rfl) (hs : starEach [a] X.env = [(false, eval a X.env)] := by rfl) : PI X tg (.Call (.Name "range" p) [a] [] pos) (tDI X.K (fIs itR1 fs)) := by
  refine pi_imp (pi_range1 hg hm ha hs) fun σ H R ⟨μ, Hs, ρ, ds, s, env, e, k⟩ => ?_
  obtain ⟨d1, e1, e2⟩ := b1_eq e
  refine ⟨μ, Hs, ρ, d1, s, env, e1, fun vs H1 Hs1 x1 r1 => ?_⟩
  match d1, r1, e2 with
  | [.int j], r1, e2 =>
    obtain ⟨v, rfl, rv⟩ := rpa1 r1
    cases rv
    obtain ⟨hz, rfl⟩ := ite_some e2
    exact ⟨j, rfl, hz.1, hz.2, k _ _ Hs1 x1 wk_range⟩
  | [], _, e2 => exact nomatch e2
  | [.non], _, e2 => exact nomatch e2
  | [.bool _], _, e2 => exact nomatch e2
  | [.str _], _, e2 => exact nomatch e2
  | [.lst _], _, e2 => exact nomatch e2
  | [.tup _], _, e2 => exact nomatch e2
  | [.scr _], _, e2 => exact nomatch e2
  | [.loc _], _, e2 => exact nomatch e2
  | _ :: _ :: _, _, e2 => exact absurd e2 (by unfold itR1; intro q; split at q <;> simp_all)
theorem itR2_eq {ds o : List D} (h : itR2 ds = some o) : ∃ i j, ds = [.int i, .int j] ∧ (-(2 ^ 62) ≤ i ∧ i < 2 ^ 62 ∧ -(2 ^ 62) ≤ j ∧ j < 2 ^ 62) ∧ rngD i (j - i).toNat = o := by
  unfold itR2 at h
  split at h
  · rename_i i j
    obtain ⟨h1, h2⟩ := ite_some h
    exact ⟨i, j, rfl, h1, h2⟩
  · cases h
theorem pdi_range2 (hm : X.mg "range" = none) (ha : PA X [a, b] (tDs X.K fs)) (hg : Gl X "range" := by rfl) (hs : starEach [a, b] X.env = [(false, eval a X.env), (false, eval b X.env)] := by rfl) (hs2 : starEach [b] X.env = [(false, eval b X.env)] := by rfl) : PI X tg (.Call (.Name "range" p) [a, b] [] pos) (tDI X.K (fIs itR2 fs)) := by
  refine pi_imp (pi_range2 hg hm ha hs hs2) fun σ H R ⟨μ, Hs, ρ, ds, s, env, e, k⟩ => ?_
  obtain ⟨d1, e1, e2⟩ := b1_eq e
  refine ⟨μ, Hs, ρ, d1, s, env, e1, fun vs H1 Hs1 x1 r1 => ?_⟩
  obtain ⟨i, j, rfl, hz, rfl⟩ := itR2_eq e2
  obtain ⟨v, u, rfl, rv, ru⟩ := rpa2 r1
  cases rv
  cases ru
  exact ⟨i, j, rfl, hz, k _ _ Hs1 x1 wk_range⟩
/-- zip of two lists -/
def D.zipD : List D → List D → List D
  | d :: ds, e :: es => .tup [d, e] :: D.zipD ds es
  | _, _ => []
theorem zipD_len : ∀ (ds es : List D), (D.zipD ds es).length = min ds.length es.length
  | [], _ => by simp [D.zipD]
  | _ :: _, [] => by simp [D.zipD]
  | d :: ds, e :: es => by simp only [D.zipD, List.length_cons, zipD_len ds es]; omega
theorem zipD_get : ∀ (ds es : List D) (i : Nat) (d : D), (D.zipD ds es)[i]? = some d → ∃ d1 d2, ds[i]? = some d1 ∧ es[i]? = some d2 ∧ d = .tup [d1, d2]
  | [], _, _, _, h => by simp [D.zipD] at h
  | _ :: _, [], _, _, h => by simp [D.zipD] at h
  | d :: ds, e :: es, 0, x, h => by
    simp only [D.zipD, List.getElem?_cons_zero, Option.some.injEq] at h
    exact ⟨d, e, rfl, rfl, h.symm⟩
  | d :: ds, e :: es, i + 1, x, h => by
    simp only [D.zipD, List.getElem?_cons_succ] at h
    obtain ⟨d1, d2, a, b, c⟩ := zipD_get ds es i x h
    exact ⟨d1, d2, by simpa using a, by simpa using b, c⟩
def itZ : List D → Option (List D)
  | [.lst ds, .lst es] => some (D.zipD ds es)
  | _ => none
theorem wk_zip {K : PySem.W.Frag} {μ : List Addr} {Hs : Hp} {a b : Addr} {xs ys : List V} {ds es : List D} (h : SqL K Hs a xs) (r : RpA K μ Hs xs ds) (h2 : SqL K Hs b ys) (r2 : RpA K μ Hs ys es) : Wk K μ (Itz K a b) (D.zipD ds es) Hs := by
  refine ⟨fun i H s hi => ?_, fun i H s hi => ?_, fun i H Hs1 x H' s1 s hy d hd => ?_⟩
  · rw [zipD_len] at hi
    have hl : i < xs.length := by rw [r.len]; omega
    have hl2 : i < ys.length := by rw [r2.len]; omega
    exact ⟨xs, ys, xs[i], ys[i], s.seq h, s.seq h2, by simp [hl], by simp [hl2]⟩
  · rw [zipD_len] at hi
    refine ⟨xs, ys, s.seq h, s.seq h2, ?_⟩
    rw [r.len, r2.len]
    omega
  · obtain ⟨T, x1, x2, rfl, hT, rfl, g1, g2⟩ := hy
    obtain ⟨d1, d2, e1, e2, rfl⟩ := zipD_get _ _ _ _ hd
    obtain ⟨v1, f1, q1⟩ := r.getD e1
    obtain ⟨v2, f2, q2⟩ := r2.getD e2
    have z1 := g1 xs ((s1.trans s).seq h)
    have z2 := g2 ys ((s1.trans s).seq h2)
    rw [f1] at z1
    rw [f2] at z2
    cases z1
    cases z2
    exact ⟨_, Ext.made s hT, .tup (SqT.of upd_same) (.cons (q1.mono (s1.trans (Ext.made s hT).part)) (.cons (q2.mono (s1.trans (Ext.made s hT).part)) .nil))⟩
theorem pdi_zip {elts : List Expr} {kk : Nat} (hm : X.mg "zip" = none) (ha : PA X [a, b] (tDs X.K fs)) (hg : Gl X "zip" := by rfl) (hs : starEach [a, b] X.env = (false, eval a X.env) :: starEach [b] X.env := by rfl) (hpl : (backTo pos (starEach [b] X.env)).any (·.1) = false := by rfl) :
    PI X (.Tuple elts kk tpos) (.Call (.Name "zip" p) [a, b] [] pos) (tDI X.K (fIs itZ fs)) := by
  refine pi_imp (pi_zip hg hm ha hs hpl) fun σ H R ⟨μ, Hs, ρ, ds, s, env, e, k⟩ => ?_
  obtain ⟨d1, e1, e2⟩ := b1_eq e
  refine ⟨μ, Hs, ρ, d1, s, env, e1, fun vs H1 Hs1 x1 r1 => ?_⟩
  unfold itZ at e2
  split at e2
  · cases e2
    obtain ⟨v, u, rfl, rv, ru⟩ := rpa2 r1
    cases rv with
    | lst h1 h2 =>
      cases ru with
      | lst h3 h4 => exact ⟨_, _, _, _, rfl, SqL.of (x1.sub _ _ h1), SqL.of (x1.sub _ _ h3), k _ _ Hs1 x1 (wk_zip (SqL.of h1) h2 (SqL.of h3) h4)⟩
  · cases e2
/-- enumerate of a list -/
def D.enumD : Nat → List D → List D
  | _, [] => []
  | i, d :: ds => .tup [.int (i : Nat), d] :: D.enumD (i + 1) ds
theorem enumD_len : ∀ (k : Nat) (ds : List D), (D.enumD k ds).length = ds.length
  | _, [] => rfl
  | k, d :: ds => by simp only [D.enumD, List.length_cons, enumD_len (k + 1) ds]
theorem enumD_get : ∀ (k : Nat) (ds : List D) (i : Nat) (d : D), (D.enumD k ds)[i]? = some d → ∃ d1, ds[i]? = some d1 ∧ d = .tup [.int ((k + i : Nat) : Int), d1]
  | _, [], _, _, h => by simp [D.enumD] at h
  | k, d :: ds, 0, x, h => by
    simp only [D.enumD, List.getElem?_cons_zero, Option.some.injEq] at h
    exact ⟨d, rfl, h.symm⟩
  | k, d :: ds, i + 1, x, h => by
    simp only [D.enumD, List.getElem?_cons_succ] at h
    obtain ⟨d1, a, b⟩ := enumD_get (k + 1) ds i x h
    refine ⟨d1, by simpa using a, ?_⟩
    rw [b, show k + 1 + i = k + (i + 1) by omega]
def itE : List D → Option (List D)
  | [.lst ds] => some (D.enumD 0 ds)
  | _ => none
theorem wk_enum {K : PySem.W.Frag} {μ : List Addr} {Hs : Hp} {a : Addr} {xs : List V} {ds : List D} (h : SqL K Hs a xs) (r : RpA K μ Hs xs ds) : Wk K μ (Ite K a) (D.enumD 0 ds) Hs := by
  refine ⟨fun i H s hi => ?_, fun i H s hi => ?_, fun i H Hs1 x H' s1 s hy d hd => ?_⟩
  · rw [enumD_len] at hi
    have hl : i < xs.length := by rw [r.len]; omega
    exact ⟨xs, xs[i], s.seq h, by simp [hl]⟩
  · rw [enumD_len] at hi
    exact ⟨xs, s.seq h, by rw [r.len]; exact hi⟩
  · obtain ⟨T, x1, rfl, hT, rfl, g1⟩ := hy
    obtain ⟨d1, e1, rfl⟩ := enumD_get _ _ _ _ hd
    obtain ⟨v1, f1, q1⟩ := r.getD e1
    have z1 := g1 xs ((s1.trans s).seq h)
    rw [f1] at z1
    cases z1
    refine ⟨_, Ext.made s hT, .tup (SqT.of upd_same) (.cons ?_ (.cons (q1.mono (s1.trans (Ext.made s hT).part)) .nil))⟩
    rw [Nat.zero_add]
    exact .int _
theorem pdi_enum {elts : List Expr} {kk : Nat} (hm : X.mg "enumerate" = none) (ha : PA X [a] (tDs X.K fs)) (hg : Gl X "enumerate" := by rfl) (hs : starEach [a] X.env = [(false, eval a X.env)] := by rfl) :
    PI X (.Tuple elts kk tpos) (.Call (.Name "enumerate" p) [a] [] pos) (tDI X.K (fIs itE fs)) := by
  refine pi_imp (pi_enum hg hm ha hs) fun σ H R ⟨μ, Hs, ρ, ds, s, env, e, k⟩ => ?_
  obtain ⟨d1, e1, e2⟩ := b1_eq e
  refine ⟨μ, Hs, ρ, d1, s, env, e1, fun vs H1 Hs1 x1 r1 => ?_⟩
  unfold itE at e2
  split at e2
  · cases e2
    obtain ⟨v, rfl, rv⟩ := rpa1 r1
    cases rv with
    | lst h1 h2 => exact ⟨_, _, rfl, SqL.of (x1.sub _ _ h1), k _ _ Hs1 x1 (wk_enum (SqL.of h1) h2)⟩
  · cases e2
end

/-! ### targets -/
structure TgD (K : PySem.W.Frag) (g : TG) (set : D → Rho → Option Rho) (vs : List Nat) : Prop where
  run : ∀ μ Hs H σ ρ d ρ' v (k : St → Hp → Prop), Same Hs H → VEnv K μ Hs σ ρ → set d ρ = some ρ' → Rp K μ Hs v d → (∀ σ', VEnv K μ Hs σ' ρ' → σ'.length = σ.length → (∀ i, i ∉ vs → σ'[i]? = σ[i]?) → k σ' H) → g v σ H k
  keep : ∀ d ρ ρ', set d ρ = some ρ' → ∀ i, i ∉ vs → ρ'[i]? = ρ[i]?
  put : ∀ d ρ ρ', set d ρ = some ρ' → ∀ (i : Nat) (x : Sl), i ∈ vs → ρ'[i]? = some x → (∃ d', x = .val d') ∨ ρ[i]? = some x
def st1 (i : Nat) : D → Rho → Option Rho := fun d ρ => some (ρ.set i (.val d))
def st2 (i j : Nat) : D → Rho → Option Rho := fun d ρ => match d with
  | .tup [d1, d2] => some ((ρ.set i (.val d1)).set j (.val d2))
  | _ => none
def st3 (i j k : Nat) : D → Rho → Option Rho := fun d ρ => match d with
  | .tup [d1, d2, d3] => some (((ρ.set i (.val d1)).set j (.val d2)).set k (.val d3))
  | _ => none
theorem get_set_ne' {α : Type} {l : List α} {i j : Nat} {a : α} (h : i ≠ j) : (l.set j a)[i]? = l[i]? := List.getElem?_set_ne (Ne.symm h)
theorem get_set_val {ρ : Rho} {i j : Nat} {d : D} {x : Sl} (h : (ρ.set j (.val d))[i]? = some x) : (∃ d', x = .val d') ∨ ρ[i]? = some x := by
  by_cases hij : i = j
  · subst hij
    by_cases hl : i < ρ.length
    · rw [List.getElem?_set_self hl] at h
      cases h
      exact .inl ⟨d, rfl⟩
    · rw [List.getElem?_eq_none (by simpa using hl)] at h
      cases h
  · rw [get_set_ne' hij] at h
    exact .inr h
theorem tg_1 {K : PySem.W.Frag} (i : Nat) : TgD K (gName i) (st1 i) [i] := by
  refine ⟨fun μ Hs H σ ρ d ρ' v k s env e r kk => ?_, fun d ρ ρ' e j hj => ?_, fun d ρ ρ' e j x hj hx => ?_⟩
  · cases e
    exact kk _ (paired_set ⟨v, rfl, r⟩ i env) (by simp) fun j hj => get_set_ne' (by simpa using hj)
  · cases e
    exact get_set_ne' (by simpa using hj)
  · cases e
    exact get_set_val hx
theorem tg_2 {K : PySem.W.Frag} (i j : Nat) : TgD K (gTup K 2 (gCons (gName i) (gCons (gName j) gNil))) (st2 i j) [i, j] := by
  refine ⟨fun μ Hs H σ ρ d ρ' v k s env e r kk => ?_, fun d ρ ρ' e m hm => ?_, fun d ρ ρ' e m x hm hx => ?_⟩
  · unfold st2 at e
    split at e
    · cases e
      cases r with
      | tup h1 h2 =>
        obtain ⟨v1, v2, rfl, r1, r2⟩ := rpa2 h2
        refine ⟨_, _, rfl, sqT_mono s h1, rfl, v1, [v2], rfl, v2, [], rfl, rfl, ?_⟩
        refine kk _ (paired_set ⟨v2, rfl, r2⟩ j (paired_set ⟨v1, rfl, r1⟩ i env)) (by simp) fun m hm => ?_
        have hm' : m ≠ i ∧ m ≠ j := by simpa using hm
        rw [get_set_ne' hm'.2, get_set_ne' hm'.1]
    · cases e
  · unfold st2 at e
    split at e
    · cases e
      have hm' : m ≠ i ∧ m ≠ j := by simpa using hm
      rw [get_set_ne' hm'.2, get_set_ne' hm'.1]
    · cases e
  · unfold st2 at e
    split at e
    · cases e
      rcases get_set_val hx with h | h
      · exact .inl h
      · exact get_set_val h
    · cases e
theorem rpa3 {K : PySem.W.Frag} {μ : List Addr} {H : Hp} {vs : List V} {d e c : D} (r : RpA K μ H vs [d, e, c]) : ∃ v u w, vs = [v, u, w] ∧ Rp K μ H v d ∧ Rp K μ H u e ∧ Rp K μ H w c := by
  cases r with
  | cons h t =>
    obtain ⟨u, w, rfl, h2, h3⟩ := rpa2 t
    exact ⟨_, _, _, rfl, h, h2, h3⟩
theorem tg_3 {K : PySem.W.Frag} (i j l : Nat) : TgD K (gTup K 3 (gCons (gName i) (gCons (gName j) (gCons (gName l) gNil)))) (st3 i j l) [i, j, l] := by
  refine ⟨fun μ Hs H σ ρ d ρ' v k s env e r kk => ?_, fun d ρ ρ' e m hm => ?_, fun d ρ ρ' e m x hm hx => ?_⟩
  · unfold st3 at e
    split at e
    · cases e
      cases r with
      | tup h1 h2 =>
        obtain ⟨v1, v2, v3, rfl, r1, r2, r3⟩ := rpa3 h2
        refine ⟨_, _, rfl, sqT_mono s h1, rfl, v1, [v2, v3], rfl, v2, [v3], rfl, v3, [], rfl, rfl, ?_⟩
        refine kk _ (paired_set ⟨v3, rfl, r3⟩ l (paired_set ⟨v2, rfl, r2⟩ j (paired_set ⟨v1, rfl, r1⟩ i env))) (by simp) fun m hm => ?_
        have hm' : m ≠ i ∧ m ≠ j ∧ m ≠ l := by simpa using hm
        rw [get_set_ne' hm'.2.2, get_set_ne' hm'.2.1, get_set_ne' hm'.1]
    · cases e
  · unfold st3 at e
    split at e
    · cases e
      have hm' : m ≠ i ∧ m ≠ j ∧ m ≠ l := by simpa using hm
      rw [get_set_ne' hm'.2.2, get_set_ne' hm'.2.1, get_set_ne' hm'.1]
    · cases e
  · unfold st3 at e
    split at e
    · cases e
      rcases get_set_val hx with h | h
      · exact .inl h
      · rcases get_set_val h with h | h
        · exact .inl h
        · exact get_set_val h
    · cases e
/-! ### comprehensions -/
def wipeR (ρ : Rho) : List Nat → Rho
  | [] => ρ
  | v :: vs => (wipeR ρ vs).set v .junk
theorem wipe_env {K : PySem.W.Frag} {μ : List Addr} {H : Hp} {σ : St} {ρ : Rho} (e : VEnv K μ H σ ρ) : ∀ vs, VEnv K μ H (wipe σ vs) (wipeR ρ vs)
  | [] => e
  | v :: vs => paired_set trivial v (wipe_env e vs)
theorem wipe_get (σ : St) : ∀ (vs : List Nat) (i : Nat), (wipe σ vs)[i]? = if i ∈ vs then (σ[i]?).map (fun _ => none) else σ[i]?
  | [], i => by simp [wipe]
  | v :: vs, i => by
    have ih := wipe_get σ vs i
    show ((wipe σ vs).set v none)[i]? = _
    by_cases hiv : i = v
    · subst hiv
      rw [if_pos (by simp)]
      by_cases hl : i < σ.length
      · rw [List.getElem?_set_self (by rw [wipe_length]; exact hl), List.getElem?_eq_getElem hl]
        rfl
      · rw [List.getElem?_eq_none (by simpa [wipe_length] using hl), List.getElem?_eq_none (by simpa using hl)]
        rfl
    · rw [get_set_ne' hiv, ih]
      by_cases hm : i ∈ vs
      · rw [if_pos hm, if_pos (by simp [hm])]
      · rw [if_neg hm, if_neg (by simp [hm, hiv])]
theorem wipe_congr {σ σ' : St} {vs : List Nat} (hl : σ'.length = σ.length) (h : ∀ i, i ∉ vs → σ'[i]? = σ[i]?) : wipe σ' vs = wipe σ vs := by
  refine List.ext_getElem? fun i => ?_
  rw [wipe_get, wipe_get]
  by_cases hm : i ∈ vs
  · rw [if_pos hm, if_pos hm]
    by_cases hi : i < σ.length
    · rw [List.getElem?_eq_getElem hi, List.getElem?_eq_getElem (by omega)]
      rfl
    · rw [List.getElem?_eq_none (by omega), List.getElem?_eq_none (by omega)]
  · rw [if_neg hm, if_neg hm, h i hm]
theorem wipe_idem (σ : St) (vs : List Nat) : wipe (wipe σ vs) vs = wipe σ vs := by
  refine List.ext_getElem? fun i => ?_
  rw [wipe_get]
  by_cases hm : i ∈ vs
  · rw [if_pos hm, wipe_get, if_pos hm]
    cases σ[i]? <;> rfl
  · rw [if_neg hm]
/-- the items kept, their values -/
def lcGo (set : D → Rho → Option Rho) (ft : Ft) (fe : F) (ρ : Rho) : List D → Option (List D)
  | [] => some []
  | d :: ds => b1 (set d ρ) fun ρ' => b1 (ft ρ') fun b => if b = true then b1 (fe ρ') fun y => b1 (lcGo set ft fe ρ ds) fun ys => some (y :: ys) else lcGo set ft fe ρ ds
def fLc (fi : Fs) (set : D → Rho → Option Rho) (ft : Ft) (fe : F) (vs : List Nat) : F := fun ρ => b1 (fi ρ) fun ds => if ds.length ≤ 1000000 then b1 (lcGo set ft fe (wipeR ρ vs) ds) fun ys => some (.lst ys) else none
def ftYes : Ft := fun _ => some true
theorem tYes_D {K : PySem.W.Frag} : ∀ σ H Q, tDT K ftYes σ H Q → tYes σ H Q := fun σ H Q ⟨μ, Hs, ρ, b, s, env, e, k⟩ => by cases e; exact k H (Same.refl _)
theorem lc_read {K : PySem.W.Frag} {fi : Fs} {wi : TI} {g : TG} {tt : TT} {te : TE} {set : D → Rho → Option Rho} {ft : Ft} {fe : F} {vs : List Nat} (hi : ∀ σ H R, tDI K fi σ H R → wi σ H R) (hg : TgD K g set vs) (ht : ∀ σ H Q, tDT K ft σ H Q → tt σ H Q) (he : ∀ σ H Q, tD K fe σ H Q → te σ H Q) :
    ∀ σ H Q, tD K (fLc fi set ft fe vs) σ H Q → tLc wi g tt te vs σ H Q := by
  rintro σ H Q ⟨μ, Hs, ρ, d, s, env, e, k⟩
  obtain ⟨ds, e1, e2⟩ := b1_eq e
  have e2' : (if ds.length ≤ 1000000 then b1 (lcGo set ft fe (wipeR ρ vs) ds) fun ys => some (D.lst ys) else none) = some d := e2
  by_cases hz : ds.length ≤ 1000000
  · rw [if_pos hz] at e2'
    obtain ⟨ys, e3, e4⟩ := b1_eq e2'
    cases e4
    refine hi _ _ _ ⟨μ, Hs, ρ, ds, s, env, e1, fun J H1 Hs1 x1 wk D0 hD => ?_⟩
    have hDs : Hs1 D0 = none := x1.sub.free hD
    refine ⟨fun i m H2 => m = ds.length - i ∧ i ≤ ds.length ∧ ∃ Hs2 acc accD rest, Same Hs1 Hs2 ∧ Same Hs2 H2 ∧ Same H1 H2 ∧ (∀ a o, Hs2 a = some o → Hs1 a = some o ∨ H1 a = none) ∧ Hs2 D0 = none ∧ H2 D0 = some (.lst acc) ∧ RpA K μ Hs2 acc accD ∧ acc.length ≤ i ∧
      lcGo set ft fe (wipeR ρ vs) (ds.drop i) = some rest ∧ accD ++ rest = ys, ⟨_, rfl, Nat.zero_le _, Hs1, [], [], ys, Same.refl _, x1.sub.trans (Ext.made (Same.refl H1) hD).all, (Ext.made (Same.refl H1) hD).all, fun _ _ h => .inl h, hDs, upd_same, .nil, Nat.zero_le _, by simpa using e3, rfl⟩, ?_⟩
    rintro i m H2 ⟨rfl, hi2, Hs2, acc, accD, rest, s1, s2, s3, nw, d2, d1, ra, hl, eg, ea⟩
    by_cases hlt : i < ds.length
    · obtain ⟨d0, hd0⟩ : ∃ d0, ds[i]? = some d0 := ⟨ds[i], by simp [hlt]⟩
      have hdrop : ds.drop i = d0 :: ds.drop (i + 1) := by
        rw [List.drop_eq_getElem_cons hlt]
        rw [List.getElem?_eq_getElem hlt] at hd0
        cases hd0
        rfl
      rw [hdrop] at eg
      obtain ⟨ρ', g1, g2⟩ := b1_eq eg
      obtain ⟨b, g3, g4⟩ := b1_eq g2
      refine .inr ⟨wk.go i H2 (s1.trans s2) hlt, fun H3 => ∃ Hs2 acc accD rest, Same Hs1 Hs2 ∧ Same Hs2 H3 ∧ Same H1 H3 ∧ (∀ a o, Hs2 a = some o → Hs1 a = some o ∨ H1 a = none) ∧ Hs2 D0 = none ∧ H3 D0 = some (.lst acc) ∧ RpA K μ Hs2 acc accD ∧ acc.length ≤ i + 1 ∧
        lcGo set ft fe (wipeR ρ vs) (ds.drop (i + 1)) = some rest ∧ accD ++ rest = ys, fun H' hN => ⟨_, by omega, rfl, hlt, hN⟩, fun x H3 hy => ?_⟩
      obtain ⟨Hs3, x3, r3⟩ := wk.yld i H2 Hs2 x H3 s1 s2 hy d0 hd0
      have envw := wipe_env (env.mono (x1.part.trans (s1.trans x3.part))) vs
      have d3 : H3 D0 = some (.lst acc) := x3.all _ _ d1
      have ds3 : Hs3 D0 = none := by
        cases q : Hs3 D0 with
        | none => rfl
        | some o =>
          rcases x3.new _ _ q with h | h
          · rw [d2] at h; cases h
          · rw [d1] at h; cases h
      have nw3 : ∀ a o, Hs3 a = some o → Hs1 a = some o ∨ H1 a = none := fun a o h => by
        rcases x3.new a o h with h1 | h1
        · exact nw a o h1
        · exact .inr (s3.free h1)
      refine hg.run _ Hs3 H3 _ _ d0 ρ' x _ x3.sub envw g1 r3 fun σ' env' hlen hkeep => ⟨by rw [wipe_congr hlen hkeep]; exact wipe_idem _ _, ?_⟩
      refine ht _ _ _ ⟨μ, Hs3, ρ', b, x3.sub, env', g3, fun H4 s4 => ?_⟩
      cases b with
      | true =>
        rw [if_pos rfl] at g4
        obtain ⟨y, g5, g6⟩ := b1_eq g4
        obtain ⟨ys', g7, g8⟩ := b1_eq g6
        cases g8
        refine iteT (he _ _ _ ⟨μ, Hs3, ρ', y, x3.sub.trans s4, env', g5, fun v H5 Hs5 x5 r5 => ?_⟩)
        have d5 : H5 D0 = some (.lst acc) := x5.all _ _ (s4 _ _ d3)
        have ds5 : Hs5 D0 = none := by
          cases q : Hs5 D0 with
          | none => rfl
          | some o =>
            rcases x5.new _ _ q with h | h
            · rw [ds3] at h; cases h
            · rw [s4 _ _ d3] at h; cases h
        have nosub : ∀ (A B : Hp) (o' : HO), A D0 = none → Same A B → Same A (upd B D0 o') := fun A B o' hA hs b u hb => by
          rw [upd_ne (fun z => by subst z; rw [hA] at hb; cases hb)]
          exact hs b u hb
        refine ⟨acc, d5, by rw [sizeLine_eq]; omega, Hs5, acc ++ [v], accD ++ [y], ys', s1.trans (x3.part.trans x5.part), nosub _ _ _ ds5 x5.sub, nosub _ _ _ hD (s3.trans (x3.all.trans (s4.trans x5.all))), fun a o h => ?_, ds5, upd_same, (ra.mono (x3.part.trans x5.part)).snoc r5, by simp only [List.length_append, List.length_singleton]; omega, g7, by rw [← ea]; simp⟩
        rcases x5.new a o h with h1 | h1
        · exact nw3 a o h1
        · exact .inr ((s3.trans (x3.all.trans s4)).free h1)
      | false =>
        rw [if_neg Bool.false_ne_true] at g4
        exact iteF ⟨Hs3, acc, accD, rest, s1.trans x3.part, x3.sub.trans s4, s3.trans (x3.all.trans s4), nw3, ds3, s4 _ _ d3, ra.mono x3.part, by omega, g4, ea⟩
    · have e5 : i = ds.length := by omega
      subst e5
      rw [List.drop_length] at eg
      cases eg
      rw [List.append_nil] at ea
      subst ea
      refine .inl ⟨wk.stop _ H2 (s1.trans s2) (Nat.le_refl _), ?_⟩
      have hsub : Same (upd Hs2 D0 (.lst acc)) H2 := fun b u hb => by
        by_cases hbD : b = D0
        · subst hbD
          rw [upd_same] at hb
          cases hb
          exact d1
        · rw [upd_ne hbD] at hb
          exact s2 b u hb
      have hp : Same Hs2 (upd Hs2 D0 (.lst acc)) := fun b u hb => by
        rw [upd_ne (fun z => by subst z; rw [d2] at hb; cases hb)]
        exact hb
      refine k _ H2 (upd Hs2 D0 (.lst acc)) ⟨x1.all.trans s3, x1.part.trans (s1.trans hp), hsub, fun a o h => ?_⟩ (.lst upd_same (ra.mono hp))
      by_cases ha : a = D0
      · subst ha
        exact .inr (x1.all.free hD)
      · rw [upd_ne ha] at h
        rcases nw a o h with h1 | h1
        · exact x1.new a o h1
        · exact .inr (x1.all.free h1)
  · rw [if_neg hz] at e2'
    cases e2'
section
variable {X : Cx} {tg e elt iter : Expr} {ifs : List Expr} {fi : Fs} {fe : F} {ft : Ft} {pos : Pos}
theorem pd_lc {scope : Scope} {own : List (Str × Nat)} {g : TG} {set : D → Rho → Option Rho} {tt : TT} (hc : X.calm = true) (hN : X.N.Nodup) (hi : PI X tg iter (tDI X.K fi)) (ok : BlkOk X.N X.env.scope scope own) (hg : TgD X.K g set (own.map (·.2)))
    (hpg : ∀ (s : Shared) (H : Hp) (C : Addr) (cl : List (Str × Addr)) (fp : List Addr), PG (X.blk s H scope (compEnvC scope cl C X.env) fp) tg g)
    (ht : ∀ σ H Q, tDT X.K ft σ H Q → tt σ H Q) (hpt : ∀ (s : Shared) (H : Hp) (C : Addr) (cl : List (Str × Addr)) (fp : List Addr), PTs (X.blk s H scope (compEnvC scope cl C X.env) fp) ifs tt)
    (hpe : ∀ (s : Shared) (H : Hp) (C : Addr) (cl : List (Str × Addr)) (fp : List Addr), PE (X.blk s H scope (compEnvC scope cl C X.env) fp) elt (tD X.K fe)) (hs : ∀ x, foldedSetIterable iter X.env x = pure x := by intro _; rfl) :
    PE X (.ListComp elt [⟨tg, iter, ifs, 0⟩] scope pos) (tD X.K (fLc fi set ft fe (own.map (·.2)))) :=
  pe_imp (pe_lc (own := own) (g := g) (tt := tt) hc hN hi ok hpg hpt hpe hs) (lc_read (fun _ _ _ h => h) hg ht (fun _ _ _ h => h))
end
end Pd

/-! Pd4: statements, defs, calls. -/
namespace Pd
open PySem PySem.Spec L2 SkE
open PyProof.Rows hiding St

inductive Fl where
  | nx (ρ : Rho) | bk (ρ : Rho) | ct (ρ : Rho) | rt (d : D)
abbrev Gs := Rho → Option Fl
/-- the slots of a running def: what it only reads stands in the part Hs; the lists that it fills stand beside -/
structure SEnv (K : PySem.W.Frag) (μ : List Addr) (Hs0 H0 Hs H : Hp) (σ : St) (ρ : Rho) : Prop where
  ext : Ext Hs0 H0 Hs H
  env : VEnv K μ Hs σ ρ
  own : ∀ (i : Nat) (ds : List D), ρ[i]? = some (Sl.own ds) → ∃ (a : Addr) (vs : List V), σ[i]? = some (some (V.ref a)) ∧ H a = some (HO.lst vs) ∧ Hs a = none ∧ H0 a = none ∧ RpA K μ Hs vs ds
  one : ∀ (i j : Nat) (ds es : List D) (a : Addr), i ≠ j → ρ[i]? = some (Sl.own ds) → ρ[j]? = some (Sl.own es) → σ[i]? = some (some (V.ref a)) → σ[j]? ≠ some (some (V.ref a))
def After (K : PySem.W.Frag) (μ : List Addr) (Hs0 H0 Hb : Hp) (Dn : Ends) : Fl → Prop
  | .nx ρ => ∀ σ H Hs, SEnv K μ Hs0 H0 Hs H σ ρ → Same Hb Hs → Dn.nx σ H
  | .bk ρ => ∀ σ H Hs, SEnv K μ Hs0 H0 Hs H σ ρ → Same Hb Hs → Dn.bk σ H
  | .ct ρ => ∀ σ H Hs, SEnv K μ Hs0 H0 Hs H σ ρ → Same Hb Hs → Dn.ct σ H
  | .rt d => ∀ v H Hs, Ext Hs0 H0 Hs H → Rp K μ Hs v d → Dn.rt v H
def tS (K : PySem.W.Frag) (μ : List Addr) (Hs0 H0 : Hp) (g : Gs) : TS := fun Dn σ H => ∃ (Hs : Hp) (ρ : Rho) (fl : Fl), SEnv K μ Hs0 H0 Hs H σ ρ ∧ g ρ = some fl ∧ After K μ Hs0 H0 Hs Dn fl
theorem After.base {K : PySem.W.Frag} {μ : List Addr} {Hs0 H0 Hb Hc : Hp} {Dn : Ends} (s : Same Hb Hc) : ∀ {fl : Fl}, After K μ Hs0 H0 Hb Dn fl → After K μ Hs0 H0 Hc Dn fl
  | .nx _, k => fun σ H Hs S z => k σ H Hs S (s.trans z)
  | .bk _, k => fun σ H Hs S z => k σ H Hs S (s.trans z)
  | .ct _, k => fun σ H Hs S z => k σ H Hs S (s.trans z)
  | .rt _, k => k
section
variable {K : PySem.W.Frag} {μ : List Addr} {Hs0 H0 Hs H : Hp} {σ : St} {ρ : Rho}
theorem SEnv.sub (S : SEnv K μ Hs0 H0 Hs H σ ρ) : Same Hs H := S.ext.sub
/-- more objects beside; the part too -/
theorem SEnv.more {Hs' H' : Hp} (S : SEnv K μ Hs0 H0 Hs H σ ρ) (x : Ext Hs H Hs' H') : SEnv K μ Hs0 H0 Hs' H' σ ρ := by
  refine ⟨S.ext.trans x, S.env.mono x.part, fun i ds h => ?_, S.one⟩
  obtain ⟨a, vs, h1, h2, h3, h4, h5⟩ := S.own i ds h
  refine ⟨a, vs, h1, x.all _ _ h2, ?_, h4, h5.mono x.part⟩
  cases q : Hs' a with
  | none => rfl
  | some o =>
    rcases x.new a o q with z | z
    · rw [h3] at z; cases z
    · rw [h2] at z; cases z
theorem SEnv.side {H' : Hp} (S : SEnv K μ Hs0 H0 Hs H σ ρ) (x : Same H H') : SEnv K μ Hs0 H0 Hs H' σ ρ := S.more (Ext.side S.sub x)
/-- a slot is set to data -/
theorem SEnv.put (S : SEnv K μ Hs0 H0 Hs H σ ρ) {v : V} {d : D} (r : Rp K μ Hs v d) (i : Nat) : SEnv K μ Hs0 H0 Hs H (σ.set i (some v)) (ρ.set i (.val d)) := by
  have no : ∀ j ds, (ρ.set i (.val d))[j]? = some (.own ds) → j ≠ i ∧ ρ[j]? = some (.own ds) := fun j ds h => by
    by_cases hij : j = i
    · subst hij
      by_cases hl : j < ρ.length
      · rw [List.getElem?_set_self hl] at h; cases h
      · rw [List.getElem?_eq_none (by simpa using hl)] at h; cases h
    · exact ⟨hij, by rw [get_set_ne' hij] at h; exact h⟩
  refine ⟨S.ext, paired_set ⟨v, rfl, r⟩ i S.env, fun j ds h => ?_, fun j k ds es a hjk h1 h2 h3 => ?_⟩
  · obtain ⟨n1, n2⟩ := no j ds h
    rw [get_set_ne' n1]
    exact S.own j ds n2
  · obtain ⟨n1, n2⟩ := no j ds h1
    obtain ⟨m1, m2⟩ := no k es h2
    rw [get_set_ne' n1] at h3
    rw [get_set_ne' m1]
    exact S.one j k ds es a hjk n2 m2 h3
/-- several slots are set to data -/
theorem SEnv.puts {g : TG} {set : D → Rho → Option Rho} {vs : List Nat} (T : TgD K g set vs) (S : SEnv K μ Hs0 H0 Hs H σ ρ) {d : D} {ρ' : Rho} {σ' : St} (e : set d ρ = some ρ') (env : VEnv K μ Hs σ' ρ') (keep : ∀ i, i ∉ vs → σ'[i]? = σ[i]?)
    (hv : ∀ i ds, i ∈ vs → ρ'[i]? ≠ some (.own ds)) : SEnv K μ Hs0 H0 Hs H σ' ρ' := by
  have no : ∀ j ds, ρ'[j]? = some (.own ds) → j ∉ vs ∧ ρ[j]? = some (.own ds) := fun j ds h => by
    by_cases hj : j ∈ vs
    · exact absurd h (hv j ds hj)
    · exact ⟨hj, by rw [← T.keep _ _ _ e j hj]; exact h⟩
  refine ⟨S.ext, env, fun j ds h => ?_, fun j k ds es a hjk h1 h2 h3 => ?_⟩
  · obtain ⟨n1, n2⟩ := no j ds h
    rw [keep j n1]
    exact S.own j ds n2
  · obtain ⟨n1, n2⟩ := no j ds h1
    obtain ⟨m1, m2⟩ := no k es h2
    rw [keep j n1] at h3
    rw [keep k m1]
    exact S.one j k ds es a hjk n2 m2 h3
/-- the lists that the def fills, as data to read -/
def shw : Rho → Rho := List.map fun x => match x with
  | .own ds => .val (.lst ds)
  | x => x
theorem SEnv.show_ (S : SEnv K μ Hs0 H0 Hs H σ ρ) : ∃ Hs', Ext Hs H Hs H ∧ Same Hs Hs' ∧ Same Hs' H ∧ Ext Hs0 H0 Hs' H ∧ VEnv K μ Hs' σ (shw ρ) := by
  classical
  let P : Addr → Prop := fun b => ∃ (i : Nat) (ds : List D), ρ[i]? = some (Sl.own ds) ∧ σ[i]? = some (some (V.ref b))
  have hP : ∀ b, P b → (∃ vs, H b = some (.lst vs)) ∧ Hs b = none ∧ H0 b = none := fun b ⟨i, ds, h1, h2⟩ => by
    obtain ⟨a, vs, q1, q2, q3, q4, q5⟩ := S.own i ds h1
    rw [q1] at h2
    cases h2
    exact ⟨⟨vs, q2⟩, q3, q4⟩
  refine ⟨fun b => if P b then H b else Hs b, Ext.refl S.sub, fun b o h => ?_, fun b o h => ?_, ⟨S.ext.all, fun b o h => ?_, fun b o h => ?_, fun b o h => ?_⟩, ?_⟩
  · show (if P b then H b else Hs b) = some o
    by_cases hb : P b
    · rw [(hP b hb).2.1] at h; cases h
    · rw [if_neg hb]; exact h
  · have h' : (if P b then H b else Hs b) = some o := h
    by_cases hb : P b
    · rw [if_pos hb] at h'; exact h'
    · rw [if_neg hb] at h'; exact S.sub _ _ h'
  · show (if P b then H b else Hs b) = some o
    have h2 := S.ext.part _ _ h
    by_cases hb : P b
    · rw [(hP b hb).2.1] at h2; cases h2
    · rw [if_neg hb]; exact h2
  · have h' : (if P b then H b else Hs b) = some o := h
    by_cases hb : P b
    · rw [if_pos hb] at h'; exact h'
    · rw [if_neg hb] at h'; exact S.sub _ _ h'
  · have h' : (if P b then H b else Hs b) = some o := h
    by_cases hb : P b
    · exact .inr (hP b hb).2.2
    · rw [if_neg hb] at h'; exact S.ext.new _ _ h'
  · have mono : Same Hs (fun b => if P b then H b else Hs b) := fun b o h => by
      show (if P b then H b else Hs b) = some o
      by_cases hb : P b
      · rw [(hP b hb).2.1] at h; cases h
      · rw [if_neg hb]; exact h
    have gen : ∀ (σ' : St) (ρ' : Rho) (k : Nat), (∀ i x, ρ'[i]? = some x → ρ[k + i]? = some x) → (∀ i x, σ'[i]? = some x → σ[k + i]? = some x) → VEnv K μ Hs σ' ρ' → VEnv K μ (fun b => if P b then H b else Hs b) σ' (shw ρ') := by
      intro σ' ρ'
      induction ρ' generalizing σ' with
      | nil => intro k _ _ e; cases e; exact .nil
      | cons x ρ' ih =>
        intro k h1 h2 e
        cases e with
        | @cons ov _ σ'' _ e1 e2 =>
          refine .cons ?_ (ih _ (k + 1) (fun i y hy => ?_) (fun i y hy => ?_) e2)
          · cases x with
            | val d => exact e1.mono mono
            | raw v => exact e1
            | junk => trivial
            | exc _ _ _ => exact e1.mono mono
            | own ds =>
              have q0 := h1 0 (.own ds) rfl
              obtain ⟨a, vs, q1, q2, q3, q4, q5⟩ := S.own k ds q0
              have q6 : σ[k]? = some ov := h2 0 ov rfl
              rw [q1] at q6
              cases q6
              refine ⟨.ref a, rfl, .lst (xs := vs) ?_ (q5.mono mono)⟩
              show (if P a then H a else Hs a) = some (.lst vs)
              rw [if_pos ⟨k, ds, q0, q1⟩]
              exact q2
          · rw [show k + 1 + i = k + (i + 1) by omega]
            exact h1 (i + 1) y (by simpa using hy)
          · rw [show k + 1 + i = k + (i + 1) by omega]
            exact h2 (i + 1) y (by simpa using hy)
    exact gen σ ρ 0 (fun i x h => by rw [Nat.zero_add]; exact h) (fun i x h => by rw [Nat.zero_add]; exact h) S.env
end

/-! ### the statements as functions of the slots -/
def nilG : Gs := fun ρ => some (.nx ρ)
def seqG (g1 g2 : Gs) : Gs := fun ρ => match g1 ρ with
  | some (.nx ρ') => g2 ρ'
  | o => o
def retG (f : F) : Gs := fun ρ => b1 (f (shw ρ)) fun d => some (.rt d)
def retN : Gs := fun _ => some (.rt .non)
def ifG (c : Ft) (g1 g2 : Gs) : Gs := fun ρ => b1 (c (shw ρ)) fun b => if b = true then g1 ρ else g2 ρ
def D.sca : D → Bool
  | .non => true | .bool _ => true | .int _ => true | .str _ => true
  | _ => false
/-- the value of an expression: what only reads, else a plain value -/
def evG (f : F) (ρ : Rho) : Option D := match f ρ with
  | some d => some d
  | none => match f (shw ρ) with
    | some d => if d.sca = true then some d else none
    | none => none
def asgG (set : D → Rho → Option Rho) (f : F) : Gs := fun ρ => b1 (evG f ρ) fun d => b1 (set d ρ) fun ρ' => some (.nx ρ')
def newG (i : Nat) (fs : Fs) : Gs := fun ρ => b1 (fs ρ) fun ds => if ds.length ≤ sizeLine then some (.nx (ρ.set i (.own ds))) else none
def dropG (f : F) : Gs := fun ρ => b1 (f (shw ρ)) fun _ => some (.nx ρ)
def appG (i : Nat) (f : F) : Gs := fun ρ => match ρ[i]? with
  | some (.own ds) => b1 (evG f ρ) fun d => if ds.length < sizeLine then some (.nx (ρ.set i (.own (ds ++ [d])))) else none
  | _ => none
def brkG : Gs := fun ρ => some (.bk ρ)
def cntG : Gs := fun ρ => some (.ct ρ)
def forGo (T : D → Rho → Option Fl) : List D → Gs
  | [] => fun ρ => some (.nx ρ)
  | d :: ds => fun ρ => match T d ρ with
    | some (.nx ρ') => forGo T ds ρ'
    | some (.ct ρ') => forGo T ds ρ'
    | some (.bk ρ') => some (.nx ρ')
    | some (.rt d) => some (.rt d)
    | none => none
def turnG (set : D → Rho → Option Rho) (g : Gs) : D → Rho → Option Fl := fun d ρ => b1 (set d ρ) g
def forG (fi : Fs) (set : D → Rho → Option Rho) (g : Gs) : Gs := fun ρ => b1 (fi ρ) fun ds => forGo (turnG set g) ds ρ
def whlGo (c : Ft) (g : Gs) : Nat → Gs
  | 0 => fun _ => none
  | n + 1 => fun ρ => b1 (c (shw ρ)) fun b => if b = true then match g ρ with
    | some (.nx ρ') => whlGo c g n ρ'
    | some (.ct ρ') => whlGo c g n ρ'
    | some (.bk ρ') => some (.nx ρ')
    | some (.rt d) => some (.rt d)
    | none => none
    else some (.nx ρ)

section
variable {X : Cx} {μ : List Addr} {Hs0 H0 : Hp} {e a b c tg iter o : Expr} {es : List Expr} {st : Stmt} {rest body : List Stmt} {f : F} {fs fi : Fs} {ft : Ft} {g g1 g2 : Gs} {pos p2 p3 apos : Pos}
theorem pg_nil : PSs X [] (tS X.K μ Hs0 H0 nilG) := pss_imp pss_nil fun Dn σ H ⟨Hs, ρ, fl, S, e, k⟩ => by cases e; exact k _ _ _ S (Same.refl _)
theorem pg_cons (h1 : PS X st (tS X.K μ Hs0 H0 g1)) (h2 : PSs X rest (tS X.K μ Hs0 H0 g2)) : PSs X (st :: rest) (tS X.K μ Hs0 H0 (seqG g1 g2)) := by
  refine pss_imp (pss_cons h1 h2) fun Dn σ H ⟨Hs, ρ, fl, S, e, k⟩ => ?_
  have e' : (match g1 ρ with | some (.nx ρ') => g2 ρ' | o => o) = some fl := e
  cases q : g1 ρ with
  | none => rw [q] at e'; cases e'
  | some f1 =>
    rw [q] at e'
    refine ⟨Hs, ρ, f1, S, q, ?_⟩
    cases f1 with
    | nx ρ' => exact fun σ' H' Hs' S' s' => ⟨Hs', ρ', fl, S', e', k.base s'⟩
    | bk ρ' => cases e'; exact k
    | ct ρ' => cases e'; exact k
    | rt d => cases e'; exact k
theorem pg_one (h1 : PS X st (tS X.K μ Hs0 H0 g1)) : PSs X [st] (tS X.K μ Hs0 H0 g1) := pss_one h1
theorem pg_ret (he : PE X e (tD X.K f)) : PS X (.Return (some e) pos) (tS X.K μ Hs0 H0 (retG f)) := by
  refine ps_imp (ps_ret he) fun Dn σ H ⟨Hs, ρ, fl, S, e, k⟩ => ?_
  obtain ⟨d, e1, e2⟩ := b1_eq e
  cases e2
  obtain ⟨Hs', _, s1, s2, x, env⟩ := S.show_
  exact ⟨μ, Hs', _, d, s2, env, e1, fun v H' Hs2 x2 r => k v H' Hs2 (x.trans x2) r⟩
theorem pg_retN : PS X (.Return none pos) (tS X.K μ Hs0 H0 retN) := ps_imp ps_retN fun Dn σ H ⟨Hs, ρ, fl, S, e, k⟩ => by cases e; exact k _ _ _ S.ext .non
theorem pg_if {tb : List Stmt} (hc : PT X c (tDT X.K ft)) (h1 : PSs X body (tS X.K μ Hs0 H0 g1)) (h2 : PSs X tb (tS X.K μ Hs0 H0 g2)) : PS X (.If c body tb pos) (tS X.K μ Hs0 H0 (ifG ft g1 g2)) := by
  refine ps_imp (ps_if hc h1 h2) fun Dn σ H ⟨Hs, ρ, fl, S, e, k⟩ => ?_
  obtain ⟨b, e1, e2⟩ := b1_eq e
  obtain ⟨Hs', _, s1, s2, x, env⟩ := S.show_
  refine ⟨μ, Hs', _, b, s2, env, e1, fun H' x2 => ?_⟩
  cases b with
  | true => exact iteT ⟨Hs, ρ, fl, S.side x2, e2, k⟩
  | false => exact iteF ⟨Hs, ρ, fl, S.side x2, e2, k⟩
/-- an expression's value where a def fills lists -/
theorem ev_run (S : SEnv X.K μ Hs0 H0 Hs H σ ρ) {d : D} (e : evG f ρ = some d) {Q : VK} (k : ∀ v H' Hs', Ext Hs H Hs' H' → Rp X.K μ Hs' v d → Q v H') : tD X.K f σ H Q := by
  unfold evG at e
  cases q : f ρ with
  | some d' => rw [q] at e; cases e; exact ⟨μ, Hs, ρ, _, S.sub, S.env, q, k⟩
  | none =>
    rw [q] at e
    cases q2 : f (shw ρ) with
    | none => rw [q2] at e; cases e
    | some d' =>
      rw [q2] at e
      have e' : (if D.sca d' = true then some d' else none) = some d := e
      obtain ⟨h1, h2⟩ := ite_some e'
      cases h2
      obtain ⟨Hs', _, s1, s2, x, env⟩ := S.show_
      refine ⟨μ, Hs', _, _, s2, env, q2, fun v H' Hs2 x2 r => k v H' Hs (Ext.side S.sub x2.all) ?_⟩
      cases r with
      | non => exact .non
      | bool _ => exact .bool _
      | int _ => exact .int _
      | str _ => exact .str _
      | _ => exact absurd h1 Bool.false_ne_true
theorem pg_set {gt : TG} {set : D → Rho → Option Rho} {vs : List Nat} (T : TgD X.K gt set vs) (he : PE X e (tD X.K f)) (hg : PG X tg gt) (hs : swapsWithSole [tg] e pos.line X.env = pure false := by rfl) (hw : swappedStores [tg] e X.env = pure none := by rfl)
    (hv : ∀ d ρ ρ' i ds, set d ρ = some ρ' → i ∈ vs → ρ'[i]? ≠ some (.own ds)) (h1 : (assignEach [tg] X.env).map (·.2) = [assign tg X.env] := by rfl) : PS X (.Assign [tg] e pos) (tS X.K μ Hs0 H0 (asgG set f)) := by
  refine ps_imp (ps_asg he hg hs hw h1) fun Dn σ H ⟨Hs, ρ, fl, S, e, k⟩ => ?_
  obtain ⟨d, e1, e2⟩ := b1_eq e
  obtain ⟨ρ', e3, e4⟩ := b1_eq e2
  cases e4
  refine ev_run S e1 fun v H' Hs' x r => ?_
  have S' := S.more x
  exact T.run _ Hs' H' σ ρ d ρ' v _ x.sub S'.env e3 r fun σ' env' hl hk => k _ _ Hs' (S'.puts T e3 env' hk fun i ds hi => hv d ρ ρ' i ds e3 hi) x.part
theorem hv_1 (i : Nat) : ∀ d ρ ρ' j ds, st1 i d ρ = some ρ' → j ∈ [i] → ρ'[j]? ≠ some (.own ds) := fun d ρ ρ' j ds e hj h => by
  cases e
  have hj' : j = i := by simpa using hj
  subst hj'
  by_cases hl : j < ρ.length
  · rw [List.getElem?_set_self hl] at h; cases h
  · rw [List.getElem?_eq_none (by simpa using hl)] at h; cases h
theorem set_val_self {ρ : Rho} {i : Nat} {d : D} {ds : List D} : (ρ.set i (.val d))[i]? ≠ some (.own ds) := fun h => by
  by_cases hl : i < ρ.length
  · rw [List.getElem?_set_self hl] at h; cases h
  · rw [List.getElem?_eq_none (by simpa using hl)] at h; cases h
theorem set_val_no {ρ : Rho} {i j : Nat} {d : D} {ds : List D} (n : ρ[j]? ≠ some (.own ds)) : (ρ.set i (.val d))[j]? ≠ some (.own ds) := fun h => by
  by_cases hij : j = i
  · subst hij; exact set_val_self h
  · rw [get_set_ne' hij] at h; exact n h
theorem hv_2 (i j : Nat) : ∀ d ρ ρ' m ds, st2 i j d ρ = some ρ' → m ∈ [i, j] → ρ'[m]? ≠ some (.own ds) := fun d ρ ρ' m ds e hm => by
  unfold st2 at e
  split at e
  · cases e
    simp only [List.mem_cons, List.not_mem_nil, or_false] at hm
    rcases hm with rfl | rfl
    · exact set_val_no set_val_self
    · exact set_val_self
  · cases e
theorem hv_3 (i j l : Nat) : ∀ d ρ ρ' m ds, st3 i j l d ρ = some ρ' → m ∈ [i, j, l] → ρ'[m]? ≠ some (.own ds) := fun d ρ ρ' m ds e hm => by
  unfold st3 at e
  split at e
  · cases e
    simp only [List.mem_cons, List.not_mem_nil, or_false] at hm
    rcases hm with rfl | rfl | rfl
    · exact set_val_no (set_val_no set_val_self)
    · exact set_val_no set_val_self
    · exact set_val_self
  · cases e
theorem pg_asg (i : Nat) {x : Str} {pos' : Pos} (hN : X.N.Nodup) (he : PE X e (tD X.K f)) (hi : X.N[i]? = some x := by rfl) (hx : Loc X.env.scope x := by first | exact .inl rfl | exact .inr rfl) (hf : X.fn x = true ∨ X.env.scope.names.lookup x = some .local := by first | exact .inl rfl | exact .inr rfl)
    (hs : swapsWithSole [.Name x pos'] e pos.line X.env = pure false := by rfl) (hw : swappedStores [.Name x pos'] e X.env = pure none := by rfl) :
    PS X (.Assign [.Name x pos'] e pos) (tS X.K μ Hs0 H0 (asgG (st1 i) f)) := pg_set (tg_1 i) he (pg_name hN hi hx hf) hs hw (hv_1 i)
/-- x = [..], a list that the def fills -/
theorem pg_new (i : Nat) {x : Str} {pos' : Pos} (hN : X.N.Nodup) (ha : PA X es (tDs X.K fs)) (hi : X.N[i]? = some x := by rfl) (hx : Loc X.env.scope x := by first | exact .inl rfl | exact .inr rfl) (hf : X.fn x = true ∨ X.env.scope.names.lookup x = some .local := by first | exact .inl rfl | exact .inr rfl)
    (hs : swapsWith (.List es p2) (some (.Name x pos')) pos.line X.env = pure false := by rfl) : PS X (.Assign [.Name x pos'] (.List es p2) pos) (tS X.K μ Hs0 H0 (newG i fs)) := by
  refine ps_imp (ps_set hN hi hx (pe_lst ha) hs hf) fun Dn σ H ⟨Hs, ρ, fl, S, e, k⟩ => ?_
  obtain ⟨ds, e1, e2⟩ := b1_eq e
  obtain ⟨hz, rfl⟩ := ite_some e2
  refine ⟨μ, Hs, ρ, ds, S.sub, S.env, e1, fun vs H1 Hs1 x1 r1 => ⟨by rw [r1.len]; exact hz, fun p hp => ?_⟩⟩
  have S1 := S.more x1
  have sp : Same H1 (upd H1 p (.lst vs)) := (Ext.made (Same.refl H1) hp).all
  have S2 := S1.side sp
  have hp0 : Hs1 p = none := x1.sub.free hp
  refine k _ _ Hs1 ⟨S2.ext, paired_set trivial i S2.env, fun j ds' h => ?_, fun j l ds' es' a hjl h1 h2 h3 => ?_⟩ x1.part
  · by_cases hj : j = i
    · subst hj
      by_cases hl : j < ρ.length
      · rw [List.getElem?_set_self hl] at h
        cases h
        have hls : j < σ.length := by rw [Paired.length S.env]; exact hl
        exact ⟨p, vs, List.getElem?_set_self hls, upd_same, hp0, S1.ext.all.free hp, r1⟩
      · rw [List.getElem?_eq_none (by simpa using hl)] at h; cases h
    · rw [get_set_ne' hj] at h ⊢
      exact S2.own j ds' h
  · have fresh : ∀ (m : Nat) (es : List D), ρ[m]? = some (Sl.own es) → σ[m]? ≠ some (some (V.ref p)) := fun m es hm hq => by
      obtain ⟨a', vs', q1, q2, _⟩ := S1.own m es hm
      rw [hq] at q1
      cases q1
      rw [hp] at q2
      cases q2
    by_cases hj : j = i
    · subst hj
      have hl' : l ≠ j := fun z => hjl z.symm
      rw [get_set_ne' hl'] at h2 ⊢
      by_cases hl : j < σ.length
      · rw [List.getElem?_set_self hl] at h3
        cases h3
        exact fresh l es' h2
      · rw [List.getElem?_eq_none (by simpa using hl)] at h3; cases h3
    · by_cases hl : l = i
      · subst hl
        rw [get_set_ne' hj] at h1 h3
        intro q
        by_cases hll : l < σ.length
        · rw [List.getElem?_set_self hll] at q
          cases q
          exact fresh j ds' h1 h3
        · rw [List.getElem?_eq_none (by simpa using hll)] at q; cases q
      · rw [get_set_ne' hj] at h1 h3
        rw [get_set_ne' hl] at h2 ⊢
        exact S2.one j l ds' es' a hjl h1 h2 h3
theorem pg_drop (he : PE X e (tD X.K f)) (hs : swapsWith e none pos.line X.env = pure false := by rfl) : PS X (.Expr e pos) (tS X.K μ Hs0 H0 (dropG f)) := by
  refine ps_imp (ps_expr he hs) fun Dn σ H ⟨Hs, ρ, fl, S, e, k⟩ => ?_
  obtain ⟨d, e1, e2⟩ := b1_eq e
  cases e2
  obtain ⟨Hs', _, s1, s2, x, env⟩ := S.show_
  exact ⟨μ, Hs', _, d, s2, env, e1, fun v H' Hs2 x2 r => k _ _ Hs (S.side x2.all) (Same.refl _)⟩
theorem pg_doc {x : Str} {j p} : PS X (.Expr (.Constant (.str x) j p) pos) (tS X.K μ Hs0 H0 nilG) := ps_imp ps_doc fun Dn σ H ⟨Hs, ρ, fl, S, e, k⟩ => by cases e; exact k _ _ _ S (Same.refl _)
theorem pg_pass : PS X (.Pass pos) (tS X.K μ Hs0 H0 nilG) := ps_imp ps_pass fun Dn σ H ⟨Hs, ρ, fl, S, e, k⟩ => by cases e; exact k _ _ _ S (Same.refl _)
theorem pg_break : PS X (.Break pos) (tS X.K μ Hs0 H0 brkG) := ps_imp ps_break fun Dn σ H ⟨Hs, ρ, fl, S, e, k⟩ => by cases e; exact k _ _ _ S (Same.refl _)
theorem pg_cont : PS X (.Continue pos) (tS X.K μ Hs0 H0 cntG) := ps_imp ps_continue fun Dn σ H ⟨Hs, ρ, fl, S, e, k⟩ => by cases e; exact k _ _ _ S (Same.refl _)
/-- a filled list's object is changed -/
theorem SEnv.write {Hs H : Hp} {σ : St} {ρ : Rho} (S : SEnv X.K μ Hs0 H0 Hs H σ ρ) {i : Nat} {ds ds' : List D} {a : Addr} {vs' : List V} (h : ρ[i]? = some (.own ds)) (ha : σ[i]? = some (some (.ref a))) (r : RpA X.K μ Hs vs' ds') :
    SEnv X.K μ Hs0 H0 Hs (upd H a (.lst vs')) σ (ρ.set i (.own ds')) := by
  obtain ⟨a', vs, q1, q2, q3, q4, q5⟩ := S.own i ds h
  rw [q1] at ha
  cases ha
  have sub : Same Hs (upd H a (.lst vs')) := fun b u hb => by
    rw [upd_ne (fun z => by subst z; rw [q3] at hb; cases hb)]
    exact S.sub _ _ hb
  have al : Same H0 (upd H a (.lst vs')) := fun b u hb => by
    rw [upd_ne (fun z => by subst z; rw [q4] at hb; cases hb)]
    exact S.ext.all _ _ hb
  have env : VEnv X.K μ Hs σ (ρ.set i (.own ds')) := by
    have e := paired_set (a := some (V.ref a)) (b := Sl.own ds') (F := VOk X.K μ Hs) trivial i S.env
    have e2 : σ.set i (some (V.ref a)) = σ := by
      refine List.ext_getElem? fun j => ?_
      by_cases hj : j = i
      · subst hj
        by_cases hl : j < σ.length
        · rw [List.getElem?_set_self hl, q1]
        · rw [List.getElem?_eq_none (by simpa using hl), List.getElem?_eq_none (by simpa using hl)]
      · rw [get_set_ne' hj]
    rw [e2] at e
    exact e
  refine ⟨⟨al, S.ext.part, sub, S.ext.new⟩, env, fun j es hj => ?_, fun j l es es' b hjl h1 h2 h3 => ?_⟩
  · by_cases hji : j = i
    · subst hji
      by_cases hl : j < ρ.length
      · rw [List.getElem?_set_self hl] at hj
        cases hj
        exact ⟨a, vs', q1, upd_same, q3, q4, r⟩
      · rw [List.getElem?_eq_none (by simpa using hl)] at hj; cases hj
    · rw [get_set_ne' hji] at hj
      obtain ⟨b, us, w1, w2, w3, w4, w5⟩ := S.own j es hj
      have nb : b ≠ a := fun z => by
        subst z
        exact S.one j i es ds _ hji hj h w1 q1
      exact ⟨b, us, w1, by rw [upd_ne nb]; exact w2, w3, w4, w5⟩
  · have back : ∀ (m : Nat) (es : List D), (ρ.set i (Sl.own ds'))[m]? = some (Sl.own es) → ∃ es' : List D, ρ[m]? = some (Sl.own es') := fun m es hm => by
      by_cases hmi : m = i
      · subst hmi; exact ⟨ds, h⟩
      · rw [get_set_ne' hmi] at hm; exact ⟨es, hm⟩
    obtain ⟨_, z1⟩ := back j es h1
    obtain ⟨_, z2⟩ := back l es' h2
    exact S.one j l _ _ b hjl z1 z2 h3
theorem pg_app (i : Nat) {x : Str} {cpos p1 : Pos} (he : PE X e (tD X.K f)) (hi : X.N[i]? = some x := by rfl) (hx : Vis X.env.scope x := by first | exact .inl rfl | exact .inr (.inl rfl) | exact .inr (.inr rfl)) (hd : (x == ("__debug__" : Str)) = false := by decide) (hcd : (x == ("__classdict__" : Str)) = false := by decide)
    (hbase : attributeBase (.Name x p1) "append" X.env (eval (.Name x p1) X.env) = eval (.Name x p1) X.env := by rfl)
    (hfew : ((backTo cpos (starEach [e] X.env)).all (fun x => !x.1) && (backToKw cpos (keywordEach [] X.env)).all (fun x => x.1.isSome) && decide ([e].length + ([] : List Keyword).length + (if ([] : List Keyword).isEmpty then 0 else 1) < 30)) = true := by rfl)
    (hline : (apos.endLine == cpos.line) = true := by rfl) (hs : starEach [e] X.env = (false, eval e X.env) :: starEach [] X.env := by rfl) (hplain : (backTo cpos (starEach [] X.env)).any (·.1) = false := by rfl)
    (hsw : swapsWith (.Call (.Attribute (.Name x p1) "append" apos) [e] [] cpos) none pos.line X.env = pure false := by rfl) :
    PS X (.Expr (.Call (.Attribute (.Name x p1) "append" apos) [e] [] cpos) pos) (tS X.K μ Hs0 H0 (appG i f)) := by
  refine ps_imp (ps_expr (pe_bm PySem.F.plainAttrs_list PySem.F.slot_list_append PySem.F.type_list_append mt_append (pe_var hi hx hd hcd) (pa_cons he pa_nil hs) hbase hfew hline hs hplain) hsw) fun Dn σ H ⟨Hs, ρ, fl, S, e, k⟩ => ?_
  unfold appG at e
  cases q : ρ[i]? with
  | none => rw [q] at e; cases e
  | some sl =>
    rw [q] at e
    cases sl with
    | own ds =>
      obtain ⟨d, e1, e2⟩ := b1_eq e
      obtain ⟨hz, rfl⟩ := ite_some e2
      obtain ⟨a, vs, q1, q2, q3, q4, q5⟩ := S.own i ds q
      refine ⟨_, q1, .inl ⟨rfl, _, SqL.of q2⟩, ?_⟩
      refine ev_run S e1 fun v H' Hs' x r => ?_
      refine ⟨a, vs, v, rfl, rfl, x.all _ _ q2, by rw [q5.len]; exact hz, ?_⟩
      exact k _ _ Hs' ((S.more x).write q q1 ((q5.mono x.part).snoc r)) x.part
    | _ => cases e
theorem pg_for {gt : TG} {set : D → Rho → Option Rho} {vs : List Nat} (T : TgD X.K gt set vs) (hp : PassesOwn (model X.prog X.w) X.A X.env X.xe) (hc : X.calm = true) (hi : PI X tg iter (tDI X.K fi)) (hg : PG X tg gt) (hb : PSs X body (tS X.K μ Hs0 H0 g))
    (hv : ∀ d ρ ρ' i ds, set d ρ = some ρ' → i ∈ vs → ρ'[i]? ≠ some (.own ds)) (hs : ∀ x, foldedSetIterable iter X.env x = pure x := by intro _; rfl) : PS X (.For tg iter body [] pos) (tS X.K μ Hs0 H0 (forG fi set g)) := by
  refine ps_imp (ps_for hp hc hi hg hb hs) fun Dn σ H ⟨Hs, ρ, fl, S, e, k⟩ => ?_
  obtain ⟨ds, e1, e2⟩ := b1_eq e
  refine ⟨μ, Hs, ρ, ds, S.sub, S.env, e1, fun J H1 Hs1 x1 wk => ?_⟩
  refine ⟨fun i m σ2 H2 => m = ds.length - i ∧ i ≤ ds.length ∧ ∃ Hs2 ρ2, SEnv X.K μ Hs0 H0 Hs2 H2 σ2 ρ2 ∧ Same Hs1 Hs2 ∧ forGo (turnG set g) (ds.drop i) ρ2 = some fl, ⟨_, rfl, Nat.zero_le _, Hs1, ρ, S.more x1, Same.refl _, by simpa using e2⟩, ?_⟩
  rintro i m σ2 H2 ⟨rfl, hi2, Hs2, ρ2, S2, s2, e3⟩
  by_cases hlt : i < ds.length
  · obtain ⟨d0, hd0⟩ : ∃ d0, ds[i]? = some d0 := ⟨ds[i], by simp [hlt]⟩
    have hdrop : ds.drop i = d0 :: ds.drop (i + 1) := by
      rw [List.drop_eq_getElem_cons hlt]
      rw [List.getElem?_eq_getElem hlt] at hd0
      cases hd0
      rfl
    rw [hdrop] at e3
    refine .inr ⟨wk.go i H2 (s2.trans S2.sub) hlt, fun σ3 H3 => ∃ Hs3 ρ3, SEnv X.K μ Hs0 H0 Hs3 H3 σ3 ρ3 ∧ Same Hs1 Hs3 ∧ forGo (turnG set g) (ds.drop (i + 1)) ρ3 = some fl, fun σ' H' h => ⟨_, by omega, rfl, hlt, h⟩, fun x H3 hy => ?_⟩
    obtain ⟨Hs3, x3, r3⟩ := wk.yld i H2 Hs2 x H3 s2 S2.sub hy d0 hd0
    have S3 := S2.more x3
    have e4 : (match turnG set g d0 ρ2 with
      | some (.nx ρ') => forGo (turnG set g) (ds.drop (i + 1)) ρ'
      | some (.ct ρ') => forGo (turnG set g) (ds.drop (i + 1)) ρ'
      | some (.bk ρ') => some (.nx ρ')
      | some (.rt d) => some (.rt d)
      | none => none) = some fl := e3
    cases q : turnG set g d0 ρ2 with
    | none => rw [q] at e4; cases e4
    | some f1 =>
      rw [q] at e4
      obtain ⟨ρ', g1, g2⟩ := b1_eq q
      refine T.run _ Hs3 H3 σ2 ρ2 d0 ρ' x _ x3.sub S3.env g1 r3 fun σ' env' hl hk => ?_
      have S4 := S3.puts T g1 env' hk fun i ds hi => hv d0 ρ2 ρ' i ds g1 hi
      refine ⟨Hs3, ρ', f1, S4, g2, ?_⟩
      have s3 : Same Hs1 Hs3 := s2.trans x3.part
      cases f1 with
      | nx ρ5 => exact fun σ5 H5 Hs5 S5 s5 => ⟨_, _, S5, s3.trans s5, e4⟩
      | ct ρ5 => exact fun σ5 H5 Hs5 S5 s5 => ⟨_, _, S5, s3.trans s5, e4⟩
      | bk ρ5 => cases e4; exact fun σ5 H5 Hs5 S5 s5 => k σ5 H5 Hs5 S5 (x1.part.trans (s3.trans s5))
      | rt d => cases e4; exact k
  · have e5 : i = ds.length := by omega
    subst e5
    rw [List.drop_length] at e3
    cases e3
    exact .inl ⟨wk.stop _ H2 (s2.trans S2.sub) (Nat.le_refl _), k _ _ _ S2 (x1.part.trans s2)⟩
end
end Pd

/-! Pd5: defs and calls. -/
namespace Pd
open PySem PySem.Spec L2 SkE
open PyProof.Rows hiding St

/-- a def that is a function of data -/
def spD (K : PySem.W.Frag) (fh : List D → Option D) : Sp := fun vs H Q _ => ∃ (μ : List Addr) (Hs : Hp) (ds : List D) (d : D), Same Hs H ∧ RpA K μ Hs vs ds ∧ fh ds = some d ∧ ∀ v H' Hs', Ext Hs H Hs' H' → Rp K μ Hs' v d → Q v H'
def rho0 (N : List Str) (ds : List D) : Rho := ds.map Sl.val ++ List.replicate (N.length - ds.length) .junk
def runG (g : Gs) (N : List Str) (ds : List D) : Option D := match g (rho0 N ds) with
  | some (.rt d) => some d
  | some (.nx _) => some .non
  | _ => none
theorem vals_env {K : PySem.W.Frag} {μ : List Addr} {H : Hp} (n : Nat) : ∀ {ds : List D} {vs : List V}, RpA K μ H vs ds → VEnv K μ H (vs.map some ++ List.replicate n none) (ds.map Sl.val ++ List.replicate n .junk)
  | [], _, h => by
    cases h
    show Paired _ (List.replicate n none) (List.replicate n Sl.junk)
    induction n with
    | zero => exact .nil
    | succ n ih => rw [List.replicate_succ, List.replicate_succ]; exact .cons trivial ih
  | d :: ds, _, h => by
    cases h with
    | cons h1 h2 => exact .cons ⟨_, rfl, h1⟩ (vals_env n h2)
theorem rho0_no {N : List Str} {ds : List D} {i : Nat} {es : List D} : (rho0 N ds)[i]? ≠ some (.own es) := fun h => by
  unfold rho0 at h
  rw [List.getElem?_append] at h
  split at h
  · rw [List.getElem?_map] at h
    cases q : ds[i]? with
    | none => rw [q] at h; cases h
    | some d => rw [q] at h; cases h
  · rw [List.getElem?_replicate] at h
    split at h <;> cases h
section
variable {P : Program} {w : World} {K : PySem.W.Frag} {mg : Str → Option Value} {base : Heap}
theorem enter {Hs H : Hp} {N : List Str} {vs : List V} {ds : List D} {g : Gs} {d : D} {Q : VK} (s : Same Hs H) (r : RpA K μ Hs vs ds) (hl : runG g N ds = some d) (k : ∀ v H' Hs', Ext Hs H Hs' H' → Rp K μ Hs' v d → Q v H') :
    tS K μ Hs H g { nx := fun _ H' => Q .non H', rt := Q } (L2.start N vs) H := by
  have S : SEnv K μ Hs H Hs H (L2.start N vs) (rho0 N ds) := by
    refine ⟨Ext.refl s, ?_, fun i es h => absurd h rho0_no, fun i j es es' a _ h => absurd h rho0_no⟩
    unfold L2.start rho0
    rw [r.len]
    exact vals_env _ r
  unfold runG at hl
  cases q : g (rho0 N ds) with
  | none => rw [q] at hl; cases hl
  | some fl =>
    rw [q] at hl
    refine ⟨Hs, rho0 N ds, fl, S, q, ?_⟩
    cases fl with
    | nx ρ => cases hl; exact fun σ' H' Hs' S' _ => k _ _ Hs' S'.ext .non
    | rt d' => cases hl; exact fun v H' Hs' x r' => k v H' Hs' x r'
    | bk _ => cases hl
    | ct _ => cases hl
theorem okD {x qual : Str} {st : Stmt} {f : Addr} {fd : FuncData} {N ps : List Str} {k : Nat} {fh : List D → Option D} {g : Gs} (Fn : Fun K x qual st f fd) (S : FnScope N ps (defScope st))
    (body : ∀ (cdv : Value) (A : Around) (outer : List Env) (s : Shared) (H : Hp) (E : XK) (μ : List Addr) (Hs : Hp), Room k (A.deeper (envOfC qual (defScope st) s.heap.objs.size f cdv)) → PSs (cxOf CX0 P w K mg base N qual (defScope st) f cdv A outer s H E).nox (defBody st) (tS K μ Hs H g))
    (hg : ∀ ds d, fh ds = some d → ds.length = ps.length ∧ runG g N ds = some d) : FnOk P w K mg base CX0 (k + 1) f fd ps (spD K fh) := by
  refine Fn.ok S (fun vs H Q E h => ?_) (fun cdv A outer s H vs Q E hr h => ?_)
  · obtain ⟨μ, Hs, ds, d, _, r, e, _⟩ := h
    rw [r.len]
    exact (hg ds d e).1
  · obtain ⟨μ, Hs, ds, d, s1, r, e, kk⟩ := h
    exact ⟨_, body cdv A outer s H E μ Hs hr, enter s1 r (hg ds d e).2 kk⟩
end
section
variable {X : Cx} {e a b c tg iter o : Expr} {es : List Expr} {f : F} {fs fi : Fs} {pos p : Pos} {x : Str} {k : Nat} {fa : Addr} {fd : FuncData} {ps : List Str} {fh : List D → Option D}
theorem pd_call (Fn : FnOk X.prog X.w X.K X.mg X.base CX0 k fa fd ps (spD X.K fh)) (hr : Room k X.A) (hm : X.mg x = some (.ref fa)) (hk : PySem.W.keepIn X.K (.ref fa) = true) (hb : Binds X.K fd ps []) (ha : PA X (e :: es) (tDs X.K fs)) (hg : Gl X x := by rfl)
    (hdb : (x == ("__debug__" : Str)) = false := by decide) (he : starEach (e :: es) X.env = (false, eval e X.env) :: starEach es X.env := by rfl) (hpl : (backTo pos (starEach es X.env)).any (·.1) = false := by rfl) :
    PE X (.Call (.Name x p) (e :: es) [] pos) (tD X.K (fL fh fs)) := by
  refine pe_imp (pe_call (E := E0) Fn hr hg hm hk hb .nil pass0 ha hdb he hpl) fun σ H Q ⟨μ, Hs, ρ, d, s, env, e, k⟩ => ?_
  obtain ⟨ds, e1, e2⟩ := b1_eq e
  refine ⟨μ, Hs, ρ, ds, s, env, e1, fun vs H1 Hs1 x1 r1 => ?_⟩
  show spD X.K fh (vs ++ []) H1 Q E0
  rw [List.append_nil]
  exact ⟨μ, Hs1, ds, d, x1.sub, r1, e2, fun v H' Hs' x2 r2 => k v H' Hs' (x1.trans x2) r2⟩
theorem pd_call0 (Fn : FnOk X.prog X.w X.K X.mg X.base CX0 k fa fd ps (spD X.K fh)) (hr : Room k X.A) (hm : X.mg x = some (.ref fa)) (hk : PySem.W.keepIn X.K (.ref fa) = true) (hb : Binds X.K fd ps []) (hg : Gl X x := by rfl)
    (hdb : (x == ("__debug__" : Str)) = false := by decide) : PE X (.Call (.Name x p) [] [] pos) (tD X.K (fL fh fNil)) := by
  refine pe_imp (pe_call0 (E := E0) Fn hr hg hm hk hb .nil pass0 hdb) fun σ H Q ⟨μ, Hs, ρ, d, s, env, e, k⟩ => ?_
  exact ⟨μ, Hs, [], d, s, .nil, e, k⟩
end
/-- a def of the text as the top has left it, with what its call wants -/
structure Df (P : Program) (w : World) (K : PySem.W.Frag) (mg : Str → Option Value) (base : Heap) (k : Nat) (x : Str) (ps : List Str) (fh : List D → Option D) : Prop where
  ex : ∃ (fa : Addr) (fd : FuncData), FnOk P w K mg base CX0 k fa fd ps (spD K fh) ∧ mg x = some (.ref fa) ∧ PySem.W.keepIn K (.ref fa) = true ∧ Binds K fd ps []
section
variable {X : Cx} {e : Expr} {es : List Expr} {fs : Fs} {pos p : Pos} {x : Str} {k : Nat} {ps : List Str} {fh : List D → Option D}
theorem pd_df (C : Df X.prog X.w X.K X.mg X.base k x ps fh) (hr : Room k X.A) (ha : PA X (e :: es) (tDs X.K fs)) (hg : Gl X x := by rfl)
    (hdb : (x == ("__debug__" : Str)) = false := by decide) (he : starEach (e :: es) X.env = (false, eval e X.env) :: starEach es X.env := by rfl) (hpl : (backTo pos (starEach es X.env)).any (·.1) = false := by rfl) :
    PE X (.Call (.Name x p) (e :: es) [] pos) (tD X.K (fL fh fs)) := by
  obtain ⟨fa, fd, h1, h2, h3, h4⟩ := C.ex
  exact pd_call h1 hr h2 h3 h4 ha hg hdb he hpl
theorem pd_df0 (C : Df X.prog X.w X.K X.mg X.base k x ps fh) (hr : Room k X.A) (hg : Gl X x := by rfl) (hdb : (x == ("__debug__" : Str)) = false := by decide) : PE X (.Call (.Name x p) [] [] pos) (tD X.K (fL fh fNil)) := by
  obtain ⟨fa, fd, h1, h2, h3, h4⟩ := C.ex
  exact pd_call0 h1 hr h2 h3 h4 hg hdb
end
/-- the law's own promise -/
theorem law_sp {K : PySem.W.Frag} {fh : List D → Option D} (h : ∀ ns : List Int, ns.length ≤ 63 → fh [.scr ns] = some (.bool true)) (H : Hp) (a : Addr) (ns : List Int) (hl : ns.length ≤ 63) (hS : SqL K H a (ns.map V.int)) : spD K fh [.ref a] H (fun v _ => v = .bl true) fun _ _ _ => False :=
  ⟨[], H, [.scr ns], .bool true, Same.refl _, .cons (.scr hS) .nil, h ns hl, fun v H' Hs' _ r => by cases r; rfl⟩
end Pd
namespace Pd
open PySem PySem.Spec L2 SkE
open PyProof.Rows hiding St
def gTupD (ds : List D) : Option D := if ds.length ≤ sizeLine then some (.tup ds) else none
def gLstD (ds : List D) : Option D := if ds.length ≤ sizeLine then some (.lst ds) else none
/-- a def's function -/
def dF (n : Nat) (N : List Str) (g : Gs) (ds : List D) : Option D := if ds.length = n then runG g N ds else none
theorem dF_ok {ps N : List Str} {g : Gs} : ∀ ds d, dF ps.length N g ds = some d → ds.length = ps.length ∧ runG g N ds = some d := fun ds d h => by
  unfold dF at h
  by_cases hl : ds.length = ps.length
  · rw [if_pos hl] at h; exact ⟨hl, h⟩
  · rw [if_neg hl] at h; cases h
theorem hu65 {A : Around} {k : Nat} (hr : Room k A) : A.units + 65 < cLine := Nat.lt_of_le_of_lt (Nat.add_le_add_left (show 65 ≤ 16 * k + 200 by omega) _) (by have := hr.un; omega)
def gNeg : D → Option D
  | .int i => some (.int (-i))
  | _ => none
theorem imp_neg {K : PySem.W.Frag} : Imp1 K (rU fun i => .int (-i)) gNeg := by
  intro μ H Hs x d o Q s rx g k
  cases rx <;> first | (cases g; exact ⟨_, rfl, k _ H Hs (Ext.refl s) (.int _)⟩) | exact nomatch g
/-- x = [.. for ..] on one line -/
theorem pg_asgLc {X : Cx} {Hs0 H0 : Hp} {tg elt iter : Expr} {ifs : List Expr} {fi : Fs} {fe : F} {ft : Ft} {pos spos : Pos} (i : Nat) {y : Str} {py : Pos} {scope : Scope} {own : List (Str × Nat)} {g : TG} {set : D → Rho → Option Rho} {tt : TT} (hc : X.calm = true) (hN : X.N.Nodup) (hi : PI X tg iter (tDI X.K fi)) (ok : BlkOk X.N X.env.scope scope own) (hg : TgD X.K g set (own.map (·.2)))
    (hpg : ∀ (s : Shared) (H : Hp) (C : Addr) (cl : List (Str × Addr)) (fp : List Addr), PG (X.blk s H scope (compEnvC scope cl C X.env) fp) tg g)
    (ht : ∀ σ H Q, tDT X.K ft σ H Q → tt σ H Q) (hpt : ∀ (s : Shared) (H : Hp) (C : Addr) (cl : List (Str × Addr)) (fp : List Addr), PTs (X.blk s H scope (compEnvC scope cl C X.env) fp) ifs tt)
    (hpe : ∀ (s : Shared) (H : Hp) (C : Addr) (cl : List (Str × Addr)) (fp : List Addr), PE (X.blk s H scope (compEnvC scope cl C X.env) fp) elt (tD X.K fe)) (hs : ∀ x, foldedSetIterable iter X.env x = pure x := by intro _; rfl)
    (hy : X.N[i]? = some y := by rfl) (hyl : X.env.scope.names.lookup y = some .local := by rfl) (hsw : swapsWith (.ListComp elt [⟨tg, iter, ifs, 0⟩] scope pos) (some (.Name y py)) spos.line X.env = pure true := by exact sw_true rfl rfl rfl (by decide +kernel)) :
    PS X (.Assign [.Name y py] (.ListComp elt [⟨tg, iter, ifs, 0⟩] scope pos) spos) (tS X.K μ Hs0 H0 (asgG (st1 i) (fLc fi set ft fe (own.map (·.2))))) := by
  refine ps_imp (ps_setLc (own := own) (g := g) (tt := tt) hc hN hy hyl hsw hi ok hpg hpt hpe hs) fun Dn σ H ⟨Hs, ρ, fl, S, e, k⟩ => ?_
  obtain ⟨d, e1, e2⟩ := b1_eq e
  cases e2
  refine lc_read (fun _ _ _ h => h) hg ht (fun _ _ _ h => h) _ _ _ (ev_run S e1 fun v H' Hs' x r => ?_)
  exact k _ _ Hs' ((S.more x).put r i) x.part
/-- isinstance(x, T), T a built-in class -/
def tyN : D → String
  | .non => "NoneType" | .bool _ => "bool" | .int _ => "int" | .str _ => "str" | .lst _ => "list" | .tup _ => "tuple" | .scr _ => "list" | .loc _ => ""
def D.isLoc : D → Bool
  | .loc _ => true
  | _ => false
def gIsi (T : String) (d : D) : Option D := if d.isLoc = true then none else (kitB (tyN d) T).map D.bool
theorem Rp.tyX {K : PySem.W.Frag} {μ : List Addr} {H : Hp} {v : V} {d : D} (r : Rp K μ H v d) (hl : ¬ d.isLoc = true) : TyX K H v (.type (tyN d)) := by
  cases r with
  | loc h => exact absurd rfl hl
  | non => exact .base .non
  | bool _ => exact .base (.bl _)
  | int _ => exact .base (.int _)
  | str _ => exact .base (.str _)
  | lst h1 _ => exact .base (.lst h1)
  | tup h1 _ =>
    rcases h1 with (h | ⟨o, h⟩) | ⟨o, its, n, h, c, _⟩
    · exact .base (.tup h)
    · exact .fTuple h
    · exact .kTuple h c
  | scr h1 =>
    rcases h1 with (h | ⟨o, h⟩) | ⟨o, its, n, h, c, _⟩
    · exact .base (.lst h)
    · exact .base (.frz h)
    · exact .kList h c
theorem pd_isi {X : Cx} {e : Expr} {f : F} {pos p p2 : Pos} {T : Str} {t : String} (he : PE X e (tD X.K f)) (hm : X.mg "isinstance" = none) (hT : X.mg T = none) (hg : Gl X "isinstance" := by rfl) (hg2 : Gl X T := by rfl) (hv : bootBuiltins T = some (.type t) := by decide +kernel) (hn : T ≠ "__name__" := by decide) (hd : (T == ("__debug__" : Str)) = false := by decide)
    (h1 : starEach [e, .Name T p2] X.env = (false, eval e X.env) :: starEach [.Name T p2] X.env := by rfl) (h2 : starEach [.Name T p2] X.env = (false, eval (.Name T p2) X.env) :: starEach [] X.env := by rfl) (hpl : (backTo pos (starEach [.Name T p2] X.env)).any (·.1) = false := by rfl) :
    PE X (.Call (.Name "isinstance" p) [e, .Name T p2] [] pos) (tD X.K (f1 (gIsi t) f)) := by
  refine pe_imp (pe_callB call_isi hg hm (by decide +kernel) (pa_cons he (pa_cons (pe_bltn (v := .ty t) hg2 hT hv rfl hn hd) pa_nil h2) h1) (by decide) (by decide) h1 hpl) fun σ H Q ⟨μ, Hs, ρ, d, s, env, e, k⟩ => ?_
  obtain ⟨d1, e1, e2⟩ := b1_eq e
  refine ⟨μ, Hs, ρ, d1, s, env, e1, fun v H1 Hs1 x1 r1 => ?_⟩
  unfold gIsi at e2
  by_cases hl : d1.isLoc = true
  · rw [if_pos hl] at e2; cases e2
  rw [if_neg hl] at e2
  cases q : kitB (tyN d1) t with
  | none => rw [q] at e2; cases e2
  | some b =>
    rw [q] at e2
    cases e2
    exact ⟨v, .ty t, .type (tyN d1), .type t, b, rfl, .ty t, (r1.mono x1.sub).tyX hl, kit_ty q, k _ H1 Hs1 x1 (.bool _)⟩
theorem pd_globI {X : Cx} {x : Str} {z : Int} {pos : Pos} (hm : ∃ t, X.mg x = some (.int z t)) (hg : Gl X x := by rfl) (hd : (x == ("__debug__" : Str)) = false := by decide) : PE X (.Name x pos) (tD X.K (fC (.int z))) := by
  obtain ⟨t, hm⟩ := hm
  exact pd_glob (v := .int z) hm ⟨t, rfl⟩ (fun _ _ => .int _) hg hd
theorem pd_globS {X : Cx} {x : Str} {z : Str} {pos : Pos} (hm : ∃ t, X.mg x = some (.str z t)) (hg : Gl X x := by rfl) (hd : (x == ("__debug__" : Str)) = false := by decide) : PE X (.Name x pos) (tD X.K (fC (.str z))) := by
  obtain ⟨t, hm⟩ := hm
  exact pd_glob (v := .str z) hm ⟨t, rfl⟩ (fun _ _ => .str _) hg hd
end Pd

/-! Pd6: what the functions of the slots are worth, step by step. -/
namespace Pd
open PySem PySem.Spec L2 SkE
open PyProof.Rows hiding St

section
variable {ρ : Rho} {f g h : F} {fs : Fs} {ft gt : Ft} {a b c d : D} {ds es : List D} {i j : Int} {x y : Bool}
theorem x_var {i : Nat} (h : ρ[i]? = some (.val d)) : fVar i ρ = some d := by unfold fVar; rw [h]
theorem x_C : fC d ρ = some d := rfl
theorem x_f1 {G : D → Option D} (h1 : f ρ = some a) (h2 : G a = some c) : f1 G f ρ = some c := by unfold f1; rw [h1]; exact h2
theorem x_f2 {G : D → D → Option D} (h1 : f ρ = some a) (h2 : g ρ = some b) (h3 : G a b = some c) : f2 G f g ρ = some c := by unfold f2; rw [h1, b1_some, h2]; exact h3
theorem x_nil : fNil ρ = some [] := rfl
theorem x_cons (h1 : f ρ = some a) (h2 : fs ρ = some ds) : fCons f fs ρ = some (a :: ds) := by unfold fCons; rw [h1, b1_some, h2]; rfl
theorem x_L {G : List D → Option D} (h1 : fs ρ = some ds) (h2 : G ds = some c) : fL G fs ρ = some c := by unfold fL; rw [h1]; exact h2
theorem x_M {G : D → List D → Option D} (h1 : f ρ = some a) (h2 : fs ρ = some ds) (h3 : G a ds = some c) : fM G f fs ρ = some c := by unfold fM; rw [h1, b1_some, h2]; exact h3
theorem x_I {G : D → Option (List D)} (h1 : f ρ = some a) (h2 : G a = some ds) : fI G f ρ = some ds := by unfold fI; rw [h1]; exact h2
theorem x_Is {G : List D → Option (List D)} (h1 : fs ρ = some es) (h2 : G es = some ds) : fIs G fs ρ = some ds := by unfold fIs; rw [h1]; exact h2
theorem x_no : foNo ρ = some none := rfl
theorem x_oE (h1 : f ρ = some (.int i)) : foE f ρ = some (some i) := by unfold foE; rw [h1]; rfl
theorem x_sl {l u : Fo} {lo hi : Option Int} (h1 : f ρ = some a) (h2 : l ρ = some lo) (h3 : u ρ = some hi) (h4 : gSl a lo hi = some c) : fSl f l u ρ = some c := by unfold fSl; rw [h1, b1_some, h2, b1_some, h3]; exact h4
theorem x_tV (h1 : f ρ = some a) (h2 : a.tru = some x) : ftV f ρ = some x := by unfold ftV; rw [h1]; exact h2
theorem x_tB (h1 : f ρ = some (.bool x)) : ftB f ρ = some x := by unfold ftB; rw [h1]; rfl
theorem x_tand (h1 : ft ρ = some x) (h2 : x = true → gt ρ = some y) : ftAnd ft gt ρ = some (x && y) := by
  unfold ftAnd
  rw [h1]
  cases x with
  | true => exact h2 rfl
  | false => rfl
theorem x_tor (h1 : ft ρ = some x) (h2 : x = false → gt ρ = some y) : ftOr ft gt ρ = some (x || y) := by
  unfold ftOr
  rw [h1]
  cases x with
  | true => rfl
  | false => exact h2 rfl
theorem x_tnot (h1 : ft ρ = some x) : ftNot ft ρ = some (!x) := by unfold ftNot; rw [h1]; rfl
theorem x_yes : ftYes ρ = some true := rfl
/-- and, or of truth values -/
theorem x_and (h1 : f ρ = some (.bool x)) (h2 : x = true → g ρ = some (.bool y)) : fAnd f g ρ = some (.bool (x && y)) := by
  unfold fAnd
  rw [h1]
  cases x with
  | true => exact h2 rfl
  | false => rfl
theorem x_or (h1 : f ρ = some (.bool x)) (h2 : x = false → g ρ = some (.bool y)) : fOr f g ρ = some (.bool (x || y)) := by
  unfold fOr
  rw [h1]
  cases x with
  | true => rfl
  | false => exact h2 rfl
theorem x_not (h1 : f ρ = some a) (h2 : a.tru = some x) : fNot f ρ = some (.bool (!x)) := by unfold fNot; rw [h1, b1_some, h2]; rfl
theorem x_if (h1 : ft ρ = some x) (h2 : x = true → f ρ = some a) (h3 : x = false → g ρ = some a) : fIf ft f g ρ = some a := by
  unfold fIf
  rw [h1]
  cases x with
  | true => exact h2 rfl
  | false => exact h3 rfl
theorem x_chain {G G' : D → D → Option D} (h1 : f ρ = some a) (h2 : g ρ = some b) (h3 : G a b = some (.bool x)) (h4 : x = true → h ρ = some c) (h5 : x = true → G' b c = some (.bool y)) : fChain G G' f g h ρ = some (.bool (x && y)) := by
  unfold fChain
  rw [h1, b1_some, h2, b1_some, h3, b1_some]
  cases x with
  | true =>
    show b1 (h ρ) _ = _
    rw [h4 rfl]
    exact h5 rfl
  | false => rfl
theorem x_lc {fi : Fs} {set : D → Rho → Option Rho} {vs : List Nat} (h1 : fi ρ = some ds) (hz : ds.length ≤ 1000000) (h2 : lcGo set ft f (wipeR ρ vs) ds = some es) : fLc fi set ft f vs ρ = some (.lst es) := by
  unfold fLc
  rw [h1, b1_some, if_pos hz, h2]
  rfl
/-- a comprehension: kept by p, its value by v -/
theorem x_lcGo {set : D → Rho → Option Rho} {α : Type} {inj : α → D} {p : α → Bool} {v : α → D} : ∀ {xs : List α}, (∀ z ∈ xs, ∃ ρ', set (inj z) ρ = some ρ' ∧ ft ρ' = some (p z) ∧ (p z = true → f ρ' = some (v z))) → lcGo set ft f ρ (xs.map inj) = some ((xs.filter p).map v)
  | [], _ => rfl
  | z :: xs, hz => by
    obtain ⟨ρ', h1, h2, h3⟩ := hz z List.mem_cons_self
    have ih := x_lcGo (xs := xs) fun w hw => hz w (List.mem_cons_of_mem _ hw)
    rw [List.map_cons]
    unfold lcGo
    rw [h1, b1_some, h2, b1_some]
    cases q : p z with
    | true =>
      rw [if_pos rfl, h3 q, b1_some, ih, b1_some, List.filter_cons_of_pos q, List.map_cons]
    | false =>
      rw [if_neg Bool.false_ne_true, ih, List.filter_cons_of_neg (by rw [q]; exact Bool.false_ne_true)]
/-! operations -/
theorem x_add : gAdd (.int i) (.int j) = some (.int (i + j)) := rfl
theorem x_addS {a b : Str} (h : a.length + b.length ≤ sizeLine) : gAdd (.str a) (.str b) = some (.str (a ++ b)) := if_pos h
theorem x_addL (h : ds.length + es.length ≤ sizeLine) : gAdd (.lst ds) (.lst es) = some (.lst (ds ++ es)) := if_pos h
theorem x_addT (h : ds.length + es.length ≤ sizeLine) : gAdd (.tup ds) (.tup es) = some (.tup (ds ++ es)) := if_pos h
theorem x_sub : gSub (.int i) (.int j) = some (.int (i - j)) := rfl
theorem x_mulL (h1 : -(2 ^ 64) < i) (h2 : i < 2 ^ 64) : gMul (.int i) (.int j) = some (.int (i * j)) := if_pos (.inl ⟨h1, h2⟩)
theorem x_mulR (h1 : -(2 ^ 64) < j) (h2 : j < 2 ^ 64) : gMul (.int i) (.int j) = some (.int (i * j)) := if_pos (.inr ⟨h1, h2⟩)
theorem x_div (h1 : 0 < j) (h2 : j < 1073741824) : gDiv (.int i) (.int j) = some (.int (i / j)) := if_pos ⟨h1, h2⟩
theorem x_mod (h1 : 0 < j) : gMod (.int i) (.int j) = some (.int (i % j)) := if_pos h1
theorem x_neg : gNeg (.int i) = some (.int (-i)) := rfl
theorem x_eqI : gEq (.int i) (.int j) = some (.bool (decide (i = j))) := rfl
theorem x_eqS {a b : Str} : gEq (.str a) (.str b) = some (.bool (decide (a = b))) := rfl
theorem x_eqB {a b : Bool} : gEq (.bool a) (.bool b) = some (.bool (decide (a = b))) := rfl
theorem x_neI : gNe (.int i) (.int j) = some (.bool (!decide (i = j))) := rfl
theorem x_neS {a b : Str} : gNe (.str a) (.str b) = some (.bool (!decide (a = b))) := rfl
theorem x_neB {a b : Bool} : gNe (.bool a) (.bool b) = some (.bool (!decide (a = b))) := rfl
theorem x_eqD (h1 : a.sc2 b = false) (h2 : SeqAt.shaped a.py = true) (h3 : SeqAt.shaped b.py = true) : gEq a b = some (.bool (PyData.eqv a.py b.py)) := by
  unfold gEq
  rw [h1, if_neg Bool.false_ne_true, h2, h3]
  rfl
theorem x_neD (h1 : a.sc2 b = false) (h2 : SeqAt.shaped a.py = true) (h3 : SeqAt.shaped b.py = true) : gNe a b = some (.bool (!PyData.eqv a.py b.py)) := by
  unfold gNe
  rw [h1, if_neg Bool.false_ne_true, h2, h3]
  rfl
theorem x_lt : gLt (.int i) (.int j) = some (.bool (decide (i < j))) := rfl
theorem x_le : gLe (.int i) (.int j) = some (.bool (decide (i ≤ j))) := rfl
theorem x_gt : gGt (.int i) (.int j) = some (.bool (decide (j < i))) := rfl
theorem x_ge : gGe (.int i) (.int j) = some (.bool (decide (j ≤ i))) := rfl
theorem x_ltS {a b : Str} : gLt (.str a) (.str b) = some (.bool (decide (a.cps.toList < b.cps.toList))) := rfl
theorem x_gtS {a b : Str} : gGt (.str a) (.str b) = some (.bool (decide (b.cps.toList < a.cps.toList))) := rfl
theorem x_inC {k : Nat} {z : Str} : gIn (.str ⟨#[k]⟩) (.str z) = some (.bool (decide (k ∈ z.cps.toList))) := rfl
theorem x_notInC {k : Nat} {z : Str} : gNotIn (.str ⟨#[k]⟩) (.str z) = some (.bool (!decide (k ∈ z.cps.toList))) := rfl
theorem x_lenS {z : Str} (h : z.length ≤ sizeLine) : gLen [.str z] = some (.int z.length) := if_pos h
theorem x_lenL : gLen [.lst ds] = some (.int ds.length) := rfl
theorem x_lenT : gLen [.tup ds] = some (.int ds.length) := rfl
theorem x_lenN {ns : List Int} : gLen [.scr ns] = some (.int ns.length) := rfl
theorem x_int : gInt [.int i] = some (.int i) := rfl
theorem x_intB {k : Bool} : gInt [.bool k] = some (.int (if k then 1 else 0)) := rfl
theorem x_intS {z : Str} (h1 : z.length ≤ 640) (h2 : PySem.intText? z = some i) : gInt [.str z] = some (.int i) := by
  show (if z.length ≤ 640 then (PySem.intText? z).map D.int else none) = _
  rw [if_pos h1, h2]
  rfl
theorem x_str (h : i.natAbs.log2 < 1920) : gStr [.int i] = some (.str (toString i)) := if_pos h
theorem x_strS {z : Str} : gStr [.str z] = some (.str z) := rfl
theorem x_abs : gAbs [.int i] = some (.int (if i < 0 then -i else i)) := rfl
theorem x_ixL (h : atI ds i = some a) : gIx (.lst ds) (.int i) = some a := h
theorem x_ixT (h : atI ds i = some a) : gIx (.tup ds) (.int i) = some a := h
theorem x_ixN {ns : List Int} {k : Int} (h : atI ns i = some k) : gIx (.scr ns) (.int i) = some (.int k) := by
  show (atI ns i).map D.int = _
  rw [h]
  rfl
theorem x_ixS {z : Str} {k : Nat} (hz : z.length ≤ sizeLine) (h : atI z.cps.toList i = some k) : gIx (.str z) (.int i) = some (.str ⟨#[k]⟩) := by
  show (if z.length ≤ sizeLine then (atI z.cps.toList i).map fun c => D.str ⟨#[c]⟩ else none) = _
  rw [if_pos hz, h]
  rfl
theorem x_tupD (h : ds.length ≤ sizeLine) : gTupD ds = some (.tup ds) := if_pos h
theorem x_lstD (h : ds.length ≤ sizeLine) : gLstD ds = some (.lst ds) := if_pos h
theorem x_R1' (h0 : 0 ≤ i) (h : i < 1000000000) : itR1 [.int i] = some (rngD 0 i.toNat) := by
  have hc : -(2 ^ 62) ≤ i ∧ i < 2 ^ 62 := ⟨by omega, by omega⟩
  unfold itR1
  exact if_pos hc
theorem x_R1 {n : Nat} (h : n < 1000000000) : itR1 [.int n] = some (rngD 0 n) := by
  have e := x_R1' (i := (n : Int)) (by omega) (by omega)
  rw [Int.toNat_natCast] at e
  exact e
theorem x_R2 (h1 : -1000000000 < i) (h2 : i < 1000000000) (h3 : -1000000000 < j) (h4 : j < 1000000000) : itR2 [.int i, .int j] = some (rngD i (j - i).toNat) := by
  have hc : -(2 ^ 62) ≤ i ∧ i < 2 ^ 62 ∧ -(2 ^ 62) ≤ j ∧ j < 2 ^ 62 := ⟨by omega, by omega, by omega, by omega⟩
  unfold itR2
  exact if_pos hc
theorem atI_n {α : Type} {xs : List α} {k : Nat} {a : α} (h : xs[k]? = some a) : atI xs (k : Int) = some a := by
  obtain ⟨hl, _⟩ := List.getElem?_eq_some_iff.mp h
  unfold atI ixN
  rw [if_pos (by omega), if_pos (by omega)]
  exact h
theorem atI_pos {α : Type} {xs : List α} {i : Int} {a : α} (h0 : 0 ≤ i) (h : xs[i.toNat]? = some a) : atI xs i = some a := by
  obtain ⟨k, rfl⟩ := Int.eq_ofNat_of_zero_le h0
  exact atI_n h
theorem x_splitM {a b : Str} (h1 : (b.length == 0) = false) (h2 : a.length + 2 ≤ sizeLine) : gSplit (.str a) [.str b] = some (.lst ((Txt.split a b).map D.str)) := if_pos ⟨h1, h2⟩
theorem x_partM {a b : Str} (h1 : (b.length == 0) = false) (h2 : a.length ≤ sizeLine) : gPartition (.str a) [.str b] = some (.tup [.str (Txt.partition a b).1, .str (Txt.partition a b).2.1, .str (Txt.partition a b).2.2]) := if_pos ⟨h1, h2⟩
theorem x_startsM {a b : Str} : gStarts (.str a) [.str b] = some (.bool (Txt.startswith a b)) := rfl
theorem x_endsM {a b : Str} : gEnds (.str a) [.str b] = some (.bool (Txt.endswith a b)) := rfl
theorem x_upperM {a : Str} (h : a.length ≤ 5592405) : gUpper (.str a) [] = some (.str (Txt.upper a)) := if_pos h
theorem x_joinL {a : Str} {ys : List Str} (h1 : D.strs? ds = some ys) (h2 : (ys.map (·.length)).sum + ys.length * a.length ≤ 16777216) : gJoin (.str a) [.lst ds] = some (.str (Txt.join a ys)) := by
  show b1 (D.strs? ds) _ = _
  rw [h1, b1_some, if_pos h2]
theorem x_truB : (D.bool x).tru = some x := rfl
theorem x_truL : (D.lst ds).tru = some (!ds.isEmpty) := rfl
theorem x_truT : (D.tup ds).tru = some (!ds.isEmpty) := rfl
theorem x_truI : (D.int i).tru = some (i != 0) := rfl
theorem x_truN : D.non.tru = some false := rfl
theorem x_truS {z : Str} (h : z.length ≤ sizeLine) : (D.str z).tru = some ((z.length : Int) != 0) := if_pos h
theorem x_isN0 : gIsN .non .non = some (.bool true) := rfl
theorem x_notN0 : gNotN .non .non = some (.bool false) := rfl
theorem x_isN1 (h : a.sc2 .non = true) (h2 : a.eqs .non = false) : gIsN a .non = some (.bool false) := by cases a <;> first | rfl | exact absurd h2 (by decide)
theorem x_isi {T : String} {b : Bool} (h : kitB (tyN a) T = some b) (hl : a.isLoc = false := by rfl) : gIsi T a = some (.bool b) := by unfold gIsi; rw [hl, h]; rfl
end
theorem kit_bool : kitB "bool" "bool" = some true := by decide +kernel
theorem kit_int_bool : kitB "int" "bool" = some false := by decide +kernel
theorem kit_str : kitB "str" "str" = some true := by decide +kernel
theorem kit_list : kitB "list" "list" = some true := by decide +kernel
theorem kit_tuple : kitB "tuple" "tuple" = some true := by decide +kernel
theorem kit_int : kitB "int" "int" = some true := by decide +kernel
theorem kit_bool_int : kitB "bool" "int" = some true := by decide +kernel

/-! ### statements, by what is wanted of their end -/
def W (g : Gs) (ρ : Rho) (Q : Fl → Prop) : Prop := ∃ fl, g ρ = some fl ∧ Q fl
section
variable {ρ : Rho} {f : F} {fs fi : Fs} {ft : Ft} {g g1 g2 : Gs} {Q : Fl → Prop} {d : D} {ds : List D} {x : Bool}
theorem w_nil (h : Q (.nx ρ)) : W nilG ρ Q := ⟨_, rfl, h⟩
def sQ (g : Gs) (Q : Fl → Prop) : Fl → Prop
  | .nx ρ => W g ρ Q
  | fl => Q fl
theorem w_seq (h : W g1 ρ (sQ g2 Q)) : W (seqG g1 g2) ρ Q := by
  obtain ⟨fl, h1, h2⟩ := h
  unfold W seqG
  rw [h1]
  cases fl with
  | nx ρ' => exact h2
  | bk _ => exact ⟨_, rfl, h2⟩
  | ct _ => exact ⟨_, rfl, h2⟩
  | rt _ => exact ⟨_, rfl, h2⟩
theorem w_ret (h1 : f (shw ρ) = some d) (h : Q (.rt d)) : W (retG f) ρ Q := ⟨_, by unfold retG; rw [h1]; rfl, h⟩
theorem w_retN (h : Q (.rt .non)) : W retN ρ Q := ⟨_, rfl, h⟩
theorem w_if (h1 : ft (shw ρ) = some x) (h2 : x = true → W g1 ρ Q) (h3 : x = false → W g2 ρ Q) : W (ifG ft g1 g2) ρ Q := by
  unfold W ifG
  rw [h1]
  cases x with
  | true => exact h2 rfl
  | false => exact h3 rfl
theorem w_asg {i : Nat} (h1 : f ρ = some d) (h : Q (.nx (ρ.set i (.val d)))) : W (asgG (st1 i) f) ρ Q := ⟨_, by unfold asgG evG; rw [h1]; rfl, h⟩
theorem w_asgS {i : Nat} (h0 : f ρ = none) (h1 : f (shw ρ) = some d) (h2 : d.sca = true) (h : Q (.nx (ρ.set i (.val d)))) : W (asgG (st1 i) f) ρ Q := ⟨_, by unfold asgG evG; rw [h0, h1]; show b1 (if d.sca = true then some d else none) _ = _; rw [if_pos h2]; rfl, h⟩
theorem w_asg2 {i j : Nat} {a b : D} (h1 : f ρ = some (.tup [a, b])) (h : Q (.nx ((ρ.set i (.val a)).set j (.val b)))) : W (asgG (st2 i j) f) ρ Q := ⟨_, by unfold asgG evG; rw [h1]; rfl, h⟩
theorem w_asg3 {i j k : Nat} {a b c : D} (h1 : f ρ = some (.tup [a, b, c])) (h : Q (.nx (((ρ.set i (.val a)).set j (.val b)).set k (.val c)))) : W (asgG (st3 i j k) f) ρ Q := ⟨_, by unfold asgG evG; rw [h1]; rfl, h⟩
theorem w_new {i : Nat} (h1 : fs ρ = some ds) (hz : ds.length ≤ sizeLine) (h : Q (.nx (ρ.set i (.own ds)))) : W (newG i fs) ρ Q := ⟨_, by unfold newG; rw [h1, b1_some, if_pos hz], h⟩
theorem w_drop (h1 : f (shw ρ) = some d) (h : Q (.nx ρ)) : W (dropG f) ρ Q := ⟨_, by unfold dropG; rw [h1]; rfl, h⟩
theorem w_app {i : Nat} (h0 : ρ[i]? = some (.own ds)) (h1 : f ρ = some d) (hz : ds.length < sizeLine) (h : Q (.nx (ρ.set i (.own (ds ++ [d]))))) : W (appG i f) ρ Q := ⟨_, by unfold appG evG; rw [h0, h1]; show (if ds.length < sizeLine then _ else _) = _; rw [if_pos hz], h⟩
theorem w_brk (h : Q (.bk ρ)) : W brkG ρ Q := ⟨_, rfl, h⟩
theorem w_cnt (h : Q (.ct ρ)) : W cntG ρ Q := ⟨_, rfl, h⟩
/-- behind a turn: what goes on, what leaves the loop -/
def tQ (I : Rho → Prop) (Q : Fl → Prop) : Fl → Prop
  | .nx ρ => I ρ
  | .ct ρ => I ρ
  | .bk ρ => Q (.nx ρ)
  | .rt d => Q (.rt d)
/-- a loop by what holds ahead of each item -/
theorem w_for {set : D → Rho → Option Rho} (I : List D → Rho → Prop) (h1 : fi ρ = some ds) (h0 : I ds ρ)
    (hs : ∀ d rest ρ, I (d :: rest) ρ → ∃ ρ', set d ρ = some ρ' ∧ W g ρ' (tQ (I rest) Q)) (hd : ∀ ρ, I [] ρ → Q (.nx ρ)) : W (forG fi set g) ρ Q := by
  have key : ∀ (ds : List D) (ρ : Rho), I ds ρ → ∃ fl, forGo (turnG set g) ds ρ = some fl ∧ Q fl := by
    intro ds
    induction ds with
    | nil => exact fun ρ h => ⟨_, rfl, hd ρ h⟩
    | cons d rest ih =>
      intro ρ h
      obtain ⟨ρ', e1, fl, e2, q⟩ := hs d rest ρ h
      unfold forGo turnG
      rw [e1, b1_some, e2]
      cases fl with
      | nx ρ2 => exact ih ρ2 q
      | ct ρ2 => exact ih ρ2 q
      | bk ρ2 => exact ⟨_, rfl, q⟩
      | rt d2 => exact ⟨_, rfl, q⟩
  unfold W forG
  rw [h1]
  exact key ds ρ h0
end
/-- a def's value -/
def vQ (d : D) : Fl → Prop
  | .rt e => e = d
  | .nx _ => D.non = d
  | _ => False
theorem f_of {n : Nat} {N : List Str} {g : Gs} {ds : List D} {d : D} (hl : ds.length = n) (h : W g (rho0 N ds) (vQ d)) : dF n N g ds = some d := by
  obtain ⟨fl, h1, h2⟩ := h
  unfold dF runG
  rw [if_pos hl, h1]
  cases fl with
  | rt e => cases h2; rfl
  | nx _ => cases h2; rfl
  | bk _ => exact h2.elim
  | ct _ => exact h2.elim
def vP (P : D → Prop) : Fl → Prop
  | .rt e => P e
  | .nx _ => P .non
  | _ => False
theorem f_ex {n : Nat} {N : List Str} {g : Gs} {ds : List D} {P : D → Prop} (hl : ds.length = n) (h : W g (rho0 N ds) (vP P)) : ∃ d, dF n N g ds = some d ∧ P d := by
  obtain ⟨fl, h1, h2⟩ := h
  unfold dF runG
  rw [if_pos hl, h1]
  cases fl with
  | rt e => exact ⟨e, rfl, h2⟩
  | nx _ => exact ⟨.non, rfl, h2⟩
  | bk _ => exact h2.elim
  | ct _ => exact h2.elim
theorem starts_eq (x y : Str) : Txt.startswith x y = ((TL.tl x).take (TL.tl y).length == TL.tl y) := by
  unfold Txt.startswith
  rw [StrLaws.subAt_eq, List.drop_zero, Nat.zero_add, TL.len_tl, TL.len_tl]
  show (decide ((TL.tl y).length ≤ (TL.tl x).length) && ((TL.tl x).take (TL.tl y).length == TL.tl y)) = _
  by_cases h : (TL.tl y).length ≤ (TL.tl x).length
  · rw [decide_eq_true h, Bool.true_and]
  · rw [decide_eq_false h, Bool.false_and]
    symm
    rw [beq_eq_false_iff_ne]
    intro e
    have := congrArg List.length e
    rw [List.length_take] at this
    omega
/-! the first dash -/
def dash (l : List Nat) : Option (List Nat × List Nat) := match l with
  | [] => none
  | c :: r => if c = 45 then some ([], r) else (dash r).map fun p => (c :: p.1, p.2)
theorem dash_par : ∀ (l acc : List Nat), TL.par [45] acc l = (dash l).map fun p => (acc ++ p.1, p.2)
  | [], acc => rfl
  | c :: r, acc => by
    unfold TL.par dash
    by_cases h : c = 45
    · subst h
      rw [if_pos rfl, if_pos (by unfold TL.pre; simp)]
      simp
    · rw [if_neg h, if_neg (by unfold TL.pre; simp [h]), dash_par r (acc ++ [c])]
      cases dash r <;> simp
theorem dash_some : ∀ {l a b : List Nat}, dash l = some (a, b) → l = a ++ 45 :: b ∧ 45 ∉ a
  | [], _, _, h => by cases h
  | c :: r, a, b, h => by
    unfold dash at h
    by_cases hc : c = 45
    · rw [if_pos hc] at h
      cases h
      subst hc
      exact ⟨rfl, by simp⟩
    · rw [if_neg hc] at h
      cases q : dash r with
      | none => rw [q] at h; cases h
      | some p =>
        obtain ⟨a', b'⟩ := p
        rw [q] at h
        cases h
        obtain ⟨h1, h2⟩ := dash_some q
        exact ⟨by rw [h1]; rfl, by simp [h2]; omega⟩
theorem dash_none : ∀ {l : List Nat}, dash l = none → 45 ∉ l
  | [], _ => by simp
  | c :: r, h => by
    unfold dash at h
    by_cases hc : c = 45
    · rw [if_pos hc] at h; cases h
    · rw [if_neg hc] at h
      cases q : dash r with
      | none => simp [dash_none q]; omega
      | some p => rw [q] at h; cases h
theorem dash_app {a b : List Nat} (h : 45 ∉ a) : dash (a ++ 45 :: b) = some (a, b) := by
  induction a with
  | nil => rfl
  | cons c a ih =>
    have hc : c ≠ 45 := fun z => h (by simp [z])
    have ha : 45 ∉ a := fun z => h (by simp [z])
    show (if c = 45 then some ([], a ++ 45 :: b) else (dash (a ++ 45 :: b)).map fun p => (c :: p.1, p.2)) = _
    rw [if_neg hc, ih ha]
    rfl
theorem partition_dash (x : Str) : Txt.partition x "-" = match dash (TL.tl x) with
    | some (a, b) => (⟨a.toArray⟩, "-", ⟨b.toArray⟩)
    | none => (x, Str.empty, Str.empty) := by
  have e : TL.tl ("-" : Str) = [45] := by decide +kernel
  rw [TL.partition_par x "-" (by rw [e]; simp), e, dash_par]
  cases dash (TL.tl x) with
  | none => rfl
  | some p => rfl
end Pd

/-! Sd0: defs that change objects, as functions of a store. A store is a list of cells; a value names a cell by its place. -/
namespace Pd
open PySem PySem.Spec L2 SkE
open PyProof.Rows hiding St

inductive Cell where
  | ins (c : Str) (fs : List (Str × D))
  | lst (ds : List D)
  | dct (kv : List (Key × D))
  | dcT (kv : List (List Key × D))
abbrev Store := List Cell
structure Exn where
  cls : Str
  fs : List (Str × D)
inductive Res (α : Type) where
  | ok (a : α)
  | er (x : Exn)
def FRp (K : PySem.W.Frag) (μ : List Addr) (H : Hp) {κ : Type} : List (κ × V) → List (κ × D) → Prop := Paired fun p q => p.1 = q.1 ∧ Rp K μ H p.2 q.2
def CellOk (K : PySem.W.Frag) (mg : Str → Option Value) (μ : List Addr) (Hs H : Hp) (a : Addr) : Cell → Prop
  | .ins c fs => ∃ (C dx : Addr) (vs : List (Str × V)), mg c = some (.ref C) ∧ H a = some (.ins C dx vs) ∧ FRp K μ Hs vs fs
  | .lst ds => ∃ vs, H a = some (.lst vs) ∧ RpA K μ Hs vs ds
  | .dct kv => ∃ vs, H a = some (.dK vs) ∧ FRp K μ Hs vs kv
  | .dcT kv => ∃ vs, H a = some (.dT vs) ∧ FRp K μ Hs vs kv
/-- the heap H is the part Hs (read only) and the cells of the store S, which stand at the addresses μ -/
structure Sim (K : PySem.W.Frag) (mg : Str → Option Value) (μ : List Addr) (Hs H : Hp) (S : Store) : Prop where
  sub : Same Hs H
  len : μ.length = S.length
  nd : ∀ (i j : Nat) (a : Addr), μ[i]? = some a → μ[j]? = some a → i = j
  cell : ∀ (n : Nat) (a : Addr) (c : Cell), μ[n]? = some a → S[n]? = some c → CellOk K mg μ Hs H a c ∧ Hs a = none
/-- more places, more that is only read -/
structure Gr (μ : List Addr) (Hs : Hp) (μ' : List Addr) (Hs' : Hp) : Prop where
  pre : ∃ l, μ' = μ ++ l
  sub : Same Hs Hs'
theorem Gr.refl (μ : List Addr) (Hs : Hp) : Gr μ Hs μ Hs := ⟨⟨[], by simp⟩, Same.refl _⟩
theorem Gr.trans {μ μ1 μ2 : List Addr} {Hs Hs1 Hs2 : Hp} (a : Gr μ Hs μ1 Hs1) (b : Gr μ1 Hs1 μ2 Hs2) : Gr μ Hs μ2 Hs2 := by
  obtain ⟨l, rfl⟩ := a.pre
  obtain ⟨m, rfl⟩ := b.pre
  exact ⟨⟨l ++ m, by simp⟩, a.sub.trans b.sub⟩
theorem Gr.part {μ : List Addr} {Hs Hs' : Hp} (h : Same Hs Hs') : Gr μ Hs μ Hs' := ⟨⟨[], by simp⟩, h⟩
theorem Gr.get {μ μ' : List Addr} {Hs Hs' : Hp} (g : Gr μ Hs μ' Hs') {n : Nat} {a : Addr} (h : μ[n]? = some a) : μ'[n]? = some a := by
  obtain ⟨l, rfl⟩ := g.pre
  obtain ⟨hl, _⟩ := List.getElem?_eq_some_iff.mp h
  rw [List.getElem?_append_left hl]
  exact h
section
variable {K : PySem.W.Frag} {μ μ' : List Addr} {H H' : Hp}
mutual
theorem Rp.gr (g : Gr μ H μ' H') : ∀ (d : D) (v : V), Rp K μ H v d → Rp K μ' H' v d
  | .non, _, h => by cases h; exact .non
  | .bool b, _, h => by cases h; exact .bool _
  | .int i, _, h => by cases h; exact .int _
  | .str x, _, h => by cases h; exact .str _
  | .lst ds, _, h => by
    cases h with
    | lst h1 h2 => exact .lst (g.sub _ _ h1) (RpA.gr g _ _ h2)
  | .tup ds, _, h => by
    cases h with
    | tup h1 h2 => exact .tup (sqT_mono g.sub h1) (RpA.gr g _ _ h2)
  | .scr ns, _, h => by
    cases h with
    | scr h1 => exact .scr (g.sub.seq h1)
  | .loc n, _, h => by
    cases h with
    | loc h1 => exact .loc (g.get h1)
theorem RpA.gr (g : Gr μ H μ' H') : ∀ (ds : List D) (vs : List V), RpA K μ H vs ds → RpA K μ' H' vs ds
  | [], _, h => by cases h; exact .nil
  | d :: ds, _, h => by
    cases h with
    | cons h1 h2 => exact .cons (Rp.gr g _ _ h1) (RpA.gr g _ _ h2)
end
theorem FRp.gr {κ : Type} (g : Gr μ H μ' H') {l : List (κ × V)} {m : List (κ × D)} (h : FRp K μ H l m) : FRp K μ' H' l m := paired_imp (fun _ _ z => ⟨z.1, z.2.gr g⟩) h
theorem VOk.gr (g : Gr μ H μ' H') {ov : Option V} : ∀ {x : Sl}, VOk K μ H ov x → VOk K μ' H' ov x
  | .val d, ⟨v, h1, h2⟩ => ⟨v, h1, h2.gr g⟩
  | .raw v, h => h
  | .own _, _ => trivial
  | .junk, _ => trivial
  | .exc _ _ _, ⟨h1, h2⟩ => ⟨h1, h2.imp id fun ⟨dd, vs, q1, q2, q3⟩ => ⟨dd, vs, q1, g.sub _ _ q2, paired_imp (fun _ _ z => ⟨z.1, z.2.gr g⟩) q3⟩⟩
theorem VEnv.gr (g : Gr μ H μ' H') {σ : St} {ρ : Rho} (h : VEnv K μ H σ ρ) : VEnv K μ' H' σ ρ := paired_imp (fun _ _ => VOk.gr g) h
end
section
variable {K : PySem.W.Frag} {mg : Str → Option Value} {μ : List Addr} {Hs H Hs' H' : Hp} {S : Store}
theorem CellOk.move {a : Addr} {c : Cell} {μ' : List Addr} (g : Gr μ Hs μ' Hs') (ha : ∀ o, H a = some o → H' a = some o) (h : CellOk K mg μ Hs H a c) : CellOk K mg μ' Hs' H' a c := by
  cases c with
  | ins c fs => obtain ⟨C, dx, vs, h1, h2, h3⟩ := h; exact ⟨C, dx, vs, h1, ha _ h2, h3.gr g⟩
  | lst ds => obtain ⟨vs, h1, h2⟩ := h; exact ⟨vs, ha _ h1, h2.gr g⟩
  | dct kv => obtain ⟨vs, h1, h2⟩ := h; exact ⟨vs, ha _ h1, h2.gr g⟩
  | dcT kv => obtain ⟨vs, h1, h2⟩ := h; exact ⟨vs, ha _ h1, h2.gr g⟩
theorem CellOk.some {a : Addr} {c : Cell} (h : CellOk K mg μ Hs H a c) : ∃ o, H a = some o ∧ Mut (some o) := by
  cases c with
  | ins c fs => obtain ⟨C, dx, vs, h1, h2, h3⟩ := h; exact ⟨_, h2, trivial⟩
  | lst ds => obtain ⟨vs, h1, h2⟩ := h; exact ⟨_, h1, trivial⟩
  | dct kv => obtain ⟨vs, h1, h2⟩ := h; exact ⟨_, h1, trivial⟩
  | dcT kv => obtain ⟨vs, h1, h2⟩ := h; exact ⟨_, h1, trivial⟩
theorem Sim.at (s : Sim K mg μ Hs H S) {n : Nat} {a : Addr} (h : μ[n]? = some a) : ∃ c, S[n]? = some c ∧ CellOk K mg μ Hs H a c ∧ Hs a = none := by
  obtain ⟨hl, _⟩ := List.getElem?_eq_some_iff.mp h
  rw [s.len] at hl
  exact ⟨S[n], List.getElem?_eq_getElem hl, s.cell n a _ h (List.getElem?_eq_getElem hl)⟩
theorem Sim.addr (s : Sim K mg μ Hs H S) {n : Nat} {c : Cell} (h : S[n]? = some c) : ∃ a, μ[n]? = some a ∧ CellOk K mg μ Hs H a c ∧ Hs a = none := by
  obtain ⟨hl, _⟩ := List.getElem?_eq_some_iff.mp h
  rw [← s.len] at hl
  exact ⟨μ[n], List.getElem?_eq_getElem hl, s.cell n _ c (List.getElem?_eq_getElem hl) h⟩
/-- what is only read grows, new objects come beside -/
theorem Sim.ext (s : Sim K mg μ Hs H S) (x : Ext Hs H Hs' H') : Sim K mg μ Hs' H' S := by
  refine ⟨x.sub, s.len, s.nd, fun n a c h1 h2 => ?_⟩
  obtain ⟨h3, h4⟩ := s.cell n a c h1 h2
  refine ⟨h3.move (Gr.part x.part) fun o h => x.all _ _ h, ?_⟩
  cases q : Hs' a with
  | none => rfl
  | some o =>
    obtain ⟨o2, h5, _⟩ := h3.some
    rcases x.new a o q with z | z
    · rw [h4] at z; cases z
    · rw [h5] at z; cases z
theorem Sim.side (s : Sim K mg μ Hs H S) (x : Same H H') : Sim K mg μ Hs H' S := s.ext (Ext.side s.sub x)
/-- a new cell, at a new address -/
theorem Sim.alloc (s : Sim K mg μ Hs H S) {p : Addr} {c : Cell} {o : HO} (hp : H p = none) (hc : CellOk K mg (μ ++ [p]) Hs (upd H p o) p c) : Sim K mg (μ ++ [p]) Hs (upd H p o) (S ++ [c]) ∧ Gr μ Hs (μ ++ [p]) Hs := by
  have g : Gr μ Hs (μ ++ [p]) Hs := ⟨⟨[p], rfl⟩, Same.refl _⟩
  have hps : Hs p = none := s.sub.free hp
  have al : Same H (upd H p o) := (Ext.made (Same.refl H) hp).all
  have old : ∀ (n : Nat) (a : Addr), μ[n]? = some a → a ≠ p := fun n a h z => by
    subst z
    obtain ⟨c, _, h3, _⟩ := s.at h
    obtain ⟨o2, h5, _⟩ := h3.some
    rw [hp] at h5
    cases h5
  have split : ∀ (n : Nat) (a : Addr), (μ ++ [p])[n]? = some a → μ[n]? = some a ∨ (n = μ.length ∧ a = p) := fun n a h => by
    rw [List.getElem?_append] at h
    split at h
    · exact .inl h
    · rename_i hn
      have : n - μ.length = 0 := by
        have := (List.getElem?_eq_some_iff.mp h).1
        simp at this
        omega
      rw [this] at h
      simp at h
      exact .inr ⟨by omega, h.symm⟩
  refine ⟨⟨s.sub.trans al, by simp [s.len], fun i j a h1 h2 => ?_, fun n a c' h1 h2 => ?_⟩, g⟩
  · rcases split i a h1 with h1 | ⟨e1, e2⟩
    · rcases split j a h2 with h2 | ⟨e3, e4⟩
      · exact s.nd i j a h1 h2
      · exact absurd e4 (old _ _ h1)
    · rcases split j a h2 with h2 | ⟨e3, e4⟩
      · exact absurd e2 (old _ _ h2)
      · exact e1.trans e3.symm
  · rcases split n a h1 with h1 | ⟨rfl, rfl⟩
    · obtain ⟨hl, _⟩ := List.getElem?_eq_some_iff.mp h1
      rw [List.getElem?_append_left (by rw [← s.len]; exact hl)] at h2
      obtain ⟨h3, h4⟩ := s.cell n a c' h1 h2
      exact ⟨h3.move g fun o' h => by rw [upd_ne (old n a h1)]; exact h, h4⟩
    · rw [s.len, List.getElem?_append_right (Nat.le_refl _), Nat.sub_self] at h2
      simp at h2
      subst h2
      exact ⟨hc, hps⟩
/-- a cell is changed -/
theorem Sim.write (s : Sim K mg μ Hs H S) {n : Nat} {a : Addr} {c : Cell} {o : HO} (ha : μ[n]? = some a) (hc : CellOk K mg μ Hs (upd H a o) a c) : Sim K mg μ Hs (upd H a o) (S.set n c) := by
  obtain ⟨c0, h0, h1, h2⟩ := s.at ha
  have sub : Same Hs (upd H a o) := fun b u hb => by
    rw [upd_ne (fun z => by subst z; rw [h2] at hb; cases hb)]
    exact s.sub _ _ hb
  refine ⟨sub, by simp [s.len], s.nd, fun m b c' h3 h4 => ?_⟩
  by_cases hm : m = n
  · subst hm
    rw [ha] at h3
    cases h3
    obtain ⟨hl, _⟩ := List.getElem?_eq_some_iff.mp h0
    rw [List.getElem?_set_self hl] at h4
    cases h4
    exact ⟨hc, h2⟩
  · rw [List.getElem?_set_ne (Ne.symm hm)] at h4
    obtain ⟨h5, h6⟩ := s.cell m b c' h3 h4
    have nb : b ≠ a := fun z => by
      subst z
      exact hm (s.nd m n b h3 ha)
    exact ⟨h5.move (Gr.refl _ _) fun o' h => by rw [upd_ne nb]; exact h, h6⟩
end

/-! ### exceptions -/
def ExOk (K : PySem.W.Frag) (mg : Str → Option Value) (μ : List Addr) (Hs H : Hp) (x : Exn) (cls : Value) (dx : Option Addr) : Prop :=
  ∃ C : Addr, mg x.cls = some (.ref C) ∧ cls = .ref C ∧ ((x.fs = [] ∧ dx = none) ∨ ∃ (d : Addr) (vs : List (Str × V)), x.fs ≠ [] ∧ dx = some d ∧ H d = some (.xd vs) ∧ Hs d = none ∧ FRp K μ Hs vs x.fs)

/-! ### the judgements -/
abbrev SF := Rho → Store → Option (Res D × Store)
abbrev SFs := Rho → Store → Option (Res (List D) × Store)
abbrev SFt := Rho → Store → Option (Res Bool × Store)
def PostM (K : PySem.W.Frag) (mg : Str → Option Value) (W : WX) (σ : St) (μ : List Addr) (Hs : Hp) {α : Type} (r : Res α) (S1 : Store) (good : α → List Addr → Hp → Hp → Prop) : Prop := match r with
  | .ok a => ∀ μ' Hs' H', Gr μ Hs μ' Hs' → Sim K mg μ' Hs' H' S1 → good a μ' Hs' H'
  | .er x => ∀ μ' Hs' H' cls dx, Gr μ Hs μ' Hs' → Sim K mg μ' Hs' H' S1 → ExOk K mg μ' Hs' H' x cls dx → W cls dx σ H'
def tM (K : PySem.W.Frag) (mg : Str → Option Value) (W : WX) (f : SF) : TE := fun σ H Q => ∃ (μ : List Addr) (Hs : Hp) (ρ : Rho) (S : Store) (r : Res D) (S1 : Store),
  Sim K mg μ Hs H S ∧ VEnv K μ Hs σ ρ ∧ f ρ S = some (r, S1) ∧ PostM K mg W σ μ Hs r S1 fun d μ' Hs' H' => ∀ v, Rp K μ' Hs' v d → Q v H'
def tMs (K : PySem.W.Frag) (mg : Str → Option Value) (W : WX) (f : SFs) : TA := fun σ H Q => ∃ (μ : List Addr) (Hs : Hp) (ρ : Rho) (S : Store) (r : Res (List D)) (S1 : Store),
  Sim K mg μ Hs H S ∧ VEnv K μ Hs σ ρ ∧ f ρ S = some (r, S1) ∧ PostM K mg W σ μ Hs r S1 fun ds μ' Hs' H' => ∀ vs, RpA K μ' Hs' vs ds → Q vs H'
def tMT (K : PySem.W.Frag) (mg : Str → Option Value) (W : WX) (f : SFt) : TT := fun σ H Q => ∃ (μ : List Addr) (Hs : Hp) (ρ : Rho) (S : Store) (r : Res Bool) (S1 : Store),
  Sim K mg μ Hs H S ∧ VEnv K μ Hs σ ρ ∧ f ρ S = some (r, S1) ∧ PostM K mg W σ μ Hs r S1 fun b _ _ H' => Q b H'
/-- first m, then k of its value; an error ends both -/
def sb {α β : Type} (m : Option (Res α × Store)) (k : α → Store → Option (Res β × Store)) : Option (Res β × Store) := match m with
  | some (.ok a, S) => k a S
  | some (.er x, S) => some (.er x, S)
  | none => none
theorem sb_ok {α β : Type} {a : α} {S : Store} {k : α → Store → Option (Res β × Store)} : sb (some (.ok a, S)) k = k a S := rfl
theorem sb_er {α β : Type} {x : Exn} {S : Store} {k : α → Store → Option (Res β × Store)} : sb (some (.er x, S)) k = some (.er x, S) := rfl
section
variable {K : PySem.W.Frag} {mg : Str → Option Value} {W : WX} {σ : St} {μ : List Addr} {Hs H : Hp} {S : Store} {ρ : Rho}
/-- two steps, one behind the other -/
theorem post_bind {α β : Type} {m : Option (Res α × Store)} {k : α → Store → Option (Res β × Store)} {r : Res β} {S1 : Store} {good : β → List Addr → Hp → Hp → Prop} (e : sb m k = some (r, S1)) (P : PostM K mg W σ μ Hs r S1 good) :
    ∃ (q : Res α) (S2 : Store), m = some (q, S2) ∧ PostM K mg W σ μ Hs q S2 fun a μ' Hs' H' => Sim K mg μ' Hs' H' S2 ∧ Gr μ Hs μ' Hs' ∧ k a S2 = some (r, S1) ∧ PostM K mg W σ μ' Hs' r S1 good := by
  cases m with
  | none => cases e
  | some p =>
    obtain ⟨q, S2⟩ := p
    refine ⟨q, S2, rfl, ?_⟩
    cases q with
    | er x => cases e; exact P
    | ok a =>
      intro μ' Hs' H' g s
      refine ⟨s, g, e, ?_⟩
      cases r with
      | ok b => exact fun μ2 Hs2 H2 g2 s2 => P μ2 Hs2 H2 (g.trans g2) s2
      | er x => exact fun μ2 Hs2 H2 cls dx g2 s2 x2 => P μ2 Hs2 H2 cls dx (g.trans g2) s2 x2
theorem PostM.imp {α : Type} {r : Res α} {S1 : Store} {good good' : α → List Addr → Hp → Hp → Prop} (P : PostM K mg W σ μ Hs r S1 good) (h : ∀ a μ' Hs' H', Gr μ Hs μ' Hs' → Sim K mg μ' Hs' H' S1 → good a μ' Hs' H' → good' a μ' Hs' H') : PostM K mg W σ μ Hs r S1 good' := by
  cases r with
  | ok a => exact fun μ' Hs' H' g s => h a μ' Hs' H' g s (P μ' Hs' H' g s)
  | er x => exact P
end

/-! ### expressions -/
section
variable {X : Cx} {W : WX} {e a b c o : Expr} {es : List Expr} {pos p p2 apos cpos : Pos}
/-- what needs no store -/
def mP (f : F) : SF := fun ρ S => b1 (f ρ) fun d => some (.ok d, S)
theorem s_pure {f : F} (h : PE X e (tD X.K f)) : PE X e (tM X.K X.mg W (mP f)) := by
  refine pe_imp h fun σ H Q ⟨μ, Hs, ρ, S, r, S1, s, env, e, P⟩ => ?_
  obtain ⟨d, e1, e2⟩ := b1_eq e
  cases e2
  exact ⟨μ, Hs, ρ, d, s.sub, env, e1, fun v H' Hs' x r => P μ Hs' H' (Gr.part x.part) (s.ext x) v r⟩
def mNil : SFs := fun _ S => some (.ok [], S)
def mCons (f : SF) (g : SFs) : SFs := fun ρ S => sb (f ρ S) fun d S1 => sb (g ρ S1) fun ds S2 => some (.ok (d :: ds), S2)
theorem s_nil : PA X [] (tMs X.K X.mg W mNil) := pa_imp pa_nil fun σ H Q ⟨μ, Hs, ρ, S, r, S1, s, env, e, P⟩ => by cases e; exact P μ Hs H (Gr.refl _ _) s [] .nil
theorem s_cons {f : SF} {fs : SFs} (he : PE X e (tM X.K X.mg W f)) (ht : PA X es (tMs X.K X.mg W fs)) (hs : starEach (e :: es) X.env = (false, eval e X.env) :: starEach es X.env := by rfl) : PA X (e :: es) (tMs X.K X.mg W (mCons f fs)) := by
  refine pa_imp (pa_cons he ht hs) fun σ H Q ⟨μ, Hs, ρ, S, r, S1, s, env, e, P⟩ => ?_
  obtain ⟨q, S2, e1, P1⟩ := post_bind e P
  refine ⟨μ, Hs, ρ, S, q, S2, s, env, e1, P1.imp fun d μ' Hs' H' g s' ⟨_, _, e2, P2⟩ v rv => ?_⟩
  obtain ⟨q2, S3, e3, P3⟩ := post_bind e2 P2
  refine ⟨μ', Hs', ρ, S2, q2, S3, s', env.gr g, e3, P3.imp fun ds μ2 Hs2 H2 g2 s2 ⟨_, _, e4, P4⟩ vs rvs => ?_⟩
  cases e4
  exact P4 μ2 Hs2 H2 (Gr.refl _ _) s2 (v :: vs) (.cons (rv.gr g2) rvs)
/-- a list's cell as data -/
def view (S : Store) : D → D
  | .loc n => match S[n]? with
    | some (.lst ds) => .lst ds
    | _ => .loc n
  | d => d
theorem view_rp {K : PySem.W.Frag} {mg : Str → Option Value} {μ : List Addr} {Hs H : Hp} {S : Store} (s : Sim K mg μ Hs H S) {d : D} {v : V} (r : Rp K μ Hs v d) : Rp K μ H v (view S d) := by
  cases d with
  | loc n =>
    cases r with
    | loc h =>
      unfold view
      obtain ⟨c, h1, h2, h3⟩ := s.at h
      simp only [h1]
      cases c with
      | lst ds =>
        obtain ⟨vs, h4, h5⟩ := h2
        exact .lst h4 (h5.mono s.sub)
      | _ => exact .loc h
  | _ => exact r.mono s.sub
theorem sca_any {K : PySem.W.Frag} {μ μ' : List Addr} {H H' : Hp} {v : V} {d : D} (r : Rp K μ H v d) (h : d.sca = true) : Rp K μ' H' v d := by
  cases r with
  | non => exact .non
  | bool _ => exact .bool _
  | int _ => exact .int _
  | str _ => exact .str _
  | _ => exact absurd h Bool.false_ne_true
/-- a list's cell -/
def isLc (S : Store) : D → Bool
  | .loc n => match S[n]? with
    | some (.lst _) => true
    | _ => false
  | _ => false
theorem view_same {S : Store} : ∀ {d : D}, isLc S d = false → view S d = d
  | .loc n, h => by
    simp only [isLc] at h
    simp only [view]
    cases q : S[n]? with
    | none => rfl
    | some c =>
      rw [q] at h
      cases c with
      | lst _ => cases h
      | _ => rfl
  | .non, _ => rfl
  | .bool _, _ => rfl
  | .int _, _ => rfl
  | .str _, _ => rfl
  | .lst _, _ => rfl
  | .tup _, _ => rfl
  | .scr _, _ => rfl
/-- an operation on two values; of a list's cell only a plain value comes out -/
def m2 (G : D → D → Option D) (f g : SF) : SF := fun ρ S => sb (f ρ S) fun d S1 => sb (g ρ S1) fun e S2 => b1 (G (view S2 d) (view S2 e)) fun o => if (o.sca || (!isLc S2 d && !isLc S2 e)) = true then some (.ok o, S2) else none
theorem tM_2 {r : R2} {G : D → D → Option D} {f g : SF} (hG : Imp2 X.K r G) : ∀ σ H Q, tM X.K X.mg W (m2 G f g) σ H Q → tOp r (tM X.K X.mg W f) (tM X.K X.mg W g) σ H Q := by
  rintro σ H Q ⟨μ, Hs, ρ, S, r, S1, s, env, e, P⟩
  obtain ⟨q, S2, e1, P1⟩ := post_bind e P
  refine ⟨μ, Hs, ρ, S, q, S2, s, env, e1, P1.imp fun d μ1 Hs1 H1 g1 s1 ⟨_, _, e2, P2⟩ v rv => ?_⟩
  obtain ⟨q2, S3, e3, P3⟩ := post_bind e2 P2
  refine ⟨μ1, Hs1, ρ, S2, q2, S3, s1, env.gr g1, e3, P3.imp fun d2 μ2 Hs2 H2 g2 s2 ⟨_, _, e4, P4⟩ u ru => ?_⟩
  obtain ⟨o, e5, e6⟩ := b1_eq e4
  obtain ⟨h1, h2⟩ := ite_some e6
  cases h2
  cases hsc : o.sca with
  | true =>
    refine hG μ2 H2 H2 v u _ _ o Q (Same.refl _) (view_rp s2 (rv.gr g2)) (view_rp s2 ru) e5 fun v' H' Hs' x rr => ?_
    exact P4 μ2 Hs2 H' (Gr.refl _ _) (s2.side x.all) v' (sca_any rr hsc)
  | false =>
    rw [hsc, Bool.false_or, Bool.and_eq_true, Bool.not_eq_true', Bool.not_eq_true'] at h1
    rw [view_same h1.1, view_same h1.2] at e5
    exact hG μ2 H2 Hs2 v u _ _ o Q s2.sub (rv.gr g2) ru e5 fun v' H' Hs' x rr => P4 μ2 Hs' H' (Gr.part x.part) (s2.ext x) v' rr
theorem s_op {op : Operator} {r : R2} {G : D → D → Option D} {f g : SF} (ho : OpR X (binaryOp op) r) (hG : Imp2 X.K r G) (ha : PE X a (tM X.K X.mg W f)) (hb : PE X b (tM X.K X.mg W g)) : PE X (.BinOp a op b pos) (tM X.K X.mg W (m2 G f g)) := pe_imp (pe_op ho ha hb) (tM_2 hG)
theorem s_cmp {op : CmpOp} {r : R2} {G : D → D → Option D} {f g : SF} (ho : OpR X (compareOp op) r) (hG : Imp2 X.K r G) (ha : PE X a (tM X.K X.mg W f)) (hb : PE X b (tM X.K X.mg W g)) (hm : behindInMarks op b = false := by first | exact nomark _ | rfl) :
    PE X (.Compare a [op] [b] pos) (tM X.K X.mg W (m2 G f g)) := pe_imp (pe_cmpR ho ha hb hm) (tM_2 hG)
/-- a built-in's call; of a list's cell only a plain value comes out -/
def mL (G : List D → Option D) (f : SFs) : SF := fun ρ S => sb (f ρ S) fun ds S1 => b1 (G (ds.map (view S1))) fun o => if (o.sca || ds.all fun d => !isLc S1 d) = true then some (.ok o, S1) else none
theorem view_same_all {S : Store} : ∀ {ds : List D}, (ds.all fun d => !isLc S d) = true → ds.map (view S) = ds
  | [], _ => rfl
  | d :: ds, h => by
    rw [List.all_cons, Bool.and_eq_true, Bool.not_eq_true'] at h
    rw [List.map_cons, view_same h.1, view_same_all h.2]
theorem view_rpa {K : PySem.W.Frag} {mg : Str → Option Value} {μ : List Addr} {Hs H : Hp} {S : Store} (s : Sim K mg μ Hs H S) : ∀ {ds : List D} {vs : List V}, RpA K μ Hs vs ds → RpA K μ H vs (ds.map (view S))
  | _, _, .nil => .nil
  | _, _, .cons h t => .cons (view_rp s h) (view_rpa s t)
theorem tM_L {r : List V → Hp → VK → Prop} {G : List D → Option D} {f : SFs} (hG : ImpL X.K r G) : ∀ σ H Q, tM X.K X.mg W (mL G f) σ H Q → tCB r (tMs X.K X.mg W f) σ H Q := by
  rintro σ H Q ⟨μ, Hs, ρ, S, r, S1, s, env, e, P⟩
  obtain ⟨q, S2, e1, P1⟩ := post_bind e P
  refine ⟨μ, Hs, ρ, S, q, S2, s, env, e1, P1.imp fun ds μ1 Hs1 H1 g1 s1 ⟨_, _, e2, P2⟩ vs rv => ?_⟩
  obtain ⟨o, e5, e6⟩ := b1_eq e2
  obtain ⟨h1, h2⟩ := ite_some e6
  cases h2
  cases hsc : o.sca with
  | true =>
    refine hG μ1 H1 H1 vs _ o Q (Same.refl _) (view_rpa s1 rv) e5 fun v' H' Hs' x rr => ?_
    exact P2 μ1 Hs1 H' (Gr.refl _ _) (s1.side x.all) v' (sca_any rr hsc)
  | false =>
    rw [hsc, Bool.false_or] at h1
    rw [view_same_all h1] at e5
    exact hG μ1 H1 Hs1 vs _ o Q s1.sub rv e5 fun v' H' Hs' x rr => P2 μ1 Hs' H' (Gr.part x.part) (s1.ext x) v' rr
theorem s_callB {id : String} {r : List V → Hp → VK → Prop} {G : List D → Option D} {x : Str} {f : SFs} (hc : CallR X (.builtin id) r) (hG : ImpL X.K r G) (hm : X.mg x = none) (ha : PA X (e :: es) (tMs X.K X.mg W f)) (hg : Gl X x := by rfl) (hv : bootBuiltins x = some (.builtin id) := by decide +kernel)
    (hn : x ≠ "__name__" := by decide) (hdb : (x == ("__debug__" : Str)) = false := by decide) (he : starEach (e :: es) X.env = (false, eval e X.env) :: starEach es X.env := by rfl) (hpl : (backTo pos (starEach es X.env)).any (·.1) = false := by rfl) :
    PE X (.Call (.Name x p) (e :: es) [] pos) (tM X.K X.mg W (mL G f)) := pe_imp (pe_callB hc hg hm hv ha hn hdb he hpl) (tM_L hG)
theorem s_callTy {T : String} {r : List V → Hp → VK → Prop} {G : List D → Option D} {x : Str} {f : SFs} (hc : CallR X (.type T) r) (hG : ImpL X.K r G) (hm : X.mg x = none) (ha : PA X (e :: es) (tMs X.K X.mg W f)) (hg : Gl X x := by rfl) (hv : bootBuiltins x = some (.type T) := by decide +kernel)
    (hn : x ≠ "__name__" := by decide) (hdb : (x == ("__debug__" : Str)) = false := by decide) (he : starEach (e :: es) X.env = (false, eval e X.env) :: starEach es X.env := by rfl) (hpl : (backTo pos (starEach es X.env)).any (·.1) = false := by rfl) :
    PE X (.Call (.Name x p) (e :: es) [] pos) (tM X.K X.mg W (mL G f)) := pe_imp (pe_callTy hc hg hm hv ha hn hdb he hpl) (tM_L hG)
/-- list(x), a new cell -/
def mList (f : SFs) : SF := fun ρ S => sb (f ρ S) fun ds S1 => match ds.map (view S1) with
  | [.lst es] => some (.ok (.loc S1.length), S1 ++ [.lst es])
  | [.tup es] => some (.ok (.loc S1.length), S1 ++ [.lst es])
  | _ => none
/-- what a list's cell holds, over the part that is only read -/
theorem view_lst {K : PySem.W.Frag} {mg : Str → Option Value} {μ : List Addr} {Hs H : Hp} {S : Store} (s : Sim K mg μ Hs H S) {d : D} {v : V} {es : List D} (r : Rp K μ Hs v d) (h : view S d = .lst es) : ∃ a vs, v = .ref a ∧ H a = some (.lst vs) ∧ RpA K μ Hs vs es := by
  cases r with
  | loc q =>
    obtain ⟨c, h1, h2, h3⟩ := s.at q
    unfold view at h
    simp only [h1] at h
    cases c with
    | lst ds =>
      cases h
      obtain ⟨vs, h4, h5⟩ := h2
      exact ⟨_, vs, rfl, h4, h5⟩
    | _ => cases h
  | lst h1 h2 => cases h; exact ⟨_, _, rfl, s.sub _ _ h1, h2⟩
  | _ => cases h
theorem view_tup {K : PySem.W.Frag} {μ : List Addr} {Hs : Hp} {S : Store} {d : D} {v : V} {es : List D} (r : Rp K μ Hs v d) (h : view S d = .tup es) : ∃ a vs, v = .ref a ∧ SqT K Hs a vs ∧ RpA K μ Hs vs es := by
  cases r with
  | @loc _ n q =>
    have k : ∀ o : Option Cell, (match o with | some (.lst ds) => D.lst ds | _ => D.loc n) ≠ .tup es := fun o z => by
      cases o with
      | none => cases z
      | some c => cases c <;> cases z
    exact absurd h (k _)
  | tup h1 h2 => cases h; exact ⟨_, _, rfl, h1, h2⟩
  | _ => cases h
theorem loc_new {K : PySem.W.Frag} {μ : List Addr} {H : Hp} {p : Addr} {S : Store} (h : μ.length = S.length) : Rp K (μ ++ [p]) H (.ref p) (.loc S.length) := .loc (by rw [← h, List.getElem?_append_right (Nat.le_refl _), Nat.sub_self]; rfl)
theorem s_list {f : SF} (hm : X.mg "list" = none) (ha : PE X a (tM X.K X.mg W f)) (hg : Gl X "list" := by rfl) (he : starEach [a] X.env = (false, eval a X.env) :: starEach [] X.env := by rfl) (hpl : (backTo pos (starEach [] X.env)).any (·.1) = false := by rfl) :
    PE X (.Call (.Name "list" p) [a] [] pos) (tM X.K X.mg W (mList (mCons f mNil))) := by
  refine pe_imp (pe_callTy call_list_of hg hm (by decide +kernel) (s_cons ha s_nil he) (by decide) (by decide) he hpl) fun σ H Q ⟨μ, Hs, ρ, S, r, S1, s, env, e, P⟩ => ?_
  obtain ⟨q, S2, e1, P1⟩ := post_bind e P
  refine ⟨μ, Hs, ρ, S, q, S2, s, env, e1, P1.imp fun ds μ1 Hs1 H1 g1 s1 ⟨_, _, e2, P2⟩ vs rv => ?_⟩
  cases rv with
  | nil => cases e2
  | @cons v vs d ds rv rt =>
    have e2' : (match view S2 d :: ds.map (view S2) with
      | [.lst es] => some (Res.ok (D.loc S2.length), S2 ++ [Cell.lst es])
      | [.tup es] => some (.ok (.loc S2.length), S2 ++ [.lst es])
      | _ => none) = some (r, S1) := e2
    split at e2'
    · rename_i es he
      injection he with he1 he2
      cases e2'
      cases rt with
      | cons _ _ => cases he2
      | nil =>
        obtain ⟨a, xs, rfl, h1, h2⟩ := view_lst s1 rv he1
        refine ⟨a, xs, rfl, .inl (SqL.of h1), fun l hl => ?_⟩
        obtain ⟨s3, g3⟩ := s1.alloc (c := .lst es) hl ⟨xs, upd_same, h2.gr ⟨⟨[l], rfl⟩, Same.refl _⟩⟩
        exact P2 _ _ _ g3 s3 _ (loc_new s1.len)
    · rename_i es he
      injection he with he1 he2
      cases e2'
      cases rt with
      | cons _ _ => cases he2
      | nil =>
        obtain ⟨a, xs, rfl, h1, h2⟩ := view_tup rv he1
        refine ⟨a, xs, rfl, .inr (sqT_mono s1.sub h1), fun l hl => ?_⟩
        obtain ⟨s3, g3⟩ := s1.alloc (c := .lst es) hl ⟨xs, upd_same, h2.gr ⟨⟨[l], rfl⟩, Same.refl _⟩⟩
        exact P2 _ _ _ g3 s3 _ (loc_new s1.len)
    · cases e2'
/-- [a, b, ..], a new cell -/
def mDisp (f : SFs) : SF := fun ρ S => sb (f ρ S) fun ds S1 => if ds.length ≤ sizeLine then some (.ok (.loc S1.length), S1 ++ [.lst ds]) else none
theorem s_disp {f : SFs} (ha : PA X es (tMs X.K X.mg W f)) : PE X (.List es pos) (tM X.K X.mg W (mDisp f)) := by
  refine pe_imp (pe_lst ha) fun σ H Q ⟨μ, Hs, ρ, S, r, S1, s, env, e, P⟩ => ?_
  obtain ⟨q, S2, e1, P1⟩ := post_bind e P
  refine ⟨μ, Hs, ρ, S, q, S2, s, env, e1, P1.imp fun ds μ1 Hs1 H1 g1 s1 ⟨_, _, e2, P2⟩ vs rv => ?_⟩
  obtain ⟨hz, h2⟩ := ite_some e2
  cases h2
  refine ⟨by rw [rv.len]; exact hz, fun p hp => ?_⟩
  obtain ⟨s3, g3⟩ := s1.alloc (c := .lst ds) hp ⟨vs, upd_same, rv.gr ⟨⟨[p], rfl⟩, Same.refl _⟩⟩
  exact P2 _ _ _ g3 s3 _ (loc_new s1.len)
/-- (a, b, ..) -/
def mTup (f : SFs) : SF := fun ρ S => sb (f ρ S) fun ds S1 => if ds.length ≤ sizeLine then some (.ok (.tup ds), S1) else none
theorem s_tup {x1} {f : SFs} (ha : PA X es (tMs X.K X.mg W f)) : PE X (.Tuple es x1 pos) (tM X.K X.mg W (mTup f)) := by
  refine pe_imp (pe_tup ha) fun σ H Q ⟨μ, Hs, ρ, S, r, S1, s, env, e, P⟩ => ?_
  obtain ⟨q, S2, e1, P1⟩ := post_bind e P
  refine ⟨μ, Hs, ρ, S, q, S2, s, env, e1, P1.imp fun ds μ1 Hs1 H1 g1 s1 ⟨_, _, e2, P2⟩ vs rv => ?_⟩
  obtain ⟨hz, h2⟩ := ite_some e2
  cases h2
  refine ⟨by rw [rv.len]; exact hz, fun p hp => ?_⟩
  have x := Ext.made (o := .tup vs) s1.sub hp
  exact P2 _ _ _ (Gr.part x.part) (s1.ext x) _ (.tup (SqT.of upd_same) (rv.mono x.part))
/-- a + b of lists, a new cell -/
def mCat (f g : SF) : SF := fun ρ S => sb (f ρ S) fun d S1 => sb (g ρ S1) fun e S2 => match view S2 d, view S2 e with
  | .lst xs, .lst ys => if xs.length + ys.length ≤ sizeLine then some (.ok (.loc S2.length), S2 ++ [.lst (xs ++ ys)]) else none
  | _, _ => none
theorem s_cat {f g : SF} (ha : PE X a (tM X.K X.mg W f)) (hb : PE X b (tM X.K X.mg W g)) : PE X (.BinOp a .Add b pos) (tM X.K X.mg W (mCat f g)) := by
  refine pe_imp (pe_op op_cat ha hb) fun σ H Q ⟨μ, Hs, ρ, S, r, S1, s, env, e, P⟩ => ?_
  obtain ⟨q, S2, e1, P1⟩ := post_bind e P
  refine ⟨μ, Hs, ρ, S, q, S2, s, env, e1, P1.imp fun d μ1 Hs1 H1 g1 s1 ⟨_, _, e2, P2⟩ v rv => ?_⟩
  obtain ⟨q2, S3, e3, P3⟩ := post_bind e2 P2
  refine ⟨μ1, Hs1, ρ, S2, q2, S3, s1, env.gr g1, e3, P3.imp fun d2 μ2 Hs2 H2 g2 s2 ⟨_, _, e4, P4⟩ u ru => ?_⟩
  split at e4
  · rename_i xs ys h1 h2
    obtain ⟨hz, h3⟩ := ite_some e4
    cases h3
    obtain ⟨a1, vs, rfl, k1, k2⟩ := view_lst s2 (rv.gr g2) h1
    obtain ⟨a2, us, rfl, k3, k4⟩ := view_lst s2 ru h2
    refine ⟨a1, a2, vs, us, rfl, rfl, k1, k3, by rw [k2.len, k4.len]; exact hz, fun p hp => ?_⟩
    obtain ⟨s5, g5⟩ := s2.alloc (c := .lst (xs ++ ys)) hp ⟨vs ++ us, upd_same, (k2.app k4).gr ⟨⟨[p], rfl⟩, Same.refl _⟩⟩
    exact P4 _ _ _ g5 s5 _ (loc_new s2.len)
  · cases e4
/-- x[i] of a list's cell, a tuple -/
def mIx (f g : SF) : SF := fun ρ S => sb (f ρ S) fun d S1 => sb (g ρ S1) fun e S2 => match view S2 d, e with
  | .lst xs, .int i => b1 (atI xs i) fun o => some (.ok o, S2)
  | .tup xs, .int i => b1 (atI xs i) fun o => some (.ok o, S2)
  | _, _ => none
theorem s_ix {f g : SF} (ha : PE X a (tM X.K X.mg W f)) (hb : PE X b (tM X.K X.mg W g)) (hs : PlainIx b := by exact fun _ _ => rfl) : PE X (.Subscript a b pos) (tM X.K X.mg W (mIx f g)) := by
  refine pe_imp (pe_ix ix_seq ha hb hs) fun σ H Q ⟨μ, Hs, ρ, S, r, S1, s, env, e, P⟩ => ?_
  obtain ⟨q, S2, e1, P1⟩ := post_bind e P
  refine ⟨μ, Hs, ρ, S, q, S2, s, env, e1, P1.imp fun d μ1 Hs1 H1 g1 s1 ⟨_, _, e2, P2⟩ v rv => ?_⟩
  obtain ⟨q2, S3, e3, P3⟩ := post_bind e2 P2
  refine ⟨μ1, Hs1, ρ, S2, q2, S3, s1, env.gr g1, e3, P3.imp fun d2 μ2 Hs2 H2 g2 s2 ⟨_, _, e4, P4⟩ u ru => ?_⟩
  split at e4
  · rename_i xs i h1 _
    obtain ⟨z, e5, e6⟩ := b1_eq e4
    cases e6
    cases ru
    obtain ⟨a1, vs, rfl, k1, k2⟩ := view_lst s2 (rv.gr g2) h1
    obtain ⟨w, e7, rw⟩ := k2.atI e5
    exact .inl ⟨a1, vs, i, w, rfl, rfl, SqL.of k1, e7, P4 _ _ _ (Gr.refl _ _) s2 _ rw⟩
  · rename_i xs i h1 _
    obtain ⟨z, e5, e6⟩ := b1_eq e4
    cases e6
    cases ru
    obtain ⟨a1, vs, rfl, k1, k2⟩ := view_tup (rv.gr g2) h1
    obtain ⟨w, e7, rw⟩ := k2.atI e5
    exact .inr (.inl ⟨a1, vs, i, w, rfl, rfl, sqT_mono s2.sub k1, e7, P4 _ _ _ (Gr.refl _ _) s2 _ rw⟩)
  · cases e4
end
end Pd

/-! Sd1: fields, methods, making, statements, defs over a store. -/
namespace Pd
open PySem PySem.Spec L2 SkE
open PyProof.Rows hiding St

section
variable {K : PySem.W.Frag} {μ : List Addr} {H : Hp}
theorem FRp.look {κ : Type} [BEq κ] {vs : List (κ × V)} {fs : List (κ × D)} (r : FRp K μ H vs fs) (f : κ) : (fs.lookup f = none → vs.lookup f = none) ∧ ∀ d, fs.lookup f = some d → ∃ v, vs.lookup f = some v ∧ Rp K μ H v d := by
  unfold FRp at r
  induction r with
  | nil => exact ⟨fun _ => rfl, fun d h => by cases h⟩
  | @cons a b l m h t ih =>
    obtain ⟨k1, v⟩ := a
    obtain ⟨k2, d0⟩ := b
    obtain ⟨e, h⟩ := h
    simp only at e h
    subst e
    simp only [List.lookup]
    cases f == k1 with
    | true => exact ⟨fun q => (by cases q), fun d q => ⟨v, rfl, (by cases q; exact h)⟩⟩
    | false => exact ih
def putD (f : Str) (d : D) : List (Str × D) → List (Str × D)
  | [] => [(f, d)]
  | (g, x) :: r => if g = f then (g, d) :: r else (g, x) :: putD f d r
theorem FRp.put {vs : List (Str × V)} {fs : List (Str × D)} (r : FRp K μ H vs fs) {f : Str} {v : V} {d : D} (h : Rp K μ H v d) : FRp K μ H (putF f v vs) (putD f d fs) := by
  unfold FRp at r
  induction r with
  | nil => exact .cons ⟨rfl, h⟩ .nil
  | @cons a b l m h2 t ih =>
    obtain ⟨k1, v0⟩ := a
    obtain ⟨k2, d0⟩ := b
    obtain ⟨e, h2⟩ := h2
    simp only at e h2
    subst e
    show FRp K μ H (if k1 = f then (k1, v) :: l else (k1, v0) :: putF f v l) (if k1 = f then (k1, d) :: m else (k1, d0) :: putD f d m)
    by_cases hk : k1 = f
    · rw [if_pos hk, if_pos hk]; exact .cons ⟨rfl, h⟩ t
    · rw [if_neg hk, if_neg hk]; exact .cons ⟨rfl, h2⟩ ih
theorem FRp.len {κ : Type} {vs : List (κ × V)} {fs : List (κ × D)} (r : FRp K μ H vs fs) : vs.length = fs.length := Paired.length r
end

/-! ### calls that may raise, where the wish knows the slots -/
section
variable {X : Cx} {CX : CXT} {k : Nat} {f C : Addr} {fd : FuncData} {ps : List Str} {sp : Sp} {E : St → XK} {x m : Str} {p pos apos : Pos} {e o : Expr} {es : List Expr} {ta : TE} {t : TA}
def tMethX (C : Addr) (m : Str) (sp : Sp) (E : St → XK) (ta : TE) (t : TA) : TE := fun σ H Q => ta σ H fun x H1 => ∃ a dx fs, x = .ref a ∧ H1 a = some (.ins C dx fs) ∧ fs.lookup m = none ∧ t σ H1 fun vs H2 => sp (x :: vs) H2 Q (E σ)
theorem pe_methX {pl : Sem Bool} (he : PE X o ta) (c : Cls X.K C) (hm : Meth X.K C m f) (Fn : FnOk X.prog X.w X.K X.mg X.base CX k f fd ps sp) (hr : Room k X.A) (hb : Binds X.K fd ps []) (hx : ∀ σ, PassesAt CX X σ (E σ)) (ha : PA X (e :: es) t)
    (h1 : starEach (e :: es) X.env = (false, eval e X.env) :: starEach es X.env := by rfl) (h2 : (backTo pos (starEach es X.env)).any (·.1) = false := by rfl)
    (h3 : eval (.Call (.Attribute o m apos) (e :: es) [] pos) X.env = (do
      let ov ← eval o X.env; standAt apos.atName; let (g, first) ← holding [ov] (getMethod ov m pl); callWith pos g first (backTo pos (starEach (e :: es) X.env)) (backToKw pos (keywordEach [] X.env))) := by rfl) :
    PE X (.Call (.Attribute o m apos) (e :: es) [] pos) (tMethX C m sp E ta t) := by
  refine ⟨fun pins s σ H Q I h => PySem.W.methodCall_KW (pl := pl) (thn (he.run pins s σ H _ I h) fun u s1 ⟨x, H1, I1, rx, a, dx, fs, ex, ea, l, q⟩ => ?_) h3⟩
  cases ex
  cases (show u = Value.ref a from rx)
  refine getmeth_ok I1 ea c hm l (PySem.W.callWith_K (first := [.ref a]) (h₀ := X.base) I.ok.mod.kin hm.kp (thn (ha.run pos pins s1 σ H1 _ I1 q) fun us s2 ⟨vs, H2, I2, r, q2⟩ => ⟨I2.kIn, ?_⟩) h1 h2)
  exact run_fnS (us := .ref a :: us) (vs := .ref a :: vs) Fn hr hb (hx σ) I2 (.cons rfl r) q2
theorem pe_methX0 {pl : Sem Bool} (he : PE X o ta) (c : Cls X.K C) (hm : Meth X.K C m f) (Fn : FnOk X.prog X.w X.K X.mg X.base CX k f fd ps sp) (hr : Room k X.A) (hb : Binds X.K fd ps []) (hx : ∀ σ, PassesAt CX X σ (E σ))
    (h3 : eval (.Call (.Attribute o m apos) [] [] pos) X.env = (do
      let ov ← eval o X.env; standAt apos.atName; let (g, first) ← holding [ov] (getMethod ov m pl); callWith pos g first (backTo pos (starEach [] X.env)) (backToKw pos (keywordEach [] X.env))) := by rfl) :
    PE X (.Call (.Attribute o m apos) [] [] pos) (tMethX C m sp E ta tNil) := by
  refine ⟨fun pins s σ H Q I h => PySem.W.methodCall_KW (pl := pl) (thn (he.run pins s σ H _ I h) fun u s1 ⟨x, H1, I1, rx, a, dx, fs, ex, ea, l, q⟩ => ?_) h3⟩
  cases ex
  cases (show u = Value.ref a from rx)
  exact getmeth_ok I1 ea c hm l (PySem.W.callWith_K0 (first := [.ref a]) I1.kIn hm.kp (run_fnS (us := [.ref a]) (vs := [.ref a]) Fn hr hb (hx σ) I1 (.cons rfl .nil) q))
/-- C(..), an error out of __init__ too; dvs: the defaults -/
def tMakeX (C : Addr) (sp : Sp) (dvs : List V) (E : St → XK) (t : TA) : TE := fun σ H Q => t σ H fun vs H1 => ∀ x dx, H1 x = none → H1 dx = none → dx ≠ x → sp (.ref x :: (vs ++ dvs)) (upd (upd H1 dx (.own x)) x (.ins C dx [])) (fun v H2 => v = .non ∧ Q (.ref x) H2) (E σ)
theorem run_makeX {pins : List (Addr × Obj)} {σ : St} {H : Hp} {s : Shared} {Q : VK} {us : List Value} {vs dvs : List V} {ds : List Value} (M : Mk X.K C f) (Fn : FnOk X.prog X.w X.K X.mg X.base CX k f fd ps sp) (hr : Room (k + 1) X.A) (hb : Binds X.K fd ps ds) (hd : Vals dvs ds) (hx : PassesAt CX X σ (E σ)) (I : Inv X pins σ H s) (r : Vals vs us)
    (h : ∀ x dx, H x = none → H dx = none → dx ≠ x → sp (.ref x :: (vs ++ dvs)) (upd (upd H dx (.own x)) x (.ins C dx [])) (fun v H2 => v = .non ∧ Q (.ref x) H2) (E σ)) : wpAny (model X.prog X.w) X.A (call (.ref C) us) (EP X pins σ Q) X.xe s := by
  have I2 := Inv.made (C := C) I
  have hq := h (s.heap.objs.size + 1) s.heap.objs.size (I.hok.fresh (Nat.le_succ _)) (I.hok.fresh (Nat.le_refl _)) (Nat.ne_of_lt (Nat.lt_succ_self _))
  have r2 : Vals (V.ref (s.heap.objs.size + 1) :: (vs ++ dvs)) (Value.ref (s.heap.objs.size + 1) :: (us ++ ds)) := .cons rfl (r.append hd)
  have hl : (Value.ref (s.heap.objs.size + 1) :: us ++ ds).length = ps.length := r2.length.symm.trans (Fn.len _ _ _ _ hq)
  refine wpAny_call (make_map (f := f) I.kIn M.makes M.init (beq_iff_eq.mp M.fn) (codeAny_mono (Fn.run _ X.stack _ _ ⟨Value.ref (s.heap.objs.size + 1) :: us, []⟩ (Value.ref (s.heap.objs.size + 1) :: (us ++ ds)) _ _ (E σ) (hr.make C us []) (I2.env0.make C us []) (hb _ (Value.ref (s.heap.objs.size + 1) :: us) I2.kIn hl) r2 hq) fun r s' hq' => ?_))
  cases r with
  | error e => exact hx pins _ _ e s' I2 hq'
  | ok fl =>
    cases fl with
    | ret u =>
      obtain ⟨v, H', I3, rv, ev, q3⟩ := I2.after hq'
      cases ev
      exact ⟨rv, V.ref (s.heap.objs.size + 1), H', I3, rfl, q3⟩
    | next => exact hq'.elim
    | brk => exact hq'.elim
    | cont => exact hq'.elim
theorem pe_makeX {ds : List Value} {dvs : List V} (M : Mk X.K C f) (Fn : FnOk X.prog X.w X.K X.mg X.base CX k f fd ps sp) (hr : Room (k + 1) X.A) (hg : Gl X x) (hm : X.mg x = some (.ref C)) (hb : Binds X.K fd ps ds) (hd : Vals dvs ds) (hx : ∀ σ, PassesAt CX X σ (E σ)) (ha : PA X (e :: es) t)
    (h0 : (x == ("__debug__" : Str)) = false := by decide) (h1 : starEach (e :: es) X.env = (false, eval e X.env) :: starEach es X.env := by rfl) (h2 : (backTo pos (starEach es X.env)).any (·.1) = false := by rfl) : PE X (.Call (.Name x p) (e :: es) [] pos) (tMakeX C sp dvs E t) :=
  ⟨fun pins s σ H Q I h => wpAny_Call_Name_kw (ld_glob I hg hm (PySem.W.callWith_K (h₀ := X.base) I.ok.mod.kin M.kp (thn (ha.run pos pins s σ H _ I h) fun us s1 ⟨vs, H1, I1, r, q⟩ => ⟨I1.kIn, run_makeX M Fn hr hb hd (hx σ) I1 r q⟩) h1 h2) h0)⟩
theorem pe_makeX0 {ds : List Value} {dvs : List V} (M : Mk X.K C f) (Fn : FnOk X.prog X.w X.K X.mg X.base CX k f fd ps sp) (hr : Room (k + 1) X.A) (hg : Gl X x) (hm : X.mg x = some (.ref C)) (hb : Binds X.K fd ps ds) (hd : Vals dvs ds) (hx : ∀ σ, PassesAt CX X σ (E σ))
    (h0 : (x == ("__debug__" : Str)) = false := by decide) : PE X (.Call (.Name x p) [] [] pos) (tMakeX C sp dvs E tNil) :=
  ⟨fun pins s σ H Q I h => wpAny_Call_Name_kw (ld_glob I hg hm (PySem.W.callWith_K0 I.kIn M.kp (run_makeX (us := []) M Fn hr hb hd (hx σ) I .nil h)) h0)⟩
theorem pe_callX0 (Fn : FnOk X.prog X.w X.K X.mg X.base CX k f fd ps sp) (hr : Room k X.A) (hg : Gl X x) (hm : X.mg x = some (.ref f)) (hk : PySem.W.keepIn X.K (.ref f) = true) (hb : Binds X.K fd ps []) (hx : ∀ σ, PassesAt CX X σ (E σ)) (h0 : (x == ("__debug__" : Str)) = false := by decide) :
    PE X (.Call (.Name x p) [] [] pos) (tCallS sp E tNil) :=
  ⟨fun pins s σ H Q I h => wpAny_Call_Name_kw (ld_glob I hg hm (PySem.W.callWith_K0 I.kIn hk (run_fnS (us := []) Fn hr hb (hx σ) I .nil h)) h0)⟩
end

/-! ### the promise of a def over a store -/
abbrev SFn := List D → Store → Option (Res D × Store)
def spM (K : PySem.W.Frag) (mg : Str → Option Value) (fh : SFn) : Sp := fun vs H Q E => ∃ (μ : List Addr) (Hs : Hp) (S : Store) (ds : List D) (r : Res D) (S1 : Store),
  Sim K mg μ Hs H S ∧ RpA K μ Hs vs ds ∧ fh ds S = some (r, S1) ∧ PostM K mg (fun c d _ H' => E c d H') [] μ Hs r S1 fun d μ' Hs' H' => ∀ v, Rp K μ' Hs' v d → Q v H'
structure Dm (P : Program) (w : World) (K : PySem.W.Frag) (mg : Str → Option Value) (base : Heap) (k : Nat) (x : Str) (ps : List Str) (fh : SFn) : Prop where
  ex : ∃ (fa : Addr) (fd : FuncData), FnOk P w K mg base (L2.CX P w) k fa fd ps (spM K mg fh) ∧ mg x = some (.ref fa) ∧ PySem.W.keepIn K (.ref fa) = true ∧ Binds K fd ps []
/-- a class of the text -/
structure Ck (K : PySem.W.Frag) (mg : Str → Option Value) (c : Str) : Prop where
  ex : ∃ C : Addr, mg c = some (.ref C) ∧ Cls K C
structure At (K : PySem.W.Frag) (mg : Str → Option Value) (c f : Str) : Prop where
  no : ∀ C : Addr, mg c = some (.ref C) → NoAttr K C f
/-- a method of the class c -/
structure Mm (P : Program) (w : World) (K : PySem.W.Frag) (mg : Str → Option Value) (base : Heap) (k : Nat) (c m : Str) (ps : List Str) (fh : SFn) : Prop where
  ex : ∃ (C fa : Addr) (fd : FuncData), mg c = some (.ref C) ∧ Cls K C ∧ Meth K C m fa ∧ FnOk P w K mg base (L2.CX P w) k fa fd ps (spM K mg fh) ∧ Binds K fd ps []
/-- the making of the class c, by its __init__ -/
structure Mi (P : Program) (w : World) (K : PySem.W.Frag) (mg : Str → Option Value) (base : Heap) (k : Nat) (c : Str) (ps : List Str) (fh : SFn) : Prop where
  ex : ∃ (C fa : Addr) (fd : FuncData), mg c = some (.ref C) ∧ Mk K C fa ∧ FnOk P w K mg base (L2.CX P w) k fa fd ps (spM K mg fh) ∧ Binds K fd ps []
/-- .. with a text as the default of its last parameter -/
structure Md (P : Program) (w : World) (K : PySem.W.Frag) (mg : Str → Option Value) (base : Heap) (k : Nat) (c : Str) (ps : List Str) (z : Str) (fh : SFn) : Prop where
  ex : ∃ (C fa : Addr) (fd : FuncData) (u : Value), mg c = some (.ref C) ∧ Mk K C fa ∧ FnOk P w K mg base (L2.CX P w) k fa fd ps (spM K mg fh) ∧ RelV (.str z) u ∧ Binds K fd ps [u]
section
variable {X : Cx} {W : WX} {e a b c o : Expr} {es : List Expr} {pos p p2 apos cpos : Pos} {k : Nat} {ps : List Str}
theorem post_pass {K : PySem.W.Frag} {mg : Str → Option Value} {σ : St} {μ : List Addr} {Hs : Hp} {α : Type} {r : Res α} {S1 : Store} {good : α → List Addr → Hp → Hp → Prop} (P : PostM K mg W σ μ Hs r S1 good) : PostM K mg (fun c d _ H' => W c d σ H') [] μ Hs r S1 good := by
  cases r with
  | ok a => exact P
  | er x => exact P
def mCall (fh : SFn) (f : SFs) : SF := fun ρ S => sb (f ρ S) fun ds S1 => fh ds S1
theorem s_call {x : Str} {fh : SFn} {f : SFs} (tk : Takes X W) (C : Dm X.prog X.w X.K X.mg X.base k x ps fh) (hr : Room k X.A) (ha : PA X (e :: es) (tMs X.K X.mg W f)) (hg : Gl X x := by rfl) (h0 : (x == ("__debug__" : Str)) = false := by decide)
    (h1 : starEach (e :: es) X.env = (false, eval e X.env) :: starEach es X.env := by rfl) (h2 : (backTo pos (starEach es X.env)).any (·.1) = false := by rfl) : PE X (.Call (.Name x p) (e :: es) [] pos) (tM X.K X.mg W (mCall fh f)) := by
  obtain ⟨fa, fd, C1, C2, C3, C4⟩ := C.ex
  refine pe_imp (pe_callS C1 hr hg C2 C3 C4 (passAt tk) ha h0 h1 h2) fun σ H Q ⟨μ, Hs, ρ, S, r, S1, s, env, e, P⟩ => ?_
  obtain ⟨q, S2, e1, P1⟩ := post_bind e P
  exact ⟨μ, Hs, ρ, S, q, S2, s, env, e1, P1.imp fun ds μ1 Hs1 H1 g1 s1 ⟨_, _, e2, P2⟩ vs rv => ⟨μ1, Hs1, S2, ds, r, S1, s1, rv, e2, post_pass P2⟩⟩
theorem s_call0 {x : Str} {fh : SFn} (tk : Takes X W) (C : Dm X.prog X.w X.K X.mg X.base k x ps fh) (hr : Room k X.A) (hg : Gl X x := by rfl) (h0 : (x == ("__debug__" : Str)) = false := by decide) : PE X (.Call (.Name x p) [] [] pos) (tM X.K X.mg W (mCall fh mNil)) := by
  obtain ⟨fa, fd, C1, C2, C3, C4⟩ := C.ex
  refine pe_imp (pe_callX0 C1 hr hg C2 C3 C4 (passAt tk) h0) fun σ H Q ⟨μ, Hs, ρ, S, r, S1, s, env, e, P⟩ => ?_
  exact ⟨μ, Hs, S, [], r, S1, s, .nil, e, post_pass P⟩
/-- a def over data alone -/
def mCallP (fh : List D → Option D) (f : SFs) : SF := fun ρ S => sb (f ρ S) fun ds S1 => b1 (fh ds) fun d => some (.ok d, S1)
theorem s_callP {x : Str} {fh : List D → Option D} {f : SFs} (C : Df X.prog X.w X.K X.mg X.base k x ps fh) (hr : Room k X.A) (ha : PA X (e :: es) (tMs X.K X.mg W f)) (hg : Gl X x := by rfl) (h0 : (x == ("__debug__" : Str)) = false := by decide)
    (h1 : starEach (e :: es) X.env = (false, eval e X.env) :: starEach es X.env := by rfl) (h2 : (backTo pos (starEach es X.env)).any (·.1) = false := by rfl) : PE X (.Call (.Name x p) (e :: es) [] pos) (tM X.K X.mg W (mCallP fh f)) := by
  obtain ⟨fa, fd, C1, C2, C3, C4⟩ := C.ex
  refine pe_imp (pe_call (E := E0) C1 hr hg C2 C3 C4 .nil pass0 ha h0 h1 h2) fun σ H Q ⟨μ, Hs, ρ, S, r, S1, s, env, e, P⟩ => ?_
  obtain ⟨q, S2, e1, P1⟩ := post_bind e P
  refine ⟨μ, Hs, ρ, S, q, S2, s, env, e1, P1.imp fun ds μ1 Hs1 H1 g1 s1 ⟨_, _, e2, P2⟩ vs rv => ?_⟩
  obtain ⟨d, e3, e4⟩ := b1_eq e2
  cases e4
  show spD X.K fh (vs ++ []) H1 Q E0
  rw [List.append_nil]
  exact ⟨μ1, Hs1, ds, d, s1.sub, rv, e3, fun v H' Hs' x r => P2 μ1 Hs' H' (Gr.part x.part) (s1.ext x) v r⟩
/-- o.f -/
def mFld (c f : Str) (g : SF) : SF := fun ρ S => sb (g ρ S) fun d S1 => match d with
  | .loc n => match S1[n]? with
    | some (.ins c' fs) => if c' = c then b1 (fs.lookup f) fun v => some (.ok v, S1) else none
    | _ => none
  | _ => none
theorem fld_eq {c f : Str} {d : D} {S1 : Store} {q : Res D × Store} {k : List (Str × D) → Option (Res D × Store)} (h : (match d with | .loc n => (match S1[n]? with | some (.ins c' fs) => if c' = c then k fs else none | _ => none) | _ => none) = some q) :
    ∃ n fs, d = .loc n ∧ S1[n]? = some (.ins c fs) ∧ k fs = some q := by
  cases d with
  | loc n =>
    simp only at h
    cases q1 : S1[n]? with
    | none => rw [q1] at h; cases h
    | some ce =>
      rw [q1] at h
      cases ce with
      | ins c' fs =>
        simp only at h
        by_cases hc : c' = c
        · rw [if_pos hc] at h; subst hc; exact ⟨n, fs, rfl, q1, h⟩
        · rw [if_neg hc] at h; cases h
      | _ => cases h
  | _ => cases h
theorem ins_at {K : PySem.W.Frag} {mg : Str → Option Value} {μ : List Addr} {Hs H : Hp} {S : Store} {n : Nat} {c : Str} {fs : List (Str × D)} {v : V} {C : Addr} (s : Sim K mg μ Hs H S) (r : Rp K μ Hs v (.loc n)) (h : S[n]? = some (.ins c fs)) (hC : mg c = some (.ref C)) :
    ∃ a dx vs, v = .ref a ∧ μ[n]? = some a ∧ H a = some (.ins C dx vs) ∧ FRp K μ Hs vs fs := by
  cases r with
  | loc q =>
    obtain ⟨h1, _⟩ := s.cell n _ _ q h
    obtain ⟨C', dx, vs, k1, k2, k3⟩ := h1
    rw [hC] at k1
    cases k1
    exact ⟨_, dx, vs, rfl, q, k2, k3⟩
theorem s_fld {c f : Str} {g : SF} (hc : Ck X.K X.mg c) (hn : At X.K X.mg c f) (ho : PE X o (tM X.K X.mg W g)) (hb : attributeBase o f X.env (eval o X.env) = eval o X.env := by rfl) : PE X (.Attribute o f pos) (tM X.K X.mg W (mFld c f g)) := by
  obtain ⟨C, c1, c2⟩ := hc.ex
  refine pe_imp (pe_fld ho hb) fun σ H Q ⟨μ, Hs, ρ, S, r, S1, s, env, e, P⟩ => ?_
  obtain ⟨q, S2, e1, P1⟩ := post_bind e P
  refine ⟨μ, Hs, ρ, S, q, S2, s, env, e1, P1.imp fun d μ1 Hs1 H1 g1 s1 ⟨_, _, e2, P2⟩ v rv => ?_⟩
  obtain ⟨n, fs, rfl, h1, h2⟩ := fld_eq (k := fun fs => b1 (fs.lookup f) fun v => some (.ok v, S2)) (f := f) e2
  obtain ⟨z, h3, h4⟩ := b1_eq h2
  cases h4
  obtain ⟨a, dx, vs, rfl, k1, k2, k3⟩ := ins_at s1 rv h1 c1
  obtain ⟨u, k4, k5⟩ := (k3.look f).2 z h3
  exact ⟨a, C, dx, vs, u, rfl, k2, c2, hn.no C c1, k4, P2 _ _ _ (Gr.refl _ _) s1 u k5⟩
/-- o.m(..) -/
def mMeth (c m : Str) (fh : SFn) (g : SF) (f : SFs) : SF := fun ρ S => sb (g ρ S) fun d S1 => match d with
  | .loc n => match S1[n]? with
    | some (.ins c' fs) => if c' = c then (if fs.lookup m = none then sb (f ρ S1) fun ds S2 => fh (d :: ds) S2 else none) else none
    | _ => none
  | _ => none
theorem s_meth {pl : Sem Bool} {c m : Str} {fh : SFn} {g : SF} {f : SFs} (tk : Takes X W) (M : Mm X.prog X.w X.K X.mg X.base k c m ps fh) (hr : Room k X.A) (ho : PE X o (tM X.K X.mg W g)) (ha : PA X (e :: es) (tMs X.K X.mg W f))
    (h1 : starEach (e :: es) X.env = (false, eval e X.env) :: starEach es X.env := by rfl) (h2 : (backTo pos (starEach es X.env)).any (·.1) = false := by rfl)
    (h3 : eval (.Call (.Attribute o m apos) (e :: es) [] pos) X.env = (do
      let ov ← eval o X.env; standAt apos.atName; let (g, first) ← holding [ov] (getMethod ov m pl); callWith pos g first (backTo pos (starEach (e :: es) X.env)) (backToKw pos (keywordEach [] X.env))) := by rfl) :
    PE X (.Call (.Attribute o m apos) (e :: es) [] pos) (tM X.K X.mg W (mMeth c m fh g f)) := by
  obtain ⟨C, fa, fd, c1, c2, c3, c4, c5⟩ := M.ex
  refine pe_imp (pe_methX (pl := pl) ho c2 c3 c4 hr c5 (passAt tk) ha h1 h2 h3) fun σ H Q ⟨μ, Hs, ρ, S, r, S1, s, env, e, P⟩ => ?_
  obtain ⟨q, S2, e1, P1⟩ := post_bind e P
  refine ⟨μ, Hs, ρ, S, q, S2, s, env, e1, P1.imp fun d μ1 Hs1 H1 g1 s1 ⟨_, _, e2, P2⟩ v rv => ?_⟩
  obtain ⟨n, fs, rfl, h1, h2⟩ := fld_eq (k := fun fs => if fs.lookup m = none then sb (f ρ S2) fun ds S3 => fh (d :: ds) S3 else none) (f := m) e2
  by_cases hm : fs.lookup m = none
  · rw [if_pos hm] at h2
    obtain ⟨a, dx, vs, rfl, k1, k2, k3⟩ := ins_at s1 rv h1 c1
    obtain ⟨q2, S3, e3, P3⟩ := post_bind h2 P2
    refine ⟨a, dx, vs, rfl, k2, (k3.look m).1 hm, μ1, Hs1, ρ, S2, q2, S3, s1, env.gr g1, e3, P3.imp fun ds μ2 Hs2 H2 g2 s2 ⟨_, _, e4, P4⟩ us ru => ?_⟩
    exact ⟨μ2, Hs2, S3, _, r, S1, s2, .cons (rv.gr g2) ru, e4, post_pass P4⟩
  · rw [if_neg hm] at h2
    cases h2
theorem s_meth0 {pl : Sem Bool} {c m : Str} {fh : SFn} {g : SF} (tk : Takes X W) (M : Mm X.prog X.w X.K X.mg X.base k c m ps fh) (hr : Room k X.A) (ho : PE X o (tM X.K X.mg W g))
    (h3 : eval (.Call (.Attribute o m apos) [] [] pos) X.env = (do
      let ov ← eval o X.env; standAt apos.atName; let (g, first) ← holding [ov] (getMethod ov m pl); callWith pos g first (backTo pos (starEach [] X.env)) (backToKw pos (keywordEach [] X.env))) := by rfl) :
    PE X (.Call (.Attribute o m apos) [] [] pos) (tM X.K X.mg W (mMeth c m fh g mNil)) := by
  obtain ⟨C, fa, fd, c1, c2, c3, c4, c5⟩ := M.ex
  refine pe_imp (pe_methX0 (pl := pl) ho c2 c3 c4 hr c5 (passAt tk) h3) fun σ H Q ⟨μ, Hs, ρ, S, r, S1, s, env, e, P⟩ => ?_
  obtain ⟨q, S2, e1, P1⟩ := post_bind e P
  refine ⟨μ, Hs, ρ, S, q, S2, s, env, e1, P1.imp fun d μ1 Hs1 H1 g1 s1 ⟨_, _, e2, P2⟩ v rv => ?_⟩
  obtain ⟨n, fs, rfl, h1, h2⟩ := fld_eq (k := fun fs => if fs.lookup m = none then sb (mNil ρ S2) fun ds S3 => fh (d :: ds) S3 else none) (f := m) e2
  by_cases hm : fs.lookup m = none
  · rw [if_pos hm] at h2
    obtain ⟨a, dx, vs, rfl, k1, k2, k3⟩ := ins_at s1 rv h1 c1
    exact ⟨a, dx, vs, rfl, k2, (k3.look m).1 hm, μ1, Hs1, S2, _, r, S1, s1, .cons rv .nil, h2, post_pass P2⟩
  · rw [if_neg hm] at h2
    cases h2
/-- C(..) -/
def mMake (c : Str) (fh : SFn) (dvs : List D) (f : SFs) : SF := fun ρ S => sb (f ρ S) fun ds S1 => sb (fh (.loc S1.length :: (ds ++ dvs)) (S1 ++ [.ins c []])) fun d S2 => match d with
  | .non => some (.ok (.loc S1.length), S2)
  | _ => none
theorem make_read {K : PySem.W.Frag} {mg : Str → Option Value} {σ : St} {H1 : Hp} {Q : VK} {C : Addr} {c : Str} {fh : SFn} {ds dvD : List D} {vs dvs : List V} {μ : List Addr} {Hs : Hp} {S1 S3 : Store} {r : Res D} (hC : mg c = some (.ref C)) (s : Sim K mg μ Hs H1 S1) (rv : RpA K μ Hs vs ds) (rd : RpA K μ Hs dvs dvD)
    (e : (sb (fh (.loc S1.length :: (ds ++ dvD)) (S1 ++ [.ins c []])) fun d S2 => match d with | .non => some (Res.ok (D.loc S1.length), S2) | _ => none) = some (r, S3)) (P : PostM K mg W σ μ Hs r S3 fun d μ' Hs' H' => ∀ v, Rp K μ' Hs' v d → Q v H') :
    ∀ x dx, H1 x = none → H1 dx = none → dx ≠ x → spM K mg fh (.ref x :: (vs ++ dvs)) (upd (upd H1 dx (.own x)) x (.ins C dx [])) (fun v H2 => v = .non ∧ Q (.ref x) H2) (WE W σ) := by
  intro x dx nx ndx nex
  have s2 : Sim K mg μ Hs (upd H1 dx (.own x)) S1 := s.side (Ext.made (Same.refl H1) ndx).all
  have nx2 : (upd H1 dx (.own x)) x = none := by rw [upd_ne (Ne.symm nex)]; exact nx
  obtain ⟨s3, g3⟩ := s2.alloc (c := .ins c []) (o := .ins C dx []) nx2 ⟨C, dx, [], hC, upd_same, .nil⟩
  cases q : fh (.loc S1.length :: (ds ++ dvD)) (S1 ++ [.ins c []]) with
  | none => rw [q] at e; cases e
  | some p =>
    obtain ⟨r2, S4⟩ := p
    rw [q] at e
    refine ⟨_, Hs, _, _, r2, S4, s3, .cons (loc_new s.len) ((rv.app rd).gr g3), q, ?_⟩
    cases r2 with
    | er y => cases e; exact fun μ' Hs' H' cls dy g' s' x' => P μ' Hs' H' cls dy (g3.trans g') s' x'
    | ok d =>
      intro μ' Hs' H' g' s' v rv'
      cases d with
      | non =>
        cases e
        cases rv'
        exact ⟨rfl, P μ' Hs' H' (g3.trans g') s' _ (Rp.gr g' _ _ (loc_new s.len))⟩
      | _ => cases e
theorem s_make {x : Str} {fh : SFn} {f : SFs} (tk : Takes X W) (M : Mi X.prog X.w X.K X.mg X.base k x ps fh) (hr : Room (k + 1) X.A) (ha : PA X (e :: es) (tMs X.K X.mg W f)) (hg : Gl X x := by rfl) (h0 : (x == ("__debug__" : Str)) = false := by decide)
    (h1 : starEach (e :: es) X.env = (false, eval e X.env) :: starEach es X.env := by rfl) (h2 : (backTo pos (starEach es X.env)).any (·.1) = false := by rfl) : PE X (.Call (.Name x p) (e :: es) [] pos) (tM X.K X.mg W (mMake x fh [] f)) := by
  obtain ⟨C, fa, fd, c1, c2, c3, c4⟩ := M.ex
  refine pe_imp (pe_makeX (dvs := []) c2 c3 hr hg c1 c4 .nil (passAt tk) ha h0 h1 h2) fun σ H Q ⟨μ, Hs, ρ, S, r, S1, s, env, e, P⟩ => ?_
  obtain ⟨q, S2, e1, P1⟩ := post_bind e P
  exact ⟨μ, Hs, ρ, S, q, S2, s, env, e1, P1.imp fun ds μ1 Hs1 H1 g1 s1 ⟨_, _, e2, P2⟩ vs rv => make_read c1 s1 rv .nil e2 P2⟩
theorem s_make0 {x : Str} {fh : SFn} (tk : Takes X W) (M : Mi X.prog X.w X.K X.mg X.base k x ps fh) (hr : Room (k + 1) X.A) (hg : Gl X x := by rfl) (h0 : (x == ("__debug__" : Str)) = false := by decide) : PE X (.Call (.Name x p) [] [] pos) (tM X.K X.mg W (mMake x fh [] mNil)) := by
  obtain ⟨C, fa, fd, c1, c2, c3, c4⟩ := M.ex
  refine pe_imp (pe_makeX0 (dvs := []) c2 c3 hr hg c1 c4 .nil (passAt tk) h0) fun σ H Q ⟨μ, Hs, ρ, S, r, S1, s, env, e, P⟩ => ?_
  exact make_read (ds := []) c1 s .nil .nil e P
theorem s_makeD {x z : Str} {fh : SFn} {f : SFs} (tk : Takes X W) (M : Md X.prog X.w X.K X.mg X.base k x ps z fh) (hr : Room (k + 1) X.A) (ha : PA X (e :: es) (tMs X.K X.mg W f)) (hg : Gl X x := by rfl) (h0 : (x == ("__debug__" : Str)) = false := by decide)
    (h1 : starEach (e :: es) X.env = (false, eval e X.env) :: starEach es X.env := by rfl) (h2 : (backTo pos (starEach es X.env)).any (·.1) = false := by rfl) : PE X (.Call (.Name x p) (e :: es) [] pos) (tM X.K X.mg W (mMake x fh [.str z] f)) := by
  obtain ⟨C, fa, fd, u, c1, c2, c3, c4, c5⟩ := M.ex
  refine pe_imp (pe_makeX (dvs := [.str z]) c2 c3 hr hg c1 c5 (.cons c4 .nil) (passAt tk) ha h0 h1 h2) fun σ H Q ⟨μ, Hs, ρ, S, r, S1, s, env, e, P⟩ => ?_
  obtain ⟨q, S2, e1, P1⟩ := post_bind e P
  exact ⟨μ, Hs, ρ, S, q, S2, s, env, e1, P1.imp fun ds μ1 Hs1 H1 g1 s1 ⟨_, _, e2, P2⟩ vs rv => make_read c1 s1 rv (.cons (.str _) .nil) e2 P2⟩
end
end Pd

/-! Sd2: tests, list methods, statements, defs over a store. -/
namespace Pd
open PySem PySem.Spec L2 SkE
open PyProof.Rows hiding St

theorem ite_opt {c : Prop} {inst : Decidable c} {α : Type} {x : Option α} {y : α} (h : (if c then x else none) = some y) : c ∧ x = some y := by
  by_cases hc : c
  · rw [if_pos hc] at h; exact ⟨hc, h⟩
  · rw [if_neg hc] at h; cases h
/-! ### tests -/
def mtV (f : SF) : SFt := fun ρ S => sb (f ρ S) fun d S1 => b1 (view S1 d).tru fun b => some (.ok b, S1)
def mtB (f : SF) : SFt := fun ρ S => sb (f ρ S) fun d S1 => match d with
  | .bool b => some (.ok b, S1)
  | _ => none
def mtAnd (f g : SFt) : SFt := fun ρ S => sb (f ρ S) fun b S1 => if b = true then g ρ S1 else some (.ok false, S1)
def mtOr (f g : SFt) : SFt := fun ρ S => sb (f ρ S) fun b S1 => if b = true then some (.ok true, S1) else g ρ S1
def mtNot (f : SFt) : SFt := fun ρ S => sb (f ρ S) fun b S1 => some (.ok (!b), S1)
def mtP (f : Ft) : SFt := fun ρ S => b1 (f ρ) fun b => some (.ok b, S)
section
variable {X : Cx} {W : WX} {e a b c o : Expr} {es : List Expr} {pos p p2 apos cpos : Pos}
theorem st_pure {f : Ft} (h : PT X e (tDT X.K f)) : PT X e (tMT X.K X.mg W (mtP f)) := by
  refine pt_imp h fun σ H Q ⟨μ, Hs, ρ, S, r, S1, s, env, e, P⟩ => ?_
  obtain ⟨b, e1, e2⟩ := b1_eq e
  cases e2
  exact ⟨μ, Hs, ρ, b, s.sub, env, e1, fun H' x => P μ Hs H' (Gr.refl _ _) (s.side x)⟩
theorem st_val {f : SF} (ha : PE X e (tM X.K X.mg W f)) (he : ∀ whole, isTrue e X.env whole = (do let v ← whole; standAt e.pos; holding [v] (truthy v)) := by intro _; rfl) : PT X e (tMT X.K X.mg W (mtV f)) := by
  refine pt_imp (pt_truth ha he) fun σ H Q ⟨μ, Hs, ρ, S, r, S1, s, env, e, P⟩ => ?_
  obtain ⟨q, S2, e1, P1⟩ := post_bind e P
  refine ⟨μ, Hs, ρ, S, q, S2, s, env, e1, P1.imp fun d μ1 Hs1 H1 g1 s1 ⟨_, _, e2, P2⟩ v rv => ?_⟩
  obtain ⟨b, e3, e4⟩ := b1_eq e2
  cases e4
  exact ⟨b, (view_rp s1 rv).tru e3, P2 _ _ _ (Gr.refl _ _) s1⟩
theorem tM_B {f : SF} : ∀ σ H Q, tMT X.K X.mg W (mtB f) σ H Q → tTest (tM X.K X.mg W f) σ H Q := by
  rintro σ H Q ⟨μ, Hs, ρ, S, r, S1, s, env, e, P⟩
  obtain ⟨q, S2, e1, P1⟩ := post_bind e P
  refine ⟨μ, Hs, ρ, S, q, S2, s, env, e1, P1.imp fun d μ1 Hs1 H1 g1 s1 ⟨_, _, e2, P2⟩ v rv => ?_⟩
  cases d with
  | bool b => cases e2; cases rv; exact ⟨b, rfl, P2 _ _ _ (Gr.refl _ _) s1⟩
  | _ => cases e2
theorem tTest_imp {t t' : TE} (h : ∀ σ H Q, t σ H Q → t' σ H Q) : ∀ σ H Q, tTest t σ H Q → tTest t' σ H Q := fun σ H Q z => h _ _ _ z
theorem st_cmp {op : CmpOp} {r : R2} {G : D → D → Option D} {f g : SF} (ho : OpR X (compareOp op) r) (hG : Imp2 X.K r G) (ha : PE X a (tM X.K X.mg W f)) (hb : PE X b (tM X.K X.mg W g)) (hm : behindInMarks op b = false := by first | exact nomark _ | rfl) :
    PT X (.Compare a [op] [b] pos) (tMT X.K X.mg W (mtB (m2 G f g))) := pt_imp (pt_cmpR ho ha hb hm) fun σ H Q h => tTest_imp (tM_2 hG) σ H Q (tM_B σ H Q h)
theorem sw_and1 {ft : SFt} (h : PT X a (tMT X.K X.mg W ft)) : PW X (.BoolOp .And [a] pos) (tMT X.K X.mg W ft) := pw_and1 h
theorem sw_or1 {ft : SFt} (h : PT X a (tMT X.K X.mg W ft)) : PW X (.BoolOp .Or [a] pos) (tMT X.K X.mg W ft) := pw_or1 h
theorem sw_and {ft gt : SFt} (h : PT X a (tMT X.K X.mg W ft)) (h2 : PW X (.BoolOp .And (b :: es) pos) (tMT X.K X.mg W gt)) : PW X (.BoolOp .And (a :: b :: es) pos) (tMT X.K X.mg W (mtAnd ft gt)) := by
  refine pw_imp (pw_and h h2) fun σ H Q ⟨μ, Hs, ρ, S, r, S1, s, env, e, P⟩ => ?_
  obtain ⟨q, S2, e1, P1⟩ := post_bind e P
  refine ⟨μ, Hs, ρ, S, q, S2, s, env, e1, P1.imp fun b μ1 Hs1 H1 g1 s1 ⟨_, _, e2, P2⟩ => ?_⟩
  cases b with
  | true => exact iteT ⟨μ1, Hs1, ρ, S2, r, S1, s1, env.gr g1, e2, P2⟩
  | false => cases e2; exact iteF (P2 _ _ _ (Gr.refl _ _) s1)
theorem sw_or {ft gt : SFt} (h : PT X a (tMT X.K X.mg W ft)) (h2 : PW X (.BoolOp .Or (b :: es) pos) (tMT X.K X.mg W gt)) : PW X (.BoolOp .Or (a :: b :: es) pos) (tMT X.K X.mg W (mtOr ft gt)) := by
  refine pw_imp (pw_or h h2) fun σ H Q ⟨μ, Hs, ρ, S, r, S1, s, env, e, P⟩ => ?_
  obtain ⟨q, S2, e1, P1⟩ := post_bind e P
  refine ⟨μ, Hs, ρ, S, q, S2, s, env, e1, P1.imp fun b μ1 Hs1 H1 g1 s1 ⟨_, _, e2, P2⟩ => ?_⟩
  cases b with
  | true => cases e2; exact iteT (P2 _ _ _ (Gr.refl _ _) s1)
  | false => exact iteF ⟨μ1, Hs1, ρ, S2, r, S1, s1, env.gr g1, e2, P2⟩
theorem st_w {ft : SFt} (h : PW X e (tMT X.K X.mg W ft)) : PT X e (tMT X.K X.mg W ft) := h.pt
theorem st_not {ft : SFt} (h : PT X a (tMT X.K X.mg W ft)) : PT X (.UnaryOp .Not a pos) (tMT X.K X.mg W (mtNot ft)) := by
  refine pt_imp (pt_not h) fun σ H Q ⟨μ, Hs, ρ, S, r, S1, s, env, e, P⟩ => ?_
  obtain ⟨q, S2, e1, P1⟩ := post_bind e P
  refine ⟨μ, Hs, ρ, S, q, S2, s, env, e1, P1.imp fun b μ1 Hs1 H1 g1 s1 ⟨_, _, e2, P2⟩ => ?_⟩
  cases e2
  exact P2 _ _ _ (Gr.refl _ _) s1
/-- and, or, not as values -/
def mAnd (f g : SF) : SF := fun ρ S => sb (f ρ S) fun d S1 => b1 (view S1 d).tru fun b => if b = true then g ρ S1 else some (.ok d, S1)
def mOr (f g : SF) : SF := fun ρ S => sb (f ρ S) fun d S1 => b1 (view S1 d).tru fun b => if b = true then some (.ok d, S1) else g ρ S1
def mNot (f : SF) : SF := fun ρ S => sb (f ρ S) fun d S1 => b1 (view S1 d).tru fun b => some (.ok (.bool (!b)), S1)
theorem s_one {op} {f : SF} (h : PE X a (tM X.K X.mg W f)) : PE X (.BoolOp op [a] pos) (tM X.K X.mg W f) := pe_one h
theorem s_and {f g : SF} (ha : PE X a (tM X.K X.mg W f)) (hb : PE X (.BoolOp .And (b :: es) pos) (tM X.K X.mg W g)) : PE X (.BoolOp .And (a :: b :: es) pos) (tM X.K X.mg W (mAnd f g)) := by
  refine pe_imp (pe_andT ha hb) fun σ H Q ⟨μ, Hs, ρ, S, r, S1, s, env, e, P⟩ => ?_
  obtain ⟨q, S2, e1, P1⟩ := post_bind e P
  refine ⟨μ, Hs, ρ, S, q, S2, s, env, e1, P1.imp fun d μ1 Hs1 H1 g1 s1 ⟨_, _, e2, P2⟩ v rv => ?_⟩
  obtain ⟨t, e3, e4⟩ := b1_eq e2
  refine ⟨t, (view_rp s1 rv).tru e3, ?_⟩
  cases t with
  | true => exact iteT ⟨μ1, Hs1, ρ, S2, r, S1, s1, env.gr g1, e4, P2⟩
  | false => cases e4; exact iteF (P2 _ _ _ (Gr.refl _ _) s1 v rv)
theorem s_or {f g : SF} (ha : PE X a (tM X.K X.mg W f)) (hb : PE X (.BoolOp .Or (b :: es) pos) (tM X.K X.mg W g)) : PE X (.BoolOp .Or (a :: b :: es) pos) (tM X.K X.mg W (mOr f g)) := by
  refine pe_imp (pe_orT ha hb) fun σ H Q ⟨μ, Hs, ρ, S, r, S1, s, env, e, P⟩ => ?_
  obtain ⟨q, S2, e1, P1⟩ := post_bind e P
  refine ⟨μ, Hs, ρ, S, q, S2, s, env, e1, P1.imp fun d μ1 Hs1 H1 g1 s1 ⟨_, _, e2, P2⟩ v rv => ?_⟩
  obtain ⟨t, e3, e4⟩ := b1_eq e2
  refine ⟨t, (view_rp s1 rv).tru e3, ?_⟩
  cases t with
  | false => exact iteF ⟨μ1, Hs1, ρ, S2, r, S1, s1, env.gr g1, e4, P2⟩
  | true => cases e4; exact iteT (P2 _ _ _ (Gr.refl _ _) s1 v rv)
theorem s_not {f : SF} (ha : PE X a (tM X.K X.mg W f)) : PE X (.UnaryOp .Not a pos) (tM X.K X.mg W (mNot f)) := by
  refine pe_imp (pe_notT ha) fun σ H Q ⟨μ, Hs, ρ, S, r, S1, s, env, e, P⟩ => ?_
  obtain ⟨q, S2, e1, P1⟩ := post_bind e P
  refine ⟨μ, Hs, ρ, S, q, S2, s, env, e1, P1.imp fun d μ1 Hs1 H1 g1 s1 ⟨_, _, e2, P2⟩ v rv => ?_⟩
  obtain ⟨t, e3, e4⟩ := b1_eq e2
  cases e4
  exact ⟨t, (view_rp s1 rv).tru e3, P2 _ _ _ (Gr.refl _ _) s1 _ (.bool _)⟩
def mIf (c : SFt) (f g : SF) : SF := fun ρ S => sb (c ρ S) fun b S1 => if b = true then f ρ S1 else g ρ S1
theorem s_ifExp {ft : SFt} {f g : SF} (hc : PT X c (tMT X.K X.mg W ft)) (ha : PE X a (tM X.K X.mg W f)) (hb : PE X b (tM X.K X.mg W g)) : PE X (.IfExp c a b pos) (tM X.K X.mg W (mIf ft f g)) := by
  refine pe_imp (pe_ifExp hc ha hb) fun σ H Q ⟨μ, Hs, ρ, S, r, S1, s, env, e, P⟩ => ?_
  obtain ⟨q, S2, e1, P1⟩ := post_bind e P
  refine ⟨μ, Hs, ρ, S, q, S2, s, env, e1, P1.imp fun b μ1 Hs1 H1 g1 s1 ⟨_, _, e2, P2⟩ => ?_⟩
  cases b with
  | true => exact iteT ⟨μ1, Hs1, ρ, S2, r, S1, s1, env.gr g1, e2, P2⟩
  | false => exact iteF ⟨μ1, Hs1, ρ, S2, r, S1, s1, env.gr g1, e2, P2⟩

/-! ### list methods that change the list -/
theorem lst_at {K : PySem.W.Frag} {mg : Str → Option Value} {μ : List Addr} {Hs H : Hp} {S : Store} {n : Nat} {ds : List D} {v : V} (s : Sim K mg μ Hs H S) (r : Rp K μ Hs v (.loc n)) (h : S[n]? = some (.lst ds)) :
    ∃ a vs, v = .ref a ∧ μ[n]? = some a ∧ H a = some (.lst vs) ∧ RpA K μ Hs vs ds := by
  cases r with
  | loc q =>
    obtain ⟨⟨vs, k1, k2⟩, _⟩ := s.cell n _ _ q h
    exact ⟨_, vs, rfl, q, k1, k2⟩
/-- what stands in a list's cell -/
def lsAt (S : Store) : D → Option (Nat × List D)
  | .loc n => match S[n]? with
    | some (.lst ds) => some (n, ds)
    | _ => none
  | _ => none
theorem lsAt_eq {S : Store} {d : D} {n : Nat} {ds : List D} (h : lsAt S d = some (n, ds)) : d = .loc n ∧ S[n]? = some (.lst ds) := by
  cases d with
  | loc m =>
    simp only [lsAt] at h
    cases q : S[m]? with
    | none => rw [q] at h; cases h
    | some c =>
      rw [q] at h
      cases c with
      | lst es => cases h; exact ⟨rfl, q⟩
      | _ => cases h
  | _ => cases h
/-- o.append(e) -/
def mApp (f g : SF) : SF := fun ρ S => sb (f ρ S) fun d S1 => if (lsAt S1 d).isSome = true then sb (g ρ S1) fun e S2 => b1 (lsAt S2 d) fun q => if q.2.length < sizeLine then some (.ok .non, S2.set q.1 (.lst (q.2 ++ [e]))) else none else none
/-- o.extend(e) -/
def mExt (f g : SF) : SF := fun ρ S => sb (f ρ S) fun d S1 => if (lsAt S1 d).isSome = true then sb (g ρ S1) fun e S2 => b1 (lsAt S2 d) fun q => b1 (lsAt S2 e) fun p => if q.2.length + p.2.length ≤ sizeLine then some (.ok .non, S2.set q.1 (.lst (q.2 ++ p.2))) else none else none
/-- o.pop() -/
def mPop (f : SF) : SF := fun ρ S => sb (f ρ S) fun d S1 => b1 (lsAt S1 d) fun q => b1 (q.2[q.2.length - 1]?) fun o => some (.ok o, S1.set q.1 (.lst q.2.dropLast))
/-- o.pop(i) -/
def mPopAt (f g : SF) : SF := fun ρ S => sb (f ρ S) fun d S1 => if (lsAt S1 d).isSome = true then sb (g ρ S1) fun e S2 => b1 (lsAt S2 d) fun q => match e with
  | .int i => if -(2 ^ 63) ≤ i ∧ i < 2 ^ 63 then b1 (seqIndex? i q.2.length) fun k => b1 (q.2[k]?) fun o => some (.ok o, S2.set q.1 (.lst (q.2.eraseIdx k))) else none
  | _ => none
  else none
theorem lsAt_some {S : Store} {d : D} (h : (lsAt S d).isSome = true) : ∃ n ds, lsAt S d = some (n, ds) := by
  cases q : lsAt S d with
  | none => rw [q] at h; cases h
  | some p => exact ⟨p.1, p.2, rfl⟩
theorem ty_loc {K : PySem.W.Frag} {mg : Str → Option Value} {μ : List Addr} {Hs H : Hp} {S : Store} {d : D} {v : V} (s : Sim K mg μ Hs H S) (r : Rp K μ Hs v d) (h : (lsAt S d).isSome = true) : tyV K "list" v H := by
  obtain ⟨n, ds, q⟩ := lsAt_some h
  obtain ⟨rfl, q2⟩ := lsAt_eq q
  obtain ⟨a, vs, rfl, k1, k2, k3⟩ := lst_at s r q2
  exact .inl ⟨rfl, _, SqL.of k2⟩
theorem s_app {f g : SF} (ho : PE X o (tM X.K X.mg W f)) (he : PE X e (tM X.K X.mg W g)) (hbase : attributeBase o "append" X.env (eval o X.env) = eval o X.env := by rfl)
    (hfew : ((backTo cpos (starEach [e] X.env)).all (fun x => !x.1) && (backToKw cpos (keywordEach [] X.env)).all (fun x => x.1.isSome) && decide ([e].length + ([] : List Keyword).length + (if ([] : List Keyword).isEmpty then 0 else 1) < 30)) = true := by rfl)
    (hline : (apos.endLine == cpos.line) = true := by rfl) (hs : starEach [e] X.env = (false, eval e X.env) :: starEach [] X.env := by rfl) (hplain : (backTo cpos (starEach [] X.env)).any (·.1) = false := by rfl) :
    PE X (.Call (.Attribute o "append" apos) [e] [] cpos) (tM X.K X.mg W (mApp f g)) := by
  refine pe_imp (pe_bm PySem.F.plainAttrs_list PySem.F.slot_list_append PySem.F.type_list_append mt_append ho (pa_cons he pa_nil hs) hbase hfew hline hs hplain) fun σ H Q ⟨μ, Hs, ρ, S, r, S1, s, env, e, P⟩ => ?_
  obtain ⟨q, S2, e1, P1⟩ := post_bind e P
  refine ⟨μ, Hs, ρ, S, q, S2, s, env, e1, P1.imp fun d μ1 Hs1 H1 g1 s1 ⟨_, _, e2, P2⟩ v rv => ?_⟩
  obtain ⟨hty, e2⟩ := ite_opt e2
  obtain ⟨q2, S3, e3, P3⟩ := post_bind e2 P2
  refine ⟨ty_loc s1 rv hty, μ1, Hs1, ρ, S2, q2, S3, s1, env.gr g1, e3, P3.imp fun d2 μ2 Hs2 H2 g2 s2 ⟨_, _, e4, P4⟩ u ru => ?_⟩
  obtain ⟨⟨n, ds⟩, e5, e6⟩ := b1_eq e4
  obtain ⟨hz, h2⟩ := ite_some e6
  cases h2
  obtain ⟨rfl, e7⟩ := lsAt_eq e5
  obtain ⟨a, vs, rfl, k1, k2, k3⟩ := lst_at s2 (rv.gr g2) e7
  exact ⟨a, vs, u, rfl, rfl, k2, by rw [k3.len]; exact hz, P4 _ _ _ (Gr.refl _ _) (s2.write k1 ⟨_, upd_same, k3.snoc ru⟩) _ .non⟩
theorem s_ext {f g : SF} (ho : PE X o (tM X.K X.mg W f)) (he : PE X e (tM X.K X.mg W g)) (hbase : attributeBase o "extend" X.env (eval o X.env) = eval o X.env := by rfl)
    (hfew : ((backTo cpos (starEach [e] X.env)).all (fun x => !x.1) && (backToKw cpos (keywordEach [] X.env)).all (fun x => x.1.isSome) && decide ([e].length + ([] : List Keyword).length + (if ([] : List Keyword).isEmpty then 0 else 1) < 30)) = true := by rfl)
    (hline : (apos.endLine == cpos.line) = true := by rfl) (hs : starEach [e] X.env = (false, eval e X.env) :: starEach [] X.env := by rfl) (hplain : (backTo cpos (starEach [] X.env)).any (·.1) = false := by rfl) :
    PE X (.Call (.Attribute o "extend" apos) [e] [] cpos) (tM X.K X.mg W (mExt f g)) := by
  refine pe_imp (pe_bm PySem.F.plainAttrs_list PySem.F.slot_list_extend PySem.F.type_list_extend mt_extend ho (pa_cons he pa_nil hs) hbase hfew hline hs hplain) fun σ H Q ⟨μ, Hs, ρ, S, r, S1, s, env, e, P⟩ => ?_
  obtain ⟨q, S2, e1, P1⟩ := post_bind e P
  refine ⟨μ, Hs, ρ, S, q, S2, s, env, e1, P1.imp fun d μ1 Hs1 H1 g1 s1 ⟨_, _, e2, P2⟩ v rv => ?_⟩
  obtain ⟨hty, e2⟩ := ite_opt e2
  obtain ⟨q2, S3, e3, P3⟩ := post_bind e2 P2
  refine ⟨ty_loc s1 rv hty, μ1, Hs1, ρ, S2, q2, S3, s1, env.gr g1, e3, P3.imp fun d2 μ2 Hs2 H2 g2 s2 ⟨_, _, e4, P4⟩ u ru => ?_⟩
  obtain ⟨⟨n, ds⟩, e5, e6⟩ := b1_eq e4
  obtain ⟨⟨m, es⟩, e8, e9⟩ := b1_eq e6
  obtain ⟨hz, h2⟩ := ite_some e9
  cases h2
  obtain ⟨rfl, e7⟩ := lsAt_eq e5
  obtain ⟨rfl, e10⟩ := lsAt_eq e8
  obtain ⟨a, vs, rfl, k1, k2, k3⟩ := lst_at s2 (rv.gr g2) e7
  obtain ⟨b, us, rfl, j1, j2, j3⟩ := lst_at s2 ru e10
  exact ⟨a, b, vs, us, rfl, rfl, k2, j2, by rw [k3.len, j3.len]; exact hz, P4 _ _ _ (Gr.refl _ _) (s2.write k1 ⟨_, upd_same, k3.app j3⟩) _ .non⟩
theorem rpa_drop {K : PySem.W.Frag} {μ : List Addr} {H : Hp} : ∀ {ds : List D} {vs : List V}, RpA K μ H vs ds → RpA K μ H vs.dropLast ds.dropLast
  | [], _, h => by cases h; exact .nil
  | [_], _, h => by
    cases h with
    | cons h1 h2 => cases h2; exact .nil
  | d :: e :: ds, _, h => by
    cases h with
    | cons h1 h2 =>
      have z := rpa_drop h2
      cases h2 with
      | cons h3 h4 => exact .cons h1 z
theorem rpa_erase {K : PySem.W.Frag} {μ : List Addr} {H : Hp} : ∀ {ds : List D} {vs : List V} (k : Nat), RpA K μ H vs ds → RpA K μ H (vs.eraseIdx k) (ds.eraseIdx k)
  | [], _, k, h => by cases h; exact .nil
  | d :: ds, _, 0, h => by
    cases h with
    | cons h1 h2 => exact h2
  | d :: ds, _, k + 1, h => by
    cases h with
    | cons h1 h2 => exact .cons h1 (rpa_erase k h2)
theorem s_pop {f : SF} (ho : PE X o (tM X.K X.mg W f)) (hbase : attributeBase o "pop" X.env (eval o X.env) = eval o X.env := by rfl) (hline : (apos.endLine == cpos.line) = true := by rfl) : PE X (.Call (.Attribute o "pop" apos) [] [] cpos) (tM X.K X.mg W (mPop f)) := by
  refine pe_imp (pe_bm0 PySem.F.plainAttrs_list PySem.F.slot_list_pop PySem.F.type_list_pop mt_pop ho hbase hline) fun σ H Q ⟨μ, Hs, ρ, S, r, S1, s, env, e, P⟩ => ?_
  obtain ⟨q, S2, e1, P1⟩ := post_bind e P
  refine ⟨μ, Hs, ρ, S, q, S2, s, env, e1, P1.imp fun d μ1 Hs1 H1 g1 s1 ⟨_, _, e2, P2⟩ v rv => ?_⟩
  obtain ⟨⟨n, ds⟩, e5, e6⟩ := b1_eq e2
  obtain ⟨z, e7, e8⟩ := b1_eq e6
  cases e8
  refine ⟨ty_loc s1 rv (by rw [e5]; rfl), ?_⟩
  obtain ⟨rfl, e9⟩ := lsAt_eq e5
  obtain ⟨a, vs, rfl, k1, k2, k3⟩ := lst_at s1 rv e9
  have e7' : ds[ds.length - 1]? = some z := e7
  obtain ⟨y, e10, ry⟩ := k3.getD e7'
  exact ⟨a, vs, y, rfl, rfl, k2, by rw [k3.len]; exact e10, P2 _ _ _ (Gr.refl _ _) (s1.write k1 ⟨_, upd_same, rpa_drop k3⟩) _ ry⟩
theorem s_popAt {f g : SF} (ho : PE X o (tM X.K X.mg W f)) (he : PE X e (tM X.K X.mg W g)) (hbase : attributeBase o "pop" X.env (eval o X.env) = eval o X.env := by rfl)
    (hfew : ((backTo cpos (starEach [e] X.env)).all (fun x => !x.1) && (backToKw cpos (keywordEach [] X.env)).all (fun x => x.1.isSome) && decide ([e].length + ([] : List Keyword).length + (if ([] : List Keyword).isEmpty then 0 else 1) < 30)) = true := by rfl)
    (hline : (apos.endLine == cpos.line) = true := by rfl) (hs : starEach [e] X.env = (false, eval e X.env) :: starEach [] X.env := by rfl) (hplain : (backTo cpos (starEach [] X.env)).any (·.1) = false := by rfl) :
    PE X (.Call (.Attribute o "pop" apos) [e] [] cpos) (tM X.K X.mg W (mPopAt f g)) := by
  refine pe_imp (pe_bm PySem.F.plainAttrs_list PySem.F.slot_list_pop PySem.F.type_list_pop mt_popAt ho (pa_cons he pa_nil hs) hbase hfew hline hs hplain) fun σ H Q ⟨μ, Hs, ρ, S, r, S1, s, env, e, P⟩ => ?_
  obtain ⟨q, S2, e1, P1⟩ := post_bind e P
  refine ⟨μ, Hs, ρ, S, q, S2, s, env, e1, P1.imp fun d μ1 Hs1 H1 g1 s1 ⟨_, _, e2, P2⟩ v rv => ?_⟩
  obtain ⟨hty, e2⟩ := ite_opt e2
  obtain ⟨q2, S3, e3, P3⟩ := post_bind e2 P2
  refine ⟨ty_loc s1 rv hty, μ1, Hs1, ρ, S2, q2, S3, s1, env.gr g1, e3, P3.imp fun d2 μ2 Hs2 H2 g2 s2 ⟨_, _, e4, P4⟩ u ru => ?_⟩
  obtain ⟨⟨n, ds⟩, e5, e6⟩ := b1_eq e4
  cases d2 with
  | int i =>
    cases ru
    obtain ⟨⟨h1, h2⟩, e6⟩ := ite_opt e6
    obtain ⟨k, e7, e8⟩ := b1_eq e6
    obtain ⟨z, e9, e10⟩ := b1_eq e8
    cases e10
    obtain ⟨rfl, e11⟩ := lsAt_eq e5
    obtain ⟨a, vs, rfl, k1, k2, k3⟩ := lst_at s2 (rv.gr g2) e11
    obtain ⟨y, e12, ry⟩ := k3.getD e9
    exact ⟨a, vs, i, k, y, rfl, rfl, k2, h1, h2, by rw [k3.len]; exact e7, e12, P4 _ _ _ (Gr.refl _ _) (s2.write k1 ⟨_, upd_same, rpa_erase k k3⟩) _ ry⟩
  | _ => cases e6

/-! ### slices -/
abbrev SFo := Rho → Store → Option (Res (Option Int) × Store)
def tMO (K : PySem.W.Frag) (mg : Str → Option Value) (W : WX) (f : SFo) : TO := fun σ H Q => ∃ (μ : List Addr) (Hs : Hp) (ρ : Rho) (S : Store) (r : Res (Option Int)) (S1 : Store),
  Sim K mg μ Hs H S ∧ VEnv K μ Hs σ ρ ∧ f ρ S = some (r, S1) ∧ PostM K mg W σ μ Hs r S1 fun d _ _ H' => Q d H'
def moNo : SFo := fun _ S => some (.ok none, S)
def moE (f : SF) : SFo := fun ρ S => sb (f ρ S) fun d S1 => match d with
  | .int i => some (.ok (some i), S1)
  | _ => none
theorem so_none : PO X none (tMO X.K X.mg W moNo) := po_imp po_none fun σ H Q ⟨μ, Hs, ρ, S, r, S1, s, env, e, P⟩ => by cases e; exact P μ Hs H (Gr.refl _ _) s
theorem so_some {f : SF} (he : PE X e (tM X.K X.mg W f)) : PO X (some e) (tMO X.K X.mg W (moE f)) := by
  refine po_imp (po_some he) fun σ H Q ⟨μ, Hs, ρ, S, r, S1, s, env, e, P⟩ => ?_
  obtain ⟨q, S2, e1, P1⟩ := post_bind e P
  refine ⟨μ, Hs, ρ, S, q, S2, s, env, e1, P1.imp fun d μ1 Hs1 H1 g1 s1 ⟨_, _, e2, P2⟩ v rv => ?_⟩
  cases d with
  | int i => cases e2; cases rv; exact ⟨i, rfl, P2 _ _ _ (Gr.refl _ _) s1⟩
  | _ => cases e2
/-- x[lo:hi]: of a list's cell a new cell, else as data -/
def mSl (f : SF) (l h : SFo) : SF := fun ρ S => sb (f ρ S) fun d S1 => sb (l ρ S1) fun lo S2 => sb (h ρ S2) fun hi S3 => match lsAt S3 d with
  | some q => some (.ok (.loc S3.length), S3 ++ [.lst (cutD q.2 lo hi)])
  | none => b1 (gSl d lo hi) fun o => some (.ok o, S3)
theorem slice_pure {K : PySem.W.Frag} {μ : List Addr} {Hs H : Hp} {v : V} {d o : D} {lo hi : Option Int} {Q : VK} (s : Same Hs H) (r1 : Rp K μ Hs v d) (e6 : gSl d lo hi = some o) (k : ∀ v' H' Hs', Ext Hs H Hs' H' → Rp K μ Hs' v' o → Q v' H') :
    rSlL K v lo hi H Q ∨ rSlA K v lo hi H Q ∨ rSlS v lo hi H Q := by
  have own : ∀ p, H p = none → ∀ u, Ext Hs H (upd Hs p u) (upd H p u) := fun p hp u => Ext.made s hp
  cases r1 with
  | lst q1 q2 =>
    cases e6
    exact .inl ⟨_, _, rfl, SqL.of (s _ _ q1), fun p hp => k _ _ _ (own p hp _) (.lst upd_same ((cut_rp q2 _ _).mono (own p hp (.lst _)).part))⟩
  | tup q1 q2 =>
    cases e6
    refine .inr (.inl ⟨_, _, rfl, sqT_mono s q1, fun w => ?_, fun w p hp => ?_⟩)
    · refine k _ _ _ (Ext.refl s) (.tup q1 ?_)
      rw [q2.len] at w
      have e7 : ∀ (ds : List D), HT.sIx ds.length 0 lo = 0 → HT.sIx ds.length ds.length hi = ds.length → cutD ds lo hi = ds := fun ds w1 w2 => by
        unfold cutD
        rw [w1, w2]
        simp
      rw [e7 _ w.1 w.2]
      exact q2
    · exact k _ _ _ (own p hp _) (.tup (SqT.of upd_same) ((cut_rp q2 _ _).mono (own p hp (.tup _)).part))
  | str z =>
    obtain ⟨hz, rfl⟩ := ite_some e6
    exact .inr (.inr ⟨_, rfl, hz, k _ _ _ (Ext.refl s) (.str _)⟩)
  | scr q1 =>
    cases e6
    refine .inl ⟨_, _, rfl, s.seq q1, fun p hp => ?_⟩
    rw [cut_ints]
    exact k _ _ _ (own p hp _) (.lst upd_same RpA.ints)
  | _ => exact nomatch e6
theorem s_slice {lo hi : Option Expr} {f : SF} {fl fh : SFo} (he : PE X e (tM X.K X.mg W f)) (hl : PO X lo (tMO X.K X.mg W fl)) (hh : PO X hi (tMO X.K X.mg W fh)) : PE X (.Subscript e (.Slice lo hi none p2) pos) (tM X.K X.mg W (mSl f fl fh)) := by
  refine pe_imp (pe_slice (SlR.or sl_list (SlR.or sl_tupA sl_str)) he hl hh) fun σ H Q ⟨μ, Hs, ρ, S, r, S1, s, env, e, P⟩ => ?_
  obtain ⟨q, S2, e1, P1⟩ := post_bind e P
  refine ⟨μ, Hs, ρ, S, q, S2, s, env, e1, P1.imp fun d μ1 Hs1 H1 g1 s1 ⟨_, _, e2, P2⟩ v rv => ?_⟩
  obtain ⟨q2, S3, e3, P3⟩ := post_bind e2 P2
  refine ⟨μ1, Hs1, ρ, S2, q2, S3, s1, env.gr g1, e3, P3.imp fun l μ2 Hs2 H2 g2 s2 ⟨_, _, e4, P4⟩ => ?_⟩
  obtain ⟨q3, S4, e5, P5⟩ := post_bind e4 P4
  refine ⟨μ2, Hs2, ρ, S3, q3, S4, s2, (env.gr g1).gr g2, e5, P5.imp fun h μ3 Hs3 H3 g3 s3 ⟨_, _, e6, P6⟩ => ?_⟩
  have rv3 := (rv.gr g2).gr g3
  split at e6
  · rename_i z hz
    cases e6
    obtain ⟨rfl, e7⟩ := lsAt_eq hz
    obtain ⟨a, vs, rfl, k1, k2, k3⟩ := lst_at s3 rv3 e7
    refine .inl ⟨a, vs, rfl, SqL.of k2, fun p hp => ?_⟩
    obtain ⟨s4, g4⟩ := s3.alloc (c := .lst (cutD z.2 l h)) hp ⟨_, upd_same, (cut_rp k3 l h).gr ⟨⟨[p], rfl⟩, Same.refl _⟩⟩
    exact P6 _ _ _ g4 s4 _ (loc_new s3.len)
  · obtain ⟨o, e7, e8⟩ := b1_eq e6
    cases e8
    exact slice_pure s3.sub rv3 e7 fun v' H' Hs' x r' => P6 μ3 Hs' H' (Gr.part x.part) (s3.ext x) v' r'
end

/-! ### statements -/
inductive Fx where
  | nx (ρ : Rho) | bk (ρ : Rho) | ct (ρ : Rho) | rt (d : D) | er (x : Exn) (ρ : Rho)
abbrev SG := Rho → Store → Option (Fx × Store)
def AftM (K : PySem.W.Frag) (mg : Str → Option Value) (W : WX) (Dn : Ends) (μ : List Addr) (Hs : Hp) (S1 : Store) : Fx → Prop
  | .nx ρ => ∀ σ μ' Hs' H', Gr μ Hs μ' Hs' → Sim K mg μ' Hs' H' S1 → VEnv K μ' Hs' σ ρ → Dn.nx σ H'
  | .bk ρ => ∀ σ μ' Hs' H', Gr μ Hs μ' Hs' → Sim K mg μ' Hs' H' S1 → VEnv K μ' Hs' σ ρ → Dn.bk σ H'
  | .ct ρ => ∀ σ μ' Hs' H', Gr μ Hs μ' Hs' → Sim K mg μ' Hs' H' S1 → VEnv K μ' Hs' σ ρ → Dn.ct σ H'
  | .rt d => ∀ v μ' Hs' H', Gr μ Hs μ' Hs' → Sim K mg μ' Hs' H' S1 → Rp K μ' Hs' v d → Dn.rt v H'
  | .er x ρ => ∀ σ μ' Hs' H' cls dx, Gr μ Hs μ' Hs' → Sim K mg μ' Hs' H' S1 → VEnv K μ' Hs' σ ρ → ExOk K mg μ' Hs' H' x cls dx → W cls dx σ H'
theorem AftM.gr {K : PySem.W.Frag} {mg : Str → Option Value} {W : WX} {Dn : Ends} {μ μ' : List Addr} {Hs Hs' : Hp} {S1 : Store} (g : Gr μ Hs μ' Hs') : ∀ {fl : Fx}, AftM K mg W Dn μ Hs S1 fl → AftM K mg W Dn μ' Hs' S1 fl
  | .nx _, k => fun σ m h H g2 => k σ m h H (g.trans g2)
  | .bk _, k => fun σ m h H g2 => k σ m h H (g.trans g2)
  | .ct _, k => fun σ m h H g2 => k σ m h H (g.trans g2)
  | .rt _, k => fun σ m h H g2 => k σ m h H (g.trans g2)
  | .er _ _, k => fun σ m h H c d g2 => k σ m h H c d (g.trans g2)
def tG (K : PySem.W.Frag) (mg : Str → Option Value) (W : WX) (g : SG) : TS := fun Dn σ H => ∃ (μ : List Addr) (Hs : Hp) (ρ : Rho) (S : Store) (fl : Fx) (S1 : Store), Sim K mg μ Hs H S ∧ VEnv K μ Hs σ ρ ∧ g ρ S = some (fl, S1) ∧ AftM K mg W Dn μ Hs S1 fl
/-- an expression's value, then k; its error ends -/
def ev {α : Type} (m : Option (Res α × Store)) (ρ : Rho) (k : α → Store → Option (Fx × Store)) : Option (Fx × Store) := match m with
  | some (.ok a, S) => k a S
  | some (.er x, S) => some (.er x ρ, S)
  | none => none
theorem ev_ok {α : Type} {a : α} {S : Store} {ρ : Rho} {k : α → Store → Option (Fx × Store)} : ev (some (.ok a, S)) ρ k = k a S := rfl
theorem ev_er {α : Type} {x : Exn} {S : Store} {ρ : Rho} {k : α → Store → Option (Fx × Store)} : ev (some (.er x, S)) ρ k = some (.er x ρ, S) := rfl
section
variable {K : PySem.W.Frag} {mg : Str → Option Value} {W : WX} {Dn : Ends} {σ : St} {μ : List Addr} {Hs H : Hp} {S : Store} {ρ : Rho}
theorem aft_bind {α : Type} {m : Option (Res α × Store)} {k : α → Store → Option (Fx × Store)} {fl : Fx} {S1 : Store} (env : VEnv K μ Hs σ ρ) (e : ev m ρ k = some (fl, S1)) (P : AftM K mg W Dn μ Hs S1 fl) :
    ∃ (q : Res α) (S2 : Store), m = some (q, S2) ∧ PostM K mg W σ μ Hs q S2 fun a μ' Hs' H' => Sim K mg μ' Hs' H' S2 ∧ Gr μ Hs μ' Hs' ∧ VEnv K μ' Hs' σ ρ ∧ k a S2 = some (fl, S1) ∧ AftM K mg W Dn μ' Hs' S1 fl := by
  cases m with
  | none => cases e
  | some p =>
    obtain ⟨q, S2⟩ := p
    refine ⟨q, S2, rfl, ?_⟩
    cases q with
    | er x => cases e; exact fun μ' Hs' H' cls dx g s x' => P σ μ' Hs' H' cls dx g s (env.gr g) x'
    | ok a => exact fun μ' Hs' H' g s => ⟨s, g, env.gr g, e, P.gr g⟩
end
def gNil : SG := fun ρ S => some (.nx ρ, S)
def gSeq (g1 g2 : SG) : SG := fun ρ S => match g1 ρ S with
  | some (.nx ρ', S') => g2 ρ' S'
  | o => o
def gRet (f : SF) : SG := fun ρ S => ev (f ρ S) ρ fun d S1 => some (.rt d, S1)
def gRetN : SG := fun _ S => some (.rt .non, S)
def gIf (c : SFt) (g1 g2 : SG) : SG := fun ρ S => ev (c ρ S) ρ fun b S1 => if b = true then g1 ρ S1 else g2 ρ S1
def gAsg (set : D → Rho → Option Rho) (f : SF) : SG := fun ρ S => ev (f ρ S) ρ fun d S1 => b1 (set d ρ) fun ρ' => some (.nx ρ', S1)
def gDrop (f : SF) : SG := fun ρ S => ev (f ρ S) ρ fun _ S1 => some (.nx ρ, S1)
def gBrk : SG := fun ρ S => some (.bk ρ, S)
def gCnt : SG := fun ρ S => some (.ct ρ, S)
/-- o.f = e -/
def gFld (c f : Str) (v o : SF) : SG := fun ρ S => ev (v ρ S) ρ fun d S1 => ev (o ρ S1) ρ fun e S2 => match e with
  | .loc n => match S2[n]? with
    | some (.ins c' fs) => if c' = c ∧ fs.length < 1000 then some (.nx ρ, S2.set n (.ins c (putD f d fs))) else none
    | _ => none
  | _ => none
/-- raise c(..) -/
def gRaise (c : Str) (f : SF) : SG := fun ρ S => ev (f ρ S) ρ fun _ S1 => some (.er ⟨c, []⟩ ρ, S1)
section
variable {X : Cx} {W : WX} {e a b c o tg : Expr} {es : List Expr} {st : Stmt} {rest body : List Stmt} {g g1 g2 : SG} {f : SF} {pos p p2 apos cpos : Pos}
theorem sg_nil : PSs X [] (tG X.K X.mg W gNil) := pss_imp pss_nil fun Dn σ H ⟨μ, Hs, ρ, S, fl, S1, s, env, e, k⟩ => by cases e; exact k σ μ Hs H (Gr.refl _ _) s env
theorem sg_cons (h1 : PS X st (tG X.K X.mg W g1)) (h2 : PSs X rest (tG X.K X.mg W g2)) : PSs X (st :: rest) (tG X.K X.mg W (gSeq g1 g2)) := by
  refine pss_imp (pss_cons h1 h2) fun Dn σ H ⟨μ, Hs, ρ, S, fl, S1, s, env, e, k⟩ => ?_
  have e' : (match g1 ρ S with | some (.nx ρ', S') => g2 ρ' S' | o => o) = some (fl, S1) := e
  cases q : g1 ρ S with
  | none => rw [q] at e'; cases e'
  | some p =>
    obtain ⟨f1, S2⟩ := p
    rw [q] at e'
    refine ⟨μ, Hs, ρ, S, f1, S2, s, env, q, ?_⟩
    cases f1 with
    | nx ρ' => exact fun σ' μ' Hs' H' g' s' env' => ⟨μ', Hs', ρ', S2, fl, S1, s', env', e', k.gr g'⟩
    | bk ρ' => cases e'; exact k
    | ct ρ' => cases e'; exact k
    | rt d => cases e'; exact k
    | er x ρ' => cases e'; exact k
theorem sg_one (h1 : PS X st (tG X.K X.mg W g1)) : PSs X [st] (tG X.K X.mg W g1) := pss_one h1
theorem sg_ret (he : PE X e (tM X.K X.mg W f)) : PS X (.Return (some e) pos) (tG X.K X.mg W (gRet f)) := by
  refine ps_imp (ps_ret he) fun Dn σ H ⟨μ, Hs, ρ, S, fl, S1, s, env, e, k⟩ => ?_
  obtain ⟨q, S2, e1, P1⟩ := aft_bind env e k
  refine ⟨μ, Hs, ρ, S, q, S2, s, env, e1, P1.imp fun d μ1 Hs1 H1 g1 s1 ⟨_, _, _, e2, P2⟩ v rv => ?_⟩
  cases e2
  exact P2 v _ _ _ (Gr.refl _ _) s1 rv
theorem sg_retN : PS X (.Return none pos) (tG X.K X.mg W gRetN) := ps_imp ps_retN fun Dn σ H ⟨μ, Hs, ρ, S, fl, S1, s, env, e, k⟩ => by cases e; exact k _ _ _ _ (Gr.refl _ _) s .non
theorem sg_if {tb : List Stmt} {ft : SFt} (hc : PT X c (tMT X.K X.mg W ft)) (h1 : PSs X body (tG X.K X.mg W g1)) (h2 : PSs X tb (tG X.K X.mg W g2)) : PS X (.If c body tb pos) (tG X.K X.mg W (gIf ft g1 g2)) := by
  refine ps_imp (ps_if hc h1 h2) fun Dn σ H ⟨μ, Hs, ρ, S, fl, S1, s, env, e, k⟩ => ?_
  obtain ⟨q, S2, e1, P1⟩ := aft_bind env e k
  refine ⟨μ, Hs, ρ, S, q, S2, s, env, e1, P1.imp fun b μ1 Hs1 H1 g1 s1 ⟨_, _, env1, e2, P2⟩ => ?_⟩
  cases b with
  | true => exact iteT ⟨μ1, Hs1, ρ, S2, fl, S1, s1, env1, e2, P2⟩
  | false => exact iteF ⟨μ1, Hs1, ρ, S2, fl, S1, s1, env1, e2, P2⟩
theorem sg_set {gt : TG} {set : D → Rho → Option Rho} {vs : List Nat} (T : TgD X.K gt set vs) (he : PE X e (tM X.K X.mg W f)) (hg : PG X tg gt) (hs : swapsWithSole [tg] e pos.line X.env = pure false := by rfl) (hw : swappedStores [tg] e X.env = pure none := by rfl)
    (h1 : (assignEach [tg] X.env).map (·.2) = [assign tg X.env] := by rfl) : PS X (.Assign [tg] e pos) (tG X.K X.mg W (gAsg set f)) := by
  refine ps_imp (ps_asg he hg hs hw h1) fun Dn σ H ⟨μ, Hs, ρ, S, fl, S1, s, env, e, k⟩ => ?_
  obtain ⟨q, S2, e1, P1⟩ := aft_bind env e k
  refine ⟨μ, Hs, ρ, S, q, S2, s, env, e1, P1.imp fun d μ1 Hs1 H1 g1 s1 ⟨_, _, env1, e2, P2⟩ v rv => ?_⟩
  obtain ⟨ρ', e3, e4⟩ := b1_eq e2
  cases e4
  exact T.run μ1 Hs1 H1 σ ρ d ρ' v _ s1.sub env1 e3 rv fun σ' env' _ _ => P2 σ' μ1 Hs1 H1 (Gr.refl _ _) s1 env'
theorem sg_asg (i : Nat) {x : Str} {pos' : Pos} (hN : X.N.Nodup) (he : PE X e (tM X.K X.mg W f)) (hi : X.N[i]? = some x := by rfl) (hx : Loc X.env.scope x := by first | exact .inl rfl | exact .inr rfl) (hf : X.fn x = true ∨ X.env.scope.names.lookup x = some .local := by first | exact .inl rfl | exact .inr rfl)
    (hs : swapsWithSole [.Name x pos'] e pos.line X.env = pure false := by rfl) (hw : swappedStores [.Name x pos'] e X.env = pure none := by rfl) :
    PS X (.Assign [.Name x pos'] e pos) (tG X.K X.mg W (gAsg (st1 i) f)) := sg_set (tg_1 i) he (pg_name hN hi hx hf) hs hw
theorem sg_drop (he : PE X e (tM X.K X.mg W f)) (hs : swapsWith e none pos.line X.env = pure false := by rfl) : PS X (.Expr e pos) (tG X.K X.mg W (gDrop f)) := by
  refine ps_imp (ps_expr he hs) fun Dn σ H ⟨μ, Hs, ρ, S, fl, S1, s, env, e, k⟩ => ?_
  obtain ⟨q, S2, e1, P1⟩ := aft_bind env e k
  refine ⟨μ, Hs, ρ, S, q, S2, s, env, e1, P1.imp fun d μ1 Hs1 H1 g1 s1 ⟨_, _, env1, e2, P2⟩ v rv => ?_⟩
  cases e2
  exact P2 σ μ1 Hs1 H1 (Gr.refl _ _) s1 env1
theorem sg_doc {x : Str} {j p} : PS X (.Expr (.Constant (.str x) j p) pos) (tG X.K X.mg W gNil) := ps_imp ps_doc fun Dn σ H ⟨μ, Hs, ρ, S, fl, S1, s, env, e, k⟩ => by cases e; exact k _ _ _ _ (Gr.refl _ _) s env
theorem sg_pass : PS X (.Pass pos) (tG X.K X.mg W gNil) := ps_imp ps_pass fun Dn σ H ⟨μ, Hs, ρ, S, fl, S1, s, env, e, k⟩ => by cases e; exact k _ _ _ _ (Gr.refl _ _) s env
theorem sg_break : PS X (.Break pos) (tG X.K X.mg W gBrk) := ps_imp ps_break fun Dn σ H ⟨μ, Hs, ρ, S, fl, S1, s, env, e, k⟩ => by cases e; exact k _ _ _ _ (Gr.refl _ _) s env
theorem sg_cont : PS X (.Continue pos) (tG X.K X.mg W gCnt) := ps_imp ps_continue fun Dn σ H ⟨μ, Hs, ρ, S, fl, S1, s, env, e, k⟩ => by cases e; exact k _ _ _ _ (Gr.refl _ _) s env
theorem sg_fld {cn fn : Str} {v : SF} {value : Expr} {pos' : Pos} (hc : Ck X.K X.mg cn) (hn : At X.K X.mg cn fn) (hv : PE X value (tM X.K X.mg W v)) (ho : PE X o (tM X.K X.mg W f)) (hs : swapsWith value (some (.Attribute o fn pos')) pos.line X.env = pure false := by rfl) :
    PS X (.Assign [.Attribute o fn pos'] value pos) (tG X.K X.mg W (gFld cn fn v f)) := by
  obtain ⟨C, c1, c2⟩ := hc.ex
  refine ps_imp (ps_fld ho hv hs) fun Dn σ H ⟨μ, Hs, ρ, S, fl, S1, s, env, e, k⟩ => ?_
  obtain ⟨q, S2, e1, P1⟩ := aft_bind env e k
  refine ⟨μ, Hs, ρ, S, q, S2, s, env, e1, P1.imp fun d μ1 Hs1 H1 g1 s1 ⟨_, _, env1, e2, k2⟩ v rv => ?_⟩
  obtain ⟨q2, S3, e3, P3⟩ := aft_bind env1 e2 k2
  refine ⟨μ1, Hs1, ρ, S2, q2, S3, s1, env1, e3, P3.imp fun d2 μ2 Hs2 H2 g2 s2 ⟨_, _, env2, e4, k4⟩ u ru => ?_⟩
  cases d2 with
  | loc n =>
    simp only at e4
    cases q1 : S3[n]? with
    | none => rw [q1] at e4; cases e4
    | some ce =>
      rw [q1] at e4
      cases ce with
      | ins c' fs =>
        simp only at e4
        obtain ⟨⟨rfl, hz⟩, h2⟩ := ite_some e4
        cases h2
        obtain ⟨a, dx, vs, rfl, j1, j2, j3⟩ := ins_at s2 ru q1 c1
        refine ⟨a, C, dx, vs, rfl, j2, c2, hn.no C c1, by rw [j3.len]; exact hz, ?_⟩
        exact k4 σ μ2 Hs2 _ (Gr.refl _ _) (s2.write j1 ⟨C, dx, _, c1, upd_same, j3.put (rv.gr g2)⟩) env2
      | _ => cases e4
  | _ => cases e4
end
end Pd

/-! Sd3: loops, raise, try, defs over a store. -/
namespace Pd
open PySem PySem.Spec L2 SkE
open PyProof.Rows hiding St
open Classical in
/-- a turn for each of ds, as long as chk holds of the store -/
noncomputable def goS (chk : Store → Prop) (T : D → SG) : List D → SG
  | [] => fun ρ S => if chk S then some (.nx ρ, S) else none
  | d :: ds => fun ρ S => if chk S then match T d ρ S with
    | some (.nx ρ', S') => goS chk T ds ρ' S'
    | some (.ct ρ', S') => goS chk T ds ρ' S'
    | some (.bk ρ', S') => some (.nx ρ', S')
    | some (.rt v, S') => some (.rt v, S')
    | some (.er x ρ', S') => some (.er x ρ', S')
    | none => none
    else none
abbrev SFi := Rho → Store → Option (Res (List D × (Store → Prop)) × Store)
structure WkS (K : PySem.W.Frag) (mg : Str → Option Value) (J : It) (μ : List Addr) (Hs : Hp) (chk : Store → Prop) (ds : List D) : Prop where
  go : ∀ i μ2 Hs2 H2 S2, Gr μ Hs μ2 Hs2 → Sim K mg μ2 Hs2 H2 S2 → chk S2 → i < ds.length → J.go i H2
  stop : ∀ i μ2 Hs2 H2 S2, Gr μ Hs μ2 Hs2 → Sim K mg μ2 Hs2 H2 S2 → chk S2 → ds.length ≤ i → J.stop i H2
  yld : ∀ i μ2 Hs2 H2 S2 x H', Gr μ Hs μ2 Hs2 → Sim K mg μ2 Hs2 H2 S2 → chk S2 → J.yld i H2 x H' → ∀ d, ds[i]? = some d → ∃ Hs3, Ext Hs2 H2 Hs3 H' ∧ Rp K μ2 Hs3 x d
def tMI (K : PySem.W.Frag) (mg : Str → Option Value) (W : WX) (f : SFi) : TI := fun σ H R => ∃ (μ : List Addr) (Hs : Hp) (ρ : Rho) (S : Store) (r : Res (List D × (Store → Prop))) (S1 : Store),
  Sim K mg μ Hs H S ∧ VEnv K μ Hs σ ρ ∧ f ρ S = some (r, S1) ∧ PostM K mg W σ μ Hs r S1 fun p μ' Hs' H' => ∀ J, WkS K mg J μ' Hs' p.2 p.1 → R J H'
def miP (f : Fs) : SFi := fun ρ S => b1 (f ρ) fun ds => some (.ok (ds, fun _ => True), S)
/-- over a list: its cell must not change meanwhile -/
def miL (f : SF) : SFi := fun ρ S => sb (f ρ S) fun d S1 => match lsAt S1 d with
  | some q => some (.ok (q.2, fun S => S[q.1]? = some (.lst q.2)), S1)
  | none => b1 (itL d) fun ds => some (.ok (ds, fun _ => True), S1)
noncomputable def gFor (fi : SFi) (set : D → Rho → Option Rho) (g : SG) : SG := fun ρ S => ev (fi ρ S) ρ fun p S1 => goS p.2 (fun d ρ S => b1 (set d ρ) fun ρ' => g ρ' S) p.1 ρ S1
def whlS (c : SFt) (g : SG) : Nat → SG
  | 0 => fun _ _ => none
  | n + 1 => fun ρ S => ev (c ρ S) ρ fun b S1 => if b = true then match g ρ S1 with
    | some (.nx ρ', S') => whlS c g n ρ' S'
    | some (.ct ρ', S') => whlS c g n ρ' S'
    | some (.bk ρ', S') => some (.nx ρ', S')
    | some (.rt v, S') => some (.rt v, S')
    | some (.er x ρ', S') => some (.er x ρ', S')
    | none => none
    else some (.nx ρ, S1)
theorem whl_mono {c : SFt} {g : SG} : ∀ {n m : Nat} {ρ : Rho} {S : Store} {r : Fx × Store}, n ≤ m → whlS c g n ρ S = some r → whlS c g m ρ S = some r
  | 0, _, _, _, _, _, h => nomatch h
  | n + 1, 0, _, _, _, hm, _ => absurd hm (by omega)
  | n + 1, m + 1, ρ, S, r, hm, h => by
    have h' : ev (c ρ S) ρ _ = some r := h
    show ev (c ρ S) ρ _ = some r
    cases q : c ρ S with
    | none => rw [q] at h'; cases h'
    | some p =>
      obtain ⟨a, S1⟩ := p
      rw [q] at h'
      cases a with
      | er x => exact h'
      | ok b =>
        cases b with
        | false => exact h'
        | true =>
          simp only [ev_ok, if_true] at h' ⊢
          cases q2 : g ρ S1 with
          | none => rw [q2] at h'; cases h'
          | some p2 =>
            obtain ⟨fl, S2⟩ := p2
            rw [q2] at h'
            cases fl with
            | nx ρ' => exact whl_mono (by omega) h'
            | ct ρ' => exact whl_mono (by omega) h'
            | bk _ => exact h'
            | rt _ => exact h'
            | er _ _ => exact h'
open Classical in
noncomputable def gWhl (c : SFt) (g : SG) : SG := fun ρ S => if h : ∃ n r, whlS c g n ρ S = some r then some h.choose_spec.choose else none
theorem gWhl_of {c : SFt} {g : SG} {ρ : Rho} {S : Store} {n : Nat} {r : Fx × Store} (h : whlS c g n ρ S = some r) : gWhl c g ρ S = some r := by
  have hx : ∃ n r, whlS c g n ρ S = some r := ⟨n, r, h⟩
  unfold gWhl
  rw [dif_pos hx]
  have h2 := hx.choose_spec.choose_spec
  have z1 := whl_mono (Nat.le_max_left n hx.choose) h
  have z2 := whl_mono (Nat.le_max_right n hx.choose) h2
  rw [z1] at z2
  exact z2.symm
theorem gWhl_eq {c : SFt} {g : SG} {ρ : Rho} {S : Store} {r : Fx × Store} (h : gWhl c g ρ S = some r) : ∃ n, whlS c g n ρ S = some r := by
  unfold gWhl at h
  split at h
  · rename_i hx
    cases h
    exact ⟨_, hx.choose_spec.choose_spec⟩
  · cases h
section
variable {X : Cx} {W : WX} {e a b c o tg iter : Expr} {es : List Expr} {st : Stmt} {rest body : List Stmt} {g g1 g2 : SG} {f : SF} {pos p p2 apos cpos : Pos}
theorem si_pure {fs : Fs} (h : PI X tg iter (tDI X.K fs)) : PI X tg iter (tMI X.K X.mg W (miP fs)) := by
  refine pi_imp h fun σ H Q ⟨μ, Hs, ρ, S, r, S1, s, env, e, P⟩ => ?_
  obtain ⟨ds, e1, e2⟩ := b1_eq e
  cases e2
  refine ⟨μ, Hs, ρ, ds, s.sub, env, e1, fun J H' Hs' x wk => P μ Hs' H' (Gr.part x.part) (s.ext x) J ?_⟩
  exact ⟨fun i μ2 Hs2 H2 S2 g s2 _ hi => wk.go i H2 (g.sub.trans s2.sub) hi, fun i μ2 Hs2 H2 S2 g s2 _ hi => wk.stop i H2 (g.sub.trans s2.sub) hi, fun i μ2 Hs2 H2 S2 v H3 g s2 _ hy d hd => by
    obtain ⟨Hs3, x3, r3⟩ := wk.yld i H2 Hs2 v H3 g.sub s2.sub hy d hd
    obtain ⟨l, rfl⟩ := g.pre
    exact ⟨Hs3, x3, r3.gr ⟨⟨l, rfl⟩, Same.refl _⟩⟩⟩
theorem si_list {f : SF} (he : PE X e (tM X.K X.mg W f)) : PI X tg e (tMI X.K X.mg W (miL f)) := by
  refine pi_imp (pi_list he) fun σ H Q ⟨μ, Hs, ρ, S, r, S1, s, env, e, P⟩ => ?_
  obtain ⟨q, S2, e1, P1⟩ := post_bind e P
  refine ⟨μ, Hs, ρ, S, q, S2, s, env, e1, P1.imp fun d μ1 Hs1 H1 g1 s1 ⟨_, _, e2, P2⟩ v rv => ?_⟩
  split at e2
  · rename_i q hq
    obtain ⟨n, ds⟩ := q
    cases e2
    obtain ⟨rfl, e3⟩ := lsAt_eq hq
    obtain ⟨a, vs, rfl, k1, k2, k3⟩ := lst_at s1 rv e3
    refine ⟨a, rfl, ⟨vs, SqL.of k2⟩, P2 μ1 Hs1 H1 (Gr.refl _ _) s1 _ ⟨fun i μ2 Hs2 H2 S3 g2 s2 hc hi => ?_, fun i μ2 Hs2 H2 S3 g2 s2 hc hi => ?_, fun i μ2 Hs2 H2 S3 x H3 g2 s2 hc hy d hd => ?_⟩⟩
    · obtain ⟨a', vs', ea, j1, j2, j3⟩ := lst_at s2 (rv.gr g2) hc
      cases ea
      have hl : i < vs'.length := by rw [j3.len]; exact hi
      exact ⟨vs', vs'[i], SqL.of j2, by simp [hl]⟩
    · obtain ⟨a', vs', ea, j1, j2, j3⟩ := lst_at s2 (rv.gr g2) hc
      cases ea
      exact ⟨vs', SqL.of j2, by rw [j3.len]; exact hi⟩
    · obtain ⟨a', vs', ea, j1, j2, j3⟩ := lst_at s2 (rv.gr g2) hc
      cases ea
      obtain ⟨rfl, hy⟩ := hy
      obtain ⟨u, e5, r5⟩ := j3.getD hd
      have e6 := hy vs' (SqL.of j2)
      rw [e5] at e6
      cases e6
      exact ⟨Hs2, Ext.refl s2.sub, r5⟩
  · obtain ⟨ds, e3, e4⟩ := b1_eq e2
    cases e4
    have fin : ∀ a xs, v = .ref a → SqL X.K Hs1 a xs → RpA X.K μ1 Hs1 xs ds → ∃ a, v = .ref a ∧ (∃ xs, SqL X.K H1 a xs) ∧ Q (Itl X.K a) H1 := fun a xs ev hq hr => by
      refine ⟨a, ev, ⟨xs, s1.sub.seq hq⟩, P2 μ1 Hs1 H1 (Gr.refl _ _) s1 _ ?_⟩
      have wk := wk_list hq hr
      exact ⟨fun i μ2 Hs2 H2 S2 g s2 _ hi => wk.go i H2 (g.sub.trans s2.sub) hi, fun i μ2 Hs2 H2 S2 g s2 _ hi => wk.stop i H2 (g.sub.trans s2.sub) hi, fun i μ2 Hs2 H2 S2 v H3 g s2 _ hy d hd => by
        obtain ⟨Hs3, x3, r3⟩ := wk.yld i H2 Hs2 v H3 g.sub s2.sub hy d hd
        obtain ⟨l, rfl⟩ := g.pre
        exact ⟨Hs3, x3, r3.gr ⟨⟨l, rfl⟩, Same.refl _⟩⟩⟩
    cases rv with
    | lst h1 h2 => cases e3; exact fin _ _ rfl (SqL.of h1) h2
    | scr h1 => cases e3; exact fin _ _ rfl h1 RpA.ints
    | _ => exact nomatch e3
theorem sg_for {gt : TG} {set : D → Rho → Option Rho} {vs : List Nat} {fi : SFi} (T : TgD X.K gt set vs) (hp : PassesOwn (model X.prog X.w) X.A X.env X.xe) (hc : X.calm = true) (hi : PI X tg iter (tMI X.K X.mg W fi)) (hg : PG X tg gt) (hb : PSs X body (tG X.K X.mg W g))
    (hs : ∀ x, foldedSetIterable iter X.env x = pure x := by intro _; rfl) : PS X (.For tg iter body [] pos) (tG X.K X.mg W (gFor fi set g)) := by
  refine ps_imp (ps_for hp hc hi hg hb hs) fun Dn σ H ⟨μ, Hs, ρ, S, fl, SF, s, env, e, k⟩ => ?_
  obtain ⟨q, S2, e1, P1⟩ := aft_bind env e k
  refine ⟨μ, Hs, ρ, S, q, S2, s, env, e1, P1.imp fun p μ1 Hs1 H1 g1 s1 ⟨_, _, env1, e2, k2⟩ J wk => ?_⟩
  obtain ⟨ds, chk⟩ := p
  refine ⟨fun i m σ2 H2 => m = ds.length - i ∧ i ≤ ds.length ∧ ∃ μ2 Hs2 ρ2 S3, Gr μ1 Hs1 μ2 Hs2 ∧ Sim X.K X.mg μ2 Hs2 H2 S3 ∧ VEnv X.K μ2 Hs2 σ2 ρ2 ∧ goS chk (fun d ρ S => b1 (set d ρ) fun ρ' => g ρ' S) (ds.drop i) ρ2 S3 = some (fl, SF),
    ⟨_, rfl, Nat.zero_le _, μ1, Hs1, ρ, S2, Gr.refl _ _, s1, env1, by simpa using e2⟩, ?_⟩
  rintro i m σ2 H2 ⟨rfl, hi2, μ2, Hs2, ρ2, S3, g2, s2, env2, e3⟩
  by_cases hlt : i < ds.length
  · obtain ⟨d0, hd0⟩ : ∃ d0, ds[i]? = some d0 := ⟨ds[i], by simp [hlt]⟩
    have hdrop : ds.drop i = d0 :: ds.drop (i + 1) := by
      rw [List.drop_eq_getElem_cons hlt]
      rw [List.getElem?_eq_getElem hlt] at hd0
      cases hd0
      rfl
    rw [hdrop] at e3
    unfold goS at e3
    obtain ⟨hch, e4⟩ := ite_opt e3
    refine .inr ⟨wk.go i μ2 Hs2 H2 S3 g2 s2 hch hlt, fun σ3 H3 => ∃ μ3 Hs3 ρ3 S4, Gr μ1 Hs1 μ3 Hs3 ∧ Sim X.K X.mg μ3 Hs3 H3 S4 ∧ VEnv X.K μ3 Hs3 σ3 ρ3 ∧ goS chk (fun d ρ S => b1 (set d ρ) fun ρ' => g ρ' S) (ds.drop (i + 1)) ρ3 S4 = some (fl, SF),
      fun σ' H' h => ⟨_, by omega, rfl, hlt, h⟩, fun x H3 hy => ?_⟩
    obtain ⟨Hs3, x3, r3⟩ := wk.yld i μ2 Hs2 H2 S3 x H3 g2 s2 hch hy d0 hd0
    have s3 := s2.ext x3
    have g3 : Gr μ2 Hs2 μ2 Hs3 := Gr.part x3.part
    cases q : b1 (set d0 ρ2) fun ρ' => g ρ' S3 with
    | none => rw [q] at e4; cases e4
    | some pr =>
      obtain ⟨f1, S4⟩ := pr
      rw [q] at e4
      obtain ⟨ρ', h1, h2⟩ := b1_eq q
      refine T.run μ2 Hs3 H3 σ2 ρ2 d0 ρ' x _ s3.sub (env2.gr g3) h1 r3 fun σ' env' _ _ => ?_
      refine ⟨μ2, Hs3, ρ', S3, f1, S4, s3, env', h2, ?_⟩
      have g13 := g2.trans g3
      cases f1 with
      | nx ρ5 => exact fun σ5 μ5 Hs5 H5 g5 s5 env5 => ⟨μ5, Hs5, ρ5, S4, g13.trans g5, s5, env5, e4⟩
      | ct ρ5 => exact fun σ5 μ5 Hs5 H5 g5 s5 env5 => ⟨μ5, Hs5, ρ5, S4, g13.trans g5, s5, env5, e4⟩
      | bk ρ5 => cases e4; exact fun σ5 μ5 Hs5 H5 g5 s5 env5 => k2 σ5 μ5 Hs5 H5 (g13.trans g5) s5 env5
      | rt d => cases e4; exact fun v μ5 Hs5 H5 g5 s5 r5 => k2 v μ5 Hs5 H5 (g13.trans g5) s5 r5
      | er z ρ5 => cases e4; exact fun σ5 μ5 Hs5 H5 cls dx g5 s5 env5 x5 => k2 σ5 μ5 Hs5 H5 cls dx (g13.trans g5) s5 env5 x5
  · have e5 : i = ds.length := by omega
    subst e5
    rw [List.drop_length] at e3
    unfold goS at e3
    obtain ⟨hch, e4⟩ := ite_opt e3
    cases e4
    exact .inl ⟨wk.stop _ μ2 Hs2 H2 _ g2 s2 hch (Nat.le_refl _), k2 σ2 μ2 Hs2 H2 g2 s2 env2⟩
theorem sg_while {ft : SFt} (hp : PassesOwn (model X.prog X.w) X.A X.env X.xe) (hc : PT X c (tMT X.K X.mg W ft)) (hb : PSs X body (tG X.K X.mg W g)) : PS X (.While c body [] pos) (tG X.K X.mg W (gWhl ft g)) := by
  refine ps_imp (ps_while hp hc hb) fun Dn σ H ⟨μ, Hs, ρ, S, fl, SF, s, env, e, k⟩ => ?_
  obtain ⟨n, e⟩ := gWhl_eq e
  refine ⟨fun m σ2 H2 => ∃ μ2 Hs2 ρ2 S2, Gr μ Hs μ2 Hs2 ∧ Sim X.K X.mg μ2 Hs2 H2 S2 ∧ VEnv X.K μ2 Hs2 σ2 ρ2 ∧ whlS ft g m ρ2 S2 = some (fl, SF), ⟨n, μ, Hs, ρ, S, Gr.refl _ _, s, env, e⟩, ?_⟩
  rintro m σ2 H2 ⟨μ2, Hs2, ρ2, S2, g2, s2, env2, e2⟩
  cases m with
  | zero => exact nomatch e2
  | succ m =>
    obtain ⟨q, S3, e3, P3⟩ := aft_bind env2 (show ev (ft ρ2 S2) ρ2 _ = some (fl, SF) from e2) (k.gr g2)
    refine ⟨μ2, Hs2, ρ2, S2, q, S3, s2, env2, e3, P3.imp fun b μ3 Hs3 H3 g3 s3 ⟨_, _, env3, e4, k4⟩ => ?_⟩
    cases b with
    | false => cases e4; exact iteF (k4 σ2 μ3 Hs3 H3 (Gr.refl _ _) s3 env3)
    | true =>
      simp only [if_true] at e4
      refine iteT ⟨fun σ4 H4 => ∃ μ4 Hs4 ρ4 S4, Gr μ Hs μ4 Hs4 ∧ Sim X.K X.mg μ4 Hs4 H4 S4 ∧ VEnv X.K μ4 Hs4 σ4 ρ4 ∧ whlS ft g m ρ4 S4 = some (fl, SF), fun σ' H' h => ⟨m, Nat.lt_succ_self m, h⟩, ?_⟩
      have g23 := g2.trans g3
      cases q2 : g ρ2 S3 with
      | none => rw [q2] at e4; cases e4
      | some pr =>
        obtain ⟨f1, S4⟩ := pr
        rw [q2] at e4
        refine ⟨μ3, Hs3, ρ2, S3, f1, S4, s3, env3, q2, ?_⟩
        cases f1 with
        | nx ρ5 => exact fun σ5 μ5 Hs5 H5 g5 s5 env5 => ⟨μ5, Hs5, ρ5, S4, g23.trans g5, s5, env5, e4⟩
        | ct ρ5 => exact fun σ5 μ5 Hs5 H5 g5 s5 env5 => ⟨μ5, Hs5, ρ5, S4, g23.trans g5, s5, env5, e4⟩
        | bk ρ5 => cases e4; exact fun σ5 μ5 Hs5 H5 g5 s5 env5 => k4 σ5 μ5 Hs5 H5 g5 s5 env5
        | rt d => cases e4; exact fun v μ5 Hs5 H5 g5 s5 r5 => k4 v μ5 Hs5 H5 g5 s5 r5
        | er z ρ5 => cases e4; exact fun σ5 μ5 Hs5 H5 cls dx g5 s5 env5 x5 => k4 σ5 μ5 Hs5 H5 cls dx g5 s5 env5 x5
end

/-! ### raise, try -/
/-- an own exception class without __init__ -/
structure Xk (K : PySem.W.Frag) (mg : Str → Option Value) (c : Str) : Prop where
  ex : ∃ C : Addr, mg c = some (.ref C) ∧ PySem.W.excIn K C [.type "ValueError", .type "Exception", .type "BaseException", .type "object"] "ValueError.__new__" = true ∧ PySem.W.keepIn K (.ref C) = true ∧ PySem.W.subIn K (.ref C) (.type "BaseException") = some true ∧ PySem.W.typeIn K (.ref C) = some (.type "type")
/-- what an except clause that names c says of the classes of the text -/
structure Xm (K : PySem.W.Frag) (mg : Str → Option Value) (c : Str) (exm : Str → Option Bool) : Prop where
  ex : ∃ D : Addr, mg c = some (.ref D) ∧ ∀ x b, exm x = some b → ∀ C : Addr, mg x = some (.ref C) → PySem.W.exmOne K (.ref C) (.ref D) = some b
/-- the flow behind an except suite with a name -/
def wipF (i : Nat) : Fx × Store → Option (Fx × Store)
  | (.nx ρ, S) => some (.nx (ρ.set i .junk), S)
  | (.bk ρ, S) => some (.bk (ρ.set i .junk), S)
  | (.ct ρ, S) => some (.ct (ρ.set i .junk), S)
  | (.rt d, S) => some (.rt d, S)
  | (.er _ _, _) => none
open Classical in
/-- what is so wherever the exception stands -/
noncomputable def comA (k : Addr → Option Addr → Option (Fx × Store)) : Option (Fx × Store) := if h : ∃ r, ∀ a d, k a d = some r then some h.choose else none
theorem comA_of {k : Addr → Option Addr → Option (Fx × Store)} {r : Fx × Store} (h : ∀ a d, k a d = some r) : comA k = some r := by
  have hx : ∃ r, ∀ a d, k a d = some r := ⟨r, h⟩
  unfold comA
  rw [dif_pos hx]
  have := hx.choose_spec 0 none
  rw [h] at this
  exact this.symm
theorem comA_eq {k : Addr → Option Addr → Option (Fx × Store)} {r : Fx × Store} (h : comA k = some r) : ∀ a d, k a d = some r := by
  unfold comA at h
  split at h
  · rename_i hx
    cases h
    exact hx.choose_spec
  · cases h
/-- try: bd / except c as n: hd, n in slot i -/
noncomputable def gTryAs (i : Nat) (exm : Str → Option Bool) (bd : SG) (hd : Exn → Addr → Option Addr → SG) : SG := fun ρ S => match bd ρ S with
  | some (.er x ρ', S') => b1 (exm x.cls) fun b => if b = true then comA fun a d => b1 (hd x a d (ρ'.set i (.exc a d x.fs)) S') (wipF i) else some (.er x ρ', S')
  | o => o
def gTryO (exm : Str → Option Bool) (bd : SG) (hd : SG) : SG := fun ρ S => match bd ρ S with
  | some (.er x ρ', S') => b1 (exm x.cls) fun b => if b = true then b1 (hd ρ' S') (fun r => match r with | (.er _ _, _) => none | r => some r) else some (.er x ρ', S')
  | o => o
abbrev W0 : WX := fun _ _ _ _ => False
section
variable {X : Cx} {W : WX} {e a b o : Expr} {es : List Expr} {st b0 : Stmt} {rest body suite : List Stmt} {g g1 g2 : SG} {f : SF} {pos pos' p p2 np apos cpos : Pos} {c n x : Str}
theorem sg_raise (tk : Takes X W) (hc : X.calm = true) (F : Xk X.K X.mg c) (he : PE X e (tM X.K X.mg W f)) (hg : Gl X c := by rfl) (hs : starEach [e] X.env = (false, eval e X.env) :: starEach [] X.env := by rfl) (hdb : (c == ("__debug__" : Str)) = false := by decide) :
    PS X (.Raise (some (.Call (.Name c p) [e] [] p2)) none pos) (tG X.K X.mg W (gRaise c f)) := by
  obtain ⟨C, m, f1, f2, f3, f4⟩ := F.ex
  refine ps_imp (ps_raise hc tk (pmk_own1 PySem.F.excBase_ValueError f1 m f2 (raises_own f3 f4) hg he hs hdb)) fun Dn σ H ⟨μ, Hs, ρ, S, fl, S1, s, env, e, k⟩ => ?_
  obtain ⟨q, S2, e1, P1⟩ := aft_bind env e k
  refine ⟨μ, Hs, ρ, S, q, S2, s, env, e1, P1.imp fun d μ1 Hs1 H1 g1 s1 ⟨_, _, env1, e2, k2⟩ v rv => ?_⟩
  cases e2
  exact k2 σ μ1 Hs1 H1 _ _ (Gr.refl _ _) s1 env1 ⟨C, m, rfl, .inl ⟨rfl, rfl⟩⟩
theorem env_wipe {K : PySem.W.Frag} {μ : List Addr} {Hs : Hp} {σ : St} {ρ : Rho} (i : Nat) (env : VEnv K μ Hs σ ρ) : VEnv K μ Hs (σ.set i none) (ρ.set i .junk) := paired_set (a := none) (b := Sl.junk) (F := VOk K μ Hs) trivial i env
/-- the exception's dict, from now on only read -/
theorem catch_env {K : PySem.W.Frag} {mg : Str → Option Value} {μ : List Addr} {Hs H : Hp} {S : Store} {σ : St} {ρ : Rho} {x : Exn} {cls : Value} {dx : Option Addr} (i : Nat) (av : Addr) (s : Sim K mg μ Hs H S) (env : VEnv K μ Hs σ ρ) (h : ExOk K mg μ Hs H x cls dx) :
    ∃ Hs', Gr μ Hs μ Hs' ∧ Sim K mg μ Hs' H S ∧ VEnv K μ Hs' (σ.set i (some (.ref av))) (ρ.set i (.exc av dx x.fs)) := by
  obtain ⟨C, h1, h2, h3⟩ := h
  rcases h3 with ⟨h3, h4⟩ | ⟨d, vs, _, rfl, h4, h5, h6⟩
  · refine ⟨Hs, Gr.refl _ _, s, paired_set (a := some (V.ref av)) (b := Sl.exc av dx x.fs) (F := VOk K μ Hs) ⟨rfl, .inl h3⟩ i env⟩
  · have sub : Same Hs (upd Hs d (.xd vs)) := fun b u hb => by
      rw [upd_ne (fun z => by subst z; rw [h5] at hb; cases hb)]
      exact hb
    have g : Gr μ Hs μ (upd Hs d (.xd vs)) := Gr.part sub
    refine ⟨upd Hs d (.xd vs), g, ⟨fun b u hb => ?_, s.len, s.nd, fun n b c q1 q2 => ?_⟩, ?_⟩
    · by_cases hbd : b = d
      · subst hbd
        rw [upd_same] at hb
        cases hb
        exact h4
      · rw [upd_ne hbd] at hb
        exact s.sub _ _ hb
    · obtain ⟨q3, q4⟩ := s.cell n b c q1 q2
      refine ⟨q3.move g fun o z => z, ?_⟩
      have nb : b ≠ d := fun z => by
        subst z
        cases c with
        | ins _ _ => obtain ⟨_, _, _, _, z, _⟩ := q3; rw [h4] at z; cases z
        | lst _ => obtain ⟨_, z, _⟩ := q3; rw [h4] at z; cases z
        | dct _ => obtain ⟨_, z, _⟩ := q3; rw [h4] at z; cases z
        | dcT _ => obtain ⟨_, z, _⟩ := q3; rw [h4] at z; cases z
      rw [upd_ne nb]
      exact q4
    · refine paired_set (a := some (V.ref av)) (b := Sl.exc av (some d) x.fs) (F := VOk K μ (upd Hs d (.xd vs))) ⟨rfl, .inr ⟨d, vs, rfl, upd_same, paired_imp (fun _ _ z => ⟨z.1, z.2.gr g⟩) h6⟩⟩ i (env.gr g)
theorem sg_tryAs (i : Nat) {exm : Str → Option Bool} {hd : Exn → Addr → Option Addr → SG} (tk : Takes X W) (M : Xm X.K X.mg c exm) (hN : X.N.Nodup)
    (hb : ∀ (W : WX) (pn : List (Addr × Obj)) (xe : Value → Shared → Prop), Takes (X.tr pn xe) W → PassesOwn (model X.prog X.w) X.A X.env xe → PSs (X.tr pn xe) body (tG X.K X.mg W g))
    (hsu : ∀ (a : Addr) (oe : Obj) (C : Addr) (d : Option Addr) (pn : List (Addr × Obj)), Zc (.ref C) d oe → (∃ vs, oe.data = .fields vs) → ∀ x : Exn, X.mg x.cls = some (.ref C) → ((x.fs = [] ∧ d = none) ∨ (x.fs ≠ [] ∧ d.isSome = true)) → PSs (X.suite a ((a, oe) :: pn)) (b0 :: suite) (tG X.K X.mg W0 (hd x a d)))
    (hs : X.stack = X.env :: X.outer := by rfl) (hf : X.env.frame = some X.env.locals := by rfl) (hi : X.N[i]? = some n := by rfl) (hln : X.env.kindOf n = some .local := by rfl) (hg : Gl X c := by rfl) (hdb : (c == ("__debug__" : Str)) = false := by decide) :
    PS X (.Try body [.ExceptHandler (some (.Name c np)) (some n) (b0 :: suite) pos'] [] [] pos) (tG X.K X.mg W (gTryAs i exm g hd)) := by
  obtain ⟨D, m1, m2⟩ := M.ex
  refine ps_imp (ps_try_as (ts := fun a cls d Dn σ H => ∃ (x : Exn) (C : Addr), cls = .ref C ∧ X.mg x.cls = some (.ref C) ∧ ((x.fs = [] ∧ d = none) ∨ (x.fs ≠ [] ∧ d.isSome = true)) ∧ tG X.K X.mg W0 (hd x a d) Dn σ H) hs hf hN hi hln ⟨hg, hdb, .inl m1⟩ tk hb fun a oe cls d pn hz hfl => ⟨fun pins s σ H Dn I ⟨x, C, ec, hx, hxd, h⟩ => ?_⟩) ?_
  · subst ec
    exact (hsu a oe C d pn hz hfl x hx hxd).run pins s σ H Dn I h
  · intro Dn σ H ⟨μ, Hs, ρ, S, fl, S1, s, env, e, k⟩
    have e' : (match g ρ S with | some (.er x ρ', S') => _ | o => o) = some (fl, S1) := e
    cases q : g ρ S with
    | none => rw [q] at e'; cases e'
    | some pr =>
      obtain ⟨f1, S2⟩ := pr
      rw [q] at e'
      refine ⟨μ, Hs, ρ, S, f1, S2, s, env, q, ?_⟩
      cases f1 with
      | nx ρ' => cases e'; exact k
      | bk ρ' => cases e'; exact k
      | ct ρ' => cases e'; exact k
      | rt d => cases e'; exact k
      | er x ρ' =>
        intro σ' μ' Hs' H' cls dx g' s' env' hx
        obtain ⟨b, e1, e2⟩ := b1_eq (show b1 (exm x.cls) _ = some (fl, S1) from e')
        obtain ⟨C, c1, rfl, c3⟩ := id hx
        refine ⟨b, m2 _ _ e1 C c1, fun hb av hav => ?_, fun hb => ?_⟩
        · subst hb
          simp only [if_true] at e2
          have e3 := comA_eq e2 av dx
          obtain ⟨⟨f2, S3⟩, e4, e5⟩ := b1_eq e3
          obtain ⟨Hs2, g2, s2, env2⟩ := catch_env i av s' env' hx
          refine ⟨x, C, rfl, c1, ?_, μ', Hs2, _, S2, f2, S3, s2, env2, e4, ?_⟩
          · rcases c3 with ⟨q1, q2⟩ | ⟨d', _, q0, q1, _⟩
            · exact .inl ⟨q1, q2⟩
            · exact .inr ⟨q0, by rw [q1]; rfl⟩
          have gg := g'.trans g2
          cases f2 with
          | nx ρ5 => cases e5; exact fun σ5 μ5 Hs5 H5 g5 s5 env5 => k _ μ5 Hs5 H5 (gg.trans g5) s5 (env_wipe i env5)
          | bk ρ5 => cases e5; exact fun σ5 μ5 Hs5 H5 g5 s5 env5 => k _ μ5 Hs5 H5 (gg.trans g5) s5 (env_wipe i env5)
          | ct ρ5 => cases e5; exact fun σ5 μ5 Hs5 H5 g5 s5 env5 => k _ μ5 Hs5 H5 (gg.trans g5) s5 (env_wipe i env5)
          | rt d => cases e5; exact fun v μ5 Hs5 H5 g5 s5 r5 => k v μ5 Hs5 H5 (gg.trans g5) s5 r5
          | er _ _ => cases e5
        · subst hb
          simp only [Bool.false_eq_true, if_false] at e2
          cases e2
          exact k σ' μ' Hs' H' _ _ g' s' env' hx
theorem sg_tryO {exm : Str → Option Bool} {hd : SG} (tk : Takes X W) (M : Xm X.K X.mg c exm)
    (hb : ∀ (W : WX) (pn : List (Addr × Obj)) (xe : Value → Shared → Prop), Takes (X.tr pn xe) W → PassesOwn (model X.prog X.w) X.A X.env xe → PSs (X.tr pn xe) body (tG X.K X.mg W g))
    (hsu : ∀ (a : Addr) (oe : Obj) (cls : Value) (d : Option Addr) (pn : List (Addr × Obj)), PSs (X.suite a ((a, oe) :: pn)) (b0 :: suite) (tG X.K X.mg W0 hd))
    (hs : X.stack = X.env :: X.outer := by rfl) (hf : X.env.frame = some X.env.locals := by rfl) (hg : Gl X c := by rfl) (hdb : (c == ("__debug__" : Str)) = false := by decide) :
    PS X (.Try body [.ExceptHandler (some (.Name c np)) none (b0 :: suite) pos'] [] [] pos) (tG X.K X.mg W (gTryO exm g hd)) := by
  obtain ⟨D, m1, m2⟩ := M.ex
  refine ps_imp (ps_try_only (ts := fun _ _ _ => tG X.K X.mg W0 hd) hs hf ⟨hg, hdb, .inl m1⟩ tk hb fun a oe cls d pn _ _ => hsu a oe cls d pn) ?_
  intro Dn σ H ⟨μ, Hs, ρ, S, fl, S1, s, env, e, k⟩
  have e' : (match g ρ S with | some (.er x ρ', S') => _ | o => o) = some (fl, S1) := e
  cases q : g ρ S with
  | none => rw [q] at e'; cases e'
  | some pr =>
    obtain ⟨f1, S2⟩ := pr
    rw [q] at e'
    refine ⟨μ, Hs, ρ, S, f1, S2, s, env, q, ?_⟩
    cases f1 with
    | nx ρ' => cases e'; exact k
    | bk ρ' => cases e'; exact k
    | ct ρ' => cases e'; exact k
    | rt d => cases e'; exact k
    | er x ρ' =>
      intro σ' μ' Hs' H' cls dx g' s' env' hx
      obtain ⟨b, e1, e2⟩ := b1_eq (show b1 (exm x.cls) _ = some (fl, S1) from e')
      obtain ⟨C, c1, rfl, c3⟩ := id hx
      refine ⟨b, m2 _ _ e1 C c1, fun hb av hav => ?_, fun hb => ?_⟩
      · subst hb
        simp only [if_true] at e2
        obtain ⟨⟨f2, S3⟩, e4, e5⟩ := b1_eq e2
        refine ⟨μ', Hs', ρ', S2, f2, S3, s', env', e4, ?_⟩
        cases f2 with
        | nx ρ5 => cases e5; exact k.gr g'
        | bk ρ5 => cases e5; exact k.gr g'
        | ct ρ5 => cases e5; exact k.gr g'
        | rt d => cases e5; exact k.gr g'
        | er _ _ => cases e5
      · subst hb
        simp only [Bool.false_eq_true, if_false] at e2
        cases e2
        exact k σ' μ' Hs' H' _ _ g' s' env' hx
end
end Pd

/-! Sd4: defs over a store, isinstance, the law's end. -/
namespace Pd
open PySem PySem.Spec L2 SkE
open PyProof.Rows hiding St

def runM (g : SG) (N : List Str) (ds : List D) (S : Store) : Option (Res D × Store) := match g (rho0 N ds) S with
  | some (.rt d, S') => some (.ok d, S')
  | some (.nx _, S') => some (.ok .non, S')
  | some (.er x _, S') => some (.er x, S')
  | _ => none
/-- a def's function -/
def mF (n : Nat) (N : List Str) (g : SG) : SFn := fun ds S => if ds.length = n then runM g N ds S else none
theorem mF_ok {ps N : List Str} {g : SG} {ds : List D} {S : Store} {r : Res D × Store} (h : mF ps.length N g ds S = some r) : ds.length = ps.length ∧ runM g N ds S = some r := ite_opt h
theorem mF_eq {n : Nat} {N : List Str} {g : SG} {ds : List D} {S : Store} (h : ds.length = n) : mF n N g ds S = runM g N ds S := if_pos h
section
variable {P : Program} {w : World} {K : PySem.W.Frag} {mg : Str → Option Value} {base : Heap}
theorem enterM {μ : List Addr} {Hs H : Hp} {N : List Str} {vs : List V} {ds : List D} {S S1 : Store} {g : SG} {r : Res D} {Q : VK} {E : XK} (s : Sim K mg μ Hs H S) (rv : RpA K μ Hs vs ds) (hl : runM g N ds S = some (r, S1))
    (P : PostM K mg (fun c d _ H' => E c d H') [] μ Hs r S1 fun d μ' Hs' H' => ∀ v, Rp K μ' Hs' v d → Q v H') : tG K mg (fun c d _ H' => E c d H') g { nx := fun _ H' => Q .non H', rt := Q } (L2.start N vs) H := by
  unfold runM at hl
  cases q : g (rho0 N ds) S with
  | none => rw [q] at hl; cases hl
  | some p =>
    obtain ⟨fl, S2⟩ := p
    rw [q] at hl
    refine ⟨μ, Hs, rho0 N ds, S, fl, S2, s, ?_, q, ?_⟩
    · unfold L2.start rho0
      rw [rv.len]
      exact vals_env _ rv
    · cases fl with
      | nx ρ => cases hl; exact fun σ μ' Hs' H' g' s' _ => P μ' Hs' H' g' s' _ .non
      | rt d => cases hl; exact fun v μ' Hs' H' g' s' r' => P μ' Hs' H' g' s' v r'
      | er x ρ => cases hl; exact fun σ μ' Hs' H' cls dx g' s' _ x' => P μ' Hs' H' cls dx g' s' x'
      | bk _ => cases hl
      | ct _ => cases hl
theorem okM {x qual : Str} {st : Stmt} {f : Addr} {fd : FuncData} {N ps : List Str} {k : Nat} {g : SG} (Fn : Fun K x qual st f fd) (S : FnScope N ps (defScope st))
    (body : ∀ (cdv : Value) (A : Around) (outer : List Env) (s : Shared) (H : Hp) (E : XK), Takes (cxOf (L2.CX P w) P w K mg base N qual (defScope st) f cdv A outer s H E) (fun cls d _ H => E cls d H) →
      Room k (A.deeper (envOfC qual (defScope st) s.heap.objs.size f cdv)) → PSs (cxOf (L2.CX P w) P w K mg base N qual (defScope st) f cdv A outer s H E) (defBody st) (tG K mg (fun cls d _ H => E cls d H) g)) :
    FnOk P w K mg base (L2.CX P w) (k + 1) f fd ps (spM K mg (mF ps.length N g)) := by
  refine Fn.okX S (fun vs H Q E h => ?_) (fun cdv A outer s H vs Q E hr h => ?_)
  · obtain ⟨μ, Hs, S, ds, r, S1, _, rv, e, _⟩ := h
    rw [rv.len]
    exact (mF_ok e).1
  · obtain ⟨μ, Hs, S, ds, r, S1, s1, rv, e, P1⟩ := h
    exact ⟨_, body cdv A outer s H E (takes_of rfl rfl rfl rfl) hr, enterM s1 rv (mF_ok e).2 P1⟩
/-- the law's own promise -/
def spL (K : PySem.W.Frag) : Sp := fun vs H Q _ => ∃ (a : Addr) (ns : List Int), vs = [.ref a] ∧ ns.length ≤ 63 ∧ SqL K H a (ns.map V.int) ∧ ∀ H', Q (.bl true) H'
theorem law_spM {fh : SFn} (h : ∀ ns : List Int, ns.length ≤ 63 → ∃ S, fh [.scr ns] [] = some (.ok (.bool true), S)) : ∀ vs H Q E, spL K vs H Q E → spM K mg fh vs H Q E := by
  rintro vs H Q E ⟨a, ns, rfl, hl, hS, q⟩
  obtain ⟨S, e⟩ := h ns hl
  refine ⟨[], H, [], [.scr ns], _, S, ⟨Same.refl _, rfl, fun i j a h => by simp at h, fun n a c h => by simp at h⟩, .cons (.scr hS) .nil, e, fun μ' Hs' H' g s v r => ?_⟩
  cases r
  exact q H'
theorem spL_of (H : Hp) (a : Addr) (ns : List Int) (hl : ns.length ≤ 63) (hS : SqL K H a (ns.map V.int)) : spL K [.ref a] H (fun v _ => v = .bl true) fun _ _ _ => False := ⟨a, ns, rfl, hl, hS, fun _ => rfl⟩
theorem cx_none {H : Hp} {s : Shared} {e : Value} {s' : Shared} (h : L2.CX P w [] H s (fun _ _ _ => False) e s') : False := by
  obtain ⟨_, _, _, _, _, _, _, _, _, _, _, _, z⟩ := h
  exact z
end
section
variable {X : Cx} {W : WX} {e b o : Expr} {es : List Expr} {f : SF} {pos p p1 p2 apos cpos : Pos} {x n c : Str}
/-- a name -/
theorem s_var (i : Nat) (hi : X.N[i]? = some x := by rfl) (hx : Vis X.env.scope x := by first | exact .inl rfl | exact .inr (.inl rfl) | exact .inr (.inr rfl)) (hd : (x == ("__debug__" : Str)) = false := by decide) (hcd : (x == ("__classdict__" : Str)) = false := by decide) : PE X (.Name x pos) (tM X.K X.mg W (mP (fVar i))) := s_pure (pd_var i hi hx hd hcd)
/-- isinstance(e, T), T a built-in class -/
def mIsi (T : String) (f : SF) : SF := fun ρ S => sb (f ρ S) fun d S1 => b1 (gIsi T (view S1 d)) fun o => some (.ok o, S1)
theorem s_isi {T : Str} {t : String} (he : PE X e (tM X.K X.mg W f)) (hm : X.mg "isinstance" = none) (hT : X.mg T = none) (hg : Gl X "isinstance" := by rfl) (hg2 : Gl X T := by rfl) (hv : bootBuiltins T = some (.type t) := by decide +kernel) (hn : T ≠ "__name__" := by decide) (hd : (T == ("__debug__" : Str)) = false := by decide)
    (h1 : starEach [e, .Name T p2] X.env = (false, eval e X.env) :: starEach [.Name T p2] X.env := by rfl) (h2 : starEach [.Name T p2] X.env = (false, eval (.Name T p2) X.env) :: starEach [] X.env := by rfl) (hpl : (backTo pos (starEach [.Name T p2] X.env)).any (·.1) = false := by rfl) :
    PE X (.Call (.Name "isinstance" p) [e, .Name T p2] [] pos) (tM X.K X.mg W (mIsi t f)) := by
  refine pe_imp (pe_callB call_isi hg hm (by decide +kernel) (pa_cons he (pa_cons (pe_bltn (v := .ty t) hg2 hT hv rfl hn hd) pa_nil h2) h1) (by decide) (by decide) h1 hpl) fun σ H Q ⟨μ, Hs, ρ, S, r, S1, s, env, e, P⟩ => ?_
  obtain ⟨q, S2, e1, P1⟩ := post_bind e P
  refine ⟨μ, Hs, ρ, S, q, S2, s, env, e1, P1.imp fun d μ1 Hs1 H1 g1 s1 ⟨_, _, e2, P2⟩ v rv => ?_⟩
  obtain ⟨o, e3, e4⟩ := b1_eq e2
  cases e4
  unfold gIsi at e3
  by_cases hl : (view S1 d).isLoc = true
  · rw [if_pos hl] at e3; cases e3
  rw [if_neg hl] at e3
  cases q : kitB (tyN (view S1 d)) t with
  | none => rw [q] at e3; cases e3
  | some b =>
    rw [q] at e3
    cases e3
    exact ⟨v, .ty t, .type (tyN (view S1 d)), .type t, b, rfl, .ty t, (view_rp s1 rv).tyX hl, kit_ty q, P2 _ _ _ (Gr.refl _ _) s1 _ (.bool _)⟩
/-- what isinstance asks of the classes of errors -/
structure Xi (K : PySem.W.Frag) (mg : Str → Option Value) (c : Str) (tab : Str → Option Bool) : Prop where
  ex : ∃ D : Addr, mg c = some (.ref D) ∧ ∀ x b, tab x = some b → ∀ C : Addr, mg x = some (.ref C) → ExcC K C ∧ PySem.W.kitOne K (.ref C) (.ref D) = some b
/-- isinstance(n, c), n the caught error x in slot i -/
def mXis (i : Nat) (tab : Str → Option Bool) (x : Exn) (a : Addr) : SF := fun ρ S => match ρ[i]? with
  | some (.exc a' _ _) => if a' = a ∧ x.fs.isEmpty = true then b1 (tab x.cls) fun b => some (.ok (.bool b), S) else none
  | _ => none
theorem s_isE (i : Nat) {a C : Addr} {oe : Obj} {d : Option Addr} {pn : List (Addr × Obj)} {tab : Str → Option Bool} {xx : Exn} (M : Xi X.K X.mg c tab) (hz : Zc (.ref C) d oe) (hf : ∃ vs, oe.data = .fields vs) (hx : X.mg xx.cls = some (.ref C)) (hxd : (xx.fs = [] ∧ d = none) ∨ (xx.fs ≠ [] ∧ d.isSome = true))
    (hm : X.mg "isinstance" = none) (hi : X.N[i]? = some n := by rfl) (hv : Vis X.env.scope n := by first | exact .inl rfl | exact .inr (.inl rfl) | exact .inr (.inr rfl)) (hg : Gl X "isinstance" := by rfl) (hg2 : Gl X c := by rfl) (hd : (n == ("__debug__" : Str)) = false := by decide) (hcd : (n == ("__classdict__" : Str)) = false := by decide) (hdc : (c == ("__debug__" : Str)) = false := by decide)
    (h1 : starEach [.Name n p1, .Name c p2] X.env = (false, eval (.Name n p1) X.env) :: starEach [.Name c p2] X.env := by rfl) (h2 : starEach [.Name c p2] X.env = (false, eval (.Name c p2) X.env) :: starEach [] X.env := by rfl) (hpl : (backTo pos (starEach [.Name c p2] X.env)).any (·.1) = false := by rfl) :
    PE (X.suite a ((a, oe) :: pn)) (.Call (.Name "isinstance" p) [.Name n p1, .Name c p2] [] pos) (tM X.K X.mg W (mXis i tab xx a)) := by
  obtain ⟨D, m1, m2⟩ := M.ex
  cases d with
  | some dd =>
    refine ⟨fun pins s σ H Q I ⟨μ, Hs, ρ, S, r, S1, s, env, e, P⟩ => ?_⟩
    exfalso
    unfold mXis at e
    split at e
    · obtain ⟨⟨_, h⟩, _⟩ := ite_opt e
      rcases hxd with ⟨_, z⟩ | ⟨z, _⟩
      · cases z
      · exact z (List.isEmpty_iff.mp h)
    · cases e
  | none =>
    cases ht : tab xx.cls with
    | none =>
      refine ⟨fun pins s σ H Q I ⟨μ, Hs, ρ, S, r, S1, s, env, e, P⟩ => ?_⟩
      exfalso
      unfold mXis at e
      rw [ht] at e
      split at e
      · obtain ⟨_, h⟩ := ite_opt e
        cases h
      · cases e
    | some b =>
      obtain ⟨k1, k2⟩ := m2 _ _ ht C hx
      refine pe_imp (pe_callB (X := X.suite a ((a, oe) :: pn)) (call_isE k1 hz hf) hg hm (by decide +kernel) (pa_cons (pe_var (X := X.suite a ((a, oe) :: pn)) (i := i) hi hv hd hcd) (pa_cons (pe_glob (X := X.suite a ((a, oe) :: pn)) (v := .ref D) hg2 m1 rfl hdc) pa_nil h2) h1) (by decide) (by decide) h1 hpl) fun σ H Q ⟨μ, Hs, ρ, S, r, S1, s, env, e, P⟩ => ?_
      unfold mXis at e
      rw [ht] at e
      split at e
      · rename_i a' d' fs' hq
        obtain ⟨⟨rfl, _⟩, h⟩ := ite_opt e
        cases h
        obtain ⟨ov, q1, q2⟩ := paired_get env hq
        obtain ⟨rfl, _⟩ := q2
        exact ⟨_, q1, .ref D, .ref D, b, rfl, fun u hu => hu, k2, P μ Hs H (Gr.refl _ _) s _ (.bool _)⟩
      · cases e
/-- n.f, n the caught error in slot i -/
def mXfl (i : Nat) (f : Str) (a : Addr) (d : Option Addr) : SF := fun ρ S => match ρ[i]? with
  | some (.exc a' d' fs) => if a' = a ∧ d' = d then b1 (fs.lookup f) fun v => some (.ok v, S) else none
  | _ => none
/-- an error class whose fields are read -/
structure Xfl (K : PySem.W.Frag) (mg : Str → Option Value) (f : Str) (cs : List Str) : Prop where
  ex : ∀ x, x ∈ cs → ∀ C : Addr, mg x = some (.ref C) → XfC K C ∧ PySem.W.findIn K (.ref C) f = some none
theorem s_xfl (i : Nat) {a C : Addr} {oe : Obj} {d : Option Addr} {pn : List (Addr × Obj)} {cs : List Str} {xx : Exn} {fn : Str} (M : Xfl X.K X.mg fn cs) (hcs : xx.cls ∈ cs) (hz : Zc (.ref C) d oe) (hf : ∃ vs, oe.data = .fields vs) (hx : X.mg xx.cls = some (.ref C))
    (hi : X.N[i]? = some n := by rfl) (hv : Vis X.env.scope n := by first | exact .inl rfl | exact .inr (.inl rfl) | exact .inr (.inr rfl)) (hd : (n == ("__debug__" : Str)) = false := by decide) (hcd : (n == ("__classdict__" : Str)) = false := by decide) (hb : attributeBase (.Name n p1) fn X.env (eval (.Name n p1) X.env) = eval (.Name n p1) X.env := by rfl) :
    PE (X.suite a ((a, oe) :: pn)) (.Attribute (.Name n p1) fn pos) (tM X.K X.mg W (mXfl i fn a d)) := by
  obtain ⟨k1, k2⟩ := M.ex _ hcs C hx
  refine pe_imp (pe_xf k1 k2 hz hf (pe_var (X := X.suite a ((a, oe) :: pn)) (i := i) hi hv hd hcd) hb) fun σ H Q ⟨μ, Hs, ρ, S, r, S1, s, env, e, P⟩ => ?_
  unfold mXfl at e
  split at e
  · rename_i a' d' fs' hq
    obtain ⟨⟨rfl, rfl⟩, h⟩ := ite_opt e
    obtain ⟨z, h2, h3⟩ := b1_eq h
    cases h3
    obtain ⟨ov, q1, q2⟩ := paired_get env hq
    obtain ⟨rfl, q3⟩ := q2
    rcases q3 with q3 | ⟨dd, vs, rfl, q4, q5⟩
    · rw [q3] at h2; cases h2
    · obtain ⟨v, q6, q7⟩ := (FRp.look (κ := Str) q5 fn).2 z h2
      exact ⟨_, q1, rfl, rfl, dd, vs, v, rfl, s.sub _ _ q4, q6, P μ Hs H (Gr.refl _ _) s v q7⟩
  · cases e
theorem kit_ref {K : PySem.W.Frag} {C D : Addr} {b : Bool} (hd : PySem.W.hasDictIn K D = true) (ht : PySem.W.typeIn K (.ref D) = some (.type "type")) (hs : PySem.W.subIn K (.ref C) (.ref D) = some b) (hb : b = true ∨ PySem.W.subIn K (.ref D) (.ref D) = some true) : PySem.W.kitOne K (.ref C) (.ref D) = some b := by
  have e2 : ((PySem.W.clsIn K D).isSome && PySem.W.typeIn K (.ref D) == some (.type "type")) = true := by
    unfold PySem.W.hasDictIn at hd
    cases q : PySem.W.clsIn K D with
    | none => rw [q] at hd; cases hd
    | some _ => rw [ht]; rfl
  unfold PySem.W.kitOne
  by_cases h : (Value.ref C == Value.ref D) = true
  · rw [if_pos h]
    rcases hb with hb | hb
    · rw [hb]
    · have z : Value.ref C = Value.ref D := beq_iff_eq.mp h
      rw [z, hb] at hs
      exact hs
  · rw [if_neg h]
    show (if ((PySem.W.clsIn K D).isSome && PySem.W.typeIn K (.ref D) == some (.type "type")) = true then PySem.W.subIn K (.ref C) (.ref D) else none) = some b
    rw [if_pos e2]
    exact hs
theorem xm_nil {K : PySem.W.Frag} {mg : Str → Option Value} {D : Addr} : ∀ x b, List.lookup x ([] : List (Str × Bool)) = some b → ∀ C : Addr, mg x = some (.ref C) → PySem.W.exmOne K (.ref C) (.ref D) = some b := fun _ _ h => nomatch h
theorem tab_cons {mg : Str → Option Value} {R : Addr → Bool → Prop} {y : Str} {b0 : Bool} {C0 : Addr} {tab : List (Str × Bool)} (h : ∀ x b, List.lookup x tab = some b → ∀ C : Addr, mg x = some (.ref C) → R C b) (m : mg y = some (.ref C0)) (e : R C0 b0) :
    ∀ x b, List.lookup x ((y, b0) :: tab) = some b → ∀ C : Addr, mg x = some (.ref C) → R C b := fun x b hl C hC => by
  rw [List.lookup] at hl
  split at hl
  · rename_i hy
    cases hl
    have : x = y := by simpa using hy
    subst this
    rw [m] at hC
    cases hC
    exact e
  · exact h x b hl C hC
theorem tab_nil {mg : Str → Option Value} {R : Addr → Bool → Prop} : ∀ x b, List.lookup x ([] : List (Str × Bool)) = some b → ∀ C : Addr, mg x = some (.ref C) → R C b := fun _ _ h => nomatch h
end
end Pd

/-! Sd5: what the functions of a store are worth: cells of a store, Ev, v_ rules. -/
namespace Pd
open PySem PySem.Spec L2 SkE
open PyProof.Rows hiding St

/-- the store has these cells, each at a place of its own -/
structure Has (S : Store) (l : List (Nat × Cell)) : Prop where
  nd : (l.map (·.1)).Nodup
  at_ : ∀ n c, (n, c) ∈ l → S[n]? = some c
section
variable {S : Store} {l r : List (Nat × Cell)} {n m : Nat} {c c' : Cell}
theorem Has.perm (h : Has S l) (p : l.Perm r) : Has S r := ⟨(p.map _).nodup_iff.mp h.nd, fun n c z => h.at_ n c (p.mem_iff.mpr z)⟩
theorem Has.sub (h : Has S l) (p : r.Sublist l) : Has S r := ⟨h.nd.sublist (p.map _), fun n c z => h.at_ n c (p.subset z)⟩
theorem Has.tail (h : Has S ((n, c) :: l)) : Has S l := h.sub (List.sublist_cons_self _ _)
theorem Has.hd (h : Has S ((n, c) :: l)) : S[n]? = some c := h.at_ n c (List.mem_cons_self)
theorem get_lt (h : S[n]? = some c) : n < S.length := (List.getElem?_eq_some_iff.mp h).1
theorem Has.new (h : Has S l) (c : Cell) : Has (S ++ [c]) ((S.length, c) :: l) := by
  refine ⟨?_, fun n d z => ?_⟩
  · rw [List.map_cons, List.nodup_cons]
    refine ⟨fun z => ?_, h.nd⟩
    obtain ⟨p, h1, h2⟩ := List.mem_map.mp z
    have := get_lt (h.at_ p.1 p.2 h1)
    omega
  · rcases List.mem_cons.mp z with z | z
    · cases z; rw [List.getElem?_append_right (Nat.le_refl _), Nat.sub_self]; rfl
    · have := h.at_ n d z
      rw [List.getElem?_append_left (get_lt this)]
      exact this
theorem Has.ext (h : Has S l) (t : List Cell) : Has (S ++ t) l := ⟨h.nd, fun n c z => by
  have := h.at_ n c z
  rw [List.getElem?_append_left (get_lt this)]
  exact this⟩
theorem Has.set (h : Has S ((n, c) :: l)) (c' : Cell) : Has (S.set n c') ((n, c') :: l) := by
  have hn : n ∉ l.map (·.1) := by
    have := h.nd
    rw [List.map_cons, List.nodup_cons] at this
    exact this.1
  refine ⟨h.nd, fun k d z => ?_⟩
  rcases List.mem_cons.mp z with z | z
  · cases z; rw [List.getElem?_set_self (get_lt h.hd)]
  · have hk : n ≠ k := fun e => by subst e; exact hn (List.mem_map.mpr ⟨_, z, rfl⟩)
    rw [List.getElem?_set_ne hk]
    exact h.at_ k d (List.mem_cons_of_mem _ z)
theorem Has.f1 {a b : Nat × Cell} (h : Has S (a :: b :: l)) : Has S (b :: a :: l) := h.perm (List.perm_middle (l₁ := [_]))
theorem Has.f2 {a b d : Nat × Cell} (h : Has S (a :: b :: d :: l)) : Has S (d :: a :: b :: l) := h.perm (List.perm_middle (l₁ := [_, _]))
theorem Has.f3 {a b d e : Nat × Cell} (h : Has S (a :: b :: d :: e :: l)) : Has S (e :: a :: b :: d :: l) := h.perm (List.perm_middle (l₁ := [_, _, _]))
theorem Has.f4 {a b d e f : Nat × Cell} (h : Has S (a :: b :: d :: e :: f :: l)) : Has S (f :: a :: b :: d :: e :: l) := h.perm (List.perm_middle (l₁ := [_, _, _, _]))
theorem Has.t1 {a b : Nat × Cell} (h : Has S (a :: b :: l)) : Has S (a :: l) := h.sub (.cons₂ _ (.cons _ (List.Sublist.refl _)))
theorem Has.t2 {a b d : Nat × Cell} (h : Has S (a :: b :: d :: l)) : Has S (a :: b :: l) := h.sub (.cons₂ _ (.cons₂ _ (.cons _ (List.Sublist.refl _))))
theorem Has.ne (h : Has S l) {a b : List (Nat × Cell)} (e : l = a ++ (n, c) :: b) (hm : (m, c') ∈ a ++ b) : n ≠ m := fun z => by
  subst z
  have h1 := h.nd
  rw [e, List.map_append, List.map_cons] at h1
  have h2 := (List.perm_middle (a := n) (l₁ := a.map (·.1)) (l₂ := b.map (·.1))).nodup_iff.mp h1
  rw [List.nodup_cons, ← List.map_append] at h2
  exact h2.1 (List.mem_map.mpr ⟨_, hm, rfl⟩)
end

def Ev {α : Type} (m : Option (Res α × Store)) (Q : α → Store → Prop) (E : Exn → Store → Prop) : Prop := match m with
  | some (.ok a, S) => Q a S
  | some (.er x, S) => E x S
  | none => False
section
variable {α β : Type} {Q Q' : α → Store → Prop} {E E' : Exn → Store → Prop} {m : Option (Res α × Store)}
theorem Ev.mono (h : Ev m Q E) (q : ∀ a S, Q a S → Q' a S) (e : ∀ x S, E x S → E' x S) : Ev m Q' E' := by
  cases m with
  | none => exact h
  | some p =>
    obtain ⟨r, S⟩ := p
    cases r with
    | ok a => exact q _ _ h
    | er x => exact e _ _ h
theorem Ev.ok {a : α} {S : Store} (h : m = some (.ok a, S)) (q : Q a S) : Ev m Q E := by rw [h]; exact q
theorem Ev.er {x : Exn} {S : Store} (h : m = some (.er x, S)) (q : E x S) : Ev m Q E := by rw [h]; exact q
theorem ev_sb {k : α → Store → Option (Res β × Store)} {Q : β → Store → Prop} (h : Ev m (fun a S => Ev (k a S) Q E) E) : Ev (sb m k) Q E := by
  cases m with
  | none => exact h
  | some p =>
    obtain ⟨r, S⟩ := p
    cases r with
    | ok a => exact h
    | er x => exact h
theorem ev_b1 {γ : Type} {o : Option γ} {k : γ → Option (Res α × Store)} {d : γ} (h : o = some d) (q : Ev (k d) Q E) : Ev (b1 o k) Q E := by rw [h]; exact q
theorem ev_if {c : Prop} {inst : Decidable c} {x : Option (Res α × Store)} (h : c) (q : Ev x Q E) : Ev (if c then x else none) Q E := by rw [if_pos h]; exact q
end
/-- what a statement's flow is -/
def EG (m : Option (Fx × Store)) (Q : Fx → Store → Prop) : Prop := match m with
  | some (f, S) => Q f S
  | none => False
theorem EG.mono {m : Option (Fx × Store)} {Q Q' : Fx → Store → Prop} (h : EG m Q) (q : ∀ a S, Q a S → Q' a S) : EG m Q' := by
  cases m with
  | none => exact h
  | some p => exact q _ _ h
theorem eg_ev {α : Type} {m : Option (Res α × Store)} {ρ : Rho} {k : α → Store → Option (Fx × Store)} {Q : Fx → Store → Prop} (h : Ev m (fun a S => EG (k a S) Q) (fun x S => Q (.er x ρ) S)) : EG (ev m ρ k) Q := by
  cases m with
  | none => exact h
  | some p =>
    obtain ⟨r, S⟩ := p
    cases r with
    | ok a => exact h
    | er x => exact h
/-- a def's value by its body -/
def endQ (Q : D → Store → Prop) (E : Exn → Store → Prop) : Fx → Store → Prop
  | .rt d, S => Q d S
  | .nx _, S => Q .non S
  | .er x _, S => E x S
  | _, _ => False
theorem ev_def {n : Nat} {N : List Str} {g : SG} {ds : List D} {S : Store} {Q : D → Store → Prop} {E : Exn → Store → Prop} (hn : ds.length = n) (h : EG (g (rho0 N ds) S) (endQ Q E)) : Ev (mF n N g ds S) Q E := by
  rw [mF_eq hn]
  unfold runM
  cases q : g (rho0 N ds) S with
  | none => rw [q] at h; exact h
  | some p =>
    obtain ⟨f, S'⟩ := p
    rw [q] at h
    cases f with
    | rt d => exact h
    | nx _ => exact h
    | er x _ => exact h
    | bk _ => exact h.elim
    | ct _ => exact h.elim
section
variable {Q : D → Store → Prop} {Qs : List D → Store → Prop} {Qb : Bool → Store → Prop} {Qo : Option Int → Store → Prop} {E : Exn → Store → Prop} {QG : Fx → Store → Prop} {ρ ρ' : Rho} {S : Store} {f g h : SF} {fs : SFs} {ft gt : SFt} {fp : F} {d : D} {c fl m : Str}
theorem v_P (e : fp ρ = some d) (q : Q d S) : Ev (mP fp ρ S) Q E := ev_b1 e q
theorem v_nil (q : Qs [] S) : Ev (mNil ρ S) Qs E := q
theorem v_cons (h : Ev (f ρ S) (fun d S1 => Ev (fs ρ S1) (fun ds S2 => Qs (d :: ds) S2) E) E) : Ev (mCons f fs ρ S) Qs E := ev_sb (h.mono (fun d S1 h2 => ev_sb (h2.mono (fun ds S2 q => q) fun _ _ e => e)) fun _ _ e => e)
theorem v_2 {G : D → D → Option D} (h : Ev (f ρ S) (fun d S1 => Ev (g ρ S1) (fun e S2 => ∃ o, G (view S2 d) (view S2 e) = some o ∧ (o.sca || (!isLc S2 d && !isLc S2 e)) = true ∧ Q o S2) E) E) : Ev (m2 G f g ρ S) Q E :=
  ev_sb (h.mono (fun d S1 h2 => ev_sb (h2.mono (fun e S2 ⟨o, h3, h4, q⟩ => ev_b1 h3 (ev_if h4 q)) fun _ _ e => e)) fun _ _ e => e)
theorem v_L {G : List D → Option D} (h : Ev (fs ρ S) (fun ds S1 => ∃ o, G (ds.map (view S1)) = some o ∧ (o.sca || ds.all fun d => !isLc S1 d) = true ∧ Q o S1) E) : Ev (mL G fs ρ S) Q E :=
  ev_sb (h.mono (fun ds S1 ⟨o, h3, h4, q⟩ => ev_b1 h3 (ev_if h4 q)) fun _ _ e => e)
theorem v_call {fh : SFn} (h : Ev (fs ρ S) (fun ds S1 => Ev (fh ds S1) Q E) E) : Ev (mCall fh fs ρ S) Q E := ev_sb h
theorem v_callP {fh : List D → Option D} (h : Ev (fs ρ S) (fun ds S1 => ∃ o, fh ds = some o ∧ Q o S1) E) : Ev (mCallP fh fs ρ S) Q E := ev_sb (h.mono (fun ds S1 ⟨o, h3, q⟩ => ev_b1 h3 q) fun _ _ e => e)
theorem v_fld (h : Ev (g ρ S) (fun d S1 => ∃ n fs v, d = .loc n ∧ S1[n]? = some (.ins c fs) ∧ fs.lookup fl = some v ∧ Q v S1) E) : Ev (mFld c fl g ρ S) Q E := ev_sb (h.mono (fun d S1 ⟨n, fs, v, e1, e2, e3, q⟩ => by
  subst e1
  show Ev (match S1[n]? with | some (.ins c' fs) => if c' = c then b1 (fs.lookup fl) fun v => some (.ok v, S1) else none | _ => none) Q E
  rw [e2]
  exact ev_if rfl (ev_b1 e3 q)) fun _ _ e => e)
theorem v_meth {fh : SFn} (h : Ev (g ρ S) (fun d S1 => ∃ n fs0, d = .loc n ∧ S1[n]? = some (.ins c fs0) ∧ fs0.lookup m = none ∧ Ev (fs ρ S1) (fun ds S2 => Ev (fh (.loc n :: ds) S2) Q E) E) E) : Ev (mMeth c m fh g fs ρ S) Q E := ev_sb (h.mono (fun d S1 ⟨n, fs0, e1, e2, e3, q⟩ => by
  subst e1
  show Ev (match S1[n]? with | some (.ins c' fs0) => if c' = c then (if fs0.lookup m = none then sb (fs ρ S1) fun ds S2 => fh (.loc n :: ds) S2 else none) else none | _ => none) Q E
  rw [e2]
  exact ev_if rfl (ev_if e3 (ev_sb q))) fun _ _ e => e)
theorem v_make {fh : SFn} {dvs : List D} (h : Ev (fs ρ S) (fun ds S1 => Ev (fh (.loc S1.length :: (ds ++ dvs)) (S1 ++ [.ins c []])) (fun d S2 => d = .non ∧ Q (.loc S1.length) S2) E) E) : Ev (mMake c fh dvs fs ρ S) Q E :=
  ev_sb (h.mono (fun ds S1 h2 => ev_sb (h2.mono (fun d S2 ⟨e, q⟩ => by subst e; exact q) fun _ _ e => e)) fun _ _ e => e)
theorem v_list (h : Ev (f ρ S) (fun d S1 => ∃ es, (view S1 d = .lst es ∨ view S1 d = .tup es) ∧ Q (.loc S1.length) (S1 ++ [.lst es])) E) : Ev (mList (mCons f mNil) ρ S) Q E := ev_sb (v_cons (h.mono (fun d S1 ⟨es, h1, q⟩ => v_nil (by
  show Ev (match [view S1 d] with | [.lst es] => some (Res.ok (D.loc S1.length), S1 ++ [Cell.lst es]) | [.tup es] => some (.ok (.loc S1.length), S1 ++ [.lst es]) | _ => none) Q E
  rcases h1 with h1 | h1
  · rw [h1]; exact q
  · rw [h1]; exact q)) fun _ _ e => e))
theorem v_disp (h : Ev (fs ρ S) (fun ds S1 => ds.length ≤ sizeLine ∧ Q (.loc S1.length) (S1 ++ [.lst ds])) E) : Ev (mDisp fs ρ S) Q E := ev_sb (h.mono (fun ds S1 ⟨h1, q⟩ => ev_if h1 q) fun _ _ e => e)
theorem v_tup (h : Ev (fs ρ S) (fun ds S1 => ds.length ≤ sizeLine ∧ Q (.tup ds) S1) E) : Ev (mTup fs ρ S) Q E := ev_sb (h.mono (fun ds S1 ⟨h1, q⟩ => ev_if h1 q) fun _ _ e => e)
theorem v_cat (h : Ev (f ρ S) (fun d S1 => Ev (g ρ S1) (fun e S2 => ∃ xs ys, view S2 d = .lst xs ∧ view S2 e = .lst ys ∧ xs.length + ys.length ≤ sizeLine ∧ Q (.loc S2.length) (S2 ++ [.lst (xs ++ ys)])) E) E) : Ev (mCat f g ρ S) Q E :=
  ev_sb (h.mono (fun d S1 h2 => ev_sb (h2.mono (fun e S2 ⟨xs, ys, h3, h4, h5, q⟩ => by
    rw [h3, h4]
    exact ev_if h5 q) fun _ _ e => e)) fun _ _ e => e)
theorem v_ix (h : Ev (f ρ S) (fun d S1 => Ev (g ρ S1) (fun e S2 => ∃ xs i o, (view S2 d = .lst xs ∨ view S2 d = .tup xs) ∧ e = .int i ∧ atI xs i = some o ∧ Q o S2) E) E) : Ev (mIx f g ρ S) Q E :=
  ev_sb (h.mono (fun d S1 h2 => ev_sb (h2.mono (fun e S2 ⟨xs, i, o, h3, h4, h5, q⟩ => by
    subst h4
    rcases h3 with h3 | h3 <;> rw [h3] <;> exact ev_b1 h5 q) fun _ _ e => e)) fun _ _ e => e)
theorem ls_at {n : Nat} {ds : List D} (h : S[n]? = some (.lst ds)) : lsAt S (.loc n) = some (n, ds) := by
  show (match S[n]? with | some (.lst ds) => some (n, ds) | _ => none) = _
  rw [h]
theorem view_at {n : Nat} {ds : List D} (h : S[n]? = some (.lst ds)) : view S (.loc n) = .lst ds := by
  show (match S[n]? with | some (.lst ds) => D.lst ds | _ => .loc n) = _
  rw [h]
theorem v_app (h : Ev (f ρ S) (fun d S1 => ∃ n ds0, d = .loc n ∧ S1[n]? = some (.lst ds0) ∧ Ev (g ρ S1) (fun e S2 => ∃ ds, S2[n]? = some (.lst ds) ∧ ds.length < sizeLine ∧ Q .non (S2.set n (.lst (ds ++ [e])))) E) E) : Ev (mApp f g ρ S) Q E :=
  ev_sb (h.mono (fun d S1 ⟨n, ds0, e1, h1, h2⟩ => by
    subst e1
    exact ev_if (by rw [ls_at h1]; rfl) (ev_sb (h2.mono (fun e S2 ⟨ds, h3, h4, q⟩ => ev_b1 (ls_at h3) (ev_if h4 q)) fun _ _ e => e))) fun _ _ e => e)
theorem v_ext (h : Ev (f ρ S) (fun d S1 => ∃ n ds0, d = .loc n ∧ S1[n]? = some (.lst ds0) ∧ Ev (g ρ S1) (fun e S2 => ∃ ds k es, S2[n]? = some (.lst ds) ∧ e = .loc k ∧ S2[k]? = some (.lst es) ∧ ds.length + es.length ≤ sizeLine ∧ Q .non (S2.set n (.lst (ds ++ es)))) E) E) : Ev (mExt f g ρ S) Q E :=
  ev_sb (h.mono (fun d S1 ⟨n, ds0, e1, h1, h2⟩ => by
    subst e1
    exact ev_if (by rw [ls_at h1]; rfl) (ev_sb (h2.mono (fun e S2 ⟨ds, k, es, h3, e2, h5, h4, q⟩ => by subst e2; exact ev_b1 (ls_at h3) (ev_b1 (ls_at h5) (ev_if h4 q))) fun _ _ e => e))) fun _ _ e => e)
theorem v_popAt (h : Ev (f ρ S) (fun d S1 => ∃ n ds0, d = .loc n ∧ S1[n]? = some (.lst ds0) ∧ Ev (g ρ S1) (fun e S2 => ∃ ds i k o, S2[n]? = some (.lst ds) ∧ e = .int i ∧ (-(2 ^ 63) ≤ i ∧ i < 2 ^ 63) ∧ seqIndex? i ds.length = some k ∧ ds[k]? = some o ∧ Q o (S2.set n (.lst (ds.eraseIdx k)))) E) E) : Ev (mPopAt f g ρ S) Q E :=
  ev_sb (h.mono (fun d S1 ⟨n, ds0, e1, h1, h2⟩ => by
    subst e1
    exact ev_if (by rw [ls_at h1]; rfl) (ev_sb (h2.mono (fun e S2 ⟨ds, i, k, o, h3, e2, h5, h6, h7, q⟩ => by subst e2; exact ev_b1 (ls_at h3) (ev_if h5 (ev_b1 h6 (ev_b1 h7 q)))) fun _ _ e => e))) fun _ _ e => e)
theorem v_pop (h : Ev (f ρ S) (fun d S1 => ∃ n ds o, d = .loc n ∧ S1[n]? = some (.lst ds) ∧ ds[ds.length - 1]? = some o ∧ Q o (S1.set n (.lst ds.dropLast))) E) : Ev (mPop f ρ S) Q E :=
  ev_sb (h.mono (fun d S1 ⟨n, ds, o, e1, h1, h2, q⟩ => by subst e1; exact ev_b1 (ls_at h1) (ev_b1 h2 q)) fun _ _ e => e)
theorem v_slL {l hh : SFo} (h : Ev (f ρ S) (fun d S1 => Ev (l ρ S1) (fun lo S2 => Ev (hh ρ S2) (fun hi S3 => ∃ n ds, d = .loc n ∧ S3[n]? = some (.lst ds) ∧ Q (.loc S3.length) (S3 ++ [.lst (cutD ds lo hi)])) E) E) E) : Ev (mSl f l hh ρ S) Q E :=
  ev_sb (h.mono (fun d S1 h1 => ev_sb (h1.mono (fun lo S2 h2 => ev_sb (h2.mono (fun hi S3 ⟨n, ds, e1, h3, q⟩ => by subst e1; rw [ls_at h3]; exact q) fun _ _ e => e)) fun _ _ e => e)) fun _ _ e => e)
theorem v_oNo (q : Qo none S) : Ev (moNo ρ S) Qo E := q
theorem v_oE (h : Ev (f ρ S) (fun d S1 => ∃ i, d = .int i ∧ Qo (some i) S1) E) : Ev (moE f ρ S) Qo E := ev_sb (h.mono (fun d S1 ⟨i, e, q⟩ => by subst e; exact q) fun _ _ e => e)
theorem v_isi {T : String} (h : Ev (f ρ S) (fun d S1 => ∃ o, gIsi T (view S1 d) = some o ∧ Q o S1) E) : Ev (mIsi T f ρ S) Q E := ev_sb (h.mono (fun d S1 ⟨o, h3, q⟩ => ev_b1 h3 q) fun _ _ e => e)
theorem v_and (h : Ev (f ρ S) (fun d S1 => ∃ b, (view S1 d).tru = some b ∧ if b = true then Ev (g ρ S1) Q E else Q d S1) E) : Ev (mAnd f g ρ S) Q E := ev_sb (h.mono (fun d S1 ⟨b, h3, q⟩ => ev_b1 h3 (by
  cases b with
  | true => exact q
  | false => exact q)) fun _ _ e => e)
theorem v_or (h : Ev (f ρ S) (fun d S1 => ∃ b, (view S1 d).tru = some b ∧ if b = true then Q d S1 else Ev (g ρ S1) Q E) E) : Ev (mOr f g ρ S) Q E := ev_sb (h.mono (fun d S1 ⟨b, h3, q⟩ => ev_b1 h3 (by
  cases b with
  | true => exact q
  | false => exact q)) fun _ _ e => e)
theorem v_not (h : Ev (f ρ S) (fun d S1 => ∃ b, (view S1 d).tru = some b ∧ Q (.bool (!b)) S1) E) : Ev (mNot f ρ S) Q E := ev_sb (h.mono (fun d S1 ⟨b, h3, q⟩ => ev_b1 h3 q) fun _ _ e => e)
/-! tests -/
theorem vt_P {f : Ft} {b : Bool} (e : f ρ = some b) (q : Qb b S) : Ev (mtP f ρ S) Qb E := ev_b1 e q
theorem vt_V (h : Ev (f ρ S) (fun d S1 => ∃ b, (view S1 d).tru = some b ∧ Qb b S1) E) : Ev (mtV f ρ S) Qb E := ev_sb (h.mono (fun d S1 ⟨b, h3, q⟩ => ev_b1 h3 q) fun _ _ e => e)
theorem vt_B (h : Ev (f ρ S) (fun d S1 => ∃ b, d = .bool b ∧ Qb b S1) E) : Ev (mtB f ρ S) Qb E := ev_sb (h.mono (fun d S1 ⟨b, h3, q⟩ => by subst h3; exact q) fun _ _ e => e)
theorem vt_and (h : Ev (ft ρ S) (fun b S1 => if b = true then Ev (gt ρ S1) Qb E else Qb false S1) E) : Ev (mtAnd ft gt ρ S) Qb E := ev_sb (h.mono (fun b S1 q => by
  cases b with
  | true => exact q
  | false => exact q) fun _ _ e => e)
theorem vt_or (h : Ev (ft ρ S) (fun b S1 => if b = true then Qb true S1 else Ev (gt ρ S1) Qb E) E) : Ev (mtOr ft gt ρ S) Qb E := ev_sb (h.mono (fun b S1 q => by
  cases b with
  | true => exact q
  | false => exact q) fun _ _ e => e)
theorem vt_not (h : Ev (ft ρ S) (fun b S1 => Qb (!b) S1) E) : Ev (mtNot ft ρ S) Qb E := ev_sb h
/-! statements -/
/-- behind a statement: the next ones, or the end -/
def thenQ (g2 : SG) (Q : Fx → Store → Prop) : Fx → Store → Prop
  | .nx ρ, S => EG (g2 ρ S) Q
  | f, S => Q f S
theorem then_nx {g2 : SG} (h : EG (g2 ρ S) QG) : thenQ g2 QG (.nx ρ) S := h
theorem vs_seq {g1 g2 : SG} (h : EG (g1 ρ S) (thenQ g2 QG)) : EG (gSeq g1 g2 ρ S) QG := by
  unfold gSeq
  cases q : g1 ρ S with
  | none => rw [q] at h; exact h
  | some p =>
    obtain ⟨f, S'⟩ := p
    rw [q] at h
    cases f <;> exact h
theorem vs_nil (q : QG (.nx ρ) S) : EG (gNil ρ S) QG := q
theorem vs_retN (q : QG (.rt .non) S) : EG (gRetN ρ S) QG := q
theorem vs_ret (h : Ev (f ρ S) (fun d S1 => QG (.rt d) S1) (fun x S1 => QG (.er x ρ) S1)) : EG (gRet f ρ S) QG := eg_ev h
theorem vs_if {g1 g2 : SG} (h : Ev (ft ρ S) (fun b S1 => if b = true then EG (g1 ρ S1) QG else EG (g2 ρ S1) QG) (fun x S1 => QG (.er x ρ) S1)) : EG (gIf ft g1 g2 ρ S) QG := eg_ev (h.mono (fun b S1 q => by
  cases b with
  | true => exact q
  | false => exact q) fun _ _ e => e)
theorem vs_asg {set : D → Rho → Option Rho} (h : Ev (f ρ S) (fun d S1 => ∃ ρ', set d ρ = some ρ' ∧ QG (.nx ρ') S1) (fun x S1 => QG (.er x ρ) S1)) : EG (gAsg set f ρ S) QG := eg_ev (h.mono (fun d S1 ⟨ρ', e, q⟩ => by
  show EG (b1 (set d ρ) _) QG
  rw [e]
  exact q) fun _ _ e => e)
theorem vs_drop (h : Ev (f ρ S) (fun d S1 => QG (.nx ρ) S1) (fun x S1 => QG (.er x ρ) S1)) : EG (gDrop f ρ S) QG := eg_ev h
theorem vs_fld (h : Ev (f ρ S) (fun d S1 => Ev (g ρ S1) (fun e S2 => ∃ n fs, e = .loc n ∧ S2[n]? = some (.ins c fs) ∧ fs.length < 1000 ∧ QG (.nx ρ) (S2.set n (.ins c (putD fl d fs)))) (fun x S1 => QG (.er x ρ) S1)) (fun x S1 => QG (.er x ρ) S1)) : EG (gFld c fl f g ρ S) QG :=
  eg_ev (h.mono (fun d S1 h2 => eg_ev (h2.mono (fun e S2 ⟨n, fs, e1, e2, e3, q⟩ => by
    subst e1
    show EG (match S2[n]? with | some (.ins c' fs) => if c' = c ∧ fs.length < 1000 then some (.nx ρ, S2.set n (.ins c (putD fl d fs))) else none | _ => none) QG
    rw [e2]
    show EG (if c = c ∧ fs.length < 1000 then _ else none) QG
    rw [if_pos ⟨rfl, e3⟩]
    exact q) fun _ _ e => e)) fun _ _ e => e)
theorem vs_raise (h : Ev (f ρ S) (fun d S1 => QG (.er ⟨c, []⟩ ρ) S1) (fun x S1 => QG (.er x ρ) S1)) : EG (gRaise c f ρ S) QG := eg_ev h
theorem vs_brk (q : QG (.bk ρ) S) : EG (gBrk ρ S) QG := q
theorem vs_cnt (q : QG (.ct ρ) S) : EG (gCnt ρ S) QG := q
theorem vs_tryAs {i : Nat} {exm : Str → Option Bool} {bd : SG} {hd : Exn → Addr → Option Addr → SG} (h : EG (bd ρ S) (fun fl S1 => match fl with
    | .er x ρ' => ∃ b, exm x.cls = some b ∧ if b = true then (∃ r, (∀ a d, b1 (hd x a d (ρ'.set i (.exc a d x.fs)) S1) (wipF i) = some r) ∧ QG r.1 r.2) else QG (.er x ρ') S1
    | fl => QG fl S1)) : EG (gTryAs i exm bd hd ρ S) QG := by
  unfold gTryAs
  cases q : bd ρ S with
  | none => rw [q] at h; exact h
  | some p =>
    obtain ⟨f, S'⟩ := p
    rw [q] at h
    cases f with
    | er x ρ' =>
      obtain ⟨b, e1, e2⟩ := h
      show EG (b1 (exm x.cls) _) QG
      rw [e1]
      cases b with
      | true =>
        obtain ⟨r, e3, e4⟩ := e2
        show EG (comA _) QG
        rw [comA_of e3]
        exact e4
      | false => exact e2
    | _ => exact h
theorem vs_for {fi : SFi} {set : D → Rho → Option Rho} {g : SG} (h : Ev (fi ρ S) (fun p S1 => EG (goS p.2 (fun d ρ S => b1 (set d ρ) fun ρ' => g ρ' S) p.1 ρ S1) QG) (fun x S1 => QG (.er x ρ) S1)) : EG (gFor fi set g ρ S) QG := eg_ev h
theorem v_iP {fs : Fs} {ds : List D} {Qi : List D × (Store → Prop) → Store → Prop} (e : fs ρ = some ds) (q : Qi (ds, fun _ => True) S) : Ev (miP fs ρ S) Qi E := ev_b1 e q
/-- a loop by an invariant of what is left -/
theorem go_inv {chk : Store → Prop} {T : D → SG} (P : List D → Rho → Store → Prop) (hc : ∀ l ρ S, P l ρ S → chk S) (hd : ∀ ρ S, P [] ρ S → QG (.nx ρ) S)
    (hs : ∀ d l ρ S, P (d :: l) ρ S → EG (T d ρ S) fun fl S1 => match fl with
      | .nx ρ' => P l ρ' S1
      | .ct ρ' => P l ρ' S1
      | .bk ρ' => QG (.nx ρ') S1
      | fl => QG fl S1) : ∀ (ds : List D) (ρ : Rho) (S : Store), P ds ρ S → EG (goS chk T ds ρ S) QG
  | [], ρ, S, h => by
    unfold goS
    rw [if_pos (hc _ _ _ h)]
    exact hd _ _ h
  | d :: ds, ρ, S, h => by
    unfold goS
    rw [if_pos (hc _ _ _ h)]
    have := hs d ds ρ S h
    cases q : T d ρ S with
    | none => rw [q] at this; exact this.elim
    | some p =>
      obtain ⟨f, S'⟩ := p
      rw [q] at this
      cases f with
      | nx ρ' => exact go_inv P hc hd hs ds ρ' S' this
      | ct ρ' => exact go_inv P hc hd hs ds ρ' S' this
      | bk ρ' => exact this
      | rt v => exact this
      | er x ρ' => exact this
theorem v_xis {i : Nat} {tab : Str → Option Bool} {x : Exn} {a a' : Addr} {d' : Option Addr} {fs' : List (Str × D)} {b : Bool} (h1 : ρ[i]? = some (.exc a' d' fs')) (h2 : a' = a) (h3 : x.fs.isEmpty = true) (h4 : tab x.cls = some b) : mXis i tab x a ρ S = some (.ok (.bool b), S) := by
  unfold mXis
  rw [h1]
  show (if a' = a ∧ x.fs.isEmpty = true then b1 (tab x.cls) _ else none) = _
  rw [if_pos ⟨h2, h3⟩, h4]
  rfl
end
end Pd

/-! Zl0: zip of a list and a text (own; the road is the library's for two lists). -/
namespace Zl
open PySem
open PySem.Sem (wp)
/-- the text's iterator -/
abbrev SI (h : Heap) (a : Addr) (x : Str) (t : Tok) (i : Nat) : Prop := h.IsStrIter a "str_ascii_iterator" x t i
section
variable {prog : Program} {w : World} {A : Around} {E : Value → Shared → Prop} {s : Shared} {z TI TO i1 i2 l1 : Addr} {k1 k2 : Nat} {xs : Array Value} {tx : Str} {tt : Tok} {a b : Value}
theorem si_at {h h' : Heap} {it : Addr} {x : Str} {t : Tok} {i : Nat} (y : SI h it x t i) (e : ∀ o, h.get? it = some o → h'.get? it = some o) : SI h' it x t i := by
  obtain ⟨o, ho, r⟩ := y
  exact ⟨o, e o ho, r⟩
/-- z, TI, TO, the two iterators and the list stand apart -/
structure Apart (z TI TO i1 i2 l1 : Addr) : Prop where
  tz : TI ≠ z
  oz : TO ≠ z
  az : i1 ≠ z
  bz : i2 ≠ z
  to : TI ≠ TO
  ta : TI ≠ i1
  tb : TI ≠ i2
  oa : TO ≠ i1
  ob : TO ≠ i2
  ab : i1 ≠ i2
  lz : l1 ≠ z
  lo : l1 ≠ TO
  la : l1 ≠ i1
  lb : l1 ≠ i2
theorem next_item {x : Value} {c : Nat} {Q : Value → Shared → Prop} (D : Apart z TI TO i1 i2 l1) (hz : IsZip s.heap z TI TO .none) (hTI : IsPair s.heap TI (.ref i1) (.ref i2)) (hTO : IsPair s.heap TO a b)
    (h1 : s.heap.IsListIter i1 l1 k1) (h2 : SI s.heap i2 tx tt k2) (hl1 : s.heap.IsList l1 xs) (hx : xs[k1]? = some x) (hy : tx.cps[k2]? = some c)
    (hQ : ∀ h' tk, IsZip h' z TI TO (rawInt s.heap.objs.size) → (∃ p q, IsPair h' TO p q) → h'.IsListIter i1 l1 (k1 + 1) → SI h' i2 tx tt (k2 + 1) → IsPair h' s.heap.objs.size x (.str ⟨#[c]⟩ s.toks) → h'.objs.size = s.heap.objs.size + 1 →
      (∀ n o, n ≠ z → n ≠ TO → n ≠ i1 → n ≠ i2 → s.heap.get? n = some o → h'.get? n = some o) → Q (.ref s.heap.objs.size) { s with heap := h', toks := tk }) :
    wpAny (model prog w) A (Builtin.«zip.__next__» ⟨[.ref z], []⟩) (fun fin s' => ∃ v, fin = .done (.ret v) ∧ Q v s') E s := by
  show wpAny _ _ (field (.ref z) 2 >>= _) _ _ _; refine wpAny_bind (wpAny_field hz rfl (x := .bool false) rfl ?_)
  show wpAny _ _ (field (.ref z) 3 >>= _) _ _ _; refine wpAny_bind (wpAny_field hz rfl (x := .ref TI) rfl ?_); refine wpAny_bind (wpAny_seqItems hTI rfl ?_)
  show wpAny _ _ (Builtin.SmallTypes.ownedTupleIsFree (.ref z) >>= _) _ _ _; refine wpAny_bind ?_; unfold Builtin.SmallTypes.ownedTupleIsFree
  refine wpAny_bind (wpAny_field hz rfl (x := .none) rfl (wpAny_pure ?_)); simp only [if_true]; refine wpAny_bind (wpAny_rule ?_)
  refine wpAny_bind (wpAny_field hz rfl (x := .ref TO) rfl ?_); refine wpAny_bind (wpAny_setField_rec hz (by simp) fun g1 zz1 su1 => ?_)
  replace zz1 : IsZip g1 z TI TO .ellipsis := zz1; refine wpAny_bind ?_; simp only [List.zipIdx_cons, List.zipIdx_nil, List.forIn_cons, List.forIn_nil]
  refine wpAny_bind (wpAny_bind (wpAny_onRaise ?_)); show wpAny _ _ (Builtin.SmallTypes.nextOf (.ref i1) >>= _) _ _ _
  refine wpAny_bind (wpAny_nextOf_list_item (h1.extBut su1.extBut D.az) (hl1.extBut su1.extBut D.lz) hx fun g2 it2 su2 => wpAny_pure ?_)
  have to2 : IsPair g2 TO a b := su2.extBut _ _ D.oa (su1.extBut _ _ D.oz hTO)
  refine wpAny_bind (wpAny_seqItems to2 rfl ?_); refine wpAny_bind (wpAny_updateSeq_pair to2 fun g3 to3 su3 => ?_)
  replace to3 : IsPair g3 TO x b := to3; refine wpAny_bind (wpAny_letGo (wpAny_pure ?_))
  refine wpAny_bind (wpAny_bind (wpAny_onRaise ?_)); show wpAny _ _ (Builtin.SmallTypes.nextOf (.ref i2) >>= _) _ _ _
  have si3 : SI g3 i2 tx tt k2 := si_at h2 fun o e => su3.extBut _ _ D.ob.symm (su2.extBut _ _ D.ab.symm (su1.extBut _ _ D.bz e))
  refine wpAny_bind (wpAny_nextOf_ascii_item si3 hy fun g4 it4 su4 => wpAny_pure ?_)
  have to4 : IsPair g4 TO x b := su4.extBut _ _ D.ob to3
  refine wpAny_bind (wpAny_seqItems to4 rfl ?_); refine wpAny_bind (wpAny_updateSeq_pair to4 fun g5 to5 su5 => ?_)
  replace to5 : IsPair g5 TO x (.str ⟨#[c]⟩ s.toks) := to5; refine wpAny_bind (wpAny_letGo (wpAny_pure (wpAny_pure ?_)))
  refine wpAny_bind (wpAny_seqItems to5 rfl ?_); refine wpAny_bind (wpAny_newTuple ?_)
  have size5 : g5.objs.size = s.heap.objs.size := by rw [su5.1, su4.1, su3.1, su2.1, su1.1]
  have zz5 : IsZip g5 z TI TO .ellipsis := su5.extBut _ _ D.oz.symm (su4.extBut _ _ D.bz.symm (su3.extBut _ _ D.oz.symm (su2.extBut _ _ D.az.symm zz1)))
  have keep5 : ∀ n o, n ≠ z → n ≠ TO → n ≠ i1 → n ≠ i2 → s.heap.get? n = some o → g5.get? n = some o := fun n o c1 c2 c3 c4 e => su5.extBut _ _ c2 (su4.extBut _ _ c4 (su3.extBut _ _ c2 (su2.extBut _ _ c3 (su1.extBut _ _ c1 e))))
  have li5 : g5.IsListIter i1 l1 (k1 + 1) := ((it2.extBut su3.extBut D.oa.symm).extBut su4.extBut D.ab).extBut su5.extBut D.oa.symm
  have si5 : SI g5 i2 tx tt (k2 + 1) := si_at it4 fun o e => su5.extBut _ _ D.ob.symm e
  have ltz : z < g5.objs.size := Heap.lt_size zz5
  show wpAny _ _ (Builtin.SmallTypes.ownedTupleHandOut (.ref z) (.ref g5.objs.size) >>= _) _ _ _; refine wpAny_bind ?_; unfold Builtin.SmallTypes.ownedTupleHandOut
  have zz6 : IsZip (g5.push { cls := .type "tuple", data := .seq #[x, .str ⟨#[c]⟩ s.toks] }) z TI TO .ellipsis := Heap.get?_push_of_some _ zz5
  refine wpAny_bind (wpAny_setField_rec zz6 (by simp) fun g7 zz7 su7 => ?_); replace zz7 : IsZip g7 z TI TO (rawInt g5.objs.size) := zz7
  refine wpAny_setField_rec zz7 (by simp) fun g8 zz8 su8 => ?_; replace zz8 : IsZip g8 z TI TO (rawInt g5.objs.size) := zz8
  have up : ∀ n o, n ≠ z → g5.get? n = some o → g8.get? n = some o := fun n o c1 e => su8.extBut _ _ c1 (su7.extBut _ _ c1 (Heap.get?_push_of_some _ e))
  have new8 : IsPair g8 g5.objs.size x (.str ⟨#[c]⟩ s.toks) := su8.extBut _ _ (Nat.ne_of_gt ltz) (su7.extBut _ _ (Nat.ne_of_gt ltz) (Heap.get?_push_size _ rfl))
  have size8 : g8.objs.size = g5.objs.size + 1 := by rw [su8.1, su7.1, Heap.size_push]
  rw [size5] at zz8 new8 size8
  refine wpAny_pure ⟨_, rfl, ?_⟩; show Q (.ref g5.objs.size) _; rw [size5]
  exact hQ g8 _ zz8 ⟨_, _, up _ _ D.oz to5⟩ (li5.at fun o e => up _ o D.az e) (si_at si5 fun o e => up _ o D.bz e) new8 size8 fun n o c1 c2 c3 c4 e => up n o c1 (keep5 n o c1 c2 c3 c4 e)
theorem next_end {Q : Fin → Shared → Prop} (hh : A.handled = none) (D : Apart z TI TO i1 i2 l1) (hz : IsZip s.heap z TI TO .none) (hTI : IsPair s.heap TI (.ref i1) (.ref i2)) (hTO : IsPair s.heap TO a b)
    (h1 : s.heap.IsListIter i1 l1 k1) (h2 : SI s.heap i2 tx tt k2) (hl1 : s.heap.IsList l1 xs) (stop : xs[k1]? = none ∨ tx.cps[k2]? = none)
    (hE : ∀ h' tk e, (∀ n o, n ≠ z → n ≠ TO → n ≠ i1 → n ≠ i2 → s.heap.get? n = some o → h'.get? n = some o) → (∃ o, h'.get? e = some o ∧ o.cls = .type "StopIteration") → E (.ref e) { s with heap := h', toks := tk }) :
    wpAny (model prog w) A (Builtin.«zip.__next__» ⟨[.ref z], []⟩) Q E s := by
  show wpAny _ _ (field (.ref z) 2 >>= _) _ _ _; refine wpAny_bind (wpAny_field hz rfl (x := .bool false) rfl ?_)
  show wpAny _ _ (field (.ref z) 3 >>= _) _ _ _; refine wpAny_bind (wpAny_field hz rfl (x := .ref TI) rfl ?_); refine wpAny_bind (wpAny_seqItems hTI rfl ?_)
  show wpAny _ _ (Builtin.SmallTypes.ownedTupleIsFree (.ref z) >>= _) _ _ _; refine wpAny_bind ?_; unfold Builtin.SmallTypes.ownedTupleIsFree
  refine wpAny_bind (wpAny_field hz rfl (x := .none) rfl (wpAny_pure ?_)); simp only [if_true]; refine wpAny_bind (wpAny_rule ?_)
  refine wpAny_bind (wpAny_field hz rfl (x := .ref TO) rfl ?_); refine wpAny_bind (wpAny_setField_rec hz (by simp) fun g1 zz1 su1 => ?_)
  replace zz1 : IsZip g1 z TI TO .ellipsis := zz1; refine wpAny_bind ?_; simp only [List.zipIdx_cons, List.zipIdx_nil, List.forIn_cons, List.forIn_nil]
  refine wpAny_bind (wpAny_bind (wpAny_onRaise ?_)); show wpAny _ _ (Builtin.SmallTypes.nextOf (.ref i1) >>= _) _ _ _
  cases hx : xs[k1]? with
  | none =>
    refine wpAny_bind (wpAny_nextOf_list_end hh (h1.extBut su1.extBut D.az) (hl1.extBut su1.extBut D.lz) hx fun g2 e su2 ⟨oe, hoe, hce⟩ => ?_)
    have zz2 : IsZip g2 z TI TO .ellipsis := su2 _ _ D.az.symm zz1
    have ez : e ≠ z := fun q => by subst q; rw [zz2] at hoe; cases hoe; simp at hce
    exact wpAny_setField_rec zz2 (by simp) fun g3 _ su3 => hE g3 _ e (fun n o c1 _ c3 _ q => su3.extBut _ _ c1 (su2 _ _ c3 (su1.extBut _ _ c1 q))) ⟨oe, su3.extBut _ _ ez hoe, hce⟩
  | some x =>
    have hy : tx.cps[k2]? = none := stop.resolve_left (by rw [hx]; exact fun q => nomatch q)
    refine wpAny_bind (wpAny_nextOf_list_item (h1.extBut su1.extBut D.az) (hl1.extBut su1.extBut D.lz) hx fun g2 it2 su2 => wpAny_pure ?_)
    have to2 : IsPair g2 TO a b := su2.extBut _ _ D.oa (su1.extBut _ _ D.oz hTO)
    refine wpAny_bind (wpAny_seqItems to2 rfl ?_); refine wpAny_bind (wpAny_updateSeq_pair to2 fun g3 to3 su3 => ?_); refine wpAny_bind (wpAny_letGo (wpAny_pure ?_))
    refine wpAny_bind (wpAny_bind (wpAny_onRaise ?_)); show wpAny _ _ (Builtin.SmallTypes.nextOf (.ref i2) >>= _) _ _ _
    have si3 : SI g3 i2 tx tt k2 := si_at h2 fun o e => su3.extBut _ _ D.ob.symm (su2.extBut _ _ D.ab.symm (su1.extBut _ _ D.bz e))
    refine wpAny_bind (wpAny_nextOf_ascii_end hh si3 hy fun g4 e su4 ⟨oe, hoe, hce⟩ => ?_)
    have zz4 : IsZip g4 z TI TO .ellipsis := su4 _ _ D.bz.symm (su3.extBut _ _ D.oz.symm (su2.extBut _ _ D.az.symm zz1))
    have ez : e ≠ z := fun q => by subst q; rw [zz4] at hoe; cases hoe; simp at hce
    exact wpAny_setField_rec zz4 (by simp) fun g5 _ su5 => hE g5 _ e (fun n o c1 c2 c3 c4 q => su5.extBut _ _ c1 (su4 _ _ c4 (su3.extBut _ _ c2 (su2.extBut _ _ c3 (su1.extBut _ _ c1 q))))) ⟨oe, su5.extBut _ _ ez hoe, hce⟩
theorem py_item {x : Value} {c : Nat} {Q : Option Value → Shared → Prop} (D : Apart z TI TO i1 i2 l1) (hz : IsZip s.heap z TI TO .none) (hTI : IsPair s.heap TI (.ref i1) (.ref i2)) (hTO : IsPair s.heap TO a b)
    (h1 : s.heap.IsListIter i1 l1 k1) (h2 : SI s.heap i2 tx tt k2) (hl1 : s.heap.IsList l1 xs) (hx : xs[k1]? = some x) (hy : tx.cps[k2]? = some c)
    (hQ : ∀ h' tk, IsZip h' z TI TO (rawInt s.heap.objs.size) → (∃ p q, IsPair h' TO p q) → h'.IsListIter i1 l1 (k1 + 1) → SI h' i2 tx tt (k2 + 1) → IsPair h' s.heap.objs.size x (.str ⟨#[c]⟩ s.toks) → h'.objs.size = s.heap.objs.size + 1 →
      (∀ n o, n ≠ z → n ≠ TO → n ≠ i1 → n ≠ i2 → s.heap.get? n = some o → h'.get? n = some o) → Q (some (.ref s.heap.objs.size)) { s with heap := h', toks := tk }) : wpAny (model prog w) A (pyNext (.ref z)) Q E s := by
  have ty : s.TypeIs (.ref z) "zip" := ⟨_, hz, rfl⟩
  unfold pyNext
  refine wpAny_bind (wpAny_attempt (wpAny_callSpecial?_slot (name := Str.ofString "__next__") ty F.slot_zip_next (wpAny_call_entry F.slot_zip_next ty F.entry_zip_next ?_ (F.args_zip_next_1 _))))
  exact next_item D hz hTI hTO h1 h2 hl1 hx hy fun h' tk q1 q2 q3 q4 q5 q6 q7 => wpAny_pure (hQ h' tk q1 q2 q3 q4 q5 q6 q7)
theorem py_end {Q : Option Value → Shared → Prop} (hh : A.handled = none) (D : Apart z TI TO i1 i2 l1) (hz : IsZip s.heap z TI TO .none) (hTI : IsPair s.heap TI (.ref i1) (.ref i2)) (hTO : IsPair s.heap TO a b)
    (h1 : s.heap.IsListIter i1 l1 k1) (h2 : SI s.heap i2 tx tt k2) (hl1 : s.heap.IsList l1 xs) (stop : xs[k1]? = none ∨ tx.cps[k2]? = none)
    (hQ : ∀ h' tk, (∀ n o, n ≠ z → n ≠ TO → n ≠ i1 → n ≠ i2 → s.heap.get? n = some o → h'.get? n = some o) → Q none { s with heap := h', toks := tk }) : wpAny (model prog w) A (pyNext (.ref z)) Q E s := by
  have ty : s.TypeIs (.ref z) "zip" := ⟨_, hz, rfl⟩
  unfold pyNext
  refine wpAny_bind (wpAny_attempt (wpAny_callSpecial?_slot (name := Str.ofString "__next__") ty F.slot_zip_next (wpAny_call_entry F.slot_zip_next ty F.entry_zip_next ?_ (F.args_zip_next_1 _))))
  refine next_end hh D hz hTI hTO h1 h2 hl1 stop fun h' tk e hk ⟨o, ho, hc⟩ => ?_
  exact wpAny_bind (wpAny_isInstance (T := "StopIteration") (b := true) ⟨o, ho, hc⟩ isSubtype_stop (wpAny_pure (hQ _ tk hk)))
end
/-! zip(list, text) -/
abbrev hp1 (h : Heap) (l1 : Addr) : Heap := h.push { cls := .type "list_iterator", data := .fields #[.ref l1, .int 0 0] }
abbrev hp2 (h : Heap) (l1 : Addr) (tx : Str) (tt : Tok) : Heap := (hp1 h l1).push { cls := .type "str_ascii_iterator", data := .fields #[.str tx tt, .int 0 0] }
abbrev hp3 (h : Heap) (l1 : Addr) (tx : Str) (tt : Tok) : Heap := (hp2 h l1 tx tt).push { cls := .type "tuple", data := .seq #[.ref h.objs.size, .ref (hp1 h l1).objs.size] }
abbrev hp4 (h : Heap) (l1 : Addr) (tx : Str) (tt : Tok) : Heap := (hp3 h l1 tx tt).push { cls := .type "tuple", data := .seq #[.none, .none] }
abbrev hp5 (h : Heap) (l1 : Addr) (tx : Str) (tt : Tok) : Heap := (hp4 h l1 tx tt).push { cls := .type "zip", data := .fields #[.none, .bool false, .bool false, .ref (hp2 h l1 tx tt).objs.size, .ref (hp3 h l1 tx tt).objs.size] }
theorem meets_new (l1 : Addr) (xs : Array Value) (tx : Str) (tt : Tok) (ha : tx.cps.all (· < 128) = true) :
    Meets (Builtin.«zip.__new__» ⟨[.type "zip", .ref l1, .str tx tt], []⟩) (fun _ R s => s.heap.IsList l1 xs ∧ R (.ok (.ret (.ref (hp4 s.heap l1 tx tt).objs.size))) { s with heap := hp5 s.heap l1 tx tt }) :=
  .of_wp fun prog w A R s h => by
    obtain ⟨hp, g, d, tk, os⟩ := s; obtain ⟨hl1, h⟩ := h
    have zsub := sub_zip
    have hL1 : Heap.IsList (Shared.heap ⟨hp, g, d, tk, os⟩) l1 xs := hl1
    have hS {E : Value → Shared → Prop} {s : Shared} {Q : Value → Shared → Prop} (hQ : Q (.ref s.heap.objs.size) { s with heap := s.heap.push { cls := .type "str_ascii_iterator", data := .fields #[.str tx tt, .int 0 0] } }) : wpAny (model prog w) A.in1 (pyIter (.str tx tt)) Q E s := wpAny_pyIter_ascii ha hQ
    wp_walk using wpAny_pyIter_list hL1, wpAny_pyIter_ascii ha
    exact ⟨_, rfl, h⟩
section
variable {prog : Program} {w : World} {A : Around} {E : Value → Shared → Prop} {s : Shared}
theorem call_new {l1 : Addr} {xs : Array Value} {tx : Str} {tt : Tok} {Q : Value → Shared → Prop} (ha : tx.cps.all (· < 128) = true) (hl1 : s.heap.IsList l1 xs)
    (h : ∀ h', IsZip h' (s.heap.objs.size + 4) (s.heap.objs.size + 2) (s.heap.objs.size + 3) .none → IsPair h' (s.heap.objs.size + 2) (.ref s.heap.objs.size) (.ref (s.heap.objs.size + 1)) → IsPair h' (s.heap.objs.size + 3) .none .none →
      h'.IsListIter s.heap.objs.size l1 0 → SI h' (s.heap.objs.size + 1) tx tt 0 → (∀ c o, s.heap.get? c = some o → h'.get? c = some o) → Q (.ref (s.heap.objs.size + 4)) { s with heap := h' }) :
    wpAny (model prog w) A (call (.type "zip") [.ref l1, .str tx tt]) Q E s := by
  refine callType_new F.called_zip (by decide) (F.typeCall_zip_2 _ _) (F.newCall_zip_2 _ _) (fun obj => F.args_object_init_3 obj _ _) F.entry_zip_new (meets_new l1 xs tx tt ha) ⟨hl1, ?_⟩
  have y1 : (hp1 s.heap l1).objs.size = s.heap.objs.size + 1 := Heap.size_push ..
  have y2 : (hp2 s.heap l1 tx tt).objs.size = s.heap.objs.size + 2 := by rw [Heap.size_push, y1]
  have y3 : (hp3 s.heap l1 tx tt).objs.size = s.heap.objs.size + 3 := by rw [Heap.size_push, y2]
  have y4 : (hp4 s.heap l1 tx tt).objs.size = s.heap.objs.size + 4 := by rw [Heap.size_push, y3]
  have e5 : (hp5 s.heap l1 tx tt).get? (hp4 s.heap l1 tx tt).objs.size = some _ := Heap.get?_push_size _ rfl
  have e4 : (hp5 s.heap l1 tx tt).get? (hp3 s.heap l1 tx tt).objs.size = some _ := Heap.get?_push_of_some _ (Heap.get?_push_size _ rfl)
  have e3 : (hp5 s.heap l1 tx tt).get? (hp2 s.heap l1 tx tt).objs.size = some _ := Heap.get?_push_of_some _ (Heap.get?_push_of_some _ (Heap.get?_push_size _ rfl))
  have e2 : (hp5 s.heap l1 tx tt).get? (hp1 s.heap l1).objs.size = some _ := Heap.get?_push_of_some _ (Heap.get?_push_of_some _ (Heap.get?_push_of_some _ (Heap.get?_push_size _ rfl)))
  have e1 : (hp5 s.heap l1 tx tt).get? s.heap.objs.size = some _ := Heap.get?_push_of_some _ (Heap.get?_push_of_some _ (Heap.get?_push_of_some _ (Heap.get?_push_of_some _ (Heap.get?_push_size _ rfl))))
  show _ ∧ _
  rw [y2, y3, y4] at e5
  rw [y1, y2] at e3
  rw [y3] at e4
  rw [y1] at e2
  rw [y4]
  exact ⟨⟨_, e5, rfl⟩, h _ e5 e3 e4 ⟨_, e1, rfl, rfl⟩ ⟨_, e2, rfl, rfl⟩ fun c o q => Heap.get?_push_of_some _ (Heap.get?_push_of_some _ (Heap.get?_push_of_some _ (Heap.get?_push_of_some _ (Heap.get?_push_of_some _ q))))⟩
end
end Zl

/-! Zl1: walks over zip of a list and a text. -/
namespace Zl
open PySem PySem.Spec PyProof.Rows L2
/-- the list at a as it stands at each turn, the text's signs beside -/
def Its (K : PySem.W.Frag) (a : Addr) (tx : Str) : It :=
  ⟨fun i H => ∃ (xs : List V) (x : V) (c : Nat), SqL K H a xs ∧ xs[i]? = some x ∧ tx.cps[i]? = some c,
    fun i H v H' => ∃ T x c, v = .ref T ∧ H T = none ∧ H' = upd H T (.tup [x, .str ⟨#[c]⟩]) ∧ (∀ xs, SqL K H a xs → xs[i]? = some x) ∧ tx.cps[i]? = some c,
    fun i H => ∃ xs : List V, SqL K H a xs ∧ (xs.length ≤ i ∨ tx.cps.size ≤ i)⟩
theorem turn_zs {P : Program} {w : World} {K : PySem.W.Frag} {elts : List Expr} {kk : Nat} {tpos : Pos} {a z TI TO i1 i2 : Addr} {tx : Str} {tt : Tok} (D : Apart z TI TO i1 i2 a) :
    Turn P w K (.Tuple elts kk tpos) (Its K a tx) [z, TI, TO, i1, i2] z (fun i h => IsZip h z TI TO .none ∧ IsPair h TI (.ref i1) (.ref i2) ∧ (∃ x y, IsPair h TO x y) ∧ h.IsListIter i1 a i ∧ SI h i2 tx tt i) where
  mem := by simp
  obj := fun i h st c hc => by
    obtain ⟨hz, hTI, ⟨x, y, hTO⟩, ⟨o1, e1, _, d1⟩, ⟨o2, e2, _, d2⟩⟩ := st
    simp only [List.mem_cons, List.not_mem_nil, or_false] at hc
    rcases hc with rfl | rfl | rfl | rfl | rfl
    · exact ⟨_, hz, fun v q => nomatch q⟩
    · exact ⟨_, hTI, fun v q => nomatch q⟩
    · exact ⟨_, hTO, fun v q => nomatch q⟩
    · exact ⟨o1, e1, fun v q => by rw [d1] at q; cases q⟩
    · exact ⟨o2, e2, fun v q => by rw [d2] at q; cases q⟩
  keep := fun i h h' st k => by
    obtain ⟨hz, hTI, ⟨x, y, hTO⟩, h1, h2⟩ := st
    exact ⟨k z (by simp) _ hz, k TI (by simp) _ hTI, ⟨x, y, k TO (by simp) _ hTO⟩, h1.at fun o q => k i1 (by simp) o q, si_at h2 fun o q => k i2 (by simp) o q⟩
  item := by
    intro X hP hw hK hc i pins s σ H E I hf st hg
    subst hP hw hK
    obtain ⟨hz, hTI, ⟨x0, y0, hTO⟩, h1, h2⟩ := st
    obtain ⟨xs, x, c, hqx, hx, hy⟩ := hg
    obtain ⟨its, rv, p, _⟩ := I.list hqx
    obtain ⟨u, hu, ru⟩ := rv.get hx
    have hzl : z < s.heap.objs.size := Heap.lt_size hz
    refine py_item D hz hTI hTO h1 h2 p.isList (x := u) (c := c) (by simpa using hu) hy fun h' tk z' ⟨p', q', TO'⟩ h1' h2' hT hsz hk => ?_
    refine ⟨_, rfl, wpAny_letOwnedTupleGo_zip (s := { s with heap := h', toks := tk }) z' fun h'' z'' sb => ?_⟩
    have hT2 : h''.get? s.heap.objs.size = some { cls := .type "tuple", data := .seq #[u, .str ⟨#[c]⟩ s.toks] } := (sb.2 _ (Nat.ne_of_gt hzl)).trans hT
    have new : ObjOk X.prog X.w (upd H s.heap.objs.size (.tup [x, .str ⟨#[c]⟩])) h'' s.heap.objs.size (.tup [x, .str ⟨#[c]⟩]) :=
      ⟨by show 2 ≤ sizeLine; decide, [u, .str ⟨#[c]⟩ s.toks], .cons ru (.cons ⟨_, rfl⟩ .nil), ⟨_, hT2, rfl, _, rfl⟩⟩
    have I1 : Inv X pins σ (upd H s.heap.objs.size (.tup [x, .str ⟨#[c]⟩])) { s with heap := h'', toks := tk } :=
      I.turnedNew (t' := tk) (ch := [z, TI, TO, i1, i2]) (fun n o hb q => by
        have nz : ∀ y ∈ [z, TI, TO, i1, i2], n ≠ y := fun y hy e => hb (by rw [e]; exact hy)
        exact (sb.2 n (nz z (by simp))).trans (hk n o (nz z (by simp)) (nz TO (by simp)) (nz i1 (by simp)) (nz i2 (by simp)) q)) hf (Nat.le_refl _) new
    refine ⟨.ref s.heap.objs.size, _, I1, rfl, ⟨_, x, c, rfl, I.hok.fresh (Nat.le_refl _), rfl, fun l hl => by rw [I.list_inj hl hqx]; exact hx, hy⟩, ⟨z'', ?_, ⟨p', q', ?_⟩, ?_, ?_⟩, fun n hcm => ?_⟩
    · exact (sb.2 _ D.tz).trans (hk _ _ D.tz D.to D.ta D.tb hTI)
    · exact (sb.2 _ D.oz).trans TO'
    · exact h1'.at fun o q => (sb.2 _ D.az).trans q
    · exact si_at h2' fun o q => (sb.2 _ D.bz).trans q
    · have hlt : n < s.heap.objs.size := by
        simp only [List.mem_cons, List.not_mem_nil, or_false] at hcm
        rcases hcm with rfl | rfl | rfl | rfl | rfl
        · exact hzl
        · exact Heap.lt_size hTI
        · exact Heap.lt_size hTO
        · obtain ⟨_, e1, _⟩ := h1; exact Heap.lt_size e1
        · obtain ⟨_, e2, _⟩ := h2; exact Heap.lt_size e2
      rw [upd_ne (Nat.ne_of_lt hlt)]
      exact (hf n hcm).1
  done := by
    intro X hP hw hK hc i pins s σ H E I hf st hg
    subst hP hw hK
    obtain ⟨hz, hTI, ⟨x0, y0, hTO⟩, h1, h2⟩ := st
    obtain ⟨xs, hqx, stop⟩ := hg
    obtain ⟨its, rv, p, _⟩ := I.list hqx
    have hl := rv.length
    have he : its.toArray[i]? = none ∨ tx.cps[i]? = none := stop.imp (fun q => by simp; omega) fun q => by simp; omega
    exact py_end (I.ok.hd hc) D hz hTI hTO h1 h2 p.isList he fun h' tk hk => ⟨rfl, I.turnedL (t' := tk) (ch := [z, TI, TO, i1, i2]) (fun n o hb q => by
      have nz : ∀ y ∈ [z, TI, TO, i1, i2], n ≠ y := fun y hy e => hb (by rw [e]; exact hy)
      exact hk n o (nz z (by simp)) (nz TO (by simp)) (nz i1 (by simp)) (nz i2 (by simp)) q) hf⟩
  self := fun A i s Q E st h => wpAny_pyIter_zip st.1 h
theorem apart_new (n a : Addr) (ha : a < n) : Apart (n + 4) (n + 2) (n + 3) n (n + 1) a :=
  let D := PySem.W.ktu_apart n a a ha ha
  ⟨D.TIz, D.TOz, D.i1z, D.i2z, D.TITO, D.TIi1, D.TIi2, D.TOi1, D.TOi2, D.i12, D.l1z, D.l1TO, D.l1i1, D.l1i2⟩
def iZs (K : PySem.W.Frag) (ta : TA) : TI := fun σ H R => ta σ H fun vs H1 => ∃ a tx xs, vs = [.ref a, .str tx] ∧ tx.cps.all (· < 128) = true ∧ SqL K H1 a xs ∧ R (Its K a tx) H1
theorem pi_zs {X : Cx} {e e2 : Expr} {ta : TA} {p pos tpos : Pos} {elts : List Expr} {kk : Nat} (hg : Gl X "zip") (hm : X.mg "zip" = none) (ha : PA X [e, e2] ta) (hs : starEach [e, e2] X.env = (false, eval e X.env) :: starEach [e2] X.env := by rfl)
    (hpl : (backTo pos (starEach [e2] X.env)).any (·.1) = false := by rfl) : PI X (.Tuple elts kk tpos) (.Call (.Name "zip" p) [e, e2] [] pos) (iZs X.K ta) := by
  refine ⟨fun pins s σ H R I h => Call_ (ld_blt I hg hm PyProof.Rows.boot_zip (PyProof.Rows.callWith_type1 (thn (ha.run pos pins s σ H _ I h) fun us s1 ⟨vs, H1, I1, r1, q1⟩ => ?_) hs hpl))⟩
  obtain ⟨a, tx, xs, rfl, hasc, hqx, q⟩ := q1
  cases r1 with
  | cons r rr =>
    cases rr with
    | cons r' rr =>
      cases rr
      cases r
      obtain ⟨t, rfl⟩ := r'
      obtain ⟨its, rv, p1, _⟩ := I1.list hqx
      refine call_new hasc p1.isList fun h' hz hTI hTO h1 h2 hk => wpAny_pyIter_zip hz ?_
      have I2 : Inv X pins σ H1 { s1 with heap := h' } := I1.kept (t' := s1.toks) hk
      refine ⟨s1.heap.objs.size + 4, [s1.heap.objs.size + 4, s1.heap.objs.size + 2, s1.heap.objs.size + 3, s1.heap.objs.size, s1.heap.objs.size + 1], _, _, H1, rfl, I2, turn_zs (apart_new s1.heap.objs.size a p1.lt), ⟨hz, hTI, ⟨_, _, hTO⟩, h1, h2⟩, fun c hcm => ?_, q⟩
      have le : s1.heap.objs.size ≤ c := by
        simp only [List.mem_cons, List.not_mem_nil, or_false] at hcm
        rcases hcm with rfl | rfl | rfl | rfl | rfl
        · exact Nat.le_add_right _ _
        · exact Nat.le_add_right _ _
        · exact Nat.le_add_right _ _
        · exact Nat.le_refl _
        · exact Nat.le_add_right _ _
      exact I1.fpOk le (I1.hok.fresh le)
end Zl
namespace Pd
open PySem PySem.Spec L2 SkE
open PyProof.Rows hiding St
/-- pairs of a list's items and a text's signs -/
def zsD : List D → List Nat → List D
  | d :: ds, c :: cs => .tup [d, .str ⟨#[c]⟩] :: zsD ds cs
  | _, _ => []
def itZs : List D → Option (List D)
  | [.lst ds, .str tx] => if tx.cps.all (· < 128) = true then some (zsD ds tx.cps.toList) else none
  | _ => none
theorem zsD_get : ∀ (ds : List D) (cs : List Nat) (i : Nat) (d : D), (zsD ds cs)[i]? = some d → ∃ d1 c, ds[i]? = some d1 ∧ cs[i]? = some c ∧ d = .tup [d1, .str ⟨#[c]⟩]
  | [], _, i, d, h => by simp [zsD] at h
  | _ :: _, [], i, d, h => by simp [zsD] at h
  | d0 :: ds, c :: cs, 0, d, h => by
    simp only [zsD, List.getElem?_cons_zero, Option.some.injEq] at h
    exact ⟨d0, c, rfl, rfl, h.symm⟩
  | d0 :: ds, c :: cs, i + 1, d, h => by
    simp only [zsD, List.getElem?_cons_succ] at h
    obtain ⟨d1, c1, a, b, e⟩ := zsD_get ds cs i d h
    exact ⟨d1, c1, by simpa using a, by simpa using b, e⟩
theorem zsD_len : ∀ (ds : List D) (cs : List Nat), (zsD ds cs).length = min ds.length cs.length
  | [], cs => by simp [zsD]
  | _ :: _, [] => by simp [zsD]
  | _ :: ds, _ :: cs => by simp only [zsD, List.length_cons, zsD_len ds cs]; omega
theorem wk_zs {K : PySem.W.Frag} {μ : List Addr} {Hs : Hp} {a : Addr} {xs : List V} {ds : List D} {tx : Str} (h : SqL K Hs a xs) (r : RpA K μ Hs xs ds) : Wk K μ (Zl.Its K a tx) (zsD ds tx.cps.toList) Hs := by
  refine ⟨fun i H s hi => ?_, fun i H s hi => ⟨xs, s.seq h, ?_⟩, fun i H Hs1 x H' s1 s hy d hd => ?_⟩
  · rw [zsD_len] at hi
    have h1 : i < xs.length := by rw [r.len]; omega
    have h2 : i < tx.cps.size := by have : i < tx.cps.toList.length := by omega
                                    simpa using this
    exact ⟨xs, xs[i], tx.cps[i], s.seq h, by simp [h1], by simp [h2]⟩
  · rw [zsD_len] at hi
    rw [r.len]
    have : tx.cps.toList.length = tx.cps.size := by simp
    omega
  · obtain ⟨T, y, c, rfl, hT, rfl, hx, hc⟩ := hy
    obtain ⟨d1, c1, e1, e2, rfl⟩ := zsD_get _ _ _ _ hd
    obtain ⟨v, e3, r1⟩ := r.getD e1
    have e4 := hx xs ((s1.trans s).seq h)
    rw [e3] at e4
    cases e4
    have e5 : c = c1 := by
      have : tx.cps[i]? = some c1 := by simpa using e2
      rw [hc] at this
      exact Option.some.inj this
    subst e5
    exact ⟨_, Ext.made s hT, .tup (SqT.of upd_same) (.cons (r1.mono (s1.trans (Ext.made s hT).part)) (.cons (.str _) .nil))⟩
theorem pdi_zs {X : Cx} {a b : Expr} {fs : Fs} {p pos tpos : Pos} {elts : List Expr} {kk : Nat} (hm : X.mg "zip" = none) (ha : PA X [a, b] (tDs X.K fs)) (hg : Gl X "zip" := by rfl) (hs : starEach [a, b] X.env = (false, eval a X.env) :: starEach [b] X.env := by rfl)
    (hpl : (backTo pos (starEach [b] X.env)).any (·.1) = false := by rfl) : PI X (.Tuple elts kk tpos) (.Call (.Name "zip" p) [a, b] [] pos) (tDI X.K (fIs itZs fs)) := by
  refine pi_imp (Zl.pi_zs hg hm ha hs hpl) fun σ H R ⟨μ, Hs, ρ, ds, s, env, e, k⟩ => ?_
  obtain ⟨d1, e1, e2⟩ := b1_eq e
  refine ⟨μ, Hs, ρ, d1, s, env, e1, fun vs H1 Hs1 x1 r1 => ?_⟩
  unfold itZs at e2
  split at e2
  · obtain ⟨hasc, rfl⟩ := ite_some e2
    obtain ⟨v, u, rfl, rv, ru⟩ := rpa2 r1
    cases ru
    cases rv with
    | lst h1 h2 => exact ⟨_, _, _, rfl, hasc, SqL.of (x1.sub _ _ h1), k _ _ Hs1 x1 (wk_zs (SqL.of h1) h2)⟩
  · cases e2
/-! *x in a display -/
def fStar (f : F) (fs : Fs) : Fs := fun ρ => b1 (f ρ) fun d => b1 (fs ρ) fun es => match d with
  | .lst ds => some (ds ++ es)
  | .tup ds => some (ds ++ es)
  | _ => none
theorem pda_star {X : Cx} {e : Expr} {es : List Expr} {f : F} {fs : Fs} {p : Pos} (he : PE X e (tD X.K f)) (hr : PA X es (tDs X.K fs)) (hs : starEach (.Starred e p :: es) X.env = (true, eval e X.env) :: starEach es X.env := by rfl) : PA X (.Starred e p :: es) (tDs X.K (fStar f fs)) := by
  refine pa_imp (StX.pa_star he hr hs) fun σ H Q ⟨μ, Hs, ρ, ds, s, env, e, k⟩ => ?_
  obtain ⟨d1, e1, e2⟩ := b1_eq e
  obtain ⟨d2, e3, e4⟩ := b1_eq e2
  refine ⟨μ, Hs, ρ, d1, s, env, e1, fun v H1 Hs1 x1 r1 => ?_⟩
  cases r1 with
  | lst q1 q2 =>
    cases e4
    exact ⟨_, _, rfl, .inr (SqL.of (x1.sub _ _ q1)), μ, Hs1, ρ, d2, x1.sub, env.mono x1.part, e3, fun ys H2 Hs2 x2 r2 => k _ H2 Hs2 (x1.trans x2) ((q2.mono x2.part).app r2)⟩
  | tup q1 q2 =>
    cases e4
    exact ⟨_, _, rfl, .inl (sqT_mono x1.sub q1), μ, Hs1, ρ, d2, x1.sub, env.mono x1.part, e3, fun ys H2 Hs2 x2 r2 => k _ H2 Hs2 (x1.trans x2) ((q2.mono x2.part).app r2)⟩
  | _ => cases e4
/-! a dict of the text: texts at texts -/
structure Kt (K : PySem.W.Frag) (w : World) (mg : Str → Option Value) (x : Str) (kvs : List (Str × Str)) : Prop where
  ex : ∃ (d : Addr) (es : Array DictEntry) (n : Nat), mg x = some (.ref d) ∧ KDict K w d es n ∧ ∀ z, ∃ t, PySem.W.nsIn K d z = some ((kvs.lookup z).map fun v => Value.str v t)
section
variable {X : Cx} {e : Expr} {f : F} {pos p : Pos} {x : Str} {kvs : List (Str × Str)}
def gKin (kvs : List (Str × Str)) : D → Option D
  | .str z => some (.bool (kvs.lookup z).isSome)
  | _ => none
def gKno (kvs : List (Str × Str)) : D → Option D
  | .str z => some (.bool (!(kvs.lookup z).isSome))
  | _ => none
def gKix (kvs : List (Str × Str)) : D → Option D
  | .str z => (kvs.lookup z).map D.str
  | _ => none
theorem kt_no (T : Kt X.K X.w X.mg x kvs) (he : PE X e (tD X.K f)) (hg : Gl X x := by rfl) (hd : (x == ("__debug__" : Str)) = false := by decide) (hm : behindInMarks .NotIn (.Name x p) = false := by first | exact nomark _ | rfl) : PE X (.Compare e [.NotIn] [.Name x p] pos) (tD X.K (f1 (gKno kvs) f)) := by
  obtain ⟨d, es, n, m1, m2, m3⟩ := T.ex
  refine pe_imp (pe_cmpR (op_notIn_kd m2) he (pe_glob (v := .ref d) hg m1 rfl hd) hm) fun σ H Q ⟨μ, Hs, ρ, o, s, env, e, k⟩ => ?_
  obtain ⟨d1, e1, e2⟩ := b1_eq e
  refine ⟨μ, Hs, ρ, d1, s, env, e1, fun v H1 Hs1 x1 r1 => ?_⟩
  cases d1 with
  | str z =>
    cases e2
    cases r1
    obtain ⟨t, ht⟩ := m3 z
    refine ⟨z, _, rfl, rfl, ht, ?_⟩
    rw [Option.isSome_map]
    exact k _ H1 Hs1 x1 (.bool _)
  | _ => cases e2
theorem ktt_no (T : Kt X.K X.w X.mg x kvs) (he : PE X e (tD X.K f)) (hg : Gl X x := by rfl) (hd : (x == ("__debug__" : Str)) = false := by decide) (hm : behindInMarks .NotIn (.Name x p) = false := by first | exact nomark _ | rfl) : PT X (.Compare e [.NotIn] [.Name x p] pos) (tDT X.K (ftB (f1 (gKno kvs) f))) := by
  obtain ⟨d, es, n, m1, m2, m3⟩ := T.ex
  refine pt_imp (pt_cmpR (op_notIn_kd m2) he (pe_glob (v := .ref d) hg m1 rfl hd) hm) fun σ H Q ⟨μ, Hs, ρ, b, s, env, e, k⟩ => ?_
  obtain ⟨d0, e0, e2⟩ := b1_eq e
  obtain ⟨d1, e1, e3⟩ := b1_eq e0
  refine ⟨μ, Hs, ρ, d1, s, env, e1, fun v H1 Hs1 x1 r1 => ?_⟩
  cases d1 with
  | str z =>
    cases e3
    cases e2
    cases r1
    obtain ⟨t, ht⟩ := m3 z
    refine ⟨z, _, rfl, rfl, ht, ?_⟩
    rw [Option.isSome_map]
    exact ⟨_, rfl, k _ x1.all⟩
  | _ => cases e3
theorem ix_kt {d : Addr} {es : Array DictEntry} {n : Nat} (D : KDict X.K X.w d es n) : IxR X (fun x y H Q => ∃ (z : Str) (u0 : Value) (v0 : V), x = .ref d ∧ y = .str z ∧ PySem.W.nsIn X.K d z = some (some u0) ∧ RelV v0 u0 ∧ Q v0 H) := by
  intro value slice pins s σ H x y v u Q I rx ry h hs
  obtain ⟨z, u0, v0, rfl, rfl, e, r, q⟩ := h
  obtain ⟨t, rfl⟩ := ry
  cases rx
  have hmp := PySem.W.mapOf_K (prog := X.prog) I.kIn D.at_ D.lit
  exact tail_any hmp.typeIs slot_dict_getitem.lookup (wpAny_getItem_of (PySem.strKind_is X.prog X.w z t) hmp (PySem.W.find_K D.at_ e) ⟨v0, H, I.tok _, r, q⟩) hs
theorem kt_ix (T : Kt X.K X.w X.mg x kvs) (he : PE X e (tD X.K f)) (hg : Gl X x := by rfl) (hd : (x == ("__debug__" : Str)) = false := by decide) (hs : PlainIx e := by exact fun _ _ => rfl) : PE X (.Subscript (.Name x p) e pos) (tD X.K (f1 (gKix kvs) f)) := by
  obtain ⟨d, es, n, m1, m2, m3⟩ := T.ex
  refine pe_imp (pe_ix (ix_kt m2) (pe_glob (v := .ref d) hg m1 rfl hd) he hs) fun σ H Q ⟨μ, Hs, ρ, o, s, env, e, k⟩ => ?_
  obtain ⟨d1, e1, e2⟩ := b1_eq e
  refine ⟨μ, Hs, ρ, d1, s, env, e1, fun v H1 Hs1 x1 r1 => ?_⟩
  cases d1 with
  | str z =>
    cases r1
    obtain ⟨t, ht⟩ := m3 z
    have e3 : (kvs.lookup z).map D.str = some o := e2
    cases q : kvs.lookup z with
    | none => rw [q] at e3; cases e3
    | some u =>
      rw [q] at e3 ht
      cases e3
      exact ⟨z, _, .str u, rfl, rfl, ht, ⟨t, rfl⟩, k _ H1 Hs1 x1 (.str _)⟩
  | _ => cases e2
end
end Pd

/-! Zl2: a text some times; statements never reached. -/
namespace Pd
open PySem PySem.Spec L2 SkE
open PyProof.Rows hiding St
def repS (z : Str) (k : Int) : Str := ⟨(List.replicate k.toNat z.cps).foldl (· ++ ·) #[]⟩
def rSM : R2 := fun x y H Q => ∃ (z : Str) (k : Int), x = .str z ∧ y = .int k ∧ (z.length ≤ 100 ∧ 0 ≤ k ∧ k ≤ 100000) ∧ Q (.str (repS z k)) H
theorem op_strmul {X : Cx} : OpR X (binaryOp .Mult) rSM := by
  intro pins s σ H x y v u Q I rx ry h
  obtain ⟨z, k, rfl, rfl, ⟨h1, h2, h3⟩, q⟩ := h
  obtain ⟨t, rfl⟩ := rx
  obtain ⟨t', rfl⟩ := ry
  have zl : z.length * k.toNat ≤ 10000000 := by
    have : k.toNat ≤ 100000 := by omega
    exact Nat.le_trans (Nat.mul_le_mul h1 this) (by decide)
  refine PySem.P.mul_str (by rw [decide_eq_false (by omega), decide_eq_false (by omega)]; rfl) (fun hk _ hg => ?_) (fun hk _ => ?_) ?_
  · have h4 : (100 : Int) ≤ (2 ^ 63 - 1) / k := (Int.le_ediv_iff_mul_le (by omega)).mpr (by omega)
    omega
  · show decide (z.length * k.toNat > sizeLine) = false
    rw [decide_eq_false]
    rw [sizeLine_eq]
    omega
  · by_cases hk : k < 1
    · rw [if_pos hk]
      have : k = 0 := by omega
      subst this
      exact ⟨by decide, .str (repS z 0), H, I.tok _, ⟨_, rfl⟩, q⟩
    · rw [if_neg hk]
      split
      · rename_i h5
        rw [Bool.or_eq_true] at h5
        refine ⟨.str (repS z k), H, I, ⟨t, ?_⟩, q⟩
        rcases h5 with h5 | h5
        · have : k = 1 := by simpa using h5
          subst this
          show Value.str z t = Value.str ⟨#[] ++ z.cps⟩ t
          rw [Array.empty_append]
        · have h6 : z.cps.size = 0 := by simpa [Str.length] using h5
          have h7 : z.cps = #[] := Array.eq_empty_of_size_eq_zero h6
          have h8 : ∀ n : Nat, (List.replicate n (#[] : Array Nat)).foldl (· ++ ·) #[] = #[] := fun n => by
            induction n with
            | zero => rfl
            | succ n ih => rw [List.replicate_succ, List.foldl_cons]; exact ih
          show Value.str z t = Value.str ⟨(List.replicate k.toNat z.cps).foldl (· ++ ·) #[]⟩ t
          rw [h7, h8, ← h7]
      · have h9 : (repS z k).length = z.length * k.toNat := by
          have h8 : ∀ (n : Nat) (acc : Array Nat), ((List.replicate n z.cps).foldl (· ++ ·) acc).size = acc.size + n * z.cps.size := fun n => by
            induction n with
            | zero => intro acc; simp
            | succ n ih => intro acc; rw [List.replicate_succ, List.foldl_cons, ih, Array.size_append, Nat.succ_mul]; omega
          show ((List.replicate k.toNat z.cps).foldl (· ++ ·) #[]).size = z.cps.size * k.toNat
          rw [h8, Nat.mul_comm]
          simp
        refine ⟨?_, .str (repS z k), H, I.tok _, ⟨_, rfl⟩, q⟩
        show (repS z k).length ≤ sizeLine
        rw [h9, sizeLine_eq]
        omega
/-- a text some times -/
def gMulS : D → D → Option D
  | .str z, .int k => if z.length ≤ 100 ∧ 0 ≤ k ∧ k ≤ 100000 then some (.str (repS z k)) else none
  | _, _ => none
theorem imp_mulS {K : PySem.W.Frag} : Imp2 K rSM gMulS := by
  intro μ H Hs x y d e o Q s rx ry g k
  cases rx with
  | str z =>
    cases ry with
    | int i =>
      obtain ⟨h, rfl⟩ := ite_some g
      exact ⟨z, i, rfl, rfl, h, k _ H Hs (Ext.refl s) (.str _)⟩
    | _ => exact nomatch g
  | _ => exact nomatch g
/-- an entry of a dict of texts -/
def dEnt (q : Int × Str × Tok × Str × Tok) : DictEntry := ⟨q.1, .str q.2.1 q.2.2.1, .str q.2.2.2.1 q.2.2.2.2⟩
theorem find_ent (z : Str) : ∀ l : List (Int × Str × Tok × Str × Tok), ∃ t, ((l.map dEnt).find? (·.key.isStr z)).map (·.val) = ((l.map fun q => (q.2.1, q.2.2.2.1)).lookup z).map fun v => Value.str v t
  | [] => ⟨0, rfl⟩
  | q :: l => by
    rw [List.map_cons, List.map_cons, List.find?_cons, List.lookup_cons]
    have e : (dEnt q).key.isStr z = (z == q.2.1) := by
      show (q.2.1 == z) = (z == q.2.1)
      rw [Bool.eq_iff_iff, beq_iff_eq, beq_iff_eq]
      exact ⟨Eq.symm, Eq.symm⟩
    rw [e]
    cases h : z == q.2.1 with
    | true => exact ⟨q.2.2.2.2, rfl⟩
    | false => exact find_ent z l
theorem kt_of {K : PySem.W.Frag} {d : Addr} {n : Nat} {l : List (Int × Str × Tok × Str × Tok)} (hl : K.lookup d = some ⟨.type "dict", none, .dict (l.map dEnt).toArray n, #[]⟩) :
    ∀ z, ∃ t, PySem.W.nsIn K d z = some (((l.map fun q => (q.2.1, q.2.2.2.1)).lookup z).map fun v => Value.str v t) := fun z => by
  obtain ⟨t, h⟩ := find_ent z l
  refine ⟨t, ?_⟩
  unfold PySem.W.nsIn
  rw [hl]
  dsimp only
  have nr : (l.map dEnt).any (·.refKey) = false := by
    rw [List.any_eq_false]
    intro e he
    obtain ⟨q, _, rfl⟩ := List.mem_map.mp he
    exact Bool.false_ne_true
  rw [← h]
  cases q : (l.map dEnt).find? (·.key.isStr z) with
  | none => rw [nr]; rfl
  | some e => rfl
/-- never reached -/
def gNo : SG := fun _ _ => none
def noG : Gs := fun _ => none
theorem pg_never {X : Cx} {μ : List Addr} {Hs0 H0 : Hp} {st : Stmt} : PS X st (tS X.K μ Hs0 H0 noG) := ps_imp ps_never fun Dn σ H ⟨Hs, ρ, fl, S, e, k⟩ => nomatch e
theorem sg_never {X : Cx} {W : WX} {st : Stmt} : PS X st (tG X.K X.mg W gNo) := ps_imp ps_never fun Dn σ H ⟨μ, Hs, ρ, S, fl, S1, s, env, e, k⟩ => nomatch e
def st2L (i j : Nat) : D → Rho → Option Rho := fun d ρ => match d with
  | .lst [d1, d2] => some ((ρ.set i (.val d1)).set j (.val d2))
  | _ => none
theorem tg_2L {K : PySem.W.Frag} (i j : Nat) : TgD K (gLst K 2 (gCons (gName i) (gCons (gName j) L2.gNil))) (st2L i j) [i, j] := by
  have ne : ∀ {m : Nat}, m ∉ [i, j] → m ≠ i ∧ m ≠ j := fun hm => by simpa using hm
  refine ⟨fun μ Hs H σ ρ d ρ' v k s env e r kk => ?_, fun d ρ ρ' e m hm => ?_, fun d ρ ρ' e m x hm hx => ?_⟩ <;> unfold st2L at e <;> split at e
  · cases e
    cases r with
    | lst h1 h2 =>
      obtain ⟨v1, v2, rfl, r1, r2⟩ := rpa2 h2
      refine ⟨_, _, rfl, SqL.of (s _ _ h1), rfl, v1, [v2], rfl, v2, [], rfl, rfl, kk _ (paired_set ⟨v2, rfl, r2⟩ j (paired_set ⟨v1, rfl, r1⟩ i env)) (by simp) fun m hm => ?_⟩
      rw [get_set_ne' (ne hm).2, get_set_ne' (ne hm).1]
  · cases e
  · cases e
    rw [get_set_ne' (ne hm).2, get_set_ne' (ne hm).1]
  · cases e
  · cases e
    rcases get_set_val hx with h | h
    · exact .inl h
    · exact get_set_val h
  · cases e
theorem hv_2L (i j : Nat) : ∀ d ρ ρ' m ds, st2L i j d ρ = some ρ' → m ∈ [i, j] → ρ'[m]? ≠ some (.own ds) := fun d ρ ρ' m ds e hm => by
  unfold st2L at e
  split at e
  · cases e
    simp only [List.mem_cons, List.not_mem_nil, or_false] at hm
    rcases hm with rfl | rfl
    · exact set_val_no set_val_self
    · exact set_val_self
  · cases e
theorem w_asg2L {ρ : Rho} {f : F} {Q : Fl → Prop} {i j : Nat} {a b : D} (h1 : f ρ = some (.lst [a, b])) (h : Q (.nx ((ρ.set i (.val a)).set j (.val b)))) : W (asgG (st2L i j) f) ρ Q := ⟨_, by unfold asgG evG; rw [h1]; rfl, h⟩
end Pd

/-! Zl3: str.replace of written texts, once; displays in which a token is out. -/
namespace Zl
open PySem Builtin Builtin.Str
/-- the first y of x becomes z -/
def rep1 (x y z : Str) : Str := if ((occurrences x y 0 x.length 1).isEmpty || (y.length == 0 && z.length == 0)) = true then x else glued z (partsBetween x (occurrences x y 0 x.length 1) y.length)
theorem gives_rep1 (x y z : Str) (t u v tn : Tok) (h0 : (u == 0 || v == 0) = false) (h1 : (u == v) = false) (h2 : (y == z) = false) (h3 : tooLong (x.length + (occurrences x y 0 x.length 1).length * z.length) = false) :
    Gives («str.replace» ⟨[.str x t, .str y u, .str z v, .int 1 tn], []⟩) (if ((occurrences x y 0 x.length 1).isEmpty || (y.length == 0 && z.length == 0)) = true then .val (.str x t) else .str (glued z (partsBetween x (occurrences x y 0 x.length 1) y.length))) := by
  show Gives (if ((occurrences x y 0 x.length 1).isEmpty || (y.length == 0 && z.length == 0)) = true then (do rule "str.replace.nothing"; ret (.str x t)) else
    (do let same ← isSame (.str y u) (.str z v); if same = true then (do rule "str.replace.old-is-new"; ret (.str x t)) else if tooLong (x.length + (occurrences x y 0 x.length 1).length * z.length) = true then unsupported "str.replace:memory" else retStr (glued z (partsBetween x (occurrences x y 0 x.length 1) y.length)))) _
  cases hc : ((occurrences x y 0 x.length 1).isEmpty || (y.length == 0 && z.length == 0))
  · rw [isSame_str_other y z u v h0 h1 h2, h3]
    exact .of_eq rfl
  · exact .rule (.of_eq rfl)
theorem call_rep1 {prog : Program} {w : World} {A : Around} {E : Value → Shared → Prop} {s : Shared} {x y z : Str} {t u v tn : Tok} {Q : Value → Shared → Prop}
    (hu : u ≠ 0) (hv : v ≠ 0) (huv : u ≠ v) (hyz : (y == z) = false) (h3 : tooLong (x.length + (occurrences x y 0 x.length 1).length * z.length) = false) (hb : (rep1 x y z).length ≤ sizeLine)
    (hq : ∀ t' k, Q (.str (rep1 x y z) t') { s with toks := k }) : wpAny (model prog w) A (call (.builtin "str.replace") [.str x t, .str y u, .str z v, .int 1 tn]) Q E s := by
  refine call_gives F.slot_str_replace (typeIs_str _ _ _) F.entry_str_replace (F.args_str_replace_4 _ _ _ _)
    (gives_rep1 x y z t u v tn (by simp [hu, hv]) (by simp [huv]) hyz h3) ?_
  have hq' := hq
  unfold rep1 at hq' hb
  cases hc : ((occurrences x y 0 x.length 1).isEmpty || (y.length == 0 && z.length == 0))
  · rw [hc] at hq' hb
    simp only [Bool.false_eq_true, if_false] at hq' hb ⊢
    exact ⟨hb, hq' _ _⟩
  · rw [hc] at hq'
    simp only [if_true] at hq' ⊢
    exact hq' t s.toks
section
variable {prog : Program} {w : World} {A : Around} {E : Value → Shared → Prop} {s : Shared} {env : Env}
theorem Call_method3 {o e1 e2 e3 : Expr} {name : Str} {apos pos : Pos} {Q : Value → Shared → Prop}
    (hbase : attributeBase o name env (eval o env) = eval o env) (hs : starEach [e1, e2, e3] env = [(false, eval e1 env), (false, eval e2 env), (false, eval e3 env)]) (hline : (apos.endLine == pos.line) = true)
    (h : wpAny (model prog w) A (eval o env) (fun ov s₁ => MethodOnS prog w A E name ov pos [(false, eval e1 env), (false, eval e2 env), (false, eval e3 env)] Q s₁) E s) :
    wpAny (model prog w) A (eval (.Call (.Attribute o name apos) [e1, e2, e3] [] pos) env) Q E s := by
  refine wpAny_Call_method_lateS hbase (by rw [hs]; rfl) hline ?_
  rw [hs]; exact h
end
end Zl
namespace Pd
open PySem PySem.Spec L2 CwR
open PyProof.Rows hiding St
def gRep1 (y z : Str) : D → Option D
  | .str x => if Builtin.Str.tooLong (x.length + (Builtin.Str.occurrences x y 0 x.length 1).length * z.length) = false ∧ (Zl.rep1 x y z).length ≤ sizeLine then some (.str (Zl.rep1 x y z)) else none
  | _ => none
section
variable {X : Cx} {o e b : Expr} {es : List Expr} {f g : F} {fs : Fs} {x y z : Str} {j k m : Nat} {c0 c1 c2 apos pos p : Pos} {te : TE} {ta : TA}
/-- a token is out behind it -/
def PEk (X : Cx) (e : Expr) (t : TE) : Prop := ∀ (pins : List (Addr × Obj)) (s : Shared) (σ : St) (H : Hp) (Q : VK), Inv X pins σ H s → t σ H Q → wpAny (model X.prog X.w) X.A (eval e X.env) (fun v s1 => 1 ≤ s1.toks ∧ EP X pins σ Q v s1) X.xe s
theorem pek_imp {t' : TE} (h : PEk X e te) (i : ∀ σ H Q, t' σ H Q → te σ H Q) : PEk X e t' := fun pins s σ H Q I q => h pins s σ H Q I (i _ _ _ q)
theorem pet_imp {t' : TE} (h : PET X e te) (i : ∀ σ H Q, t' σ H Q → te σ H Q) : PET X e t' := fun pins s σ H Q h0 I q => h pins s σ H Q h0 I (i _ _ _ q)
theorem pat_imp {t' : TA} (h : PAT X es ta) (i : ∀ σ H Q, t' σ H Q → ta σ H Q) : PAT X es t' := fun pos pins s σ H Q h0 I q => h pos pins s σ H Q h0 I (i _ _ _ q)
theorem pek_op {op : Operator} {r : R2} {G : D → D → Option D} (ho : OpR X (binaryOp op) r) (hG : Imp2 X.K r G) (hb : PE X b (tD X.K g)) : PEk X (.BinOp (.Constant (.str x) j p) op b pos) (tD X.K (f2 G (fC (.str x)) g)) := by
  refine pek_imp (te := tOp r (tD X.K (fC (.str x))) (tD X.K g)) (fun pins s σ H Q I h => ?_) (tD_2 hG)
  obtain ⟨μ, Hs, ρ, d, sm, env, e, kk⟩ := h
  cases e
  have h2 := kk (.str x) H Hs (Ext.refl sm) (.str x)
  refine wpAny_BinOp (Calls.Constant_str ?_)
  have h3 := PySem.wpAny_toks_of (n := 1) (show 1 ≤ ({ s with toks := s.toks + 1 } : Shared).toks by show 1 ≤ s.toks + 1; omega) (hb.run pins { s with toks := s.toks + 1 } σ H _ (I.tok _) h2)
  refine wpAny_mono h3 (fun u s2 q => ?_) fun _ _ z => z.2
  obtain ⟨hk, w, H2, I2, r2, q2⟩ := q
  exact wpAny_mono (PySem.wpAny_toks_of hk (ho pins s2 σ H2 (.str x) w _ u Q I2 ⟨_, rfl⟩ r2 q2)) (fun _ _ z => z) fun _ _ z => z.2
theorem pa_consk (ha : PEk X e te) (hr : PAT X es ta) (hs : starEach (e :: es) X.env = (false, eval e X.env) :: starEach es X.env := by rfl) : PA X (e :: es) (tCons te ta) := by
  refine ⟨fun pos pins s σ H Q I h => ?_⟩
  rw [hs]
  show wpAny _ _ (spliced ((false, eval e X.env) :: backTo pos (starEach es X.env))) _ _ s
  refine Calls.spliced_cons (wpAny_mono (ha pins s σ H _ I h) (fun v s1 q => ?_) fun _ _ z => z)
  obtain ⟨hk, x, H1, I1, r1, q1⟩ := q
  exact thn (hr pos pins s1 σ H1 _ hk I1 q1) fun us s2 ⟨xs, H2, I2, r2, q2⟩ => ⟨x :: xs, H2, I2, .cons r1 r2, q2⟩
theorem pet_rep1 (ho : PE X o (tD X.K f)) (hyz : (y == z) = false := by decide)
    (hst : starEach [.Constant (.str y) j c0, .Constant (.str z) k c1, .Constant (.int 1) m c2] X.env = [(false, eval (.Constant (.str y) j c0) X.env), (false, eval (.Constant (.str z) k c1) X.env), (false, eval (.Constant (.int 1) m c2) X.env)] := by rfl)
    (hbase : attributeBase o "replace" X.env (eval o X.env) = eval o X.env := by rfl) (hline : (apos.endLine == pos.line) = true := by rfl) :
    PET X (.Call (.Attribute o "replace" apos) [.Constant (.str y) j c0, .Constant (.str z) k c1, .Constant (.int 1) m c2] [] pos) (tD X.K (f1 (gRep1 y z) f)) := by
  rintro pins s σ H Q h0 I ⟨μ, Hs, ρ, d, sm, env, e, kk⟩
  obtain ⟨d1, e1, e2⟩ := b1_eq e
  refine Zl.Call_method3 hbase hst hline (wpAny_mono (PySem.wpAny_toks (ho.run pins s σ H (fun v H1 => ∃ Hs1, Ext Hs H Hs1 H1 ∧ Rp X.K μ Hs1 v d1) I ⟨μ, Hs, ρ, d1, sm, env, e1, fun v H1 Hs1 x1 r1 => ⟨Hs1, x1, r1⟩⟩)) (fun v s1 q => ?_) fun _ _ z => z.2)
  obtain ⟨hk, v', H1, I1, r1, Hs1, x1, rp⟩ := q
  cases rp with
  | str x =>
    obtain ⟨⟨hl, hb⟩, e3⟩ := ite_some (show (if Builtin.Str.tooLong (x.length + (Builtin.Str.occurrences x y 0 x.length 1).length * z.length) = false ∧ (Zl.rep1 x y z).length ≤ sizeLine then some (D.str (Zl.rep1 x y z)) else none) = some d from e2)
    subst e3
    obtain ⟨tx, e4⟩ := r1
    subst e4
    refine ⟨"str", _, PySem.F.plainAttrs_str, PySem.F.slot_str_replace, PySem.F.type_str_replace, typeIs_str _ _ _, (fun _ e => nomatch e), Calls.callWith_builtin rfl (Calls.evalArgs_plain (Calls.spliced_cons ?_))⟩
    refine Calls.Constant_str (Calls.spliced_cons (Calls.Constant_str (Calls.spliced_cons (wpAny_Constant_int (Calls.spliced_nil ?_)))))
    exact Zl.call_rep1 (by show s1.toks ≠ 0; omega) (by show s1.toks + 1 ≠ 0; omega) (by show s1.toks ≠ s1.toks + 1; omega) hyz hl hb fun t' k => ⟨.str (Zl.rep1 x y z), H1, I1.tok k, ⟨t', rfl⟩, kk _ _ _ x1 (.str _)⟩
  | _ => exact nomatch e2
end
section
variable {X : Cx} {W : WX} {e : Expr} {es : List Expr}
theorem imp_pure {f : F} : ∀ σ H Q, tM X.K X.mg W (mP f) σ H Q → tD X.K f σ H Q := by
  rintro σ H Q ⟨μ, Hs, ρ, S, r, S1, s, env, e, P⟩
  obtain ⟨d, e1, e2⟩ := b1_eq e
  cases e2
  exact ⟨μ, Hs, ρ, d, s.sub, env, e1, fun v H' Hs' x r => P μ Hs' H' (Gr.part x.part) (s.ext x) v r⟩
theorem pek_pure {f : F} (h : PEk X e (tD X.K f)) : PEk X e (tM X.K X.mg W (mP f)) := pek_imp h imp_pure
theorem pet_pure {f : F} (h : PET X e (tD X.K f)) : PET X e (tM X.K X.mg W (mP f)) := pet_imp h imp_pure
theorem imp_consM {f : SF} {fs : SFs} : ∀ σ H Q, tMs X.K X.mg W (mCons f fs) σ H Q → tCons (tM X.K X.mg W f) (tMs X.K X.mg W fs) σ H Q := by
  rintro σ H Q ⟨μ, Hs, ρ, S, r, S1, s, env, e, P⟩
  obtain ⟨q, S2, e1, P1⟩ := post_bind e P
  refine ⟨μ, Hs, ρ, S, q, S2, s, env, e1, P1.imp fun d μ' Hs' H' g s' ⟨_, _, e2, P2⟩ v rv => ?_⟩
  obtain ⟨q2, S3, e3, P3⟩ := post_bind e2 P2
  refine ⟨μ', Hs', ρ, S2, q2, S3, s', env.gr g, e3, P3.imp fun ds μ2 Hs2 H2 g2 s2 ⟨_, _, e4, P4⟩ vs rvs => ?_⟩
  cases e4
  exact P4 μ2 Hs2 H2 (Gr.refl _ _) s2 (v :: vs) (.cons (rv.gr g2) rvs)
theorem s_consk {f : SF} {fs : SFs} (he : PEk X e (tM X.K X.mg W f)) (ht : PAT X es (tMs X.K X.mg W fs)) (hs : starEach (e :: es) X.env = (false, eval e X.env) :: starEach es X.env := by rfl) : PA X (e :: es) (tMs X.K X.mg W (mCons f fs)) :=
  pa_imp (pa_consk he ht hs) imp_consM
theorem s_consT {f : SF} {fs : SFs} (he : PET X e (tM X.K X.mg W f)) (ht : PAT X es (tMs X.K X.mg W fs)) (hs : starEach (e :: es) X.env = (false, eval e X.env) :: starEach es X.env := by rfl) : PAT X (e :: es) (tMs X.K X.mg W (mCons f fs)) :=
  pat_imp (pat_cons he ht hs) imp_consM
theorem s_nilT : PAT X [] (tMs X.K X.mg W mNil) := fun pos pins s σ H Q _ I q => s_nil.run pos pins s σ H Q I q
end
section
variable {X : Cx} {e : Expr} {es : List Expr} {f : F} {fs : Fs}
theorem imp_consD : ∀ σ H Q, tDs X.K (fCons f fs) σ H Q → tCons (tD X.K f) (tDs X.K fs) σ H Q := by
  rintro σ H Q ⟨μ, Hs, ρ, d, s, env, e, k⟩
  obtain ⟨d1, e1, e2⟩ := b1_eq e
  obtain ⟨d2, e3, e4⟩ := b1_eq e2
  cases e4
  refine ⟨μ, Hs, ρ, d1, s, env, e1, fun v H1 Hs1 x1 r1 => ⟨μ, Hs1, ρ, d2, x1.sub, env.mono x1.part, e3, fun u H2 Hs2 x2 r2 => ?_⟩⟩
  exact k _ H2 Hs2 (x1.trans x2) (.cons (r1.mono x2.part) r2)
theorem pda_consk (he : PEk X e (tD X.K f)) (ht : PAT X es (tDs X.K fs)) (hs : starEach (e :: es) X.env = (false, eval e X.env) :: starEach es X.env := by rfl) : PA X (e :: es) (tDs X.K (fCons f fs)) := pa_imp (pa_consk he ht hs) imp_consD
theorem pda_consT (he : PET X e (tD X.K f)) (ht : PAT X es (tDs X.K fs)) (hs : starEach (e :: es) X.env = (false, eval e X.env) :: starEach es X.env := by rfl) : PAT X (e :: es) (tDs X.K (fCons f fs)) := pat_imp (pat_cons he ht hs) imp_consD
theorem pda_nilT : PAT X [] (tDs X.K fNil) := fun pos pins s σ H Q _ I q => pda_nil.run pos pins s σ H Q I q
end
end Pd
namespace Pd
open PySem PySem.Spec L2 SkE
open PyProof.Rows hiding St
theorem v_iL {ρ : Rho} {S : Store} {E : Exn → Store → Prop} {f : SF} {Qi : List D × (Store → Prop) → Store → Prop} (h : Ev (f ρ S) (fun d S1 => ∃ n ds, d = .loc n ∧ S1[n]? = some (.lst ds) ∧ Qi (ds, fun S => S[n]? = some (.lst ds)) S1) E) : Ev (miL f ρ S) Qi E :=
  ev_sb (h.mono (fun d S1 ⟨n, ds, e1, h1, q⟩ => by
    subst e1
    rw [ls_at h1]
    exact q) fun _ _ e => e)
theorem cutL_to (xs : List D) (k : Nat) (hk : k ≤ xs.length) : gSl (.lst xs) none (some (k : Int)) = some (.lst (xs.take k)) := by
  show some (D.lst (Pd.cutD xs none (some (k : Int)))) = _
  congr 2
  unfold Pd.cutD
  rw [HT.sIx_none, HT.sIx_nat, Nat.min_eq_left hk, List.drop_zero, Nat.sub_zero]
theorem x_rep1 {x y z : Str} (h1 : (Builtin.Str.occurrences x y 0 x.length 1).length = 1) (h2 : x.length + z.length ≤ 10000000) (h3 : (Zl.rep1 x y z).length ≤ 10000000) : gRep1 y z (.str x) = some (.str (Zl.rep1 x y z)) := by
  refine if_pos ⟨?_, ?_⟩
  · rw [h1, Nat.one_mul]
    unfold Builtin.Str.tooLong
    rw [sizeLine_eq]
    exact decide_eq_false (by omega)
  · rw [sizeLine_eq]
    omega
end Pd
namespace Pd
open PySem PySem.Spec L2 SkE
open PyProof.Rows hiding St
/-- x = [.. for ..] on one line, over data, in a def over a store -/
theorem sg_asgLc {X : Cx} {W : WX} {tg elt iter : Expr} {ifs : List Expr} {fi : Fs} {fe : F} {ft : Ft} {pos spos : Pos} (i : Nat) {y : Str} {py : Pos} {scope : Scope} {own : List (Str × Nat)} {g : TG} {set : D → Rho → Option Rho} {tt : TT} (hc : X.calm = true) (hN : X.N.Nodup) (hi : PI X tg iter (tDI X.K fi)) (ok : BlkOk X.N X.env.scope scope own) (hg : TgD X.K g set (own.map (·.2)))
    (hpg : ∀ (s : Shared) (H : Hp) (C : Addr) (cl : List (Str × Addr)) (fp : List Addr), PG (X.blk s H scope (compEnvC scope cl C X.env) fp) tg g)
    (ht : ∀ σ H Q, tDT X.K ft σ H Q → tt σ H Q) (hpt : ∀ (s : Shared) (H : Hp) (C : Addr) (cl : List (Str × Addr)) (fp : List Addr), PTs (X.blk s H scope (compEnvC scope cl C X.env) fp) ifs tt)
    (hpe : ∀ (s : Shared) (H : Hp) (C : Addr) (cl : List (Str × Addr)) (fp : List Addr), PE (X.blk s H scope (compEnvC scope cl C X.env) fp) elt (tD X.K fe)) (hs : ∀ x, foldedSetIterable iter X.env x = pure x := by intro _; rfl)
    (hy : X.N[i]? = some y := by rfl) (hyl : X.env.scope.names.lookup y = some .local := by rfl) (hsw : swapsWith (.ListComp elt [⟨tg, iter, ifs, 0⟩] scope pos) (some (.Name y py)) spos.line X.env = pure true := by exact sw_true rfl rfl rfl (by decide +kernel)) :
    PS X (.Assign [.Name y py] (.ListComp elt [⟨tg, iter, ifs, 0⟩] scope pos) spos) (tG X.K X.mg W (gAsg (st1 i) (mP (fLc fi set ft fe (own.map (·.2)))))) := by
  refine ps_imp (ps_setLc (own := own) (g := g) (tt := tt) hc hN hy hyl hsw hi ok hpg hpt hpe hs) fun Dn σ H ⟨μ, Hs, ρ, S, fl, S1, s, env, e, k⟩ => ?_
  obtain ⟨q, S2, e1, P1⟩ := aft_bind env e k
  obtain ⟨d, e2, e3⟩ := b1_eq e1
  cases e3
  refine lc_read (fun _ _ _ h => h) hg ht (fun _ _ _ h => h) _ _ _ ⟨μ, Hs, ρ, d, s.sub, env, e2, fun v H' Hs' x r => ?_⟩
  obtain ⟨s2, g2, env2, e5, P5⟩ := P1 μ Hs' H' (Gr.part x.part) (s.ext x)
  cases e5
  exact P5 (σ.set i (some v)) μ Hs' H' (Gr.refl _ _) s2 (paired_set ⟨v, rfl, r⟩ i env2)
end Pd

/-! Xs0: an error class over ValueError whose __init__ says super().__init__("..") and stores one field. -/
namespace Xs
open PySem PySem.W PySem.Calls PyProof.Rows L2
/-- the wrapper of ValueError.__init__, called -/
theorem call_mw {prog : Program} {w : World} {A : Around} {E : Value → Shared → Prop} {h : Heap} {g : Array GenState} {d : Drawn} {t : Nat} {os : OsState} {nm q : Str} {C N u e t0 : Addr} {bs bm : List Value} {hdct : Bool} {sn : List Str} {sub : List Value} {ab : Bool} {col : Option Bool} {dd : Option Addr} {k0 k1 k2 k3 k5 : Option Value} {rest : List Value} {Q : Value → Shared → Prop}
    (hC : h.get? C = some (excClassObj nm q C N bs bm hdct sn sub ab col dd k0 k1 k2 k3 k5 "ValueError.__new__")) (he : h.get? e = some (excObj C t0 none .none)) (hu : h.get? u = some (kxs_mw "ValueError.__init__" e)) (hz : rest.length ≤ sizeLine)
    (fin : ∀ h' t1, (∀ b o, b ≠ e → h.get? b = some o → h'.get? b = some o) → h'.get? e = some (excObj C t1 none .none) → Q .none ⟨h', g, d, t, os⟩) :
    wpAny (model prog w) A (call (.ref u) rest) Q E ⟨h, g, d, t, os⟩ := by
  refine wpAny_call (codeAny_of_tree ?_)
  show wpAny _ A.in1 (callAny (.ref u) (⟨rest, []⟩ : Args)) _ _ ⟨h, g, d, t, os⟩
  simp only [callAny]
  have y1 : (Value.type "method-wrapper" == Value.type "method" || Value.type "method-wrapper" == Value.type "builtin_function_or_method" || Value.type "method-wrapper" == Value.type "method-wrapper") = true := by decide
  refine wpAny_bind (wpAny_load hu ?_)
  simp only [kxs_mw, y1, if_true]
  refine KFB.if_so (by decide) (wpAny_bind (check_bound_init PySem.F.excBase_ValueError.toExcCallFacts hC he rfl (wpAny_bind (wpAny_pure (wpAny_pure ?_)))))
  exact ⟨plainId_quiet PySem.F.excBase_ValueError.init.plain _, codeAny_builtin PySem.F.excBase_ValueError.initEntry (exc_init_tree (cls := .ref C) (t0 := t0) (dv := none) (c2 := .none) (c3 := .none) (b4 := .bool false) he hz fun h' k e' _ => fin h' _ k e')⟩
/-- what such an __init__ promises -/
def spXi (D : Addr) (fl : Str) : Sp := fun vs H Q _ => ∃ (a : Addr) (y : V), vs = [.ref a, y] ∧ H a = some (exo a D none) ∧ ∀ dx, H dx = none → dx ≠ a → Q .non (upd (upd H dx (exd dx [(fl, y)])) a (exo a D (some dx)))
/-- the class, as the written part has it -/
structure XiC (K : Frag) (D : Addr) (fl : Str) : Prop where
  oex : OexC K D
  sup : ks_superIn K D D "__init__" = some (some (.builtin "ValueError.__init__"))
  ve : subIn K (.ref D) (.type "ValueError") = some true
  self : mroIn K D (.ref D) = some true
  fl : findIn K (.ref D) fl = some none
  opq : nsIn K cStatics "thirdparty.any" = some none
theorem init_ok {P : Program} {w : World} {K : Frag} {mg : Str → Option Value} {base : Heap} {CX : CXT} {k : Nat} {f cc cda D : Addr} {name qual a0 a1 fl msg file : Str} {params : Arguments} {scope : Scope} {dV kV doc pm ct oc ccl cl : Value} {an od cdd cld : Option Addr} {osl ccs csl : Array (Option Value)} {vs2 : Array Value} {tf : Tok} {ar : Arg} {j : Nat} {p0 p1 p2 p3 p4 p5 p6 p7 p8 c0 : Pos}
    (T : XiC K D fl)
    (hcd : codeIn K (.ref cda) qual = true) (hp : (params.posonlyargs ++ params.args).head? = some ar) (har : ar.arg = a0) (hcode : K.lookup cda = some ⟨ccl, cdd, .fields vs2, ccs⟩) (hvs : vs2[2]? = some (.str file tf)) (hfile : ((P.main.file : Str) == file) = true)
    (hcell : K.lookup cc = some ⟨cl, cld, .cell (some (.ref D)), csl⟩) (hsuper : mg "super" = none)
    (hks : scope.names.lookup ("super" : Str) = some .globalImplicit) (hkc : scope.names.lookup ("__class__" : Str) = some .free) (h0 : scope.names.lookup a0 = some .local) (h1 : scope.names.lookup a1 = some .local) (hne : (a0 == a1) = false) (hk : scope.kind = .function)
    (hd0 : (a0 == ("__debug__" : Str)) = false) (hd1 : (a1 == ("__debug__" : Str)) = false) (hncell : ∀ x ∈ scope.names, x.2 ≠ .cell) (hco : scope.isCoroutine = false) (hgen : scope.isGenerator = false)
    {pl : Addr → Sem Bool} {body : List Stmt} (hbody : body = [.Expr (.Call (.Attribute (.Call (.Name "super" p0) [] [] p1) "__init__" p2) [.Constant (.str msg) j c0] [] p3) p4, .Assign [.Attribute (.Name a0 p5) fl p6] (.Name a1 p7) p8])
    (hcall : ∀ L : Addr, eval (.Call (.Attribute (.Call (.Name "super" p0) [] [] p1) "__init__" p2) [.Constant (.str msg) j c0] [] p3) (callEnv (ksFn name qual params body scope dV kV doc pm an (.ref cda) ct cc) L f) = (do
      let ov ← attributeBase (.Call (.Name "super" p0) [] [] p1) "__init__" (callEnv (ksFn name qual params body scope dV kV doc pm an (.ref cda) ct cc) L f) (eval (.Call (.Name "super" p0) [] [] p1) (callEnv (ksFn name qual params body scope dV kV doc pm an (.ref cda) ct cc) L f))
      standAt p2.atName
      let (ff, first) ← holding [ov] (getMethod ov "__init__" (pl L))
      callWith p3 ff first (backTo p3 (starEach [.Constant (.str msg) j c0] (callEnv (ksFn name qual params body scope dV kV doc pm an (.ref cda) ct cc) L f))) []))
    (hint : ∀ L : Addr, interactive (callEnv (ksFn name qual params body scope dV kV doc pm an (.ref cda) ct cc) L f) = false)
    (lk : K.lookup f = some ⟨oc, od, .func (ksFn name qual params body scope dV kV doc pm an (.ref cda) ct cc), osl⟩)
    (htop : (P.main.scope.names.lookup ("super" : Str)).isSome = false) :
    FnOk P w K mg base CX (k + 1) f (ksFn name qual params body scope dV kV doc pm an (.ref cda) ct cc) [a0, a1] (spXi D fl) := by
  refine ⟨fun vs H Q E h => by obtain ⟨a, y, rfl, _⟩ := h; rfl, fun A outer s H args us vs Q E hr e0 hb rv hs => ?_⟩
  obtain ⟨a, y, rfl, ha, hq⟩ := hs
  obtain ⟨nm, q, N, bs, bm, sn, sub, ab, col, dd, k0, k1, k2, k3, k5, hC, hbm⟩ := T.oex.cls
  have hcl : clsIn K D = some { name := nm, bases := bs, mro := .ref D :: bm, ns := N, qualname := q, hasDict := true, slotNames := sn, subclasses := sub, abstract := ab, collection := col, hasDel := false } := by unfold clsIn; rw [hC] <;> rfl
  have KX : K.In s.heap := e0.mod.kin.keeps fun b o e => (e0.bs b o e).1
  have lim : s.heap.NoLimit := e0.mod.nolimit.keeps fun b o e => (e0.bs b o e).1
  obtain ⟨t1, hoe⟩ := exo_at e0.hok ha
  cases rv with
  | @cons _ u0 _ ur ra rt =>
  cases rt with
  | @cons _ u1 _ _ ry rn =>
  cases rn
  obtain rfl : u0 = Value.ref a := ra
  have l0 : (([a0, a1].zip [Value.ref a, u1]).reverse).lookup a0 = some (.ref a) := by
    show [(a1, u1), (a0, Value.ref a)].lookup a0 = _
    simp [List.lookup, hne]
  have l1 : (([a0, a1].zip [Value.ref a, u1]).reverse).lookup a1 = some u1 := by
    show [(a1, u1), (a0, Value.ref a)].lookup a1 = _
    simp [List.lookup]
  refine ks_codeAny_call_defAt hr.depth (KX _ _ lk) rfl lim (codeRec_of KX hcd) rfl hb hncell (fun x hx => ?_) (fun hA hns hkA => ?_) hco hgen hk
  · have hx' : x = (a0, Value.ref a) ∨ x = (a1, u1) := by simpa using hx
    rcases hx' with rfl | rfl
    · exact h0
    · exact h1
  obtain ⟨hp0, g, d, t, os⟩ := s
  have KA : K.In hA := KX.keeps hkA
  have keepA : ∀ b o, base.get? b = some o → hA.get? b = some o := fun b o e => hkA _ _ (e0.bs b o e).1
  have fin : ∀ (h4 : Heap) (tk : Nat) (dx t2 : Addr), (∀ b o, b ≠ a → hp0.get? b = some o → h4.get? b = some o) → (∀ b o, hp0.get? b = some o → b ≠ dx) → H dx = none → dx ≠ a → h4.get? a = some { cls := .ref D, dict := some dx, data := .fields #[.ref t2, .none, .none, .none, .bool false, .none] } → h4.Ns1 dx (fun z => if z = fl then some u1 else none) →
      CR CX outer P w H ⟨hp0, g, d, t, os⟩ Q E (.ok (.ret .none)) ⟨h4, g, d, tk, os⟩ := fun h4 tk dx t2 kp dn hnd dne hx hn => by
    have apart : ∀ {b : Addr}, H b = none → b ≠ a := fun {b} n z => by
      rw [z, ha] at n
      cases n
    have below : ∀ {b : Addr} {o : Obj}, hp0.get? b = some o → b ≠ dx := fun {b o} z => dn b o z
    refine ⟨.non, upd (upd H dx (exd dx [(fl, y)])) a (exo a D (some dx)), rfl, e0.bare, ?_, fun b o z => ?_, rfl, hq dx hnd dne⟩
    · constructor
      · exact fun b o z n _ _ => kp b o (apart n) z
      · exact fun b o z n _ _ => ⟨o.slots, kp b o (apart n) z⟩
      · intro b o z n _
        rw [upd_ne (apart n), upd_ne (below z)]
        exact n
      · intro b o z _
        by_cases hba : b = a
        · subst hba
          exact ⟨_, hx⟩
        · exact ⟨o, kp b o hba z⟩
      · intro b xs z
        rw [upd_ne (at_ne ha z exo_tup), upd_ne (ne_of_none z hnd)]
        exact z
      · intro b o v z
        rw [upd_ne (at_ne ha z exo_frz), upd_ne (ne_of_none z hnd)]
        exact z
      · intro b ps z
        refine ⟨#[], ?_⟩
        rw [upd_ne (at_ne ha z exo_tbl), upd_ne (ne_of_none z hnd), z]
        simp
    · by_cases hba : b = a
      · subst hba
        rw [upd_same] at z
        cases z
        exact exo_ok hx
      · rw [upd_ne hba] at z
        by_cases hbd : b = dx
        · subst hbd
          rw [upd_same] at z
          cases z
          exact exd_ok hn (relO_put (fs := []) ry fun _ => True.intro)
        · rw [upd_ne hbd] at z
          have own : ∀ {c : Addr}, H c = some (.own b) → c ≠ a := fun {c} hc => at_ne ha hc exo_own
          refine (e0.hok b o z).stay (fun c v hc => kp c v ?_) (fun c hc => ?_) fun c xs hc => ?_
          · rcases hc with rfl | hc
            · exact hba
            · exact own hc
          · rw [upd_ne (own hc), upd_ne (ne_of_none hc hnd)]
            exact hc
          · rw [upd_ne (at_ne ha hc exo_tup), upd_ne (ne_of_none hc hnd)]
            exact hc
  obtain ⟨mb, hmb, hmb2⟩ := e0.mod.blt
  have neL : hp0.objs.size ≠ a := Nat.ne_of_gt (Heap.lt_size hoe)
  show PySem.wpAt _ _ _ (execs body _) _ _ _
  have hex : ∀ env, execs body env = execs [.Expr (.Call (.Attribute (.Call (.Name "super" p0) [] [] p1) "__init__" p2) [.Constant (.str msg) j c0] [] p3) p4, .Assign [.Attribute (.Name a0 p5) fl p6] (.Name a1 p7) p8] env := fun env => by rw [hbody]
  rw [hex]
  refine ks_wpAt_execs_cons (ks_wpAt_Expr_any (hi := hint _) (ks_wpAt_MethodCall (he := hcall _) (ks_wpAt_super_base hks hkc (by decide) rfl (KA _ _ lk) rfl hp rfl (KA _ _ hcode) rfl hvs hfile htop ?_)))
  refine ks_loadName_global hk hks (loadGlobal_builtin (e0.mod.glob.keeps keepA) hsuper (hmb.keeps keepA) ((hmb2 _ (by decide +kernel)).trans (by decide +kernel)) ⟨rfl, ?_⟩)
  refine wpAny_loadName_free hk hkc rfl ⟨_, KA _ _ hcell, rfl⟩ ?_
  refine wpAny_loadName_local hk (by rw [har]; exact h0) hns (by rw [har]; exact l0) ?_
  refine ks_wpAny_isType_cls (KA _ _ hC) rfl ⟨rfl, ?_⟩
  refine ks_wpAny_call_super (KA _ _ hC) rfl (hkA _ _ hoe) rfl (fun c e => nomatch e) (looks_mroIn KA T.self) (fun h2 e2 kk2 => ?_)
  have K2 := KA.keeps kk2
  have I2 : InstAt h2 a { cls := .ref D, dict := none, data := .fields #[.ref t1, .none, .none, .none, .bool false, .none] } D none := ⟨kk2 _ _ (hkA _ _ hoe), rfl, rfl, trivial⟩
  have hm := T.sup
  unfold ks_superIn at hm
  rw [hcl] at hm
  refine kxs_getMethod kxs_ValueError e2 (looks_opaque K2 T.opq) (l₀ := .ref D :: bm) (fun A Q E s k q => wpAny_bind ((looks_clsIn K2 hcl) A _ E s k (wpAny_pure q))) rfl K2 hm (I2.type.andThen (looks_subIn K2 T.ve)) (ks_ne K2 I2 hcl) (by decide) ?_
  have kk3 : ∀ b o, h2.get? b = some o → (h2.push (kxs_mw "ValueError.__init__" a)).get? b = some o := fun b o e => Heap.get?_push_of_some _ e
  have hu : (h2.push (kxs_mw "ValueError.__init__" a)).get? h2.objs.size = some (kxs_mw "ValueError.__init__" a) := Heap.get?_push_at rfl rfl
  refine kxs_callWith (i := "ValueError.__init__") (x := a) rfl (evalArgs_plain (Calls.spliced_cons (Calls.Constant_str (k := j) (pos := c0) (Calls.spliced_nil ⟨hu, ?_⟩))))
  refine call_mw (kk3 _ _ (K2 _ _ hC)) (kk3 _ _ I2.at_) hu (by show 1 ≤ sizeLine; decide) (fun h3 t2 k3' hx3 => ?_)
  have kk : ∀ b o, b ≠ a → hA.get? b = some o → h3.get? b = some o := fun b o hb e => k3' b o hb (kk3 b o (kk2 b o e))
  have K3 : K.In h3 := fun b o z => kk b o (fun e => by
    have n := (e0.bs _ _ (e0.mod.kin b o z)).2
    rw [e, ha] at n
    cases n) (KA b o z)
  obtain ⟨oL, es, ep, hL, hr3⟩ := hns
  have ns3 : h3.Ns hp0.objs.size (fun z => ([a0, a1].zip [Value.ref a, u1]).reverse.lookup z) := ⟨oL, es, ep, kk _ _ neL hL, hr3⟩
  refine ks_wpAt_execs_cons (PySem.wpAt_of_wpAny (plainObj_wpAny_Assign_Attribute (wpAny_Name (wpAny_loadName_local hk h1 ns3 l1 ?_) hd1)))
  refine wpAny_Name (wpAny_loadName_local hk h0 ns3 l0 ?_) hd0
  refine set_plain K3 (ox := { cls := .ref D, dict := none, data := .fields #[.ref t2, .none, .none, .none, .bool false, .none] }) (od := none) ⟨hx3, rfl, rfl, trivial⟩ T.oex.sa ?_
  refine PySem.HandSPX.exc_osa K3 hx3 hcl (show PySem.HandSPX.refsVE (.ref D :: bm) = true from hbm) rfl T.fl (fun h4 tk' dx k4 dn dne hx4 hn4 => ?_)
  refine PySem.wpAt_of_wpAny (wpAny_execs_nil ?_)
  have dn' : h3.objs.size ≤ dx := dn
  refine fin h4 tk' dx t2 (fun b o hb z => k4 b o hb (kk b o hb (hkA b o z))) (fun b o z e => ?_) ?_ dne hx4 hn4
  · by_cases hba : b = a
    · exact dne (e.symm.trans hba)
    · have hlt := Heap.lt_size (kk b o hba (hkA b o z))
      rw [e] at hlt
      exact absurd (Nat.lt_of_lt_of_le hlt dn') (Nat.lt_irrefl _)
  · cases z : H dx with
    | none => rfl
    | some u =>
      have hlt := ((e0.hok dx u z).stay (h' := h3) (H' := H) (fun b v hc q => kk b v (by
        rcases hc with rfl | hc
        · exact dne
        · exact at_ne ha hc exo_own) (hkA b v q)) (fun _ q => q) fun _ _ q => q).lt
      exact absurd (Nat.lt_of_lt_of_le hlt dn') (Nat.lt_irrefl _)
end Xs

/-! Xs1: errors with a field: raised, asked for their class, their field read. -/
namespace Xs
open PySem PySem.W PySem.Spec PySem.Calls PyProof.Rows L2
section
variable {prog : Program} {w : World} {A : Around} {E : Value → Shared → Prop} {s : Shared} {K : Frag} {x D : Addr} {ox : Obj} {od : Option Obj}
theorem cls_some (C : ExcC K D) : ∃ cd, clsIn K D = some cd := by
  obtain ⟨cd, hc, _⟩ := any_some C.hd
  exact ⟨cd, hc⟩
theorem own_class {Q : Option Value → Shared → Prop} (C : ExcC K D) (kin : K.In s.heap) (inst : InstAt s.heap x ox D od) (fin : Q (some (.ref D)) { s with toks := s.toks + 1 }) : wpAny (model prog w) A (getAttr? (.ref x) "__class__") Q E s := by
  obtain ⟨cd, hcd⟩ := cls_some C
  have look : findObj K D od "__class__" = some (.bind (.builtin "getset_descriptor.__get__") (.builtin "object.__class__")) := by
    unfold findObj
    rw [hcd, Option.bind_some, C.ha, Option.bind_some]
    simp [C.hn, C.ht]
  obtain ⟨hp0, g0, d0, t0, os0⟩ := s
  have a0 := inst.type (M := model prog w)
  have a1 := looks_findIn (M := model prog w) kin C.hg
  have a2 := looks_findIn (M := model prog w) kin C.hk
  have a3 := looks_find (M := model prog w) kin inst look
  have below : Looks (model prog w) hp0 (isInstance (.ref x) (.type "BaseException")) true := a0.andThen (looks_subIn kin C.hs)
  have b2 : (Value.builtin "BaseException.__getattribute__" == Value.builtin "object.__getattribute__") = false := by decide +kernel
  have b1 : (onTheHeap (Value.ref D) && Value.builtin "BaseException.__getattribute__" == Value.builtin "object.__getattribute__") = false := by simp only [b2, Bool.and_false]
  unfold getAttr? getAttrBy? getAttrBy
  refine wpAny_bind (wpAny_mkText (wpAny_bind (wpAny_attempt (wpAny_holding (wpAny_bind (a0.at (wpAny_bind (a1.at ?_))))))))
  show wpAny _ _ (if (onTheHeap (Value.ref D) && Value.builtin "BaseException.__getattribute__" == Value.builtin "object.__getattribute__") = true then _ else _) _ _ _
  simp only [b1, Bool.false_eq_true, if_false]
  unfold getAttrByItsOwn hookBefore
  refine wpAny_bind ?_
  simp only [show onTheHeap (Value.ref D) = true from rfl, if_true]
  refine a2.at (wpAny_bind (wpAny_attempt (wpAny_holding ?_)))
  unfold callGetattribute
  simp only [Bool.false_and, Bool.false_eq_true, if_false]
  unfold boundAndCalled
  rw [PySem.F.excAttr_ValueError.ga.bind (.ref x)]
  refine wpAny_bind (wpAny_pure (?_ : wpAny (model prog w) _ (call (.builtin "BaseException.__getattribute__") [.ref x, .str "__class__" t0]) _ _ _))
  refine wpAny_call (codeAny_call_builtin PySem.F.excAttr_ValueError.ga.plain PySem.F.entry_bexc_ga (@check_slot (model prog w) _ _ ⟨hp0, g0, d0, t0 + 1, os0⟩ "BaseException.__getattribute__" "BaseException" "__getattribute__" (.ref x) [.str "__class__" t0] [] _ (by decide +kernel) (by decide +kernel) below (PySem.F.args_bexc_ga (.ref x) (.str "__class__" t0)) ?_))
  unfold Builtin.«object.__getattribute__»
  refine wpAny_bind (wpAny_of_eq (a := ((Value.ref x : Value), [Value.str "__class__" t0])) (by first | rfl | (simp only [slotArgs]; rfl)) (wpAny_bind (wpAny_pure (wpAny_bind (a0.at (wpAny_bind (a3.at ?_)))))))
  refine (?_ : wpAny (model prog w) _ (holding [Value.builtin "object.__class__"] (call (.builtin "getset_descriptor.__get__") [.builtin "object.__class__", .ref x, .ref D]) >>= ret) _ _ _)
  refine wpAny_bind (wpAny_holding (wpAny_call (class_get (s := ⟨hp0, g0, d0, t0 + 1, os0⟩) (ox := ox) (od := od) kin inst C.hm (wpAny_pure ?_))))
  show wpAny (model prog w) _ (handedOut (.ref D)) _ _ _
  rw [handedOut_of (v := .ref D) rfl]
  first
    | exact wpAny_pure (wpAny_pure fin)
    | exact wpAny_pure fin
    | exact wpAny_pure (wpAny_bind (wpAny_pure (wpAny_pure fin)))
theorem kitx_any (C : ExcC K D) : KitX K (.ref x) (.ref D) (fun h => ∃ od, InstAt h x ox D od) := by
  obtain ⟨cd, hcd⟩ := cls_some C
  have obj : ∀ h : Heap, K.In h → ∃ o, h.get? D = some o ∧ o.data = .cls cd := fun h kin => by
    unfold clsIn at hcd
    split at hcd
    · rename_i z
      cases hcd
      exact ⟨_, kin _ _ z, rfl⟩
    · cases hcd
  refine ⟨fun M h kin ⟨od, inst⟩ => inst.type, fun M h kin _ => ?_, fun h tp dd its n sl kin htp => ?_, fun kin ⟨od, inst⟩ k => own_class C kin inst k⟩
  · obtain ⟨o, ho, hd⟩ := obj h kin
    intro A' Q' E' s' k q
    unfold isType loadHead
    refine wpAny_bind (wpAny_loadPart (k _ _ ho) ?_)
    rw [hd]
    exact wpAny_pure q
  · obtain ⟨o, ho, hd⟩ := obj h kin
    cases e : (Value.ref D == .ref tp) with
    | false => rfl
    | true =>
      have e2 : D = tp := Value.ref.inj (eq_of_beq e)
      subst e2
      rw [ho] at htp
      cases htp
      cases hd
end
/-- isinstance(e, c), e the exception that the suite holds, with a dict or none -/
theorem call_isE2 {X : Cx} {a D : Addr} {oe : Obj} {d : Option Addr} {pn : List (Addr × Obj)} (C : ExcC X.K D) (hz : Zc (.ref D) d oe) (hf : ∃ vs, oe.data = .fields vs) :
    CallR (X.suite a ((a, oe) :: pn)) (.builtin "isinstance") (fun xs H Q => (∀ dd, d = some dd → ∃ vs, H dd = some (.xd vs)) ∧ rIsE X.K D a xs H Q) := by
  rintro pins s σ H xs us Q I r ⟨hdd, c, cv, b, rfl, hcv, e, q⟩
  cases r with
  | cons rx rr =>
    cases rr with
    | cons rt rr =>
      cases rr
      cases rx
      have ec := hcv _ rt
      subst ec
      obtain ⟨hget, _⟩ := I.pin (a, oe) (List.mem_append.mpr (.inl List.mem_cons_self))
      obtain ⟨vs, hv⟩ := hf
      have inst : ∃ od, InstAt s.heap a oe D od := by
        obtain ⟨oc, odd, oda, osl⟩ := oe
        obtain ⟨h1, h2⟩ := hz
        dsimp only at h1 h2 hv
        subst h1 h2 hv
        cases odd with
        | none => exact ⟨none, hget, rfl, rfl, trivial⟩
        | some dd =>
          obtain ⟨ws, hw⟩ := hdd dd rfl
          obtain ⟨mA, ⟨o, es, ep, ho, _⟩, _⟩ := I.hok dd _ hw
          exact ⟨some o, hget, rfl, rfl, ho⟩
      exact kia_one (kitx_any C) I.kIn inst e (fun z => nomatch z) fun tk => ⟨.bl b, H, I.kept (t' := tk) fun _ _ z => z, rfl, q⟩
end Xs
namespace Pd
open PySem PySem.Spec L2 SkE
open PyProof.Rows hiding St
/-- raise c(e), c with an own __init__ that stores its argument in the field fl -/
def gRaiseF (c fl : Str) (f : SF) : SG := fun ρ S => ev (f ρ S) ρ fun d S1 => some (.er ⟨c, [(fl, d)]⟩ ρ, S1)
/-- the class and its __init__ -/
structure Xki (P : Program) (w : World) (K : PySem.W.Frag) (mg : Str → Option Value) (base : Heap) (k : Nat) (c fl : Str) : Prop where
  ex : ∃ (D fI : Addr) (fd : FuncData) (ps : List Str), mg c = some (.ref D) ∧ Xs.XiC K D fl ∧ PySem.W.findIn K (.ref D) "__init__" = some (some (.ref fI)) ∧ PySem.W.typeIn K (.ref fI) = some (.type "function") ∧ Binds K fd ps [] ∧ FnOk P w K mg base (L2.CX P w) k fI fd ps (Xs.spXi D fl)
section
variable {X : Cx} {W : WX} {e : Expr} {f : SF} {pos p p2 p1 : Pos} {c fl n : Str} {k : Nat}
theorem sg_raiseF (tk : Takes X W) (hc : X.calm = true) (F : Xki X.prog X.w X.K X.mg X.base k c fl) (hr : Room (k + 1) X.A) (he : PE X e (tM X.K X.mg W f)) (hg : Gl X c := by rfl) (hs : starEach [e] X.env = (false, eval e X.env) :: starEach [] X.env := by rfl) (hdb : (c == ("__debug__" : Str)) = false := by decide) :
    PS X (.Raise (some (.Call (.Name c p) [e] [] p2)) none pos) (tG X.K X.mg W (gRaiseF c fl f)) := by
  obtain ⟨D, fI, fd, ps, m, T, f1, f2, hb, F1⟩ := F.ex
  have hx : Passes (L2.CX X.prog X.w) X (fun _ _ _ => False) := fun pins σ H s e s' _ z => by
    obtain ⟨_, _, _, _, _, _, _, _, _, _, _, _, z⟩ := z
    exact z.elim
  refine ps_imp (ps_raise hc tk (pmk_oex T.oex f1 f2 F1 hr hb .nil hx hg m (s_cons he s_nil hs) hdb hs rfl)) fun Dn σ H ⟨μ, Hs, ρ, S, fl', S1, s, env, e, k⟩ => ?_
  obtain ⟨q, S2, e1, P1⟩ := aft_bind env e k
  cases q with
  | er x =>
    refine ⟨μ, Hs, ρ, S, .er x, S2, s, env, ?_, P1⟩
    show sb (f ρ S) _ = _
    rw [e1]
    rfl
  | ok d =>
    refine ⟨μ, Hs, ρ, S, .ok [d], S2, s, env, ?_, fun μ1 Hs1 H1 g1 s1 vs rv => ?_⟩
    · show sb (f ρ S) _ = _
      rw [e1]
      rfl
    obtain ⟨_, _, env1, e2, k2⟩ := P1 μ1 Hs1 H1 g1 s1
    cases e2
    cases rv with
    | @cons v vs _ _ rp rt =>
      cases rt
      refine ⟨by show 1 ≤ 1000; decide, fun a hn => ⟨a, v, rfl, upd_same, fun dx hdx hne => ⟨rfl, dx, [(fl, v)], upd_same, (upd_ne hne).trans upd_same, ?_, ?_⟩⟩⟩
      · rw [upd_ne hne] at hdx
        exact hdx
      · rw [upd_ne hne] at hdx
        have eH : upd (del (upd (upd (upd H1 a (exo a D none)) dx (exd dx [(fl, v)])) a (exo a D (some dx))) a) dx (.xd [(fl, v)]) = upd H1 dx (.xd [(fl, v)]) := by
          funext b
          by_cases hb : b = dx
          · rw [hb, upd_same, upd_same]
          · rw [upd_ne hb, upd_ne hb]
            by_cases ha : b = a
            · rw [ha, del_same, hn]
            · rw [del_ne ha, upd_ne ha, upd_ne hb, upd_ne ha]
        rw [eH]
        have sm : Same H1 (upd H1 dx (.xd [(fl, v)])) := fun b u hb => by
          rw [upd_ne (fun z => by subst z; rw [hdx] at hb; cases hb)]
          exact hb
        exact k2 σ μ1 Hs1 _ _ _ (Gr.refl _ _) (s1.side sm) env1 ⟨D, m, rfl, .inr ⟨dx, [(fl, v)], by simp, rfl, upd_same, s1.sub.free hdx, .cons ⟨rfl, rp⟩ .nil⟩⟩
/-- the field of a caught error, of a class of these -/
def mXf2 (i : Nat) (fl : Str) (cs : List Str) (x : Exn) (a : Addr) (d : Option Addr) : SF := fun ρ S => if x.cls ∈ cs then mXfl i fl a d ρ S else none
theorem s_xf2 (i : Nat) {a C : Addr} {oe : Obj} {d : Option Addr} {pn : List (Addr × Obj)} {cs : List Str} {xx : Exn} {fn : Str} (M : Xfl X.K X.mg fn cs) (hz : Zc (.ref C) d oe) (hf : ∃ vs, oe.data = .fields vs) (hx : X.mg xx.cls = some (.ref C))
    (hi : X.N[i]? = some n := by rfl) (hv : Vis X.env.scope n := by first | exact .inl rfl | exact .inr (.inl rfl) | exact .inr (.inr rfl)) (hd : (n == ("__debug__" : Str)) = false := by decide) (hcd : (n == ("__classdict__" : Str)) = false := by decide) (hb : attributeBase (.Name n p1) fn X.env (eval (.Name n p1) X.env) = eval (.Name n p1) X.env := by rfl) :
    PE (X.suite a ((a, oe) :: pn)) (.Attribute (.Name n p1) fn pos) (tM X.K X.mg W (mXf2 i fn cs xx a d)) := by
  by_cases h : xx.cls ∈ cs
  · have e : mXf2 i fn cs xx a d = mXfl i fn a d := by
      funext ρ S
      exact if_pos h
    rw [e]
    exact s_xfl i M h hz hf hx hi hv hd hcd hb
  · refine ⟨fun pins s σ H Q I ⟨μ, Hs, ρ, S, r, S1, s, env, e, P⟩ => ?_⟩
    have e' : (if xx.cls ∈ cs then mXfl i fn a d ρ S else none) = some (r, S1) := e
    rw [if_neg h] at e'
    cases e'
/-- isinstance of a caught error -/
def mXi2 (i : Nat) (tab : Str → Option Bool) (x : Exn) (a : Addr) (d : Option Addr) : SF := fun ρ S => match ρ[i]? with
  | some (.exc a' d' fs) => if a' = a ∧ d' = d ∧ fs.isEmpty = x.fs.isEmpty then b1 (tab x.cls) fun b => some (.ok (.bool b), S) else none
  | _ => none
theorem s_isE2 (i : Nat) {a C : Addr} {oe : Obj} {d : Option Addr} {pn : List (Addr × Obj)} {tab : Str → Option Bool} {xx : Exn} (M : Xi X.K X.mg c tab) (hz : Zc (.ref C) d oe) (hf : ∃ vs, oe.data = .fields vs) (hx : X.mg xx.cls = some (.ref C)) (hxd : (xx.fs = [] ∧ d = none) ∨ (xx.fs ≠ [] ∧ d.isSome = true))
    (hm : X.mg "isinstance" = none) (hi : X.N[i]? = some n := by rfl) (hv : Vis X.env.scope n := by first | exact .inl rfl | exact .inr (.inl rfl) | exact .inr (.inr rfl)) (hg : Gl X "isinstance" := by rfl) (hg2 : Gl X c := by rfl) (hd : (n == ("__debug__" : Str)) = false := by decide) (hcd : (n == ("__classdict__" : Str)) = false := by decide) (hdc : (c == ("__debug__" : Str)) = false := by decide)
    (h1 : starEach [.Name n p1, .Name c p2] X.env = (false, eval (.Name n p1) X.env) :: starEach [.Name c p2] X.env := by rfl) (h2 : starEach [.Name c p2] X.env = (false, eval (.Name c p2) X.env) :: starEach [] X.env := by rfl) (hpl : (backTo pos (starEach [.Name c p2] X.env)).any (·.1) = false := by rfl) :
    PE (X.suite a ((a, oe) :: pn)) (.Call (.Name "isinstance" p) [.Name n p1, .Name c p2] [] pos) (tM X.K X.mg W (mXi2 i tab xx a d)) := by
  obtain ⟨D, m1, m2⟩ := M.ex
  cases ht : tab xx.cls with
  | none =>
    refine ⟨fun pins s σ H Q I ⟨μ, Hs, ρ, S, r, S1, s, env, e, P⟩ => ?_⟩
    exfalso
    unfold mXi2 at e
    rw [ht] at e
    split at e
    · obtain ⟨_, h⟩ := ite_opt e
      cases h
    · cases e
  | some b =>
    obtain ⟨k1, k2⟩ := m2 _ _ ht C hx
    refine pe_imp (pe_callB (X := X.suite a ((a, oe) :: pn)) (Xs.call_isE2 k1 hz hf) hg hm (by decide +kernel) (pa_cons (pe_var (X := X.suite a ((a, oe) :: pn)) (i := i) hi hv hd hcd) (pa_cons (pe_glob (X := X.suite a ((a, oe) :: pn)) (v := .ref D) hg2 m1 rfl hdc) pa_nil h2) h1) (by decide) (by decide) h1 hpl) fun σ H Q ⟨μ, Hs, ρ, S, r, S1, s, env, e, P⟩ => ?_
    unfold mXi2 at e
    rw [ht] at e
    split at e
    · rename_i a' d' fs' hq
      obtain ⟨⟨rfl, rfl, hfs⟩, h⟩ := ite_opt e
      cases h
      obtain ⟨ov, q1, q2⟩ := paired_get env hq
      obtain ⟨rfl, q3⟩ := q2
      refine ⟨_, q1, fun dd hdd => ?_, .ref D, .ref D, b, rfl, fun u hu => hu, k2, P μ Hs H (Gr.refl _ _) s _ (.bool _)⟩
      rcases q3 with rfl | ⟨d2, vs, e2, e3, _⟩
      · rcases hxd with ⟨_, z⟩ | ⟨z, _⟩
        · rw [z] at hdd; cases hdd
        · exact absurd (List.isEmpty_iff.mp (by rw [← hfs]; rfl)) z
      · rw [e2] at hdd
        cases hdd
        exact ⟨vs, s.sub _ _ e3⟩
    · cases e
end
/-! what they are worth -/
section
variable {Q : D → Store → Prop} {E : Exn → Store → Prop} {QG : Fx → Store → Prop} {ρ : Rho} {S : Store} {f : SF} {c fl : Str}
theorem vs_raiseF (h : Ev (f ρ S) (fun d S1 => QG (.er ⟨c, [(fl, d)]⟩ ρ) S1) (fun x S1 => QG (.er x ρ) S1)) : EG (gRaiseF c fl f ρ S) QG := eg_ev h
theorem v_xi2 {i : Nat} {tab : Str → Option Bool} {x : Exn} {a a' : Addr} {d d' : Option Addr} {fs' : List (Str × D)} {b : Bool} (h1 : ρ[i]? = some (.exc a' d' fs')) (h2 : a' = a) (h3 : d' = d) (h5 : fs'.isEmpty = x.fs.isEmpty) (h4 : tab x.cls = some b) : mXi2 i tab x a d ρ S = some (.ok (.bool b), S) := by
  unfold mXi2
  rw [h1]
  show (if a' = a ∧ d' = d ∧ fs'.isEmpty = x.fs.isEmpty then b1 (tab x.cls) _ else none) = _
  rw [if_pos ⟨h2, h3, h5⟩, h4]
  rfl
theorem v_xf2 {i : Nat} {cs : List Str} {x : Exn} {a a' : Addr} {d d' : Option Addr} {fs' : List (Str × D)} {v : D} (h0 : x.cls ∈ cs) (h1 : ρ[i]? = some (.exc a' d' fs')) (h2 : a' = a) (h3 : d' = d) (h4 : fs'.lookup fl = some v) : mXf2 i fl cs x a d ρ S = some (.ok v, S) := by
  unfold mXf2
  rw [if_pos h0]
  unfold mXfl
  rw [h1]
  show (if a' = a ∧ d' = d then b1 (fs'.lookup fl) _ else none) = _
  rw [if_pos ⟨h2, h3⟩, h4]
  rfl
theorem ev_of {α : Type} {m : Option (Res α × Store)} {d : α} {S : Store} {Q : α → Store → Prop} {E : Exn → Store → Prop} (e : m = some (.ok d, S)) (q : Q d S) : Ev m Q E := by rw [e]; exact q
theorem ev_eq {α : Type} {m : Option (Res α × Store)} {a : α} {S : Store} (h : Ev m (fun d S1 => d = a ∧ S1 = S) (fun _ _ => False)) : m = some (.ok a, S) := by
  cases m with
  | none => exact h.elim
  | some p =>
    obtain ⟨r, S1⟩ := p
    cases r with
    | ok d => obtain ⟨e1, e2⟩ := (h : d = a ∧ S1 = S); rw [e1, e2]
    | er x => exact (h : False).elim
end
theorem xfl_nil {K : PySem.W.Frag} {mg : Str → Option Value} {f : Str} : Xfl K mg f [] := ⟨fun x h => by simp at h⟩
theorem xfl_cons {K : PySem.W.Frag} {mg : Str → Option Value} {f x : Str} {l : List Str} {C : Addr} (M : Xfl K mg f l) (hm : mg x = some (.ref C)) (h : XfC K C) (h2 : PySem.W.findIn K (.ref C) f = some none) : Xfl K mg f (x :: l) := ⟨fun y hy D hD => by
  rcases List.mem_cons.mp hy with rfl | hy
  · rw [hm] at hD
    cases hD
    exact ⟨h, h2⟩
  · exact M.ex y hy D hD⟩
end Pd

/-! Xs2: a list's cell made by a comprehension, an item of a list's cell stored, a text's method over a cell. -/
namespace Pd
open PySem PySem.Spec L2 SkE
open PyProof.Rows hiding St
theorem RpA.set {K : PySem.W.Frag} {μ : List Addr} {H : Hp} {v : V} {d : D} (r : Rp K μ H v d) : ∀ {vs : List V} {ds : List D} (j : Nat), RpA K μ H vs ds → RpA K μ H (vs.set j v) (ds.set j d)
  | _, _, _, .nil => .nil
  | _, _, 0, .cons _ t => .cons r t
  | _, _, j + 1, .cons h t => .cons h (RpA.set r j t)
/-- a list is made, outside the part that is only read -/
def tDC (K : PySem.W.Frag) (f : F) : TE := fun σ H Q => ∃ (μ : List Addr) (Hs : Hp) (ρ : Rho) (d : D), Same Hs H ∧ VEnv K μ Hs σ ρ ∧ f ρ = some d ∧
  ∀ (D0 : Addr) (acc : List V) (H' Hs' : Hp) (ds : List D), d = .lst ds → Ext Hs H Hs' H' → H D0 = none → Hs' D0 = none → H' D0 = some (.lst acc) → RpA K μ Hs' acc ds → Q (.ref D0) H'
theorem lc_readC {K : PySem.W.Frag} {fi : Fs} {wi : TI} {g : TG} {tt : TT} {te : TE} {set : D → Rho → Option Rho} {ft : Ft} {fe : F} {vs : List Nat} (hi : ∀ σ H R, tDI K fi σ H R → wi σ H R) (hg : TgD K g set vs) (ht : ∀ σ H Q, tDT K ft σ H Q → tt σ H Q) (he : ∀ σ H Q, tD K fe σ H Q → te σ H Q) :
    ∀ σ H Q, tDC K (fLc fi set ft fe vs) σ H Q → tLc wi g tt te vs σ H Q := by
  rintro σ H Q ⟨μ, Hs, ρ, d, s, env, e, k⟩
  obtain ⟨ds, e1, e2⟩ := b1_eq e
  have e2' : (if ds.length ≤ 1000000 then b1 (lcGo set ft fe (wipeR ρ vs) ds) fun ys => some (D.lst ys) else none) = some d := e2
  by_cases hz : ds.length ≤ 1000000
  · rw [if_pos hz] at e2'
    obtain ⟨ys, e3, e4⟩ := b1_eq e2'
    cases e4
    refine hi _ _ _ ⟨μ, Hs, ρ, ds, s, env, e1, fun J H1 Hs1 x1 wk D0 hD => ?_⟩
    have hDs : Hs1 D0 = none := x1.sub.free hD
    refine ⟨fun i m H2 => m = ds.length - i ∧ i ≤ ds.length ∧ ∃ Hs2 acc accD rest, Same Hs1 Hs2 ∧ Same Hs2 H2 ∧ Same H1 H2 ∧ (∀ a o, Hs2 a = some o → Hs1 a = some o ∨ H1 a = none) ∧ Hs2 D0 = none ∧ H2 D0 = some (.lst acc) ∧ RpA K μ Hs2 acc accD ∧ acc.length ≤ i ∧
      lcGo set ft fe (wipeR ρ vs) (ds.drop i) = some rest ∧ accD ++ rest = ys, ⟨_, rfl, Nat.zero_le _, Hs1, [], [], ys, Same.refl _, x1.sub.trans (Ext.made (Same.refl H1) hD).all, (Ext.made (Same.refl H1) hD).all, fun _ _ h => .inl h, hDs, upd_same, .nil, Nat.zero_le _, by simpa using e3, rfl⟩, ?_⟩
    rintro i m H2 ⟨rfl, hi2, Hs2, acc, accD, rest, s1, s2, s3, nw, d2, d1, ra, hl, eg, ea⟩
    by_cases hlt : i < ds.length
    · obtain ⟨d0, hd0⟩ : ∃ d0, ds[i]? = some d0 := ⟨ds[i], by simp [hlt]⟩
      have hdrop : ds.drop i = d0 :: ds.drop (i + 1) := by
        rw [List.drop_eq_getElem_cons hlt]
        rw [List.getElem?_eq_getElem hlt] at hd0
        cases hd0
        rfl
      rw [hdrop] at eg
      obtain ⟨ρ', g1, g2⟩ := b1_eq eg
      obtain ⟨b, g3, g4⟩ := b1_eq g2
      refine .inr ⟨wk.go i H2 (s1.trans s2) hlt, fun H3 => ∃ Hs2 acc accD rest, Same Hs1 Hs2 ∧ Same Hs2 H3 ∧ Same H1 H3 ∧ (∀ a o, Hs2 a = some o → Hs1 a = some o ∨ H1 a = none) ∧ Hs2 D0 = none ∧ H3 D0 = some (.lst acc) ∧ RpA K μ Hs2 acc accD ∧ acc.length ≤ i + 1 ∧
        lcGo set ft fe (wipeR ρ vs) (ds.drop (i + 1)) = some rest ∧ accD ++ rest = ys, fun H' hN => ⟨_, by omega, rfl, hlt, hN⟩, fun x H3 hy => ?_⟩
      obtain ⟨Hs3, x3, r3⟩ := wk.yld i H2 Hs2 x H3 s1 s2 hy d0 hd0
      have envw := wipe_env (env.mono (x1.part.trans (s1.trans x3.part))) vs
      have d3 : H3 D0 = some (.lst acc) := x3.all _ _ d1
      have ds3 : Hs3 D0 = none := by
        cases q : Hs3 D0 with
        | none => rfl
        | some o =>
          rcases x3.new _ _ q with h | h
          · rw [d2] at h; cases h
          · rw [d1] at h; cases h
      have nw3 : ∀ a o, Hs3 a = some o → Hs1 a = some o ∨ H1 a = none := fun a o h => by
        rcases x3.new a o h with h1 | h1
        · exact nw a o h1
        · exact .inr (s3.free h1)
      refine hg.run _ Hs3 H3 _ _ d0 ρ' x _ x3.sub envw g1 r3 fun σ' env' hlen hkeep => ⟨by rw [wipe_congr hlen hkeep]; exact wipe_idem _ _, ?_⟩
      refine ht _ _ _ ⟨μ, Hs3, ρ', b, x3.sub, env', g3, fun H4 s4 => ?_⟩
      cases b with
      | true =>
        rw [if_pos rfl] at g4
        obtain ⟨y, g5, g6⟩ := b1_eq g4
        obtain ⟨ys', g7, g8⟩ := b1_eq g6
        cases g8
        refine iteT (he _ _ _ ⟨μ, Hs3, ρ', y, x3.sub.trans s4, env', g5, fun v H5 Hs5 x5 r5 => ?_⟩)
        have d5 : H5 D0 = some (.lst acc) := x5.all _ _ (s4 _ _ d3)
        have ds5 : Hs5 D0 = none := by
          cases q : Hs5 D0 with
          | none => rfl
          | some o =>
            rcases x5.new _ _ q with h | h
            · rw [ds3] at h; cases h
            · rw [s4 _ _ d3] at h; cases h
        have nosub : ∀ (A B : Hp) (o' : HO), A D0 = none → Same A B → Same A (upd B D0 o') := fun A B o' hA hs b u hb => by
          rw [upd_ne (fun z => by subst z; rw [hA] at hb; cases hb)]
          exact hs b u hb
        refine ⟨acc, d5, by rw [sizeLine_eq]; omega, Hs5, acc ++ [v], accD ++ [y], ys', s1.trans (x3.part.trans x5.part), nosub _ _ _ ds5 x5.sub, nosub _ _ _ hD (s3.trans (x3.all.trans (s4.trans x5.all))), fun a o h => ?_, ds5, upd_same, (ra.mono (x3.part.trans x5.part)).snoc r5, by simp only [List.length_append, List.length_singleton]; omega, g7, by rw [← ea]; simp⟩
        rcases x5.new a o h with h1 | h1
        · exact nw3 a o h1
        · exact .inr ((s3.trans (x3.all.trans s4)).free h1)
      | false =>
        rw [if_neg Bool.false_ne_true] at g4
        exact iteF ⟨Hs3, acc, accD, rest, s1.trans x3.part, x3.sub.trans s4, s3.trans (x3.all.trans s4), nw3, ds3, s4 _ _ d3, ra.mono x3.part, by omega, g4, ea⟩
    · have e5 : i = ds.length := by omega
      subst e5
      rw [List.drop_length] at eg
      cases eg
      rw [List.append_nil] at ea
      subst ea
      refine .inl ⟨wk.stop _ H2 (s1.trans s2) (Nat.le_refl _), ?_⟩
      refine k D0 acc H2 Hs2 accD rfl ⟨x1.all.trans s3, x1.part.trans s1, s2, fun a o h => ?_⟩ (x1.all.free hD) d2 d1 ra
      rcases nw a o h with h1 | h1
      · exact x1.new a o h1
      · exact .inr (x1.all.free h1)
  · rw [if_neg hz] at e2'
    cases e2'
theorem imp_join {K : PySem.W.Frag} : ImpM K "str" (fun x xs H Q => ∃ a p, ∃ ys : List Str, x = .str a ∧ xs = [.ref p] ∧ (SqL K H p (ys.map V.str) ∨ SqT K H p (ys.map V.str)) ∧ (ys.map (·.length)).sum + ys.length * a.length ≤ 16777216 ∧ Q (.str (Txt.join a ys)) H) gJoin := fun μ H Hs x xs d ds o Q s rx rs gg k => by
    cases rx with
    | str a =>
      match ds, rs, gg with
      | [d], rs, gg =>
        obtain ⟨v, rfl, rv⟩ := rpa1 rs
        cases rv with
        | lst h1 h2 =>
          obtain ⟨ys, q1, q2⟩ := b1_eq gg
          obtain ⟨hz, rfl⟩ := ite_some q2
          rw [strs_rp h2 q1] at h1
          exact ⟨a, _, ys, rfl, rfl, .inl (SqL.of (s _ _ h1)), hz, k _ _ _ (Ext.refl s) (.str _)⟩
        | tup h1 h2 =>
          obtain ⟨ys, q1, q2⟩ := b1_eq gg
          obtain ⟨hz, rfl⟩ := ite_some q2
          rw [strs_rp h2 q1] at h1
          exact ⟨a, _, ys, rfl, rfl, .inr (sqT_mono s h1), hz, k _ _ _ (Ext.refl s) (.str _)⟩
        | _ => exact nomatch gg
      | [], _, gg => exact nomatch gg
      | .lst _ :: _ :: _, _, gg => exact nomatch gg
      | .tup _ :: _ :: _, _, gg => exact nomatch gg
      | .non :: _ :: _, _, gg => exact nomatch gg
      | .bool _ :: _ :: _, _, gg => exact nomatch gg
      | .int _ :: _ :: _, _, gg => exact nomatch gg
      | .str _ :: _ :: _, _, gg => exact nomatch gg
      | .scr _ :: _ :: _, _, gg => exact nomatch gg
      | .loc _ :: _ :: _, _, gg => exact nomatch gg
    | _ => exact nomatch gg
/-- without the object at a -/
def dropH (H : Hp) (a : Addr) : Hp := fun b => if b = a then none else H b
theorem dropH_upd {H : Hp} {a : Addr} {o : HO} (h : H a = some o) : upd (dropH H a) a o = H := by
  funext b
  by_cases hb : b = a
  · rw [hb, upd_same, h]
  · rw [upd_ne hb]
    exact if_neg hb
/-- the made list is a new cell -/
theorem Sim.made {K : PySem.W.Frag} {mg : Str → Option Value} {μ : List Addr} {Hs H Hs' H' : Hp} {S : Store} {D0 : Addr} {acc : List V} {ds : List D} (s : Sim K mg μ Hs H S) (x : Ext Hs H Hs' H') (h0 : H D0 = none) (h1 : Hs' D0 = none) (h2 : H' D0 = some (.lst acc)) (r : RpA K μ Hs' acc ds) :
    Sim K mg (μ ++ [D0]) Hs' H' (S ++ [.lst ds]) ∧ Gr μ Hs (μ ++ [D0]) Hs' := by
  have s1 := s.ext x
  have s2 : Sim K mg μ Hs' (dropH H' D0) S := by
    refine ⟨fun b u hb => ?_, s1.len, s1.nd, fun n a c q1 q2 => ?_⟩
    · have hb0 : b ≠ D0 := fun z => by rw [z, h1] at hb; cases hb
      exact (if_neg hb0).trans (s1.sub b u hb)
    · obtain ⟨k1, k2⟩ := s1.cell n a c q1 q2
      obtain ⟨c0, _, k3, _⟩ := s.at q1
      obtain ⟨o, k4, _⟩ := k3.some
      have ha : a ≠ D0 := fun z => by rw [z, h0] at k4; cases k4
      exact ⟨k1.move (Gr.refl _ _) fun o h => (if_neg ha).trans h, k2⟩
  have al := s2.alloc (p := D0) (c := .lst ds) (o := .lst acc) (if_pos rfl) ⟨acc, upd_same, r.gr ⟨⟨[D0], rfl⟩, Same.refl _⟩⟩
  rw [dropH_upd h2] at al
  exact ⟨al.1, ⟨⟨[D0], rfl⟩, x.part⟩⟩
/-- the value of f, a new list's cell -/
def mCell (f : F) : SF := fun ρ S => match f ρ with
  | some (.lst ds) => some (.ok (.loc S.length), S ++ [.lst ds])
  | _ => none
theorem tM_C {K : PySem.W.Frag} {mg : Str → Option Value} {W : WX} {f : F} : ∀ σ H Q, tM K mg W (mCell f) σ H Q → tDC K f σ H Q := by
  rintro σ H Q ⟨μ, Hs, ρ, S, r, S1, s, env, e, P⟩
  have e' : (match f ρ with | some (.lst ds) => some (Res.ok (D.loc S.length), S ++ [Cell.lst ds]) | _ => none) = some (r, S1) := e
  cases q : f ρ with
  | none => rw [q] at e'; cases e'
  | some d =>
    rw [q] at e'
    cases d with
    | lst ds =>
      cases e'
      refine ⟨μ, Hs, ρ, .lst ds, s.sub, env, q, fun D0 acc H' Hs' ds' ed x h0 h1 h2 r => ?_⟩
      cases ed
      obtain ⟨s3, g3⟩ := s.made x h0 h1 h2 r
      exact P _ _ _ g3 s3 _ (loc_new s.len)
    | _ => cases e'
section
variable {X : Cx} {W : WX} {tg e o elt iter : Expr} {ifs : List Expr} {fi : Fs} {fe : F} {ft : Ft} {pos spos cpos apos : Pos}
/-- x = [.. for ..] on one line, a new cell -/
theorem sg_asgLcC (i : Nat) {y : Str} {py : Pos} {scope : Scope} {own : List (Str × Nat)} {g : TG} {set : D → Rho → Option Rho} {tt : TT} (hc : X.calm = true) (hN : X.N.Nodup) (hi : PI X tg iter (tDI X.K fi)) (ok : BlkOk X.N X.env.scope scope own) (hg : TgD X.K g set (own.map (·.2)))
    (hpg : ∀ (s : Shared) (H : Hp) (C : Addr) (cl : List (Str × Addr)) (fp : List Addr), PG (X.blk s H scope (compEnvC scope cl C X.env) fp) tg g)
    (ht : ∀ σ H Q, tDT X.K ft σ H Q → tt σ H Q) (hpt : ∀ (s : Shared) (H : Hp) (C : Addr) (cl : List (Str × Addr)) (fp : List Addr), PTs (X.blk s H scope (compEnvC scope cl C X.env) fp) ifs tt)
    (hpe : ∀ (s : Shared) (H : Hp) (C : Addr) (cl : List (Str × Addr)) (fp : List Addr), PE (X.blk s H scope (compEnvC scope cl C X.env) fp) elt (tD X.K fe)) (hs : ∀ x, foldedSetIterable iter X.env x = pure x := by intro _; rfl)
    (hy : X.N[i]? = some y := by rfl) (hyl : X.env.scope.names.lookup y = some .local := by rfl) (hsw : swapsWith (.ListComp elt [⟨tg, iter, ifs, 0⟩] scope pos) (some (.Name y py)) spos.line X.env = pure true := by exact sw_true rfl rfl rfl (by decide +kernel)) :
    PS X (.Assign [.Name y py] (.ListComp elt [⟨tg, iter, ifs, 0⟩] scope pos) spos) (tG X.K X.mg W (gAsg (st1 i) (mCell (fLc fi set ft fe (own.map (·.2)))))) := by
  refine ps_imp (ps_setLc (own := own) (g := g) (tt := tt) hc hN hy hyl hsw hi ok hpg hpt hpe hs) fun Dn σ H ⟨μ, Hs, ρ, S, fl, S1, s, env, e, k⟩ => ?_
  obtain ⟨q, S2, e1, P1⟩ := aft_bind env e k
  refine lc_readC (fun _ _ _ h => h) hg ht (fun _ _ _ h => h) _ _ _ (tM_C (mg := X.mg) (W := W) _ _ _ ⟨μ, Hs, ρ, S, q, S2, s, env, e1, P1.imp fun d μ1 Hs1 H1 g1 s1 ⟨_, _, env1, e2, k2⟩ v rv => ?_⟩)
  cases e2
  exact k2 (σ.set i (some v)) μ1 Hs1 H1 (Gr.refl _ _) s1 (paired_set ⟨v, rfl, rv⟩ i env1)
theorem s_lcC {scope : Scope} {own : List (Str × Nat)} {g : TG} {set : D → Rho → Option Rho} {tt : TT} (hc : X.calm = true) (hN : X.N.Nodup) (hi : PI X tg iter (tDI X.K fi)) (ok : BlkOk X.N X.env.scope scope own) (hg : TgD X.K g set (own.map (·.2)))
    (hpg : ∀ (s : Shared) (H : Hp) (C : Addr) (cl : List (Str × Addr)) (fp : List Addr), PG (X.blk s H scope (compEnvC scope cl C X.env) fp) tg g)
    (ht : ∀ σ H Q, tDT X.K ft σ H Q → tt σ H Q) (hpt : ∀ (s : Shared) (H : Hp) (C : Addr) (cl : List (Str × Addr)) (fp : List Addr), PTs (X.blk s H scope (compEnvC scope cl C X.env) fp) ifs tt)
    (hpe : ∀ (s : Shared) (H : Hp) (C : Addr) (cl : List (Str × Addr)) (fp : List Addr), PE (X.blk s H scope (compEnvC scope cl C X.env) fp) elt (tD X.K fe)) (hs : ∀ x, foldedSetIterable iter X.env x = pure x := by intro _; rfl) :
    PE X (.ListComp elt [⟨tg, iter, ifs, 0⟩] scope pos) (tM X.K X.mg W (mCell (fLc fi set ft fe (own.map (·.2))))) :=
  pe_imp (pe_lc (own := own) (g := g) (tt := tt) hc hN hi ok hpg hpt hpe hs) fun σ H Q h => lc_readC (fun _ _ _ h => h) hg ht (fun _ _ _ h => h) _ _ _ (tM_C _ _ _ h)
/-- a text's method over the store -/
def isStr : D → Bool
  | .str _ => true
  | _ => false
def mMS (G : D → List D → Option D) (f : SF) (fs : SFs) : SF := fun ρ S => sb (f ρ S) fun d S1 => if isStr d = true then sb (fs ρ S1) fun ds S2 => b1 (G d (ds.map (view S2))) fun o => if o.sca = true then some (.ok o, S2) else none else none
theorem s_mS {id : String} {name : Str} {r : V → List V → Hp → VK → Prop} {G : D → List D → Option D} {f : SF} {fs : SFs} {es : List Expr} (slot : Slot "str" name id) (hty : typeOf (.builtin id) = pure (.type "method_descriptor")) (hm : MtR X id r) (hG : ImpM X.K "str" r G)
    (ho : PE X o (tM X.K X.mg W f)) (ha : PA X (e :: es) (tMs X.K X.mg W fs)) (hbase : attributeBase o name X.env (eval o X.env) = eval o X.env := by rfl)
    (hfew : ((backTo cpos (starEach (e :: es) X.env)).all (fun x => !x.1) && (backToKw cpos (keywordEach [] X.env)).all (fun x => x.1.isSome)
      && decide ((e :: es).length + ([] : List Keyword).length + (if ([] : List Keyword).isEmpty then 0 else 1) < 30)) = true := by rfl)
    (hline : (apos.endLine == cpos.line) = true := by rfl) (hs : starEach (e :: es) X.env = (false, eval e X.env) :: starEach es X.env := by rfl) (hplain : (backTo cpos (starEach es X.env)).any (·.1) = false := by rfl) :
    PE X (.Call (.Attribute o name apos) (e :: es) [] cpos) (tM X.K X.mg W (mMS G f fs)) := by
  refine pe_imp (pe_bm PySem.F.plainAttrs_str slot hty hm ho ha hbase hfew hline hs hplain) fun σ H Q ⟨μ, Hs, ρ, S, r, S1, s, env, e, P⟩ => ?_
  obtain ⟨q, S2, e1, P1⟩ := post_bind e P
  refine ⟨μ, Hs, ρ, S, q, S2, s, env, e1, P1.imp fun d μ1 Hs1 H1 g1 s1 ⟨_, _, e2, P2⟩ v rv => ?_⟩
  obtain ⟨hst, e2⟩ := ite_opt e2
  have td : TyD "str" d := by cases d with
    | str _ => rfl
    | _ => cases hst
  obtain ⟨q2, S3, e3, P3⟩ := post_bind e2 P2
  refine ⟨(rv.mono s1.sub).ty td, μ1, Hs1, ρ, S2, q2, S3, s1, env.gr g1, e3, P3.imp fun ds μ2 Hs2 H2 g2 s2 ⟨_, _, e4, P4⟩ vs rvs => ?_⟩
  obtain ⟨o, e5, e6⟩ := b1_eq e4
  obtain ⟨hsc, h2⟩ := ite_some e6
  cases h2
  exact hG μ2 H2 H2 v vs _ _ o Q (Same.refl _) ((rv.gr g2).mono s2.sub) (view_rpa s2 rvs) e5 fun v' H' Hs' x rr => P4 μ2 Hs2 H' (Gr.refl _ _) (s2.side x.all) v' (sca_any rr hsc)
theorem s_join {f g : SF} (ho : PE X o (tM X.K X.mg W f)) (ha : PE X e (tM X.K X.mg W g)) (hbase : attributeBase o "join" X.env (eval o X.env) = eval o X.env := by rfl)
    (hfew : ((backTo cpos (starEach [e] X.env)).all (fun x => !x.1) && (backToKw cpos (keywordEach [] X.env)).all (fun x => x.1.isSome) && decide ([e].length + ([] : List Keyword).length + (if ([] : List Keyword).isEmpty then 0 else 1) < 30)) = true := by rfl)
    (hline : (apos.endLine == cpos.line) = true := by rfl) (hs : starEach [e] X.env = (false, eval e X.env) :: starEach [] X.env := by rfl) :
    PE X (.Call (.Attribute o "join" apos) [e] [] cpos) (tM X.K X.mg W (mMS gJoin f (mCons g mNil))) :=
  s_mS PySem.F.slot_str_join PySem.F.type_str_join mt_join imp_join ho (s_cons ha s_nil hs) hbase hfew hline hs rfl
/-- o[i] = e, o a list's cell -/
def gSetIx (v o i : SF) : SG := fun ρ S => ev (v ρ S) ρ fun d S1 => ev (o ρ S1) ρ fun e S2 => ev (i ρ S2) ρ fun k S3 => b1 (lsAt S3 e) fun q => match k with
  | .int k => b1 (ixN q.2.length k) fun j => some (.nx ρ, S3.set q.1 (.lst (q.2.set j d)))
  | _ => none
theorem sg_setix {i : Expr} {f g h : SF} {p2 : Pos} (he : PE X e (tM X.K X.mg W f)) (ho : PE X o (tM X.K X.mg W g)) (hi : PE X i (tM X.K X.mg W h)) (hs : swapsWithSole [.Subscript o i p2] e pos.line X.env = pure false := by rfl) (hw : swappedStores [.Subscript o i p2] e X.env = pure none := by rfl)
    (h1 : (assignEach [.Subscript o i p2] X.env).map (·.2) = [assign (.Subscript o i p2) X.env] := by rfl)
    (ha : ∀ v, assign (.Subscript o i p2) X.env v = (do
      let ov ← holding [v] (eval o X.env)
      let iv ← holding [v, ov] (eval i X.env)
      standAt p2
      holding [v, ov, iv] (setItem ov iv v)
      release [v, ov, iv] []) := by intro _; rfl) :
    PS X (.Assign [.Subscript o i p2] e pos) (tG X.K X.mg W (gSetIx f g h)) := by
  refine ps_imp (ps_asg he (pg_sub ho hi set_list ha) hs hw h1) fun Dn σ H ⟨μ, Hs, ρ, S, fl, S1, s, env, e, k⟩ => ?_
  obtain ⟨q, S2, e1, P1⟩ := aft_bind env e k
  refine ⟨μ, Hs, ρ, S, q, S2, s, env, e1, P1.imp fun d μ1 Hs1 H1 g1 s1 ⟨_, _, env1, e2, k2⟩ v rv => ?_⟩
  obtain ⟨q2, S3, e3, P3⟩ := aft_bind env1 e2 k2
  refine ⟨μ1, Hs1, ρ, S2, q2, S3, s1, env1, e3, P3.imp fun d2 μ2 Hs2 H2 g2 s2 ⟨_, _, env2, e4, k4⟩ u ru => ?_⟩
  obtain ⟨q3, S4, e5, P5⟩ := aft_bind env2 e4 k4
  refine ⟨μ2, Hs2, ρ, S3, q3, S4, s2, env2, e5, P5.imp fun d3 μ3 Hs3 H3 g3 s3 ⟨_, _, env3, e6, k6⟩ w rw => ?_⟩
  obtain ⟨⟨n, ds⟩, e7, e8⟩ := b1_eq e6
  obtain ⟨rfl, e9⟩ := lsAt_eq e7
  obtain ⟨a, vs, rfl, j1, j2, j3⟩ := lst_at s3 (ru.gr g3) e9
  cases d3 with
  | int kk =>
    obtain ⟨j, e10, e11⟩ := b1_eq e8
    cases e11
    cases rw
    refine ⟨a, vs, kk, j, rfl, rfl, j2, by rw [j3.len]; exact e10, ?_⟩
    exact k6 σ μ3 Hs3 _ (Gr.refl _ _) (s3.write j1 ⟨_, upd_same, j3.set ((rv.gr g2).gr g3) j⟩) env3
  | _ => cases e8
end
/-! what they are worth -/
section
variable {Q : D → Store → Prop} {E : Exn → Store → Prop} {QG : Fx → Store → Prop} {ρ : Rho} {S : Store} {f g h : SF} {fs : SFs} {fp : F}
theorem v_cell {ds : List D} (e : fp ρ = some (.lst ds)) (q : Q (.loc S.length) (S ++ [.lst ds])) : Ev (mCell fp ρ S) Q E := by
  unfold mCell
  rw [e]
  exact q
theorem v_mS {G : D → List D → Option D} (h : Ev (f ρ S) (fun d S1 => isStr d = true ∧ Ev (fs ρ S1) (fun ds S2 => ∃ o, G d (ds.map (view S2)) = some o ∧ o.sca = true ∧ Q o S2) E) E) : Ev (mMS G f fs ρ S) Q E :=
  ev_sb (h.mono (fun d S1 ⟨h1, h2⟩ => ev_if h1 (ev_sb (h2.mono (fun ds S2 ⟨o, h3, h4, q⟩ => ev_b1 h3 (ev_if h4 q)) fun _ _ e => e))) fun _ _ e => e)
theorem vs_setix (hh : Ev (f ρ S) (fun d S1 => Ev (g ρ S1) (fun e S2 => Ev (h ρ S2) (fun k S3 => ∃ n ds i j, e = .loc n ∧ S3[n]? = some (.lst ds) ∧ k = .int i ∧ ixN ds.length i = some j ∧ QG (.nx ρ) (S3.set n (.lst (ds.set j d)))) (fun x S1 => QG (.er x ρ) S1)) (fun x S1 => QG (.er x ρ) S1)) (fun x S1 => QG (.er x ρ) S1)) : EG (gSetIx f g h ρ S) QG :=
  eg_ev (hh.mono (fun d S1 h2 => eg_ev (h2.mono (fun e S2 h3 => eg_ev (h3.mono (fun k S3 ⟨n, ds, i, j, e1, e2, e3, e4, q⟩ => by
    subst e1 e3
    rw [ls_at e2]
    show EG (b1 (ixN ds.length i) _) QG
    rw [e4]
    exact q) fun _ _ e => e)) fun _ _ e => e)) fun _ _ e => e)
end
/-- a block without free names, in any other -/
def sc0 : Scope := { kind := .function, names := [], isGenerator := false, isCoroutine := false }
theorem blkOk_closed {N : List Str} {sc scope : Scope} {own : List (Str × Nat)} (h : blkC N sc0 scope own = true) : BlkOk N sc scope own := by
  have b := blkOk_by h
  exact ⟨b.kind, b.uniq, b.ix, fun y hy e => by
    rcases b.free y hy e with z | z <;> exact absurd z (by simp [sc0]), b.own⟩
end Pd

namespace Lh
open PySem PySem.Spec L2 SkE Pd
open PyProof.Rows hiding St
def top (i : Nat) : Stmt := PySem.Challenge.pw_letterheld_k12_first_invalid_line_of_a_j.main.body.getD i (.Pass ⟨0, 0, 0, 0⟩)
def cf_line : List Str := ["InvalidLine"]
def mt_InvalidLine : Str → Option Bool := fun x => List.lookup x [("InvalidLine", true)]
def kv_LINES : List (Str × Str) := [("register", "in"), ("give", "ino"), ("got", "ionno"), ("use", "i"), ("recall", "i"), ("notice", "io"), ("receipt", "in"), ("noted", "io"), ("pay", "ion"), ("paid", "in")]
structure Txt (K : PySem.W.Frag) (w : World) (mg : Str → Option Value) : Prop where
  d_LINES : Kt K w mg "LINES" kv_LINES
  b_len : mg "len" = none
  b_int : mg "int" = none
  b_zip : mg "zip" = none
  b_range : mg "range" = none
  b_abs : mg "abs" = none
  b_str : mg "str" = none
  b_tuple : mg "tuple" = none
  c_LETTERS : ∃ t, mg "LETTERS" = some (.str "abcdefghijklmnopqrstuvwxyz" t)
  c_GREATEST : ∃ t, mg "GREATEST" = some (.int 1000000000 t)
  c_DIGITS : ∃ t, mg "DIGITS" = some (.str "0123456789" t)
  m_InvalidLine : Xm K mg "InvalidLine" mt_InvalidLine
  f_line : Xfl K mg "line" cf_line
  yes : True
abbrev s_XInvalidLine : Stmt := inClass (top 2) 0
theorem xi_InvalidLine {P : Program} {w : World} {K : PySem.W.Frag} {mg : Str → Option Value} {base : Heap} {f cc cda D : Addr} {dV kV doc pm ct oc ccl cl : Value} {an od cdd cld : Option Addr} {osl ccs csl : Array (Option Value)} {vs2 : Array Value} {file : Str} {tf : Tok} (T : Xs.XiC K D "line")
    (lk : K.lookup f = some ⟨oc, od, .func (PySem.W.ksFn "__init__" "InvalidLine.__init__" (defArgs s_XInvalidLine) (defBody s_XInvalidLine) (defScope s_XInvalidLine) dV kV doc pm an (.ref cda) ct cc), osl⟩) (hcd : PySem.W.codeIn K (.ref cda) "InvalidLine.__init__" = true) (hcode : K.lookup cda = some ⟨ccl, cdd, .fields vs2, ccs⟩) (hvs : vs2[2]? = some (.str file tf)) (hfile : ((P.main.file : Str) == file) = true)
    (hcell : K.lookup cc = some ⟨cl, cld, .cell (some (.ref D)), csl⟩) (hsuper : mg "super" = none) (htop : (P.main.scope.names.lookup ("super" : Str)).isSome = false) : FnOk P w K mg base (L2.CX P w) 1 f (PySem.W.ksFn "__init__" "InvalidLine.__init__" (defArgs s_XInvalidLine) (defBody s_XInvalidLine) (defScope s_XInvalidLine) dV kV doc pm an (.ref cda) ct cc) ["self", "line"] (Xs.spXi D "line") :=
  Xs.init_ok (k := 0) (msg := "invalid line") (fl := "line") (a0 := "self") (a1 := "line") T hcd rfl rfl hcode hvs hfile hcell hsuper rfl rfl rfl rfl (by decide) rfl (by decide) (by decide) (by decide +kernel) rfl rfl rfl (fun _ => rfl) (fun _ => rfl) lk htop
abbrev s_is_office : Stmt := top 8
abbrev N_is_office : List Str := ["text", "sign"]
abbrev P_is_office : List Str := ["text"]
theorem sc_is_office : FnScope N_is_office P_is_office (defScope s_is_office) := ⟨rfl, rfl, rfl, by decide +kernel, rfl, by decide +kernel, by decide +kernel⟩
def g_is_office : Gs := (seqG (forG (fI itS (fVar 0)) (st1 1) (ifG (ftB (f2 gNotIn (fVar 1) (fC (.str "abcdefghijklmnopqrstuvwxyz")))) (retG (fC (.bool false))) nilG))
  (retG (fChain gLe gLe (fC (.int 1)) (fL gLen (fCons (fVar 0) fNil)) (fC (.int 12)))))
def f_is_office : List D → Option D := dF 1 N_is_office g_is_office
theorem ok_is_office {P : Program} {w : World} {K : PySem.W.Frag} {mg : Str → Option Value} {base : Heap} {f : Addr} {fd : FuncData} (T : Txt K w mg)  (Fn : Fun K "is_office" "is_office" s_is_office f fd) : FnOk P w K mg base CX0 1 f fd P_is_office (spD K f_is_office) := by
  refine okD (g := g_is_office) Fn sc_is_office (fun cdv A outer s H E μ Hs hr => ?_) (fun ds d h => dF_ok (ps := P_is_office) (N := N_is_office) (g := g_is_office) ds d h)
  exact (pg_cons (pg_for (tg_1 1) PassesOwn.never rfl (pdi_str (pd_var 0)) (pg_name (i := 1) sc_is_office.nd rfl (by first | exact .inl rfl | exact .inr rfl)) (pg_one (pg_if (pdt_cmp (op_notInA (hu65 hr)) imp_notIn (pd_var 1) (pd_globS T.c_LETTERS)) (pg_one (pg_ret pd_bool)) pg_nil)) (hv_1 1))
      (pg_one (pg_ret (pd_chain op_leA op_leA imp_ord imp_ord pd_int (pd_callB call_len imp_len T.b_len (pda_cons (pd_var 0) pda_nil)) pd_int))))
abbrev s_number_of : Stmt := top 9
abbrev N_number_of : List Str := ["text", "sign"]
abbrev P_number_of : List Str := ["text"]
theorem sc_number_of : FnScope N_number_of P_number_of (defScope s_number_of) := ⟨rfl, rfl, rfl, by decide +kernel, rfl, by decide +kernel, by decide +kernel⟩
def g_number_of : Gs := (seqG (forG (fI itS (fVar 0)) (st1 1) (ifG (ftB (f2 gNotIn (fVar 1) (fC (.str "0123456789")))) (retG (fC .non)) nilG))
  (seqG (ifG (ftOr (ftB (f2 gEq (fVar 0) (fC (.str "")))) (ftOr (ftV (fM gStarts (fVar 0) (fCons (fC (.str "0")) fNil))) (ftOr (ftB (f2 gGt (fL gLen (fCons (fVar 0) fNil)) (fC (.int 10)))) (ftB (f2 gGt (fL gInt (fCons (fVar 0) fNil)) (fC (.int 1000000000))))))) (retG (fC .non)) nilG)
  (retG (fL gInt (fCons (fVar 0) fNil)))))
def f_number_of : List D → Option D := dF 1 N_number_of g_number_of
theorem ok_number_of {P : Program} {w : World} {K : PySem.W.Frag} {mg : Str → Option Value} {base : Heap} {f : Addr} {fd : FuncData} (T : Txt K w mg)  (Fn : Fun K "number_of" "number_of" s_number_of f fd) : FnOk P w K mg base CX0 1 f fd P_number_of (spD K f_number_of) := by
  refine okD (g := g_number_of) Fn sc_number_of (fun cdv A outer s H E μ Hs hr => ?_) (fun ds d h => dF_ok (ps := P_number_of) (N := N_number_of) (g := g_number_of) ds d h)
  exact (pg_cons (pg_for (tg_1 1) PassesOwn.never rfl (pdi_str (pd_var 0)) (pg_name (i := 1) sc_number_of.nd rfl (by first | exact .inl rfl | exact .inr rfl)) (pg_one (pg_if (pdt_cmp (op_notInA (hu65 hr)) imp_notIn (pd_var 1) (pd_globS T.c_DIGITS)) (pg_one (pg_ret pd_non)) pg_nil)) (hv_1 1))
      (pg_cons (pg_if (pdt_w (pdw_or (pdt_cmp (op_eqA hr.units) imp_eq (pd_var 0) pd_str) (pdw_or (pdt_val (pd_starts (pd_var 0) pd_str)) (pdw_or (pdt_cmp op_gtA imp_ord (pd_callB call_len imp_len T.b_len (pda_cons (pd_var 0) pda_nil)) pd_int) (pdw_or1 (pdt_cmp op_gtA imp_ord (pd_callTy call_intA imp_int T.b_int (pda_cons (pd_var 0) pda_nil)) (pd_globI T.c_GREATEST))))))) (pg_one (pg_ret pd_non)) pg_nil)
      (pg_one (pg_ret (pd_callTy call_intA imp_int T.b_int (pda_cons (pd_var 0) pda_nil))))))
abbrev s_is_thing : Stmt := top 10
abbrev N_is_thing : List Str := ["text", "office", "dash", "number"]
abbrev P_is_thing : List Str := ["text"]
theorem sc_is_thing : FnScope N_is_thing P_is_thing (defScope s_is_thing) := ⟨rfl, rfl, rfl, by decide +kernel, rfl, by decide +kernel, by decide +kernel⟩
def g_is_thing : Gs := (seqG (asgG (st3 1 2 3) (fM gPartition (fVar 0) (fCons (fC (.str "-")) fNil)))
  (retG (fAnd (f2 gNe (fVar 2) (fC (.str ""))) (fAnd (fL f_is_office (fCons (fVar 1) fNil)) (f2 gNotN (fL f_number_of (fCons (fVar 3) fNil)) (fC .non))))))
def f_is_thing : List D → Option D := dF 1 N_is_thing g_is_thing
theorem ok_is_thing {P : Program} {w : World} {K : PySem.W.Frag} {mg : Str → Option Value} {base : Heap} {f : Addr} {fd : FuncData} (T : Txt K w mg) (C_number_of : Df P w K mg base 1 "number_of" P_number_of f_number_of) (C_is_office : Df P w K mg base 1 "is_office" P_is_office f_is_office) (Fn : Fun K "is_thing" "is_thing" s_is_thing f fd) : FnOk P w K mg base CX0 2 f fd P_is_thing (spD K f_is_thing) := by
  refine okD (g := g_is_thing) Fn sc_is_thing (fun cdv A outer s H E μ Hs hr => ?_) (fun ds d h => dF_ok (ps := P_is_thing) (N := N_is_thing) (g := g_is_thing) ds d h)
  have hr_number_of := hr.mono (show 1 ≤ 1 by decide)
  have hr_is_office := hr.mono (show 1 ≤ 1 by decide)
  exact (pg_cons (pg_set (tg_3 1 2 3) (pd_partition (pd_var 0) pd_str) (pg_tup rfl (pgs_cons (pg_name (i := 1) sc_is_thing.nd rfl (by first | exact .inl rfl | exact .inr rfl)) (pgs_cons (pg_name (i := 2) sc_is_thing.nd rfl (by first | exact .inl rfl | exact .inr rfl)) (pgs_cons (pg_name (i := 3) sc_is_thing.nd rfl (by first | exact .inl rfl | exact .inr rfl)) pgs_nil)))) rfl rfl (hv_3 1 2 3))
      (pg_one (pg_ret (pd_and (pd_cmp (op_neA hr.units) imp_ne (pd_var 2) pd_str) (pd_and (pd_df C_is_office hr_is_office (pda_cons (pd_var 1) pda_nil)) (pd_one (pd_cmp op_notN imp_notN (pd_df C_number_of hr_number_of (pda_cons (pd_var 3) pda_nil)) pd_non)))))))
abbrev s_value_of : Stmt := top 11
abbrev N_value_of : List Str := ["word", "shape"]
abbrev P_value_of : List Str := ["word", "shape"]
theorem sc_value_of : FnScope N_value_of P_value_of (defScope s_value_of) := ⟨rfl, rfl, rfl, by decide +kernel, rfl, by decide +kernel, by decide +kernel⟩
def g_value_of : Gs := (seqG (ifG (ftB (f2 gEq (fVar 1) (fC (.str "n")))) (retG (fL f_number_of (fCons (fVar 0) fNil))) nilG)
  (seqG (ifG (ftB (f2 gEq (fVar 1) (fC (.str "o")))) (retG (fIf (ftV (fL f_is_office (fCons (fVar 0) fNil))) (fVar 0) (fC .non))) nilG)
  (retG (fIf (ftV (fL f_is_thing (fCons (fVar 0) fNil))) (fVar 0) (fC .non)))))
def f_value_of : List D → Option D := dF 2 N_value_of g_value_of
theorem ok_value_of {P : Program} {w : World} {K : PySem.W.Frag} {mg : Str → Option Value} {base : Heap} {f : Addr} {fd : FuncData} (T : Txt K w mg) (C_is_thing : Df P w K mg base 2 "is_thing" P_is_thing f_is_thing) (C_is_office : Df P w K mg base 1 "is_office" P_is_office f_is_office) (C_number_of : Df P w K mg base 1 "number_of" P_number_of f_number_of) (Fn : Fun K "value_of" "value_of" s_value_of f fd) : FnOk P w K mg base CX0 3 f fd P_value_of (spD K f_value_of) := by
  refine okD (g := g_value_of) Fn sc_value_of (fun cdv A outer s H E μ Hs hr => ?_) (fun ds d h => dF_ok (ps := P_value_of) (N := N_value_of) (g := g_value_of) ds d h)
  have hr_is_thing := hr.mono (show 2 ≤ 2 by decide)
  have hr_is_office := hr.mono (show 1 ≤ 2 by decide)
  have hr_number_of := hr.mono (show 1 ≤ 2 by decide)
  exact (pg_cons (pg_if (pdt_cmp (op_eqA hr.units) imp_eq (pd_var 1) pd_str) (pg_one (pg_ret (pd_df C_number_of hr_number_of (pda_cons (pd_var 0) pda_nil)))) pg_nil)
      (pg_cons (pg_if (pdt_cmp (op_eqA hr.units) imp_eq (pd_var 1) pd_str) (pg_one (pg_ret (pd_ifExp (pdt_val (pd_df C_is_office hr_is_office (pda_cons (pd_var 0) pda_nil))) (pd_var 0) pd_non))) pg_nil)
      (pg_one (pg_ret (pd_ifExp (pdt_val (pd_df C_is_thing hr_is_thing (pda_cons (pd_var 0) pda_nil))) (pd_var 0) pd_non)))))
abbrev s_values_of : Stmt := top 12
abbrev N_values_of : List Str := ["words", "shapes", "values", "word", "shape"]
abbrev P_values_of : List Str := ["words", "shapes"]
theorem sc_values_of : FnScope N_values_of P_values_of (defScope s_values_of) := ⟨rfl, rfl, rfl, by decide +kernel, rfl, by decide +kernel, by decide +kernel⟩
def g_values_of : Gs := (seqG (ifG (ftB (f2 gNe (fL gLen (fCons (fVar 0) fNil)) (fL gLen (fCons (fVar 1) fNil)))) (retG (fC .non)) nilG)
  (seqG (asgG (st1 2) (fLc (fIs itZs (fCons (fVar 0) (fCons (fVar 1) fNil))) (st2 3 4) ftYes (fL f_value_of (fCons (fVar 3) (fCons (fVar 4) fNil))) [3, 4]))
  (seqG (ifG (ftB (f2 gIn (fC .non) (fVar 2))) (retG (fC .non)) nilG)
  (retG (fVar 2)))))
def f_values_of : List D → Option D := dF 2 N_values_of g_values_of
theorem ok_values_of {P : Program} {w : World} {K : PySem.W.Frag} {mg : Str → Option Value} {base : Heap} {f : Addr} {fd : FuncData} (T : Txt K w mg) (C_value_of : Df P w K mg base 3 "value_of" P_value_of f_value_of) (Fn : Fun K "values_of" "values_of" s_values_of f fd) : FnOk P w K mg base CX0 4 f fd P_values_of (spD K f_values_of) := by
  refine okD (g := g_values_of) Fn sc_values_of (fun cdv A outer s H E μ Hs hr => ?_) (fun ds d h => dF_ok (ps := P_values_of) (N := N_values_of) (g := g_values_of) ds d h)
  have hr_value_of := hr.mono (show 3 ≤ 3 by decide)
  exact (pg_cons (pg_if (pdt_cmp (op_neA hr.units) imp_ne (pd_callB call_len imp_len T.b_len (pda_cons (pd_var 0) pda_nil)) (pd_callB call_len imp_len T.b_len (pda_cons (pd_var 1) pda_nil))) (pg_one (pg_ret pd_non)) pg_nil)
      (pg_cons (pg_asgLc 2  (own := [("word", 3), ("shape", 4)]) rfl sc_values_of.nd (pdi_zs T.b_zip (pda_cons (pd_var 0) (pda_cons (pd_var 1) pda_nil))) (blkOk_by (own := [("word", 3), ("shape", 4)]) (N := N_values_of) (sc := defScope s_values_of) (by decide +kernel)) (tg_2 3 4) (fun _ _ _ _ _ => (pg_tup rfl (pgs_cons (pg_name (i := 3) sc_values_of.nd rfl (by first | exact .inl rfl | exact .inr rfl)) (pgs_cons (pg_name (i := 4) sc_values_of.nd rfl (by first | exact .inl rfl | exact .inr rfl)) pgs_nil)))) tYes_D (fun _ _ _ _ _ => pts_nil) (fun _ _ _ _ _ => (pd_df C_value_of hr_value_of (pda_cons (pd_var 3) (pda_cons (pd_var 4) pda_nil)))))
      (pg_cons (pg_if (pdt_cmp (op_inA (hu65 hr)) imp_in pd_non (pd_var 2)) (pg_one (pg_ret pd_non)) pg_nil)
      (pg_one (pg_ret (pd_var 2))))))
abbrev s_parse_split : Stmt := top 13
abbrev N_parse_split : List Str := ["words", "values"]
abbrev P_parse_split : List Str := ["words"]
theorem sc_parse_split : FnScope N_parse_split P_parse_split (defScope s_parse_split) := ⟨rfl, rfl, rfl, by decide +kernel, rfl, by decide +kernel, by decide +kernel⟩
def g_parse_split : Gs := (seqG (ifG (ftOr (ftB (f2 gLt (fL gLen (fCons (fVar 0) fNil)) (fC (.int 6)))) (ftB (f2 gNe (f2 gMod (fL gLen (fCons (fVar 0) fNil)) (fC (.int 2))) (fC (.int 0))))) (retG (fC .non)) nilG)
  (seqG (asgG (st1 1) (fL f_values_of (fCons (fSl (fVar 0) (foE (fC (.int 1))) foNo) (fCons (f2 gAdd (fC (.str "i")) (f2 gMulS (fC (.str "in")) (f2 gDiv (f2 gSub (fL gLen (fCons (fVar 0) fNil)) (fC (.int 2))) (fC (.int 2))))) fNil))))
  (seqG (ifG (ftB (f2 gIsN (fVar 1) (fC .non))) (retG (fC .non)) nilG)
  (retG (fL gTupD (fCons (fC (.str "split")) (fStar (fVar 1) fNil)))))))
def f_parse_split : List D → Option D := dF 1 N_parse_split g_parse_split
theorem ok_parse_split {P : Program} {w : World} {K : PySem.W.Frag} {mg : Str → Option Value} {base : Heap} {f : Addr} {fd : FuncData} (T : Txt K w mg) (C_values_of : Df P w K mg base 4 "values_of" P_values_of f_values_of) (Fn : Fun K "parse_split" "parse_split" s_parse_split f fd) : FnOk P w K mg base CX0 5 f fd P_parse_split (spD K f_parse_split) := by
  refine okD (g := g_parse_split) Fn sc_parse_split (fun cdv A outer s H E μ Hs hr => ?_) (fun ds d h => dF_ok (ps := P_parse_split) (N := N_parse_split) (g := g_parse_split) ds d h)
  have hr_values_of := hr.mono (show 4 ≤ 4 by decide)
  exact (pg_cons (pg_if (pdt_w (pdw_or (pdt_cmp op_ltA imp_ord (pd_callB call_len imp_len T.b_len (pda_cons (pd_var 0) pda_nil)) pd_int) (pdw_or1 (pdt_cmp (op_neA hr.units) imp_ne (pd_op op_mod imp_mod (pd_callB call_len imp_len T.b_len (pda_cons (pd_var 0) pda_nil)) pd_int) pd_int)))) (pg_one (pg_ret pd_non)) pg_nil)
      (pg_cons (pg_asg 1 sc_parse_split.nd (pd_df C_values_of hr_values_of (pda_cons (pd_slice (pd_var 0) (pdo_some pd_int) pdo_none) (pda_cons (pd_op op_addA imp_add pd_str (pd_op op_strmul imp_mulS pd_str (pd_op op_fdiv imp_div (pd_op op_sub imp_sub (pd_callB call_len imp_len T.b_len (pda_cons (pd_var 0) pda_nil)) pd_int) pd_int))) pda_nil))))
      (pg_cons (pg_if (pdt_cmp op_isN imp_isN (pd_var 1) pd_non) (pg_one (pg_ret pd_non)) pg_nil)
      (pg_one (pg_ret (pd_tup (pda_cons pd_str (pda_star (pd_var 1) pda_nil))))))))
abbrev s_parse_join : Stmt := top 14
abbrev N_parse_join : List Str := ["words", "values"]
abbrev P_parse_join : List Str := ["words"]
theorem sc_parse_join : FnScope N_parse_join P_parse_join (defScope s_parse_join) := ⟨rfl, rfl, rfl, by decide +kernel, rfl, by decide +kernel, by decide +kernel⟩
def g_parse_join : Gs := (seqG (asgG (st1 1) (fL f_values_of (fCons (fSl (fVar 0) (foE (fC (.int 1))) foNo) (fCons (f2 gMulS (fC (.str "i")) (f2 gSub (fL gLen (fCons (fVar 0) fNil)) (fC (.int 1)))) fNil))))
  (seqG (ifG (ftOr (ftB (f2 gIsN (fVar 1) (fC .non))) (ftB (f2 gLt (fL gLen (fCons (fVar 1) fNil)) (fC (.int 3))))) (retG (fC .non)) nilG)
  (retG (fL gTupD (fCons (fC (.str "join")) (fStar (fVar 1) fNil))))))
def f_parse_join : List D → Option D := dF 1 N_parse_join g_parse_join
theorem ok_parse_join {P : Program} {w : World} {K : PySem.W.Frag} {mg : Str → Option Value} {base : Heap} {f : Addr} {fd : FuncData} (T : Txt K w mg) (C_values_of : Df P w K mg base 4 "values_of" P_values_of f_values_of) (Fn : Fun K "parse_join" "parse_join" s_parse_join f fd) : FnOk P w K mg base CX0 5 f fd P_parse_join (spD K f_parse_join) := by
  refine okD (g := g_parse_join) Fn sc_parse_join (fun cdv A outer s H E μ Hs hr => ?_) (fun ds d h => dF_ok (ps := P_parse_join) (N := N_parse_join) (g := g_parse_join) ds d h)
  have hr_values_of := hr.mono (show 4 ≤ 4 by decide)
  exact (pg_cons (pg_asg 1 sc_parse_join.nd (pd_df C_values_of hr_values_of (pda_cons (pd_slice (pd_var 0) (pdo_some pd_int) pdo_none) (pda_cons (pd_op op_strmul imp_mulS pd_str (pd_op op_sub imp_sub (pd_callB call_len imp_len T.b_len (pda_cons (pd_var 0) pda_nil)) pd_int)) pda_nil))))
      (pg_cons (pg_if (pdt_w (pdw_or (pdt_cmp op_isN imp_isN (pd_var 1) pd_non) (pdw_or1 (pdt_cmp op_ltA imp_ord (pd_callB call_len imp_len T.b_len (pda_cons (pd_var 1) pda_nil)) pd_int)))) (pg_one (pg_ret pd_non)) pg_nil)
      (pg_one (pg_ret (pd_tup (pda_cons pd_str (pda_star (pd_var 1) pda_nil)))))))
abbrev s_row_of : Stmt := top 15
abbrev N_row_of : List Str := ["line", "words", "values"]
abbrev P_row_of : List Str := ["line"]
theorem sc_row_of : FnScope N_row_of P_row_of (defScope s_row_of) := ⟨rfl, rfl, rfl, by decide +kernel, rfl, by decide +kernel, by decide +kernel⟩
def g_row_of : Gs := (seqG (asgG (st1 1) (fM gSplit (fVar 0) (fCons (fC (.str " ")) fNil)))
  (seqG (ifG (ftB (f2 gEq (f2 gIx (fVar 1) (fC (.int 0))) (fC (.str "split")))) (retG (fL f_parse_split (fCons (fVar 1) fNil))) nilG)
  (seqG (ifG (ftB (f2 gEq (f2 gIx (fVar 1) (fC (.int 0))) (fC (.str "join")))) (retG (fL f_parse_join (fCons (fVar 1) fNil))) nilG)
  (seqG (ifG (ftB (f1 (gKno kv_LINES) (f2 gIx (fVar 1) (fC (.int 0))))) (retG (fC .non)) nilG)
  (seqG (asgG (st1 2) (fL f_values_of (fCons (fSl (fVar 1) (foE (fC (.int 1))) foNo) (fCons (f1 (gKix kv_LINES) (f2 gIx (fVar 1) (fC (.int 0)))) fNil))))
  (seqG (ifG (ftB (f2 gIsN (fVar 2) (fC .non))) (retG (fC .non)) nilG)
  (retG (fL gTupD (fCons (f2 gIx (fVar 1) (fC (.int 0))) (fStar (fVar 2) fNil))))))))))
def f_row_of : List D → Option D := dF 1 N_row_of g_row_of
theorem ok_row_of {P : Program} {w : World} {K : PySem.W.Frag} {mg : Str → Option Value} {base : Heap} {f : Addr} {fd : FuncData} (T : Txt K w mg) (C_values_of : Df P w K mg base 4 "values_of" P_values_of f_values_of) (C_parse_join : Df P w K mg base 5 "parse_join" P_parse_join f_parse_join) (C_parse_split : Df P w K mg base 5 "parse_split" P_parse_split f_parse_split) (Fn : Fun K "row_of" "row_of" s_row_of f fd) : FnOk P w K mg base CX0 6 f fd P_row_of (spD K f_row_of) := by
  refine okD (g := g_row_of) Fn sc_row_of (fun cdv A outer s H E μ Hs hr => ?_) (fun ds d h => dF_ok (ps := P_row_of) (N := N_row_of) (g := g_row_of) ds d h)
  have hr_values_of := hr.mono (show 4 ≤ 5 by decide)
  have hr_parse_join := hr.mono (show 5 ≤ 5 by decide)
  have hr_parse_split := hr.mono (show 5 ≤ 5 by decide)
  exact (pg_cons (pg_asg 1 sc_row_of.nd (pd_split (pd_var 0) pd_str))
      (pg_cons (pg_if (pdt_cmp (op_eqA hr.units) imp_eq (pd_ix ix_seq imp_ix (pd_var 1) pd_int) pd_str) (pg_one (pg_ret (pd_df C_parse_split hr_parse_split (pda_cons (pd_var 1) pda_nil)))) pg_nil)
      (pg_cons (pg_if (pdt_cmp (op_eqA hr.units) imp_eq (pd_ix ix_seq imp_ix (pd_var 1) pd_int) pd_str) (pg_one (pg_ret (pd_df C_parse_join hr_parse_join (pda_cons (pd_var 1) pda_nil)))) pg_nil)
      (pg_cons (pg_if (ktt_no T.d_LINES (pd_ix ix_seq imp_ix (pd_var 1) pd_int)) (pg_one (pg_ret pd_non)) pg_nil)
      (pg_cons (pg_asg 2 sc_row_of.nd (pd_df C_values_of hr_values_of (pda_cons (pd_slice (pd_var 1) (pdo_some pd_int) pdo_none) (pda_cons (kt_ix T.d_LINES (pd_ix ix_seq imp_ix (pd_var 1) pd_int)) pda_nil))))
      (pg_cons (pg_if (pdt_cmp op_isN imp_isN (pd_var 2) pd_non) (pg_one (pg_ret pd_non)) pg_nil)
      (pg_one (pg_ret (pd_tup (pda_cons (pd_ix ix_seq imp_ix (pd_var 1) pd_int) (pda_star (pd_var 2) pda_nil)))))))))))
abbrev s_whole_lines : Stmt := top 16
abbrev N_whole_lines : List Str := ["text"]
abbrev P_whole_lines : List Str := ["text"]
theorem sc_whole_lines : FnScope N_whole_lines P_whole_lines (defScope s_whole_lines) := ⟨rfl, rfl, rfl, by decide +kernel, rfl, by decide +kernel, by decide +kernel⟩
def g_whole_lines : Gs := (retG (fSl (fM gSplit (fVar 0) (fCons (fC (.str "\n")) fNil)) foNo (foE (f1 gNeg (fC (.int 1))))))
def f_whole_lines : List D → Option D := dF 1 N_whole_lines g_whole_lines
theorem ok_whole_lines {P : Program} {w : World} {K : PySem.W.Frag} {mg : Str → Option Value} {base : Heap} {f : Addr} {fd : FuncData} (T : Txt K w mg)  (Fn : Fun K "whole_lines" "whole_lines" s_whole_lines f fd) : FnOk P w K mg base CX0 1 f fd P_whole_lines (spD K f_whole_lines) := by
  refine okD (g := g_whole_lines) Fn sc_whole_lines (fun cdv A outer s H E μ Hs hr => ?_) (fun ds d h => dF_ok (ps := P_whole_lines) (N := N_whole_lines) (g := g_whole_lines) ds d h)
  exact (pg_one (pg_ret (pd_slice (pd_split (pd_var 0) pd_str) pdo_none (pdo_some (pd_un un_neg imp_neg pd_int)))))
abbrev s_parse_journal : Stmt := top 17
abbrev N_parse_journal : List Str := ["text", "rows", "line", "row"]
abbrev P_parse_journal : List Str := ["text"]
theorem sc_parse_journal : FnScope N_parse_journal P_parse_journal (defScope s_parse_journal) := ⟨rfl, rfl, rfl, by decide +kernel, rfl, by decide +kernel, by decide +kernel⟩
noncomputable def g_parse_journal : SG := (gSeq (gAsg (st1 1) (mDisp mNil))
  (gSeq (gFor (miP (fI itL (fL f_whole_lines (fCons (fVar 0) fNil)))) (st1 2) (gSeq (gAsg (st1 3) (mP (fL f_row_of (fCons (fVar 2) fNil))))
  (gSeq (gIf (mtP (ftB (f2 gIsN (fVar 3) (fC .non)))) (gRaiseF "InvalidLine" "line" (m2 gAdd (mL gLen (mCons (mP (fVar 1)) mNil)) (mP (fC (.int 1))))) gNil)
  (gDrop (mApp (mP (fVar 1)) (mP (fVar 3)))))))
  (gRet (mP (fVar 1)))))
noncomputable def f_parse_journal : SFn := mF 1 N_parse_journal g_parse_journal
theorem ok_parse_journal {P : Program} {w : World} {K : PySem.W.Frag} {mg : Str → Option Value} {base : Heap} {f : Addr} {fd : FuncData} (T : Txt K w mg) (C_whole_lines : Df P w K mg base 1 "whole_lines" P_whole_lines f_whole_lines) (C_row_of : Df P w K mg base 6 "row_of" P_row_of f_row_of) (J_InvalidLine : Xki P w K mg base 1 "InvalidLine" "line") (Fn : Fun K "parse_journal" "parse_journal" s_parse_journal f fd) : FnOk P w K mg base (L2.CX P w) 7 f fd P_parse_journal (spM K mg f_parse_journal) := by
  refine okM (g := g_parse_journal) Fn sc_parse_journal fun cdv A outer s H E tk hr => ?_
  have hr_whole_lines := hr.mono (show 1 ≤ 6 by decide)
  have hr_row_of := hr.mono (show 6 ≤ 6 by decide)
  have hr_J_InvalidLine := hr.mono (show 2 ≤ 6 by decide)
  exact (sg_cons (sg_asg 1 sc_parse_journal.nd (s_disp s_nil))
      (sg_cons (sg_for (tg_1 2) (passes_of rfl) rfl (si_pure (pdi_list (pd_df C_whole_lines hr_whole_lines (pda_cons (pd_var 0) pda_nil)))) (pg_name (i := 2) sc_parse_journal.nd rfl (by first | exact .inl rfl | exact .inr rfl)) (sg_cons (sg_asg 3 sc_parse_journal.nd (s_pure (pd_df C_row_of hr_row_of (pda_cons (pd_var 2) pda_nil))))
      (sg_cons (sg_if (st_pure (pdt_cmp op_isN imp_isN (pd_var 3) pd_non)) (sg_one (sg_raiseF tk rfl J_InvalidLine hr_J_InvalidLine (s_op op_addA imp_add (s_callB call_len imp_len T.b_len (s_cons (s_var 1) s_nil)) (s_pure pd_int)))) sg_nil)
      (sg_one (sg_drop (s_app (s_var 1) (s_pure (pd_var 3))))))))
      (sg_one (sg_ret (s_var 1)))))
abbrev s_L_cell : Stmt := top 19
abbrev N_L_cell : List Str := ["_law_script", "_law_k"]
abbrev P_L_cell : List Str := ["_law_script", "_law_k"]
theorem sc_L_cell : FnScope N_L_cell P_L_cell (defScope s_L_cell) := ⟨rfl, rfl, rfl, by decide +kernel, rfl, by decide +kernel, by decide +kernel⟩
def g_L_cell : Gs := (seqG (ifG (ftB (f2 gLt (fVar 1) (fL gLen (fCons (fVar 0) fNil)))) (retG (fL gInt (fCons (f2 gIx (fVar 0) (fVar 1)) fNil))) nilG)
  (retG (f2 gMul (fC (.int 7)) (fVar 1))))
def f_L_cell : List D → Option D := dF 2 N_L_cell g_L_cell
theorem ok_L_cell {P : Program} {w : World} {K : PySem.W.Frag} {mg : Str → Option Value} {base : Heap} {f : Addr} {fd : FuncData} (T : Txt K w mg)  (Fn : Fun K "_law_cell" "_law_cell" s_L_cell f fd) : FnOk P w K mg base CX0 1 f fd P_L_cell (spD K f_L_cell) := by
  refine okD (g := g_L_cell) Fn sc_L_cell (fun cdv A outer s H E μ Hs hr => ?_) (fun ds d h => dF_ok (ps := P_L_cell) (N := N_L_cell) (g := g_L_cell) ds d h)
  exact (pg_cons (pg_if (pdt_cmp op_ltA imp_ord (pd_var 1) (pd_callB call_len imp_len T.b_len (pda_cons (pd_var 0) pda_nil))) (pg_one (pg_ret (pd_callTy call_intA imp_int T.b_int (pda_cons (pd_ix ix_seq imp_ix (pd_var 0) (pd_var 1)) pda_nil)))) pg_nil)
      (pg_one (pg_ret (pd_op op_mul imp_mul pd_int (pd_var 1)))))
abbrev s_L_office : Stmt := top 20
abbrev N_L_office : List Str := ["_law_cell_here", "_law_name", "_law_rest", "_law_k"]
abbrev P_L_office : List Str := ["_law_cell_here"]
theorem sc_L_office : FnScope N_L_office P_L_office (defScope s_L_office) := ⟨rfl, rfl, rfl, by decide +kernel, rfl, by decide +kernel, by decide +kernel⟩
def g_L_office : Gs := (seqG (asgG (st1 1) (fC (.str "")))
  (seqG (asgG (st1 2) (fL gAbs (fCons (fVar 0) fNil)))
  (seqG (forG (fIs itR1 (fCons (f2 gAdd (fC (.int 1)) (f2 gMod (fVar 2) (fC (.int 12)))) fNil)) (st1 3) (seqG (asgG (st1 1) (f2 gAdd (fVar 1) (f2 gIx (fC (.str "abcdefghijklmnopqrstuvwxyz")) (f2 gMod (f2 gDiv (fVar 2) (fC (.int 12))) (fC (.int 26))))))
  (asgG (st1 2) (f2 gAdd (f2 gDiv (fVar 2) (fC (.int 7))) (f2 gMul (fC (.int 31)) (fVar 3))))))
  (retG (fVar 1)))))
def f_L_office : List D → Option D := dF 1 N_L_office g_L_office
theorem ok_L_office {P : Program} {w : World} {K : PySem.W.Frag} {mg : Str → Option Value} {base : Heap} {f : Addr} {fd : FuncData} (T : Txt K w mg)  (Fn : Fun K "_law_office" "_law_office" s_L_office f fd) : FnOk P w K mg base CX0 1 f fd P_L_office (spD K f_L_office) := by
  refine okD (g := g_L_office) Fn sc_L_office (fun cdv A outer s H E μ Hs hr => ?_) (fun ds d h => dF_ok (ps := P_L_office) (N := N_L_office) (g := g_L_office) ds d h)
  exact (pg_cons (pg_asg 1 sc_L_office.nd pd_str)
      (pg_cons (pg_asg 2 sc_L_office.nd (pd_callB call_abs imp_abs T.b_abs (pda_cons (pd_var 0) pda_nil)))
      (pg_cons (pg_for (tg_1 3) PassesOwn.never rfl (pdi_range1 T.b_range (pda_cons (pd_op op_addA imp_add pd_int (pd_op op_mod imp_mod (pd_var 2) pd_int)) pda_nil)) (pg_name (i := 3) sc_L_office.nd rfl (by first | exact .inl rfl | exact .inr rfl)) (pg_cons (pg_asg 1 sc_L_office.nd (pd_op op_addA imp_add (pd_var 1) (pd_ix ix_seq imp_ix pd_str (pd_op op_mod imp_mod (pd_op op_fdiv imp_div (pd_var 2) pd_int) pd_int))))
      (pg_one (pg_asg 2 sc_L_office.nd (pd_op op_addA imp_add (pd_op op_fdiv imp_div (pd_var 2) pd_int) (pd_op op_mul imp_mul pd_int (pd_var 3)))))) (hv_1 3))
      (pg_one (pg_ret (pd_var 1))))))
abbrev s_L_number : Stmt := top 21
abbrev N_L_number : List Str := ["_law_cell_here"]
abbrev P_L_number : List Str := ["_law_cell_here"]
theorem sc_L_number : FnScope N_L_number P_L_number (defScope s_L_number) := ⟨rfl, rfl, rfl, by decide +kernel, rfl, by decide +kernel, by decide +kernel⟩
def g_L_number : Gs := (retG (f2 gIx (fL gLstD (fCons (f2 gAdd (fC (.int 1)) (f2 gMod (f2 gDiv (fVar 0) (fC (.int 4))) (fC (.int 9)))) (fCons (f2 gAdd (fC (.int 1)) (f2 gMod (f2 gDiv (fVar 0) (fC (.int 4))) (fC (.int 1000000000)))) (fCons (f2 gSub (fC (.int 1000000000)) (f2 gMod (f2 gDiv (fVar 0) (fC (.int 4))) (fC (.int 3)))) (fCons (f2 gAdd (fC (.int 1)) (f2 gMod (f2 gDiv (fVar 0) (fC (.int 4))) (fC (.int 200)))) fNil))))) (f2 gMod (fVar 0) (fC (.int 4)))))
def f_L_number : List D → Option D := dF 1 N_L_number g_L_number
theorem ok_L_number {P : Program} {w : World} {K : PySem.W.Frag} {mg : Str → Option Value} {base : Heap} {f : Addr} {fd : FuncData} (T : Txt K w mg)  (Fn : Fun K "_law_number" "_law_number" s_L_number f fd) : FnOk P w K mg base CX0 1 f fd P_L_number (spD K f_L_number) := by
  refine okD (g := g_L_number) Fn sc_L_number (fun cdv A outer s H E μ Hs hr => ?_) (fun ds d h => dF_ok (ps := P_L_number) (N := N_L_number) (g := g_L_number) ds d h)
  exact (pg_one (pg_ret (pd_ix ix_seq imp_ix (pd_lst (pda_cons (pd_op op_addA imp_add pd_int (pd_op op_mod imp_mod (pd_op op_fdiv imp_div (pd_var 0) pd_int) pd_int)) (pda_cons (pd_op op_addA imp_add pd_int (pd_op op_mod imp_mod (pd_op op_fdiv imp_div (pd_var 0) pd_int) pd_int)) (pda_cons (pd_op op_sub imp_sub pd_int (pd_op op_mod imp_mod (pd_op op_fdiv imp_div (pd_var 0) pd_int) pd_int)) (pda_cons (pd_op op_addA imp_add pd_int (pd_op op_mod imp_mod (pd_op op_fdiv imp_div (pd_var 0) pd_int) pd_int)) pda_nil))))) (pd_op op_mod imp_mod (pd_var 0) pd_int))))
abbrev s_L_thing : Stmt := top 22
abbrev N_L_thing : List Str := ["_law_cell_here"]
abbrev P_L_thing : List Str := ["_law_cell_here"]
theorem sc_L_thing : FnScope N_L_thing P_L_thing (defScope s_L_thing) := ⟨rfl, rfl, rfl, by decide +kernel, rfl, by decide +kernel, by decide +kernel⟩
def g_L_thing : Gs := (retG (f2 gAdd (f2 gAdd (fL f_L_office (fCons (f2 gDiv (fVar 0) (fC (.int 5))) fNil)) (fC (.str "-"))) (fL gStr (fCons (fL f_L_number (fCons (f2 gDiv (fVar 0) (fC (.int 3))) fNil)) fNil))))
def f_L_thing : List D → Option D := dF 1 N_L_thing g_L_thing
theorem ok_L_thing {P : Program} {w : World} {K : PySem.W.Frag} {mg : Str → Option Value} {base : Heap} {f : Addr} {fd : FuncData} (T : Txt K w mg) (C_L_office : Df P w K mg base 1 "_law_office" P_L_office f_L_office) (C_L_number : Df P w K mg base 1 "_law_number" P_L_number f_L_number) (Fn : Fun K "_law_thing" "_law_thing" s_L_thing f fd) : FnOk P w K mg base CX0 2 f fd P_L_thing (spD K f_L_thing) := by
  refine okD (g := g_L_thing) Fn sc_L_thing (fun cdv A outer s H E μ Hs hr => ?_) (fun ds d h => dF_ok (ps := P_L_thing) (N := N_L_thing) (g := g_L_thing) ds d h)
  have hr_L_office := hr.mono (show 1 ≤ 1 by decide)
  have hr_L_number := hr.mono (show 1 ≤ 1 by decide)
  exact (pg_one (pg_ret (pd_op op_addA imp_add (pd_op op_addA imp_add (pd_df C_L_office hr_L_office (pda_cons (pd_op op_fdiv imp_div (pd_var 0) pd_int) pda_nil)) pd_str) (pd_callTy call_strA imp_str T.b_str (pda_cons (pd_df C_L_number hr_L_number (pda_cons (pd_op op_fdiv imp_div (pd_var 0) pd_int) pda_nil)) pda_nil)))))
abbrev s_L_values : Stmt := top 23
abbrev N_L_values : List Str := ["_law_shape_here", "_law_script", "_law_at", "_law_values_here", "_law_k", "_law_cell_here"]
abbrev P_L_values : List Str := ["_law_shape_here", "_law_script", "_law_at"]
theorem sc_L_values : FnScope N_L_values P_L_values (defScope s_L_values) := ⟨rfl, rfl, rfl, by decide +kernel, rfl, by decide +kernel, by decide +kernel⟩
def g_L_values : Gs := (seqG (newG 3 fNil)
  (seqG (forG (fIs itR1 (fCons (fL gLen (fCons (fVar 0) fNil)) fNil)) (st1 4) (seqG (asgG (st1 5) (fL f_L_cell (fCons (fVar 1) (fCons (f2 gAdd (fVar 2) (fVar 4)) fNil))))
  (ifG (ftB (f2 gEq (f2 gIx (fVar 0) (fVar 4)) (fC (.str "n")))) (appG 3 (fL f_L_number (fCons (fVar 5) fNil))) (ifG (ftB (f2 gEq (f2 gIx (fVar 0) (fVar 4)) (fC (.str "o")))) (appG 3 (fL f_L_office (fCons (fVar 5) fNil))) (appG 3 (fL f_L_thing (fCons (fVar 5) fNil)))))))
  (retG (fVar 3))))
def f_L_values : List D → Option D := dF 3 N_L_values g_L_values
theorem ok_L_values {P : Program} {w : World} {K : PySem.W.Frag} {mg : Str → Option Value} {base : Heap} {f : Addr} {fd : FuncData} (T : Txt K w mg) (C_L_number : Df P w K mg base 1 "_law_number" P_L_number f_L_number) (C_L_office : Df P w K mg base 1 "_law_office" P_L_office f_L_office) (C_L_thing : Df P w K mg base 2 "_law_thing" P_L_thing f_L_thing) (C_L_cell : Df P w K mg base 1 "_law_cell" P_L_cell f_L_cell) (Fn : Fun K "_law_values" "_law_values" s_L_values f fd) : FnOk P w K mg base CX0 3 f fd P_L_values (spD K f_L_values) := by
  refine okD (g := g_L_values) Fn sc_L_values (fun cdv A outer s H E μ Hs hr => ?_) (fun ds d h => dF_ok (ps := P_L_values) (N := N_L_values) (g := g_L_values) ds d h)
  have hr_L_number := hr.mono (show 1 ≤ 2 by decide)
  have hr_L_office := hr.mono (show 1 ≤ 2 by decide)
  have hr_L_thing := hr.mono (show 2 ≤ 2 by decide)
  have hr_L_cell := hr.mono (show 1 ≤ 2 by decide)
  exact (pg_cons (pg_new 3 sc_L_values.nd pda_nil)
      (pg_cons (pg_for (tg_1 4) PassesOwn.never rfl (pdi_range1 T.b_range (pda_cons (pd_callB call_len imp_len T.b_len (pda_cons (pd_var 0) pda_nil)) pda_nil)) (pg_name (i := 4) sc_L_values.nd rfl (by first | exact .inl rfl | exact .inr rfl)) (pg_cons (pg_asg 5 sc_L_values.nd (pd_df C_L_cell hr_L_cell (pda_cons (pd_var 1) (pda_cons (pd_op op_addA imp_add (pd_var 2) (pd_var 4)) pda_nil))))
      (pg_one (pg_if (pdt_cmp (op_eqA hr.units) imp_eq (pd_ix ix_seq imp_ix (pd_var 0) (pd_var 4)) pd_str) (pg_one (pg_app 3 (pd_df C_L_number hr_L_number (pda_cons (pd_var 5) pda_nil)))) (pg_one (pg_if (pdt_cmp (op_eqA hr.units) imp_eq (pd_ix ix_seq imp_ix (pd_var 0) (pd_var 4)) pd_str) (pg_one (pg_app 3 (pd_df C_L_office hr_L_office (pda_cons (pd_var 5) pda_nil)))) (pg_one (pg_app 3 (pd_df C_L_thing hr_L_thing (pda_cons (pd_var 5) pda_nil))))))))) (hv_1 4))
      (pg_one (pg_ret (pd_var 3)))))
abbrev s_L_shape : Stmt := top 24
abbrev N_L_shape : List Str := ["_law_cell_here", "_law_shapes"]
abbrev P_L_shape : List Str := ["_law_cell_here"]
theorem sc_L_shape : FnScope N_L_shape P_L_shape (defScope s_L_shape) := ⟨rfl, rfl, rfl, by decide +kernel, rfl, by decide +kernel, by decide +kernel⟩
def g_L_shape : Gs := (seqG (asgG (st1 1) (fL gLstD (fCons (fC (.str "register in")) (fCons (fC (.str "give ino")) (fCons (fC (.str "got ionno")) (fCons (fC (.str "use i")) (fCons (fC (.str "recall i")) (fCons (fC (.str "notice io")) (fCons (fC (.str "receipt in")) (fCons (fC (.str "noted io")) (fCons (fC (.str "pay ion")) fNil)))))))))))
  (seqG (asgG (st1 1) (f2 gAdd (fVar 1) (fL gLstD (fCons (fC (.str "paid in")) (fCons (f2 gAdd (f2 gAdd (fC (.str "split ")) (fC (.str "i"))) (f2 gMulS (fC (.str "in")) (f2 gAdd (fC (.int 2)) (f2 gMod (f2 gDiv (fVar 0) (fC (.int 12))) (fC (.int 4)))))) (fCons (f2 gAdd (fC (.str "join ")) (f2 gMulS (fC (.str "i")) (f2 gAdd (fC (.int 3)) (f2 gMod (f2 gDiv (fVar 0) (fC (.int 12))) (fC (.int 5)))))) fNil))))))
  (retG (fM gSplit (f2 gIx (fVar 1) (f2 gMod (fVar 0) (fC (.int 12)))) (fCons (fC (.str " ")) fNil)))))
def f_L_shape : List D → Option D := dF 1 N_L_shape g_L_shape
theorem ok_L_shape {P : Program} {w : World} {K : PySem.W.Frag} {mg : Str → Option Value} {base : Heap} {f : Addr} {fd : FuncData} (T : Txt K w mg)  (Fn : Fun K "_law_shape" "_law_shape" s_L_shape f fd) : FnOk P w K mg base CX0 1 f fd P_L_shape (spD K f_L_shape) := by
  refine okD (g := g_L_shape) Fn sc_L_shape (fun cdv A outer s H E μ Hs hr => ?_) (fun ds d h => dF_ok (ps := P_L_shape) (N := N_L_shape) (g := g_L_shape) ds d h)
  exact (pg_cons (pg_asg 1 sc_L_shape.nd (pd_lst (pda_cons pd_str (pda_cons pd_str (pda_cons pd_str (pda_cons pd_str (pda_cons pd_str (pda_cons pd_str (pda_cons pd_str (pda_cons pd_str (pda_cons pd_str pda_nil)))))))))))
      (pg_cons (pg_asg 1 sc_L_shape.nd (pd_op op_addA imp_add (pd_var 1) (pd_lst (pda_cons pd_str (pda_cons (pd_op op_addA imp_add (pd_op op_addA imp_add pd_str pd_str) (pd_op op_strmul imp_mulS pd_str (pd_op op_addA imp_add pd_int (pd_op op_mod imp_mod (pd_op op_fdiv imp_div (pd_var 0) pd_int) pd_int)))) (pda_cons (pd_op op_addA imp_add pd_str (pd_op op_strmul imp_mulS pd_str (pd_op op_addA imp_add pd_int (pd_op op_mod imp_mod (pd_op op_fdiv imp_div (pd_var 0) pd_int) pd_int)))) pda_nil))))))
      (pg_one (pg_ret (pd_split (pd_ix ix_seq imp_ix (pd_var 1) (pd_op op_mod imp_mod (pd_var 0) pd_int)) pd_str)))))
abbrev s_L_row : Stmt := top 25
abbrev N_L_row : List Str := ["_law_script", "_law_at", "_law_word", "_law_shape_here"]
abbrev P_L_row : List Str := ["_law_script", "_law_at"]
theorem sc_L_row : FnScope N_L_row P_L_row (defScope s_L_row) := ⟨rfl, rfl, rfl, by decide +kernel, rfl, by decide +kernel, by decide +kernel⟩
def g_L_row : Gs := (seqG (asgG (st2L 2 3) (fL f_L_shape (fCons (fL f_L_cell (fCons (fVar 0) (fCons (fVar 1) fNil))) fNil)))
  (retG (fL gTuple (fCons (f2 gAdd (fL gLstD (fCons (fVar 2) fNil)) (fL f_L_values (fCons (fVar 3) (fCons (fVar 0) (fCons (f2 gAdd (fVar 1) (fC (.int 1))) fNil))))) fNil))))
def f_L_row : List D → Option D := dF 2 N_L_row g_L_row
theorem ok_L_row {P : Program} {w : World} {K : PySem.W.Frag} {mg : Str → Option Value} {base : Heap} {f : Addr} {fd : FuncData} (T : Txt K w mg) (C_L_values : Df P w K mg base 3 "_law_values" P_L_values f_L_values) (C_L_shape : Df P w K mg base 1 "_law_shape" P_L_shape f_L_shape) (C_L_cell : Df P w K mg base 1 "_law_cell" P_L_cell f_L_cell) (Fn : Fun K "_law_row" "_law_row" s_L_row f fd) : FnOk P w K mg base CX0 4 f fd P_L_row (spD K f_L_row) := by
  refine okD (g := g_L_row) Fn sc_L_row (fun cdv A outer s H E μ Hs hr => ?_) (fun ds d h => dF_ok (ps := P_L_row) (N := N_L_row) (g := g_L_row) ds d h)
  have hr_L_values := hr.mono (show 3 ≤ 3 by decide)
  have hr_L_shape := hr.mono (show 1 ≤ 3 by decide)
  have hr_L_cell := hr.mono (show 1 ≤ 3 by decide)
  exact (pg_cons (pg_set (tg_2L 2 3) (pd_df C_L_shape hr_L_shape (pda_cons (pd_df C_L_cell hr_L_cell (pda_cons (pd_var 0) (pda_cons (pd_var 1) pda_nil))) pda_nil)) (pg_lst rfl (pgs_cons (pg_name (i := 2) sc_L_row.nd rfl (by first | exact .inl rfl | exact .inr rfl)) (pgs_cons (pg_name (i := 3) sc_L_row.nd rfl (by first | exact .inl rfl | exact .inr rfl)) pgs_nil))) rfl rfl (hv_2L 2 3))
      (pg_one (pg_ret (pd_callTy call_tuple_of imp_tuple T.b_tuple (pda_cons (pd_op op_addA imp_add (pd_lst (pda_cons (pd_var 2) pda_nil)) (pd_df C_L_values hr_L_values (pda_cons (pd_var 3) (pda_cons (pd_var 0) (pda_cons (pd_op op_addA imp_add (pd_var 1) pd_int) pda_nil))))) pda_nil)))))
abbrev s_L_bad : Stmt := top 26
abbrev N_L_bad : List Str := ["_law_line", "_law_cell_here"]
abbrev P_L_bad : List Str := ["_law_line", "_law_cell_here"]
theorem sc_L_bad : FnScope N_L_bad P_L_bad (defScope s_L_bad) := ⟨rfl, rfl, rfl, by decide +kernel, rfl, by decide +kernel, by decide +kernel⟩
def g_L_bad : Gs := (retG (f2 gIx (fL gLstD (fCons (fC (.str "")) (fCons (f2 gAdd (fVar 0) (fC (.str " "))) (fCons (f2 gAdd (fC (.str "x")) (fVar 0)) (fCons (f2 gIx (fM gSplit (fVar 0) (fCons (fC (.str " ")) fNil)) (fC (.int 0))) (fCons (fM gUpper (fVar 0) fNil) (fCons (f2 gAdd (fC (.str " ")) (fVar 0)) fNil))))))) (f2 gMod (fVar 1) (fC (.int 6)))))
def f_L_bad : List D → Option D := dF 2 N_L_bad g_L_bad
theorem ok_L_bad {P : Program} {w : World} {K : PySem.W.Frag} {mg : Str → Option Value} {base : Heap} {f : Addr} {fd : FuncData} (T : Txt K w mg)  (Fn : Fun K "_law_bad" "_law_bad" s_L_bad f fd) : FnOk P w K mg base CX0 1 f fd P_L_bad (spD K f_L_bad) := by
  refine okD (g := g_L_bad) Fn sc_L_bad (fun cdv A outer s H E μ Hs hr => ?_) (fun ds d h => dF_ok (ps := P_L_bad) (N := N_L_bad) (g := g_L_bad) ds d h)
  exact (pg_one (pg_ret (pd_ix ix_seq imp_ix (pd_lst (pda_cons pd_str (pda_cons (pd_op op_addA imp_add (pd_var 0) pd_str) (pda_cons (pd_op op_addA imp_add pd_str (pd_var 0)) (pda_cons (pd_ix ix_seq imp_ix (pd_split (pd_var 0) pd_str) pd_int) (pda_cons (pd_upper (pd_var 0)) (pda_cons (pd_op op_addA imp_add pd_str (pd_var 0)) pda_nil))))))) (pd_op op_mod imp_mod (pd_var 1) pd_int))))
abbrev s_L_line_of : Stmt := top 27
abbrev N_L_line_of : List Str := ["_law_text", "error"]
abbrev P_L_line_of : List Str := ["_law_text"]
theorem sc_L_line_of : FnScope N_L_line_of P_L_line_of (defScope s_L_line_of) := ⟨rfl, rfl, rfl, by decide +kernel, rfl, by decide +kernel, by decide +kernel⟩
noncomputable def g_L_line_of : SG := (gSeq (gTryAs 1 mt_InvalidLine (gDrop (mCall f_parse_journal (mCons (mP (fVar 0)) mNil))) (fun x a d => (gRet (mXf2 1 "line" cf_line x a d))))
  (gRet (mP (fC (.int 0)))))
noncomputable def f_L_line_of : SFn := mF 1 N_L_line_of g_L_line_of
theorem ok_L_line_of {P : Program} {w : World} {K : PySem.W.Frag} {mg : Str → Option Value} {base : Heap} {f : Addr} {fd : FuncData} (T : Txt K w mg) (C_parse_journal : Dm P w K mg base 7 "parse_journal" P_parse_journal f_parse_journal) (Fn : Fun K "_law_line_of" "_law_line_of" s_L_line_of f fd) : FnOk P w K mg base (L2.CX P w) 8 f fd P_L_line_of (spM K mg f_L_line_of) := by
  refine okM (g := g_L_line_of) Fn sc_L_line_of fun cdv A outer s H E tk hr => ?_
  have hr_parse_journal := hr.mono (show 7 ≤ 7 by decide)
  exact (sg_cons (sg_tryAs 1 tk T.m_InvalidLine sc_L_line_of.nd (fun W2 pn xe tk2 pa2 => (sg_one (sg_drop (s_call tk2 C_parse_journal hr_parse_journal (s_cons (s_pure (pd_var 0)) s_nil))))) (fun a oe C d pn hz hf x hx hxd => (sg_one (sg_ret (s_xf2 1 T.f_line hz hf hx)))))
      (sg_one (sg_ret (s_pure pd_int))))
abbrev s_law : Stmt := top 28
abbrev N_law : List Str := ["_law_script", "_law_rows", "_law_lines", "_law_end", "_law_at", "_law_k", "_law_row_here", "_law_value"]
abbrev P_law : List Str := ["_law_script"]
theorem sc_law : FnScope N_law P_law (defScope s_law) := ⟨rfl, rfl, rfl, by decide +kernel, rfl, by decide +kernel, by decide +kernel⟩
noncomputable def g_law : SG := (gSeq (gAsg (st1 1) (mP (fLc (fIs itR1 (fCons (f2 gAdd (fC (.int 1)) (f2 gMod (fL f_L_cell (fCons (fVar 0) (fCons (fC (.int 0)) fNil))) (fC (.int 12)))) fNil)) (st1 5) ftYes (fL f_L_row (fCons (fVar 0) (fCons (f2 gAdd (fC (.int 4)) (f2 gMul (fC (.int 5)) (fVar 5))) fNil))) [5])))
  (gSeq (gAsg (st1 2) (mCell (fLc (fI itL (fVar 1)) (st1 6) ftYes (fM gJoin (fC (.str " ")) (fCons (fLc (fI itT (fVar 6)) (st1 7) ftYes (fL gStr (fCons (fVar 7) fNil)) [7]) fNil)) [6])))
  (gSeq (gAsg (st1 3) (mP (f2 gIx (fL gLstD (fCons (fC (.str "")) (fCons (fC (.str "give")) (fCons (fC (.str "nonsense")) (fCons (fC (.str " ")) (fCons (fC (.str "use ash-1")) fNil)))))) (f2 gMod (fL f_L_cell (fCons (fVar 0) (fCons (fC (.int 3)) fNil))) (fC (.int 5))))))
  (gSeq (gIf (mtB (m2 gNe (mCall f_parse_journal (mCons (m2 gAdd (m2 gAdd (mMS gJoin (mP (fC (.str "\n"))) (mCons (mP (fVar 2)) mNil)) (mP (fC (.str "\n")))) (mP (fVar 3))) mNil)) (mP (fVar 1)))) (gRet (mP (fC (.bool false)))) gNil)
  (gSeq (gAsg (st1 4) (m2 gMod (mP (fL f_L_cell (fCons (fVar 0) (fCons (fC (.int 1)) fNil)))) (mL gLen (mCons (mP (fVar 2)) mNil))))
  (gSeq (gSetIx (mCallP f_L_bad (mCons (mIx (mP (fVar 2)) (mP (fVar 4))) (mCons (mP (fL f_L_cell (fCons (fVar 0) (fCons (fC (.int 2)) fNil)))) mNil))) (mP (fVar 2)) (mP (fVar 4)))
  (gSeq (gIf (mtP (ftB (f2 gEq (f2 gMod (f2 gDiv (fL f_L_cell (fCons (fVar 0) (fCons (fC (.int 1)) fNil))) (fC (.int 12))) (fC (.int 2))) (fC (.int 1))))) (gSetIx (m2 gAdd (mIx (mP (fVar 2)) (m2 gSub (mL gLen (mCons (mP (fVar 2)) mNil)) (mP (fC (.int 1))))) (mP (fC (.str " ")))) (mP (fVar 2)) (m2 gSub (mL gLen (mCons (mP (fVar 2)) mNil)) (mP (fC (.int 1))))) gNil)
  (gRet (m2 gEq (mCall f_L_line_of (mCons (m2 gAdd (m2 gAdd (mMS gJoin (mP (fC (.str "\n"))) (mCons (mP (fVar 2)) mNil)) (mP (fC (.str "\n")))) (mP (fVar 3))) mNil)) (mP (f2 gAdd (fVar 4) (fC (.int 1)))))))))))))
noncomputable def f_law : SFn := mF 1 N_law g_law
theorem ok_law {P : Program} {w : World} {K : PySem.W.Frag} {mg : Str → Option Value} {base : Heap} {f : Addr} {fd : FuncData} (T : Txt K w mg) (C_L_cell : Df P w K mg base 1 "_law_cell" P_L_cell f_L_cell) (C_L_bad : Df P w K mg base 1 "_law_bad" P_L_bad f_L_bad) (C_L_row : Df P w K mg base 4 "_law_row" P_L_row f_L_row) (C_L_line_of : Dm P w K mg base 8 "_law_line_of" P_L_line_of f_L_line_of) (C_parse_journal : Dm P w K mg base 7 "parse_journal" P_parse_journal f_parse_journal) (Fn : Fun K "law" "law" s_law f fd) : FnOk P w K mg base (L2.CX P w) 9 f fd P_law (spM K mg f_law) := by
  refine okM (g := g_law) Fn sc_law fun cdv A outer s H E tk hr => ?_
  have hr_L_cell := hr.mono (show 1 ≤ 8 by decide)
  have hr_L_bad := hr.mono (show 1 ≤ 8 by decide)
  have hr_L_row := hr.mono (show 4 ≤ 8 by decide)
  have hr_L_line_of := hr.mono (show 8 ≤ 8 by decide)
  have hr_parse_journal := hr.mono (show 7 ≤ 8 by decide)
  exact (sg_cons (sg_asgLc 1  (own := [("_law_k", 5)]) rfl sc_law.nd (pdi_range1 T.b_range (pda_cons (pd_op op_addA imp_add pd_int (pd_op op_mod imp_mod (pd_df C_L_cell hr_L_cell (pda_cons (pd_var 0) (pda_cons pd_int pda_nil))) pd_int)) pda_nil)) (blkOk_by (own := [("_law_k", 5)]) (N := N_law) (sc := defScope s_law) (by decide +kernel)) (tg_1 5) (fun _ _ _ _ _ => (pg_name (i := 5) sc_law.nd rfl (by first | exact .inl rfl | exact .inr rfl))) tYes_D (fun _ _ _ _ _ => pts_nil) (fun _ _ _ _ _ => (pd_df C_L_row hr_L_row (pda_cons (pd_var 0) (pda_cons (pd_op op_addA imp_add pd_int (pd_op op_mul imp_mul pd_int (pd_var 5))) pda_nil)))))
      (sg_cons (sg_asgLcC 2  (own := [("_law_row_here", 6)]) rfl sc_law.nd (pdi_list (pd_var 1)) (blkOk_by (own := [("_law_row_here", 6)]) (N := N_law) (sc := defScope s_law) (by decide +kernel)) (tg_1 6) (fun _ _ _ _ _ => (pg_name (i := 6) sc_law.nd rfl (by first | exact .inl rfl | exact .inr rfl))) tYes_D (fun _ _ _ _ _ => pts_nil) (fun _ _ _ _ _ => (pd_join pd_str (pd_lc (own := [("_law_value", 7)]) rfl sc_law.nd (pdi_tup (pd_var 6)) (blkOk_closed (own := [("_law_value", 7)]) (N := N_law) (by decide +kernel)) (tg_1 7) (fun _ _ _ _ _ => (pg_name (i := 7) sc_law.nd rfl (by first | exact .inl rfl | exact .inr rfl))) tYes_D (fun _ _ _ _ _ => pts_nil) (fun _ _ _ _ _ => (pd_callTy call_strA imp_str T.b_str (pda_cons (pd_var 7) pda_nil)))))))
      (sg_cons (sg_asg 3 sc_law.nd (s_pure (pd_ix ix_seq imp_ix (pd_lst (pda_cons pd_str (pda_cons pd_str (pda_cons pd_str (pda_cons pd_str (pda_cons pd_str pda_nil)))))) (pd_op op_mod imp_mod (pd_df C_L_cell hr_L_cell (pda_cons (pd_var 0) (pda_cons pd_int pda_nil))) pd_int))))
      (sg_cons (sg_if (st_cmp (op_neA hr.units) imp_ne (s_call tk C_parse_journal hr_parse_journal (s_cons (s_op op_addA imp_add (s_op op_addA imp_add (s_join (s_pure pd_str) (s_var 2)) (s_pure pd_str)) (s_pure (pd_var 3))) s_nil)) (s_pure (pd_var 1))) (sg_one (sg_ret (s_pure pd_bool))) sg_nil)
      (sg_cons (sg_asg 4 sc_law.nd (s_op op_mod imp_mod (s_pure (pd_df C_L_cell hr_L_cell (pda_cons (pd_var 0) (pda_cons pd_int pda_nil)))) (s_callB call_len imp_len T.b_len (s_cons (s_var 2) s_nil))))
      (sg_cons (sg_setix (s_callP C_L_bad hr_L_bad (s_cons (s_ix (s_var 2) (s_pure (pd_var 4))) (s_cons (s_pure (pd_df C_L_cell hr_L_cell (pda_cons (pd_var 0) (pda_cons pd_int pda_nil)))) s_nil))) (s_var 2) (s_pure (pd_var 4)))
      (sg_cons (sg_if (st_pure (pdt_cmp (op_eqA hr.units) imp_eq (pd_op op_mod imp_mod (pd_op op_fdiv imp_div (pd_df C_L_cell hr_L_cell (pda_cons (pd_var 0) (pda_cons pd_int pda_nil))) pd_int) pd_int) pd_int)) (sg_one (sg_setix (s_op op_addA imp_add (s_ix (s_var 2) (s_op op_sub imp_sub (s_callB call_len imp_len T.b_len (s_cons (s_var 2) s_nil)) (s_pure pd_int))) (s_pure pd_str)) (s_var 2) (s_op op_sub imp_sub (s_callB call_len imp_len T.b_len (s_cons (s_var 2) s_nil)) (s_pure pd_int)))) sg_nil)
      (sg_one (sg_ret (s_cmp (op_eqA hr.units) imp_eq (s_call tk C_L_line_of hr_L_line_of (s_cons (s_op op_addA imp_add (s_op op_addA imp_add (s_join (s_pure pd_str) (s_var 2)) (s_pure pd_str)) (s_pure (pd_var 3))) s_nil)) (s_pure (pd_op op_addA imp_add (pd_var 4) pd_int))))))))))))
end Lh

namespace Lh
open PySem PySem.Spec L2 SkE Pd
open PyProof.Rows hiding St
open TL NumText
local macro_rules | `(tactic| walk_at "xcall") => `(tactic| fail)
local macro_rules | `(tactic| walk_at "xd") => `(tactic| first | assumption | omega | decide | (rw [sizeLine_eq]; omega) | (rw [sizeLine_eq]; simp; done) | (simp; done) | (simp [sizeLine_eq]; omega))
local macro_rules | `(tactic| walk_at "xo") => `(tactic| with_reducible first
  | exact x_add | exact x_sub | exact x_eqI | exact x_eqS | exact x_eqB | exact x_neI | exact x_neS | exact x_neB | exact x_lt | exact x_le | exact x_gt | exact x_ge | exact x_ltS | exact x_gtS
  | exact x_inC | exact x_notInC | exact x_lenL | exact x_lenT | exact x_lenN | exact x_int | exact x_intB | exact x_strS | exact x_abs | exact x_neg | exact x_startsM | exact x_truB | exact x_truL | exact x_truT | exact x_truI | exact x_truN | apply x_truS | exact x_endsM
  | apply x_addS | apply x_addL | apply x_addT | apply x_mulL | apply x_div | apply x_mod | apply x_lenS | apply x_intS | apply x_str | apply x_tupD | apply x_lstD
  | apply x_splitM | apply x_partM | apply x_upperM | apply x_ixL | apply x_ixT | apply x_ixN | apply x_ixS | apply x_isi | exact x_isN0 | exact x_notN0)
local macro_rules | `(tactic| walk_at "x1") => `(tactic| first
  | with_reducible exact x_C | with_reducible exact x_nil | with_reducible exact x_no | with_reducible exact x_yes | ((with_reducible apply x_var); rfl)
  | with_reducible apply x_f2 | with_reducible apply x_f1 | with_reducible apply x_cons | with_reducible apply x_L | with_reducible apply x_M | with_reducible apply x_I | with_reducible apply x_Is | with_reducible apply x_oE | with_reducible apply x_sl
  | with_reducible apply x_tB | with_reducible apply x_tV | with_reducible apply x_tand | with_reducible apply x_tor | with_reducible apply x_tnot | with_reducible apply x_and | with_reducible apply x_or | with_reducible apply x_not | with_reducible apply x_chain
  | walk_at "xo" | (intro _) | walk_at "xcall" | walk_at "xd")
local macro_rules | `(tactic| walk_at "x") => `(tactic| repeat' (walk_at "x1"))

/-! the notation's functions -/

def isOff (l : List Nat) : Bool := decide (1 ≤ l.length ∧ l.length ≤ 12) && l.all fun c => decide (97 ≤ c ∧ c ≤ 122)
theorem az_mem (c : Nat) : c ∈ (Str.ofString "abcdefghijklmnopqrstuvwxyz").cps.toList ↔ 97 ≤ c ∧ c ≤ 122 := by
  have e : (Str.ofString "abcdefghijklmnopqrstuvwxyz").cps.toList = (List.range 26).map (· + 97) := by decide +kernel
  rw [e, List.mem_map]
  constructor
  · rintro ⟨k, h1, rfl⟩
    have := List.mem_range.mp h1
    omega
  · rintro ⟨h1, h2⟩
    exact ⟨c - 97, List.mem_range.mpr (by omega), by omega⟩
theorem dig_mem (c : Nat) : c ∈ (Str.ofString "0123456789").cps.toList ↔ 48 ≤ c ∧ c ≤ 57 := by
  have e : (Str.ofString "0123456789").cps.toList = (List.range 10).map (· + 48) := by decide +kernel
  rw [e, List.mem_map]
  constructor
  · rintro ⟨k, h1, rfl⟩
    have := List.mem_range.mp h1
    omega
  · rintro ⟨h1, h2⟩
    exact ⟨c - 48, List.mem_range.mpr (by omega), by omega⟩
abbrev chD (c : Nat) : D := .str ⟨#[c]⟩
theorem itS_str (s : Str) : itS (.str s) = some ((tl s).map chD) := rfl
theorem e_is_office (s : Str) (hs : s.length ≤ 100000) : f_is_office [.str s] = some (.bool (isOff (tl s))) := by
  refine f_of rfl (w_seq ?_)
  refine w_for (fun rest ρ => ∃ (l m : List Nat) (o : Sl), tl s = l ++ m ∧ rest = m.map chD ∧ (l.all fun c => decide (97 ≤ c ∧ c ≤ 122)) = true ∧ ρ = [.val (.str s), o]) (x_I (x_var rfl) (itS_str s)) ⟨[], tl s, .junk, rfl, rfl, rfl, rfl⟩ ?_ ?_
  · rintro d rest ρ ⟨l, m, o, e1, e2, e3, rfl⟩
    cases m with
    | nil => cases e2
    | cons c m =>
      cases e2
      refine ⟨_, rfl, ?_⟩
      refine w_if (x := !decide (c ∈ (Str.ofString "abcdefghijklmnopqrstuvwxyz").cps.toList)) (by walk_at "x") (fun h => ?_) (fun h => ?_)
      · refine w_ret (d := .bool false) (by walk_at "x") ?_
        have hc : ¬ (97 ≤ c ∧ c ≤ 122) := by
          rw [← az_mem]
          simpa using h
        have : isOff (tl s) = false := by
          unfold isOff
          rw [e1, List.all_append, List.all_cons, decide_eq_false hc]
          simp
        rw [this]
        exact rfl
      · refine w_nil ⟨l ++ [c], m, _, by rw [e1]; simp, rfl, ?_, rfl⟩
        have hc : 97 ≤ c ∧ c ≤ 122 := by
          rw [← az_mem]
          simpa using h
        rw [List.all_append, e3]
        simp [hc]
  · rintro ρ ⟨l, m, o, e1, e2, e3, rfl⟩
    cases m with
    | cons c m => cases e2
    | nil =>
      rw [List.append_nil] at e1
      have hl : s.length = (tl s).length := len_tl s
      refine w_ret (d := .bool (isOff (tl s))) ?_ rfl
      have e : isOff (tl s) = (decide ((1 : Int) ≤ (s.length : Int)) && decide ((s.length : Int) ≤ 12)) := by
        unfold isOff
        rw [e1, e3, Bool.and_true, ← e1, ← hl, Bool.eq_iff_iff]
        simp only [decide_eq_true_eq, Bool.and_eq_true]
        omega
      rw [e]
      walk_at "x"
def digs (l : List Nat) : Bool := l.all fun c => decide (48 ≤ c ∧ c ≤ 57)
theorem digs_all {l : List Nat} (h : digs l = true) : AllDigits l := fun c hc => by
  have := List.all_eq_true.mp h c hc
  exact of_decide_eq_true this
def numOf (l : List Nat) : Option Nat := if digs l = true ∧ l ≠ [] ∧ l.take 1 ≠ [48] ∧ l.length ≤ 10 ∧ digitsVal l ≤ 1000000000 then some (digitsVal l) else none
def numD (l : List Nat) : D := match numOf l with
  | some n => .int n
  | none => .non
theorem str_empty_iff (s : Str) : s = ("" : Str) ↔ tl s = [] := by
  have e : tl ("" : Str) = [] := by decide +kernel
  constructor
  · rintro rfl; exact e
  · intro h; exact ext_tl (h.trans e.symm)
theorem tl_0 : tl ("0" : Str) = [48] := by decide +kernel
theorem numD_bad {l : List Nat} (h : ¬ (digs l = true ∧ l ≠ [] ∧ l.take 1 ≠ [48] ∧ l.length ≤ 10 ∧ digitsVal l ≤ 1000000000)) : numD l = .non := by
  unfold numD numOf
  rw [if_neg h]
theorem e_number_of (s : Str) (hs : s.length ≤ 100000) : f_number_of [.str s] = some (numD (tl s)) := by
  have hl : s.length = (tl s).length := len_tl s
  refine f_of rfl (w_seq ?_)
  refine w_for (fun rest ρ => ∃ (l m : List Nat) (o : Sl), tl s = l ++ m ∧ rest = m.map chD ∧ digs l = true ∧ ρ = [.val (.str s), o]) (x_I (x_var rfl) (itS_str s)) ⟨[], tl s, .junk, rfl, rfl, rfl, rfl⟩ ?_ ?_
  · rintro d rest ρ ⟨l, m, o, e1, e2, e3, rfl⟩
    cases m with
    | nil => cases e2
    | cons c m =>
      cases e2
      refine ⟨_, rfl, ?_⟩
      refine w_if (x := !decide (c ∈ (Str.ofString "0123456789").cps.toList)) (by walk_at "x") (fun h => ?_) (fun h => ?_)
      · refine w_ret (d := .non) (by walk_at "x") ?_
        have hc : ¬ (48 ≤ c ∧ c ≤ 57) := by
          rw [← dig_mem]
          simpa using h
        refine (numD_bad fun hb => hc ?_).symm
        have := List.all_eq_true.mp hb.1 c (by rw [e1]; simp)
        exact of_decide_eq_true this
      · refine w_nil ⟨l ++ [c], m, _, by rw [e1]; simp, rfl, ?_, rfl⟩
        have hc : 48 ≤ c ∧ c ≤ 57 := by
          rw [← dig_mem]
          simpa using h
        unfold digs at e3 ⊢
        rw [List.all_append, e3]
        simp [hc]
  · rintro ρ ⟨l, m, o, e1, e2, e3, rfl⟩
    cases m with
    | cons c m => cases e2
    | nil =>
      rw [List.append_nil] at e1
      rw [← e1] at e3
      have hiv : tl s ≠ [] → PySem.intText? s = some ((digitsVal (tl s) : Nat) : Int) ∨ ¬ s.length ≤ 10 := fun h0 => by
        by_cases h10 : s.length ≤ 10
        · exact .inl (intText_digits (digs_all e3) h0 (by omega))
        · exact .inr h10
      refine w_seq (w_if (x := decide (s = ("" : Str)) || (Txt.startswith s "0" || (decide ((10 : Int) < (s.length : Int)) || decide ((1000000000 : Int) < ((digitsVal (tl s) : Nat) : Int))))) ?_ (fun h => ?_) (fun h => ?_))
      · refine x_tor (by walk_at "x") fun h1 => x_tor (by walk_at "x") fun h2 => x_tor (by walk_at "x") fun h3 => ?_
        have h0 : tl s ≠ [] := fun z => by
          have := of_decide_eq_false h1
          exact this ((str_empty_iff s).mpr z)
        have h10 : s.length ≤ 10 := by
          have := of_decide_eq_false h3
          omega
        rcases hiv h0 with hv | hv
        · refine x_tB (x_f2 (x_L (x_cons (x_var rfl) x_nil) (x_intS (by omega) hv)) x_C x_gt)
        · exact absurd h10 hv
      · refine w_ret (d := .non) (by walk_at "x") ?_
        refine (numD_bad fun hb => ?_).symm
        obtain ⟨b1, b2, b3, b4, b5⟩ := hb
        rw [starts_eq, tl_0] at h
        simp only [Bool.or_eq_true, decide_eq_true_eq, beq_iff_eq] at h
        rcases h with h | h | h | h
        · exact b2 ((str_empty_iff s).mp h)
        · exact b3 h
        · omega
        · omega
      · rw [starts_eq, tl_0] at h
        simp only [Bool.or_eq_false_iff, decide_eq_false_iff_not, beq_eq_false_iff_ne] at h
        obtain ⟨h1, h2, h3, h4⟩ := h
        have h0 : tl s ≠ [] := fun z => h1 ((str_empty_iff s).mpr z)
        have h10 : s.length ≤ 10 := by omega
        have e : numD (tl s) = .int ((digitsVal (tl s) : Nat) : Int) := by
          unfold numD numOf
          rw [if_pos ⟨e3, h0, h2, by omega, by omega⟩]
        refine w_nil ?_
        refine w_ret (d := .int ((digitsVal (tl s) : Nat) : Int)) ?_ e.symm
        rcases hiv h0 with hv | hv
        · exact x_L (x_cons (x_var rfl) x_nil) (x_intS (by omega) hv)
        · exact absurd h10 hv
def isThg (l : List Nat) : Bool := match dash l with
  | some (a, b) => isOff a && (numOf b).isSome
  | none => false
theorem dash_len {l a b : List Nat} (h : dash l = some (a, b)) : a.length + b.length + 1 = l.length := by
  rw [(dash_some h).1, List.length_append, List.length_cons]
  omega
theorem x_notN_num {l : List Nat} : gNotN (numD l) .non = some (.bool (numOf l).isSome) := by
  unfold numD
  cases numOf l <;> rfl
theorem e_is_thing (s : Str) (hs : s.length ≤ 100000) : f_is_thing [.str s] = some (.bool (isThg (tl s))) := by
  have hl : s.length = (tl s).length := len_tl s
  refine f_of rfl (w_seq ?_)
  have hp := partition_dash s
  have hx : fM gPartition (fVar 0) (fCons (fC (.str "-")) fNil) (rho0 N_is_thing [D.str s]) = some (.tup [.str (Txt.partition s "-").1, .str (Txt.partition s "-").2.1, .str (Txt.partition s "-").2.2]) :=
    x_M (x_var rfl) (x_cons x_C x_nil) (x_partM (by decide +kernel) (by rw [sizeLine_eq]; omega))
  refine w_asg3 hx ?_
  unfold isThg
  cases q : dash (tl s) with
  | none =>
    rw [q] at hp
    rw [hp]
    refine w_ret (d := .bool false) ?_ rfl
    have e : decide (Str.empty = ("" : Str)) = true := by decide +kernel
    refine x_and (x := false) (x_f2 (x_var rfl) x_C (x_neS.trans (by rw [e]; rfl))) (y := false) fun h => nomatch h
  | some p =>
    obtain ⟨a, b⟩ := p
    rw [q] at hp
    have hab := dash_len q
    rw [hp]
    have e : decide (("-" : Str) = ("" : Str)) = false := by decide +kernel
    have ha := e_is_office ⟨a.toArray⟩ (by rw [len_tl, tl_mk]; omega)
    have hb := e_number_of ⟨b.toArray⟩ (by rw [len_tl, tl_mk]; omega)
    rw [tl_mk] at ha hb
    refine w_ret (d := .bool (isOff a && (numOf b).isSome)) ?_ rfl
    refine (x_and (x := true) (x_f2 (x_var rfl) x_C (x_neS.trans (by rw [e]; rfl))) fun _ => ?_)
    refine x_and (x_L (x_cons (x_var rfl) x_nil) ha) fun _ => ?_
    exact x_f2 (x_L (x_cons (x_var rfl) x_nil) hb) x_C x_notN_num
theorem e_cell (ns : List Int) (k : Nat) (hk : k < 1000) : ∃ c : Int, f_L_cell [.scr ns, .int (k : Int)] = some (.int c) := by
  obtain ⟨d, h1, c, rfl⟩ := f_ex (n := 2) (N := N_L_cell) (g := g_L_cell) (ds := [.scr ns, .int (k : Int)]) (P := fun d => ∃ c, d = .int c) rfl (w_seq (w_if (x := decide ((k : Int) < (ns.length : Int))) (by walk_at "x") (fun h => by
    have hk' : k < ns.length := by have := of_decide_eq_true h; omega
    exact w_ret (d := .int ns[k]) (x_L (x_cons (x_f2 (x_var rfl) (x_var rfl) (x_ixN (atI_n (a := ns[k]) (by simp [hk'])))) x_nil) x_int) ⟨_, rfl⟩) (fun h => w_nil (w_ret (d := .int (7 * (k : Int))) (by walk_at "x") ⟨_, rfl⟩))))
  exact ⟨c, h1⟩
theorem rngD_eq (n : Nat) : rngD 0 n = (List.range n).map fun (k : Nat) => D.int (0 + (k : Nat)) := rfl
theorem isOff_app {l : List Nat} {c : Nat} (h : (l.all fun c => decide (97 ≤ c ∧ c ≤ 122)) = true) (hc : 97 ≤ c ∧ c ≤ 122) : ((l ++ [c]).all fun c => decide (97 ≤ c ∧ c ≤ 122)) = true := by
  rw [List.all_append, h]
  simp [hc]
theorem len26 : (Str.ofString "abcdefghijklmnopqrstuvwxyz").cps.toList.length = 26 := by decide +kernel
theorem len26' : (Str.ofString "abcdefghijklmnopqrstuvwxyz").length = 26 := by decide +kernel
theorem e_office (c : Int) : ∃ s : Str, f_L_office [.int c] = some (.str s) ∧ isOff (tl s) = true := by
  obtain ⟨d, h1, s, rfl, h2⟩ := f_ex (n := 1) (N := N_L_office) (g := g_L_office) (ds := [.int c]) (P := fun d => ∃ s : Str, d = .str s ∧ isOff (tl s) = true) rfl
    (by
      refine w_seq (w_asg x_C (w_seq (w_asg (d := .int (if c < 0 then -c else c)) (by walk_at "x") (w_seq ?_))))
      have hr0 : 0 ≤ (if c < 0 then -c else c) := by split <;> omega
      generalize (if c < 0 then -c else c) = r0 at hr0
      have hm0 : 0 ≤ r0 % 12 := Int.emod_nonneg _ (by decide)
      have hm1 : r0 % 12 < 12 := Int.emod_lt_of_pos _ (by decide)
      refine w_for (fun rest ρ => ∃ (i n : Nat) (s : Str) (r : Int) (o : Sl), i + n = (1 + r0 % 12).toNat ∧ rest = ((List.range n).map fun (k : Nat) => D.int (((i + k : Nat) : Int))) ∧ s.length = i ∧ ((tl s).all fun c => decide (97 ≤ c ∧ c ≤ 122)) = true ∧ 0 ≤ r ∧ ρ = [.val (.int c), .val (.str s), .val (.int r), o])
        (ds := rngD 0 (1 + r0 % 12).toNat) (x_Is (x_cons (a := .int (1 + r0 % 12)) (by walk_at "x") x_nil) (x_R1' (by omega) (by omega)))
        ⟨0, (1 + r0 % 12).toNat, Str.ofString "", r0, .junk, by omega, ?_, by decide +kernel, by decide +kernel, hr0, rfl⟩ ?_ ?_
      · unfold rngD
        simp
      · rintro d rest ρ ⟨i, n, s, r, o, e1, e2, e3, e4, e5, rfl⟩
        cases n with
        | zero => cases e2
        | succ n =>
          rw [List.range_succ_eq_map, List.map_cons] at e2
          cases e2
          have hi12 : i < 12 := by omega
          have q0 : 0 ≤ r / 12 % 26 := Int.emod_nonneg _ (by decide)
          have q1 : r / 12 % 26 < 26 := Int.emod_lt_of_pos _ (by decide)
          have hix : (r / 12 % 26).toNat < (Str.ofString "abcdefghijklmnopqrstuvwxyz").cps.toList.length := by rw [len26]; omega
          have hc := (az_mem _).mp (List.getElem_mem hix)
          generalize hg : (Str.ofString "abcdefghijklmnopqrstuvwxyz").cps.toList[(r / 12 % 26).toNat] = ch at hc
          have e6 : atI (Str.ofString "abcdefghijklmnopqrstuvwxyz").cps.toList (r / 12 % 26) = some ch := atI_pos q0 (by rw [List.getElem?_eq_getElem hix, hg])
          refine ⟨_, rfl, w_seq (w_asg (d := .str (s ++ ⟨#[ch]⟩)) ?_ (w_asg (d := .int (r / 7 + 31 * ((i + 0 : Nat) : Int))) (by walk_at "x") ?_))⟩
          · refine x_f2 (x_var rfl) (x_f2 x_C (b := .int (r / 12 % 26)) (by walk_at "x") (x_ixS (by rw [len26', sizeLine_eq]; omega) e6)) (x_addS ?_)
            show s.length + 1 ≤ sizeLine
            rw [sizeLine_eq]
            omega
          · refine ⟨i + 1, n, _, _, _, by omega, ?_, ?_, ?_, ?_, rfl⟩
            · rw [List.map_map]
              refine List.map_congr_left fun k _ => ?_
              show D.int _ = D.int _
              congr 2
              omega
            · rw [len_tl, tl_append, List.length_append, ← len_tl, e3]
              rfl
            · rw [tl_append]
              exact isOff_app e4 hc
            · have h7 : 0 ≤ r / 7 := Int.ediv_nonneg e5 (by decide)
              omega
      · rintro ρ ⟨i, n, s, r, o, e1, e2, e3, e4, e5, rfl⟩
        cases n with
        | succ n => rw [List.range_succ_eq_map, List.map_cons] at e2; cases e2
        | zero =>
          refine w_ret (x_var rfl) ⟨s, rfl, ?_⟩
          unfold isOff
          rw [e4, Bool.and_true, decide_eq_true_eq, ← len_tl, e3]
          omega)
  exact ⟨s, h1, h2⟩
theorem e_number (c : Int) : ∃ n : Nat, f_L_number [.int c] = some (.int (n : Int)) ∧ 1 ≤ n ∧ n ≤ 1000000000 := by
  have m0 : 0 ≤ c % 4 := Int.emod_nonneg _ (by decide)
  have m1 : c % 4 < 4 := Int.emod_lt_of_pos _ (by decide)
  have a0 : 0 ≤ c / 4 % 9 := Int.emod_nonneg _ (by decide)
  have a1 : c / 4 % 9 < 9 := Int.emod_lt_of_pos _ (by decide)
  have b0 : 0 ≤ c / 4 % 1000000000 := Int.emod_nonneg _ (by decide)
  have b1 : c / 4 % 1000000000 < 1000000000 := Int.emod_lt_of_pos _ (by decide)
  have c0 : 0 ≤ c / 4 % 3 := Int.emod_nonneg _ (by decide)
  have c1 : c / 4 % 3 < 3 := Int.emod_lt_of_pos _ (by decide)
  have d0 : 0 ≤ c / 4 % 200 := Int.emod_nonneg _ (by decide)
  have d1 : c / 4 % 200 < 200 := Int.emod_lt_of_pos _ (by decide)
  have key : ∀ n : Int, atI [D.int (1 + c / 4 % 9), .int (1 + c / 4 % 1000000000), .int (1000000000 - c / 4 % 3), .int (1 + c / 4 % 200)] (c % 4) = some (.int n) → f_L_number [.int c] = some (.int n) := fun n hn =>
    f_of rfl (w_ret (x_f2 (a := .lst [D.int (1 + c / 4 % 9), .int (1 + c / 4 % 1000000000), .int (1000000000 - c / 4 % 3), .int (1 + c / 4 % 200)]) (b := .int (c % 4)) (by walk_at "x") (by walk_at "x") (x_ixL hn)) rfl)
  have cases : c % 4 = 0 ∨ c % 4 = 1 ∨ c % 4 = 2 ∨ c % 4 = 3 := by omega
  rcases cases with h | h | h | h
  · exact ⟨(1 + c / 4 % 9).toNat, by rw [Int.toNat_of_nonneg (by omega)]; exact key _ (by rw [h]; rfl), by omega, by omega⟩
  · exact ⟨(1 + c / 4 % 1000000000).toNat, by rw [Int.toNat_of_nonneg (by omega)]; exact key _ (by rw [h]; rfl), by omega, by omega⟩
  · exact ⟨(1000000000 - c / 4 % 3).toNat, by rw [Int.toNat_of_nonneg (by omega)]; exact key _ (by rw [h]; rfl), by omega, by omega⟩
  · exact ⟨(1 + c / 4 % 200).toNat, by rw [Int.toNat_of_nonneg (by omega)]; exact key _ (by rw [h]; rfl), by omega, by omega⟩
def okc (l : List Nat) : Prop := ∀ c ∈ l, c < 0x110000
theorem strOk_of {s : Str} (h : okc (tl s)) : PyData.strOk s = true := by
  unfold PyData.strOk
  rw [Array.all_eq_true']
  intro c hc
  exact decide_eq_true (h c (by simpa using hc))
theorem tl_a : tl ("a" : Str) = [97] := by decide +kernel
theorem tl_z : tl ("z" : Str) = [122] := by decide +kernel
theorem tl_9 : tl ("9" : Str) = [57] := by decide +kernel
def gd (k : Nat) (s : Str) : Prop := s.length ≤ k ∧ okc (tl s)
theorem gd_app {a b : Str} {k m : Nat} (h : gd k a) (h2 : gd m b) : gd (k + m) (a ++ b) := by
  refine ⟨?_, fun c hc => ?_⟩
  · have := h.1
    have := h2.1
    rw [len_tl] at *
    rw [tl_append, List.length_append]
    omega
  · rw [tl_append, List.mem_append] at hc
    rcases hc with hc | hc
    · exact h.2 c hc
    · exact h2.2 c hc
theorem gd_lit {s : Str} (k : Nat) (h : (decide (s.length ≤ k) && (tl s).all fun c => decide (c < 1114112)) = true) : gd k s := by
  rw [Bool.and_eq_true, decide_eq_true_eq, List.all_eq_true] at h
  exact ⟨h.1, fun c hc => of_decide_eq_true (h.2 c hc)⟩
theorem gd_num {n : Nat} (h : n ≤ 1000000000) : gd 10 (Str.ofString (toString ((n : Nat) : Int))) := by
  refine ⟨?_, fun c hc => ?_⟩
  · rw [len_tl, tl_num]
    exact numL_len (by decide) (by omega)
  · rw [tl_num] at hc
    have := numL_digits n c hc
    omega
theorem isOff_gd {s : Str} (h : isOff (tl s) = true) : gd 12 s ∧ ∀ c ∈ tl s, 97 ≤ c ∧ c ≤ 122 := by
  unfold isOff at h
  rw [Bool.and_eq_true, decide_eq_true_eq, ← len_tl, List.all_eq_true] at h
  have h2 : ∀ c ∈ tl s, 97 ≤ c ∧ c ≤ 122 := fun c hc => of_decide_eq_true (h.2 c hc)
  exact ⟨⟨h.1.2, fun c hc => by have := h2 c hc; omega⟩, h2⟩
def gdD (d : D) : Prop := ∃ s : Str, d = .str s ∧ gd 100000 s
theorem gd_mono {s : Str} {k m : Nat} (h : gd k s) (hk : k ≤ m) : gd m s := ⟨Nat.le_trans h.1 hk, h.2⟩
theorem shaped_pair {s : Str} {i : Int} (h : okc (tl s)) : SeqAt.shaped (D.tup [.str s, .int i]).py = true ∧ PyData.eqv (D.tup [.str s, .int i]).py (D.tup [.str s, .int i]).py = true := by
  have h1 : (D.tup [.str s, .int i]).py.canLay0 = true := by
    show (PyData.strOk s && (true && true)) = true
    rw [strOk_of h] <;> rfl
  refine ⟨?_, SeqAt.eqv_refl _ h1⟩
  unfold SeqAt.shaped
  simp only [h1, Bool.true_and]
  exact decide_eq_true (by show 1 ≤ 64; decide)
theorem numL_head : ∀ n, 1 ≤ n → (numL n).take 1 ≠ [48] := by
  intro n
  induction n using Nat.strongRecOn with
  | _ n ih =>
    intro hn h
    by_cases h10 : n < 10
    · rw [numL_lt h10] at h
      simp at h
      omega
    · rw [numL_step (by omega), List.take_append_of_le_length] at h
      · exact ih (n / 10) (by omega) (by omega) h
      · exact List.length_pos_iff.mpr (numL_ne _)
theorem digs_num (n : Nat) : digs (numL n) = true := by
  unfold digs
  rw [List.all_eq_true]
  intro c hc
  exact decide_eq_true (numL_digits n c hc)
theorem numOf_num {n : Nat} (h1 : 1 ≤ n) (h2 : n ≤ 1000000000) : numOf (numL n) = some n := by
  have hc : digs (numL n) = true ∧ numL n ≠ [] ∧ (numL n).take 1 ≠ [48] ∧ (numL n).length ≤ 10 ∧ digitsVal (numL n) ≤ 1000000000 :=
    ⟨digs_num n, numL_ne n, numL_head n h1, numL_len (by decide) (by omega), by rw [numL_val]; exact h2⟩
  unfold numOf
  rw [if_pos hc, numL_val]

theorem x_ifE {ρ : Rho} {ft : Ft} {f g : F} {x : Bool} {a b : D} (h1 : ft ρ = some x) (h2 : f ρ = some a) (h3 : g ρ = some b) : fIf ft f g ρ = some (if x = true then a else b) := x_if h1 (fun q => by rw [if_pos q]; exact h2) (fun q => by rw [if_neg (by rw [q]; exact Bool.false_ne_true)]; exact h3)
/-- the value of a word by its kind's sign -/
def valD (c : Nat) (w : Str) : D := if c = 110 then numD (tl w) else if c = 111 then (if isOff (tl w) = true then .str w else .non) else (if isThg (tl w) = true then .str w else .non)
theorem eq_sg (c : Nat) (z : Str) (k : Nat) (hz : tl z = [k]) : decide ((⟨#[c]⟩ : Str) = z) = decide (c = k) := by
  rw [Bool.eq_iff_iff, decide_eq_true_eq, decide_eq_true_eq]
  constructor
  · intro h
    rw [← h] at hz
    simpa [tl] using hz
  · intro h
    subst h
    rw [← mk_tl z, hz]
theorem tl_n : tl ("n" : Str) = [110] := by decide +kernel
theorem tl_o : tl ("o" : Str) = [111] := by decide +kernel
theorem e_value_of (w : Str) (c : Nat) (hw : w.length ≤ 100000) : f_value_of [.str w, .str ⟨#[c]⟩] = some (valD c w) := by
  refine f_of rfl (w_seq (w_if (x := decide (c = 110)) (x_tB ((x_f2 (x_var rfl) x_C x_eqS).trans (by rw [eq_sg c "n" 110 tl_n]))) (fun h => ?_) fun h => ?_))
  · have h := of_decide_eq_true h
    refine w_ret (x_L (x_cons (x_var rfl) x_nil) (e_number_of w hw)) ?_
    show numD (tl w) = valD c w
    unfold valD
    rw [if_pos h]
  · have h := of_decide_eq_false h
    refine w_nil (w_seq (w_if (x := decide (c = 111)) (x_tB ((x_f2 (x_var rfl) x_C x_eqS).trans (by rw [eq_sg c "o" 111 tl_o]))) (fun h2 => ?_) fun h2 => ?_))
    · have h2 := of_decide_eq_true h2
      refine w_ret (x_ifE (x := isOff (tl w)) (x_tV (x_L (x_cons (x_var rfl) x_nil) (e_is_office w hw)) x_truB) (x_var rfl) x_C) ?_
      show (if isOff (tl w) = true then D.str w else D.non) = valD c w
      unfold valD
      rw [if_neg h, if_pos h2]
    · have h2 := of_decide_eq_false h2
      refine w_nil (w_ret (x_ifE (x := isThg (tl w)) (x_tV (x_L (x_cons (x_var rfl) x_nil) (e_is_thing w hw)) x_truB) (x_var rfl) x_C) ?_)
      show (if isThg (tl w) = true then D.str w else D.non) = valD c w
      unfold valD
      rw [if_neg h, if_neg h2]

/-- the values of words by a shape's signs -/
def zipV : List Str → List Nat → List D
  | w :: ws, c :: cs => valD c w :: zipV ws cs
  | _, _ => []
def isNo : D → Bool
  | .non => true
  | _ => false
def valsD (ws : List Str) (cs : List Nat) : D := if ws.length = cs.length then (if (zipV ws cs).any isNo = true then .non else .lst (zipV ws cs)) else .non
theorem valD_flat (c : Nat) (w : Str) : (valD c w).flat = true := by
  unfold valD numD
  split
  · split <;> rfl
  · split
    · split <;> rfl
    · split <;> rfl
theorem zipV_flat : ∀ (ws : List Str) (cs : List Nat), (zipV ws cs).all D.flat = true
  | [], _ => rfl
  | _ :: _, [] => rfl
  | w :: ws, c :: cs => by
    show ((valD c w).flat && (zipV ws cs).all D.flat) = true
    rw [valD_flat, zipV_flat ws cs]; rfl
theorem eqF_non : ∀ d : D, d.eqF .non = isNo d := fun d => by cases d <;> rfl
theorem zipV_go {ρ : Rho} : ∀ (ws : List Str) (cs : List Nat), (∀ w ∈ ws, w.length ≤ 100000) → ρ.length = 5 → lcGo (st2 3 4) ftYes (fL f_value_of (fCons (fVar 3) (fCons (fVar 4) fNil))) ρ (zsD (ws.map D.str) cs) = some (zipV ws cs)
  | [], _, _, _ => rfl
  | _ :: _, [], _, _ => rfl
  | w :: ws, c :: cs, h, hl => by
    have ih := zipV_go (ρ := ρ) ws cs (fun x hx => h x (List.mem_cons_of_mem _ hx)) hl
    match ρ, hl, ih with
    | [a, b, d, e, f], _, ih =>
      rw [List.map_cons]
      unfold zsD lcGo
      have e1 : st2 3 4 (D.tup [D.str w, D.str ⟨#[c]⟩]) [a, b, d, e, f] = some [a, b, d, .val (.str w), .val (.str ⟨#[c]⟩)] := rfl
      have e2 : fL f_value_of (fCons (fVar 3) (fCons (fVar 4) fNil)) [a, b, d, .val (.str w), .val (.str ⟨#[c]⟩)] = some (valD c w) := x_L (x_cons (x_var rfl) (x_cons (x_var rfl) x_nil)) (e_value_of w c (h w List.mem_cons_self))
      rw [e1, b1_some, show ftYes _ = some true from rfl, b1_some, if_pos rfl, e2, b1_some, ih, b1_some]
      rfl
theorem e_values_of (ws : List Str) (sh : Str) (hw : ∀ w ∈ ws, w.length ≤ 100000) (hn : ws.length ≤ 100000) (hs : sh.length ≤ 100000) (ha : sh.cps.all (· < 128) = true) : f_values_of [.lst (ws.map D.str), .str sh] = some (valsD ws (tl sh)) := by
  have hl : sh.length = (tl sh).length := len_tl sh
  refine f_of rfl (w_seq (w_if (x := !decide (ws.length = (tl sh).length)) (x_tB ((x_f2 (x_L (x_cons (x_var rfl) x_nil) x_lenL) (x_L (x_cons (x_var rfl) x_nil) (x_lenS (by rw [sizeLine_eq]; omega))) x_neI).trans ?_)) (fun h => w_ret x_C ?_) fun h => w_nil ?_))
  · have e : decide ((ws.length : Int) = ((tl sh).length : Int)) = decide (ws.length = (tl sh).length) := by
      rw [Bool.eq_iff_iff, decide_eq_true_eq, decide_eq_true_eq]
      omega
    rw [List.length_map, hl, e]
  · have : ¬ ws.length = (tl sh).length := by simpa using h
    show D.non = valsD ws (tl sh)
    unfold valsD
    rw [if_neg this]
  · have he : ws.length = (tl sh).length := by simpa using h
    have hz : (zsD (ws.map D.str) sh.cps.toList).length ≤ 1000000 := by rw [zsD_len, List.length_map]; omega
    refine w_seq (w_asg (d := .lst (zipV ws (tl sh))) (x_lc (x_Is (x_cons (x_var rfl) (x_cons (x_var rfl) x_nil)) (if_pos ha)) hz (zipV_go ws (tl sh) hw rfl)) ?_)
    refine w_seq (w_if (x := (zipV ws (tl sh)).any isNo) (x_tB (x_f2 x_C (x_var rfl) ?_)) (fun h2 => w_ret x_C ?_) fun h2 => w_nil (w_ret (x_var rfl) ?_))
    · have : gIn0 .non (.lst (zipV ws (tl sh))) = some ((zipV ws (tl sh)).any fun z => z.eqF .non) := by
        show (if D.non.flat && (zipV ws (tl sh)).all D.flat then _ else _) = _
        rw [zipV_flat]
        rfl
      unfold gIn
      rw [this, b1_some]
      congr 3
      exact funext eqF_non
    · show D.non = valsD ws (tl sh)
      unfold valsD
      rw [if_pos he, if_pos h2]
    · show D.lst _ = valsD ws (tl sh)
      unfold valsD
      rw [if_pos he, if_neg (by rw [h2]; exact Bool.false_ne_true)]

/-- the shape of a line by its first word -/
def shOf (w : Str) : Option (List Nat) := (kv_LINES.lookup w).map tl
/-- what the words behind the first one are worth -/
def rowD (w : Str) (ws : List Str) (cs : List Nat) : D := match valsD ws cs with
  | .lst vs => .tup (.str w :: vs)
  | _ => .non
theorem valsD_cases (ws : List Str) (cs : List Nat) : valsD ws cs = .non ∨ (valsD ws cs = .lst (zipV ws cs) ∧ ws.length = cs.length) := by
  unfold valsD
  split
  · split
    · exact .inl rfl
    · exact .inr ⟨rfl, by assumption⟩
  · exact .inl rfl
theorem zipV_len : ∀ (ws : List Str) (cs : List Nat), ws.length = cs.length → (zipV ws cs).length = ws.length
  | [], [], _ => rfl
  | [], _ :: _, h => by simp at h
  | _ :: _, [], h => by simp at h
  | w :: ws, c :: cs, h => by
    show (zipV ws cs).length + 1 = ws.length + 1
    rw [zipV_len ws cs (by simpa using h)]

theorem tl_repS (z : Str) (k : Nat) : tl (repS z (k : Int)) = (List.replicate k (tl z)).flatten := by
  have h : ∀ (n : Nat) (acc : Array Nat), ((List.replicate n z.cps).foldl (· ++ ·) acc).toList = acc.toList ++ (List.replicate n (tl z)).flatten := fun n => by
    induction n with
    | zero => intro acc; simp
    | succ n ih =>
      intro acc
      rw [List.replicate_succ, List.foldl_cons, ih, Array.toList_append, List.replicate_succ, List.flatten_cons, List.append_assoc]
  have := h k #[]
  show ((List.replicate ((k : Int).toNat) z.cps).foldl (· ++ ·) #[]).toList = _
  rw [Int.toNat_natCast, this]
  rfl
theorem x_mulS {z : Str} {k : Int} (h1 : z.length ≤ 100) (h2 : 0 ≤ k) (h3 : k ≤ 100000) : gMulS (.str z) (.int k) = some (.str (repS z k)) := if_pos ⟨h1, h2, h3⟩
theorem ascii_of {s : Str} (h : ∀ c ∈ tl s, c < 128) : s.cps.all (· < 128) = true := by
  rw [Array.all_eq_true']
  intro c hc
  exact decide_eq_true (h c (by simpa [tl] using hc))
theorem cutL_from (xs : List D) (k : Nat) (hk : k ≤ xs.length) : gSl (.lst xs) (some (k : Int)) none = some (.lst (xs.drop k)) := by
  show some (D.lst (Pd.cutD xs (some (k : Int)) none)) = _
  congr 2
  unfold Pd.cutD
  rw [HT.sIx_none, HT.sIx_nat, Nat.min_eq_left hk, List.take_of_length_le]
  rw [List.length_drop]
  omega
/-- the signs of a split's shape, a join's -/
def spSh (n : Nat) : List Nat := 105 :: (List.replicate ((n - 1) / 2) [105, 110]).flatten
def joSh (n : Nat) : List Nat := (List.replicate n [105]).flatten
theorem tl_i : tl ("i" : Str) = [105] := by decide +kernel
theorem tl_in : tl ("in" : Str) = [105, 110] := by decide +kernel
theorem flat_mem {l : List Nat} {n c : Nat} (h : c ∈ (List.replicate n l).flatten) : c ∈ l := by
  obtain ⟨x, hx, hc⟩ := List.mem_flatten.mp h
  rw [(List.mem_replicate.mp hx).2] at hc
  exact hc
theorem flat_len (l : List Nat) (n : Nat) : (List.replicate n l).flatten.length = n * l.length := by
  induction n with
  | zero => simp
  | succ n ih => rw [List.replicate_succ, List.flatten_cons, List.length_append, ih, Nat.succ_mul]; omega
theorem splitD_row (w : Str) (ws : List Str) (cs : List Nat) {ρ : Rho} {i : Nat} {fw : F} (h1 : ρ[i]? = some (.val (valsD ws cs))) (hw : fw ρ = some (.str w)) (hn : ws.length ≤ 100000) (h2 : valsD ws cs ≠ .non) : fL gTupD (fCons fw (fStar (fVar i) fNil)) ρ = some (rowD w ws cs) := by
  rcases valsD_cases ws cs with h | ⟨h, hl⟩
  · exact absurd h h2
  · have e : fStar (fVar i) fNil ρ = some (zipV ws cs ++ []) := by
      unfold fStar
      rw [x_var h1, b1_some, x_nil, b1_some, h]
    rw [List.append_nil] at e
    have z := zipV_len ws cs hl
    refine (x_L (x_cons hw e) (x_tupD (by rw [List.length_cons, z, sizeLine_eq]; omega))).trans ?_
    unfold rowD
    rw [h]
/-- is None -/
theorem isN_vals (ws : List Str) (cs : List Nat) : gIsN (valsD ws cs) .non = some (.bool (isNo (valsD ws cs))) := by
  rcases valsD_cases ws cs with h | ⟨h, _⟩
  · rw [h]; rfl
  · rw [h]; rfl
theorem isNo_eq {d : D} (h : isNo d = true) : d = .non := by cases d <;> first | rfl | cases h
theorem isNo_ne {d : D} (h : isNo d = false) : d ≠ .non := fun e => by rw [e] at h; cases h
theorem rowD_non {w : Str} {ws : List Str} {cs : List Nat} (h : valsD ws cs = .non) : rowD w ws cs = .non := by unfold rowD; rw [h]
def rowSp (ws : List Str) : D := if ws.length + 1 < 6 ∨ (ws.length + 1) % 2 ≠ 0 then .non else rowD "split" ws (spSh ws.length)
theorem e_parse_split (w0 : Str) (ws : List Str) (hw : ∀ w ∈ ws, w.length ≤ 100000) (hn : ws.length ≤ 10000) : f_parse_split [.lst ((w0 :: ws).map D.str)] = some (rowSp ws) := by
  have hl : gLen [D.lst ((w0 :: ws).map D.str)] = some (.int ((ws.length + 1 : Nat) : Int)) := by
    rw [x_lenL, List.length_map]; rfl
  have hx : ∀ {ρ : Rho}, ρ[0]? = some (.val (.lst ((w0 :: ws).map D.str))) → fL gLen (fCons (fVar 0) fNil) ρ = some (.int ((ws.length + 1 : Nat) : Int)) := fun h => x_L (x_cons (x_var h) x_nil) hl
  have tl2 : tl (("i" : Str) ++ repS "in" ((((ws.length - 1) / 2 : Nat)) : Int)) = spSh ws.length := by
    rw [tl_append, tl_i, tl_repS, tl_in]
    rfl
  have sl : ("i" : Str).length + (repS "in" ((((ws.length - 1) / 2 : Nat)) : Int)).length ≤ 100000 := by
    have h1 : (repS "in" ((((ws.length - 1) / 2 : Nat)) : Int)).length = (ws.length - 1) / 2 * 2 := by
      rw [len_tl, tl_repS, flat_len, tl_in]
      rfl
    rw [h1, show ("i" : Str).length = 1 from by decide]
    omega
  refine f_of rfl (w_seq (w_if (x := decide (ws.length + 1 < 6) || !decide ((ws.length + 1) % 2 = 0)) ?_ (fun h => w_ret x_C ?_) fun h => w_nil ?_))
  · refine (x_tor (x := decide (ws.length + 1 < 6)) (y := !decide ((ws.length + 1) % 2 = 0)) (x_tB ((x_f2 (hx rfl) x_C x_lt).trans ?_)) fun _ => x_tB ((x_f2 (x_f2 (hx rfl) x_C (x_mod (by decide))) x_C x_neI).trans ?_))
    · congr 2
      rw [Bool.eq_iff_iff, decide_eq_true_eq, decide_eq_true_eq]
      omega
    · have : decide ((((ws.length + 1 : Nat) : Int)) % 2 = 0) = decide ((ws.length + 1) % 2 = 0) := by
        rw [Bool.eq_iff_iff, decide_eq_true_eq, decide_eq_true_eq]
        omega
      rw [this]
  · have h' : ws.length + 1 < 6 ∨ (ws.length + 1) % 2 ≠ 0 := by simpa using h
    show D.non = rowSp ws
    unfold rowSp
    rw [if_pos h']
  · have h' : ¬ (ws.length + 1 < 6 ∨ (ws.length + 1) % 2 ≠ 0) := by simpa using h
    have hrow : rowSp ws = rowD "split" ws (spSh ws.length) := if_neg h'
    have e2 : ((ws.length + 1 : Nat) : Int) - 2 = ((ws.length - 1 : Nat) : Int) := by omega
    refine w_seq (w_asg (d := valsD ws (spSh ws.length)) (x_L (x_cons (x_sl (x_var rfl) (x_oE x_C) x_no (cutL_from _ 1 (by simp))) (x_cons (x_f2 x_C (x_f2 x_C (x_f2 (x_f2 (hx rfl) x_C (x_sub.trans (by rw [e2]))) x_C ((x_div (by decide) (by decide)).trans (by rw [show ((ws.length - 1 : Nat) : Int) / 2 = (((ws.length - 1) / 2 : Nat) : Int) from by omega]))) (x_mulS (by decide) (by omega) (by omega))) (x_addS (Nat.le_trans sl (by rw [sizeLine_eq]; decide)))) x_nil)) ?_) ?_)
    · rw [← tl2]
      refine e_values_of ws _ hw (by omega) ?_ (ascii_of fun c hc => ?_)
      · rw [len_tl, tl_append, List.length_append, ← len_tl, ← len_tl]; exact sl
      · rw [tl2] at hc
        rcases List.mem_cons.mp hc with rfl | hc
        · decide
        · have := flat_mem hc
          simp at this
          omega
    · refine w_seq (w_if (x := isNo (valsD ws (spSh ws.length))) (x_tB (x_f2 (x_var rfl) x_C (isN_vals _ _))) (fun h2 => w_ret x_C ?_) fun h2 => w_nil (w_ret (splitD_row "split" ws (spSh ws.length) rfl x_C (by omega) (isNo_ne h2)) ?_))
      · show D.non = rowSp ws
        rw [hrow, rowD_non (isNo_eq h2)]
      · show rowD "split" ws (spSh ws.length) = rowSp ws
        rw [hrow]

/-- a join's row -/
def rowJo (ws : List Str) : D := if ws.length < 3 then .non else rowD "join" ws (joSh ws.length)
theorem e_parse_join (w0 : Str) (ws : List Str) (hw : ∀ w ∈ ws, w.length ≤ 100000) (hn : ws.length ≤ 10000) : f_parse_join [.lst ((w0 :: ws).map D.str)] = some (rowJo ws) := by
  have hl : gLen [D.lst ((w0 :: ws).map D.str)] = some (.int ((ws.length + 1 : Nat) : Int)) := by
    rw [x_lenL, List.length_map]; rfl
  have hx : ∀ {ρ : Rho}, ρ[0]? = some (.val (.lst ((w0 :: ws).map D.str))) → fL gLen (fCons (fVar 0) fNil) ρ = some (.int ((ws.length + 1 : Nat) : Int)) := fun h => x_L (x_cons (x_var h) x_nil) hl
  have tl2 : tl (repS "i" (ws.length : Int)) = joSh ws.length := by
    rw [tl_repS, tl_i]
    rfl
  have sl : (repS "i" (ws.length : Int)).length ≤ 100000 := by
    rw [len_tl, tl_repS, flat_len, tl_i]
    show ws.length * 1 ≤ 100000
    omega
  have jl : (joSh ws.length).length = ws.length := by
    unfold joSh
    rw [flat_len]
    show ws.length * 1 = ws.length
    omega
  refine f_of rfl (w_seq (w_asg (d := valsD ws (joSh ws.length)) (x_L (x_cons (x_sl (x_var rfl) (x_oE x_C) x_no (cutL_from _ 1 (by simp))) (x_cons (x_f2 x_C (x_f2 (hx rfl) x_C (x_sub.trans (by rw [show ((ws.length + 1 : Nat) : Int) - 1 = (ws.length : Int) from by omega]))) (x_mulS (by decide) (by omega) (by omega))) x_nil)) ?_) ?_))
  · rw [← tl2]
    refine e_values_of ws _ hw (by omega) sl (ascii_of fun c hc => ?_)
    rw [tl2] at hc
    have := flat_mem hc
    simp at this
    omega
  · rcases valsD_cases ws (joSh ws.length) with hv | ⟨hv, hq⟩
    · refine w_seq (w_if (x := true) (x_tor (x := true) (y := true) (x_tB ((x_f2 (x_var rfl) x_C (isN_vals _ _)).trans (by rw [hv]; rfl))) (fun h => nomatch h)) (fun _ => w_ret x_C ?_) fun h => nomatch h)
      show D.non = rowJo ws
      unfold rowJo
      split
      · rfl
      · rw [rowD_non hv]
    · have zl := zipV_len ws _ hq
      refine w_seq (w_if (x := false || decide (ws.length < 3)) (x_tor (x := false) (y := decide (ws.length < 3)) (x_tB ((x_f2 (x_var rfl) x_C (isN_vals _ _)).trans (by rw [hv]; rfl))) fun _ => x_tB (x_f2 (x_L (x_cons (x_var rfl) x_nil) ((congrArg (fun d => gLen [d]) hv).trans x_lenL)) x_C (x_lt.trans ?_))) (fun h => w_ret x_C ?_) fun h => w_nil (w_ret (splitD_row "join" ws (joSh ws.length) rfl x_C (by omega) (by rw [hv]; exact fun e => nomatch e)) ?_))
      · rw [zl]
        congr 2
        rw [Bool.eq_iff_iff, decide_eq_true_eq, decide_eq_true_eq]
        omega
      · have : ws.length < 3 := by simpa using h
        show D.non = rowJo ws
        unfold rowJo
        rw [if_pos this]
      · have : ¬ ws.length < 3 := by simpa using h
        show rowD "join" ws (joSh ws.length) = rowJo ws
        unfold rowJo
        rw [if_neg this]

theorem lookup_all {α β : Type} [BEq α] {p : α × β → Bool} {z : α} {v : β} : ∀ {l : List (α × β)}, l.all p = true → l.lookup z = some v → ∃ y, p (y, v) = true
  | [], _, h => nomatch h
  | q :: l, ha, h => by
    rw [List.all_cons, Bool.and_eq_true] at ha
    rw [List.lookup_cons] at h
    cases e : z == q.1 with
    | true => rw [e] at h; cases h; exact ⟨q.1, ha.1⟩
    | false => rw [e] at h; exact lookup_all ha.2 h
theorem kv_ok {z sh : Str} (h : kv_LINES.lookup z = some sh) : sh.length ≤ 10 ∧ sh.cps.all (· < 128) = true := by
  obtain ⟨y, hy⟩ := lookup_all (p := fun p : Str × Str => decide (p.2.length ≤ 10) && p.2.cps.all fun c => decide (c < 128)) (l := kv_LINES) (by decide +kernel) h
  rw [Bool.and_eq_true] at hy
  exact ⟨of_decide_eq_true hy.1, hy.2⟩
/-- the row of a line by its words -/
def rowOf (w0 : Str) (ws : List Str) : D := if w0 = "split" then rowSp ws else if w0 = "join" then rowJo ws else match kv_LINES.lookup w0 with
  | none => .non
  | some sh => rowD w0 ws (tl sh)
theorem e_row_of (line w0 : Str) (ws : List Str) (hs : Txt.split line " " = w0 :: ws) (hl : line.length ≤ 100000) (hw : ∀ w ∈ ws, w.length ≤ 100000) (hn : ws.length ≤ 10000) : f_row_of [.str line] = some (rowOf w0 ws) := by
  have h0 : ∀ {ρ : Rho}, ρ[1]? = some (.val (.lst ((w0 :: ws).map D.str))) → f2 gIx (fVar 1) (fC (.int 0)) ρ = some (.str w0) := fun h => x_f2 (x_var h) x_C (x_ixL (atI_n (k := 0) rfl))
  refine f_of rfl (w_seq (w_asg (d := .lst ((w0 :: ws).map D.str)) (x_M (x_var rfl) (x_cons x_C x_nil) ((x_splitM (by decide) (by rw [sizeLine_eq]; omega)).trans (by rw [hs]))) ?_))
  refine w_seq (w_if (x := decide (w0 = "split")) (x_tB (x_f2 (h0 rfl) x_C x_eqS)) (fun h => w_ret (x_L (x_cons (x_var rfl) x_nil) (e_parse_split w0 ws hw hn)) ?_) fun h => w_nil ?_)
  · have h := of_decide_eq_true h
    show rowSp ws = rowOf w0 ws
    unfold rowOf
    rw [if_pos h]
  have n1 := of_decide_eq_false h
  refine w_seq (w_if (x := decide (w0 = "join")) (x_tB (x_f2 (h0 rfl) x_C x_eqS)) (fun h => w_ret (x_L (x_cons (x_var rfl) x_nil) (e_parse_join w0 ws hw hn)) ?_) fun h => w_nil ?_)
  · have h := of_decide_eq_true h
    show rowJo ws = rowOf w0 ws
    unfold rowOf
    rw [if_neg n1, if_pos h]
  have n2 := of_decide_eq_false h
  have e0 : rowOf w0 ws = match kv_LINES.lookup w0 with | none => .non | some sh => rowD w0 ws (tl sh) := by
    unfold rowOf
    rw [if_neg n1, if_neg n2]
  refine w_seq (w_if (x := !(kv_LINES.lookup w0).isSome) (x_tB (x_f1 (h0 rfl) rfl)) (fun h => w_ret x_C ?_) fun h => w_nil ?_)
  · show D.non = rowOf w0 ws
    rw [e0]
    cases q : kv_LINES.lookup w0 with
    | none => rfl
    | some sh => rw [q] at h; cases h
  cases q : kv_LINES.lookup w0 with
  | none => rw [q] at h; cases h
  | some sh =>
    obtain ⟨k1, k2⟩ := kv_ok q
    have e1 : rowOf w0 ws = rowD w0 ws (tl sh) := by rw [e0, q]
    have e2 : gKix kv_LINES (.str w0) = some (.str sh) := by
      show (kv_LINES.lookup w0).map D.str = _
      rw [q]; rfl
    refine w_seq (w_asg (d := valsD ws (tl sh)) (x_L (x_cons (x_sl (x_var rfl) (x_oE x_C) x_no (cutL_from _ 1 (by simp))) (x_cons (x_f1 (h0 rfl) e2) x_nil)) (e_values_of ws sh hw (by omega) (by omega) k2)) ?_)
    refine w_seq (w_if (x := isNo (valsD ws (tl sh))) (x_tB (x_f2 (x_var rfl) x_C (isN_vals _ _))) (fun h2 => w_ret x_C ?_) fun h2 => w_nil (w_ret (splitD_row w0 ws (tl sh) rfl (h0 rfl) (by omega) (isNo_ne h2)) ?_))
    · show D.non = rowOf w0 ws
      rw [e1, rowD_non (isNo_eq h2)]
    · show rowD w0 ws (tl sh) = rowOf w0 ws
      rw [e1]


theorem dropL_cut (xs : List D) : gSl (.lst xs) none (some (-1)) = some (.lst xs.dropLast) := by
  show some (D.lst (Pd.cutD xs none (some (-1)))) = _
  congr 2
  unfold Pd.cutD
  rw [HT.sIx_none, List.drop_zero, Nat.sub_zero]
  have e : HT.sIx xs.length xs.length (some (-1)) = xs.length - 1 := by
    show (if (-1 : Int) < 0 then ((-1 : Int) + (xs.length : Int)).toNat else min (-1 : Int).toNat xs.length) = _
    rw [if_pos (by decide)]
    omega
  rw [e, List.dropLast_eq_take]
theorem e_whole_lines (t : Str) (hl : t.length ≤ 10000000) : f_whole_lines [.str t] = some (.lst (((Txt.split t "\n").dropLast).map D.str)) := by
  refine f_of rfl (w_ret (x_sl (x_M (x_var rfl) (x_cons x_C x_nil) (x_splitM (by decide) (by rw [sizeLine_eq]; omega))) x_no (x_oE (x_f1 x_C x_neg)) (dropL_cut _)) ?_)
  show D.lst _ = D.lst _
  rw [List.map_dropLast]
/-- what a value of a row looks like as text -/
def strD : D → Str
  | .str s => s
  | .int i => Str.ofString (toString i)
  | _ => Str.empty
/-- a value of a row -/
def okV : D → Prop
  | .str s => s.length ≤ 100
  | .int i => 1 ≤ i ∧ i ≤ 1000000000
  | _ => False
theorem e_str {d : D} (h : okV d) : gStr [d] = some (.str (strD d)) := by
  cases d with
  | str s => rfl
  | int i =>
    refine x_str ?_
    have h' : 1 ≤ i ∧ i ≤ 1000000000 := h
    have : i.natAbs ≤ 1000000000 := by omega
    exact Nat.lt_of_lt_of_le ((Nat.log2_lt (by omega)).mpr (show i.natAbs < 2 ^ 30 by omega)) (by decide)
  | _ => exact h.elim
theorem strD_len {d : D} (h : okV d) : (strD d).length ≤ 100 := by
  cases d with
  | str s => exact h
  | int i =>
    have h' : 1 ≤ i ∧ i ≤ 1000000000 := h
    obtain ⟨n, rfl⟩ : ∃ n : Nat, i = n := ⟨i.toNat, by omega⟩
    exact Nat.le_trans (gd_num (n := n) (by omega)).1 (by decide)
  | _ => exact h.elim
theorem strs_map (l : List Str) : D.strs? (l.map D.str) = some l := by
  induction l with
  | nil => rfl
  | cons a l ih =>
    rw [List.map_cons]
    unfold D.strs?
    rw [ih]
    rfl
theorem sum_le {l : List Str} {k : Nat} (h : ∀ s ∈ l, s.length ≤ k) : (l.map (·.length)).sum ≤ l.length * k := by
  induction l with
  | nil => simp
  | cons a l ih =>
    rw [List.map_cons, List.sum_cons, List.length_cons, Nat.succ_mul]
    have := h a (by simp)
    have := ih fun s hs => h s (by simp [hs])
    omega
/-- " ".join([str(v) for v in ..]) -/
theorem e_words {ρ : Rho} {fi : Fs} {vs : List D} {i : Nat} (h1 : fi ρ = some vs) (hi : ρ.length = i + 1) (hv : ∀ d ∈ vs, okV d) (hn : vs.length ≤ 1000) : fM gJoin (fC (.str " ")) (fCons (fLc fi (st1 i) ftYes (fL gStr (fCons (fVar i) fNil)) [i]) fNil) ρ = some (.str (Txt.join " " (vs.map strD))) := by
  have hc : fLc fi (st1 i) ftYes (fL gStr (fCons (fVar i) fNil)) [i] ρ = some (.lst ((vs.map strD).map D.str)) := by
    refine x_lc h1 (by omega) ?_
    have := x_lcGo (xs := vs) (inj := id) (p := fun _ => true) (v := fun d => D.str (strD d)) (ρ := wipeR ρ [i]) (set := st1 i) (ft := ftYes) (f := fL gStr (fCons (fVar i) fNil)) fun z hz => ⟨(wipeR ρ [i]).set i (.val z), rfl, rfl, fun _ => x_L (x_cons (x_var ?_) x_nil) (e_str (hv z hz))⟩
    · rw [List.map_id, List.filter_eq_self.mpr (fun _ _ => rfl)] at this
      rw [this, List.map_map]
      rfl
    · have hl : (wipeR ρ [i]).length = i + 1 := by
        show (ρ.set i .junk).length = i + 1
        rw [List.length_set, hi]
      rw [List.getElem?_set_self (by omega)]
  refine x_M x_C (x_cons hc x_nil) (x_joinL (strs_map _) ?_)
  have h2 : ((vs.map strD).map (·.length)).sum ≤ (vs.map strD).length * 100 := sum_le fun s hs => by
    obtain ⟨d, hd, rfl⟩ := List.mem_map.mp hs
    exact strD_len (hv d hd)
  rw [List.length_map] at h2 ⊢
  have : (" " : Str).length = 1 := by decide
  rw [this]
  omega

/-- no blank, no line feed -/
def plain (s : Str) : Prop := ∀ c ∈ tl s, 33 ≤ c ∧ c < 128
theorem plain_app {a b : Str} (h : plain a) (h2 : plain b) : plain (a ++ b) := fun c hc => by
  rw [tl_append, List.mem_append] at hc
  exact hc.elim (h c) (h2 c)
theorem off_plain {s : Str} (h : isOff (tl s) = true) : plain s := fun c hc => by
  have := (isOff_gd h).2 c hc
  omega
theorem num_plain (n : Nat) : plain (Str.ofString (toString (n : Int))) := fun c hc => by
  rw [tl_num] at hc
  have h := digs_num n
  unfold digs at h
  rw [List.all_eq_true] at h
  have := of_decide_eq_true (h c hc)
  omega
theorem tl_dash : tl ("-" : Str) = [45] := by decide +kernel
theorem e_L_thing (c : Int) : ∃ s : Str, f_L_thing [.int c] = some (.str s) ∧ isThg (tl s) = true ∧ plain s ∧ s.length ≤ 100 := by
  obtain ⟨o, ho, hof⟩ := e_office (c / 5)
  obtain ⟨n, hn, n1, n2⟩ := e_number (c / 3)
  have g1 := (isOff_gd hof).1
  have g2 := gd_num n2
  have l1 : ("-" : Str).length = 1 := by decide
  have l2 : (o ++ ("-" : Str)).length = o.length + 1 := by rw [len_tl, tl_append, List.length_append, ← len_tl, tl_dash]; rfl
  have l3 : (o ++ ("-" : Str) ++ Str.ofString (toString (n : Int))).length = o.length + 1 + (Str.ofString (toString (n : Int))).length := by rw [len_tl, tl_append, List.length_append, ← len_tl, ← len_tl, l2]
  refine ⟨o ++ "-" ++ Str.ofString (toString (n : Int)), f_of rfl (w_ret (x_f2 (x_f2 (x_L (x_cons (x_f2 (x_var rfl) x_C (x_div (by decide) (by decide))) x_nil) ho) x_C (x_addS (by have := g1.1; rw [l1, sizeLine_eq]; omega))) (x_L (x_cons (x_L (x_cons (x_f2 (x_var rfl) x_C (x_div (by decide) (by decide))) x_nil) hn) x_nil) (e_str (d := .int n) ⟨by omega, by omega⟩)) (x_addS ?_)) rfl), ?_, ?_, ?_⟩
  · have := g1.1
    have := g2.1
    rw [l2, sizeLine_eq]
    show o.length + 1 + (Str.ofString (toString (n : Int))).length ≤ _
    omega
  · have e : tl (o ++ ("-" : Str) ++ Str.ofString (toString (n : Int))) = tl o ++ 45 :: numL n := by
      rw [tl_append, tl_append, tl_dash, tl_num, List.append_assoc]; rfl
    have nd : 45 ∉ tl o := fun h => by
      have := (isOff_gd hof).2 45 h
      omega
    unfold isThg
    rw [e, dash_app nd]
    show (isOff (tl o) && (numOf (numL n)).isSome) = true
    rw [hof, numOf_num n1 n2]
    rfl
  · refine plain_app (plain_app (off_plain hof) fun c hc => ?_) (num_plain n)
    rw [tl_dash] at hc
    simp at hc
    omega
  · have := g1.1
    have := g2.1
    rw [l3]
    omega
/-- a value by its sign -/
def tyV (c : Nat) (v : D) : Prop := if c = 110 then ∃ n : Nat, v = .int n ∧ 1 ≤ n ∧ n ≤ 1000000000 else if c = 111 then ∃ s, v = .str s ∧ isOff (tl s) = true else ∃ s, v = .str s ∧ isThg (tl s) = true ∧ plain s ∧ s.length ≤ 100

theorem tyV_val {c : Nat} {v : D} (h : tyV c v) : valD c (strD v) = v ∧ okV v ∧ plain (strD v) ∧ isNo v = false := by
  unfold tyV at h
  unfold valD
  by_cases h1 : c = 110
  · rw [if_pos h1] at h ⊢
    obtain ⟨n, rfl, n1, n2⟩ := h
    refine ⟨?_, ⟨by omega, by omega⟩, num_plain n, rfl⟩
    show numD (tl (Str.ofString (toString (n : Int)))) = _
    rw [tl_num]
    unfold numD
    rw [numOf_num n1 n2]
  · rw [if_neg h1] at h ⊢
    by_cases h2 : c = 111
    · rw [if_pos h2] at h ⊢
      obtain ⟨s, rfl, hs⟩ := h
      refine ⟨if_pos hs, ?_, off_plain hs, rfl⟩
      have := (isOff_gd hs).1.1
      show s.length ≤ 100
      omega
    · rw [if_neg h2] at h ⊢
      obtain ⟨s, rfl, hs, hp, hl⟩ := h
      exact ⟨if_pos hs, hl, hp, rfl⟩
def tyL : List Nat → List D → Prop
  | [], [] => True
  | c :: cs, v :: vs => tyV c v ∧ tyL cs vs
  | _, _ => False
theorem tyL_vals : ∀ {cs : List Nat} {vs : List D}, tyL cs vs → vs.length = cs.length ∧ zipV (vs.map strD) cs = vs ∧ (∀ v ∈ vs, okV v ∧ plain (strD v) ∧ isNo v = false)
  | [], [], _ => ⟨rfl, rfl, by simp⟩
  | [], _ :: _, h => h.elim
  | _ :: _, [], h => h.elim
  | c :: cs, v :: vs, ⟨h1, h2⟩ => by
    obtain ⟨a, b, d⟩ := tyL_vals h2
    obtain ⟨e1, e2, e3, e4⟩ := tyV_val h1
    refine ⟨by simp [a], ?_, fun x hx => ?_⟩
    · rw [List.map_cons]
      show valD c (strD v) :: zipV (vs.map strD) cs = v :: vs
      rw [e1, b]
    · rcases List.mem_cons.mp hx with rfl | hx
      · exact ⟨e2, e3, e4⟩
      · exact d x hx
theorem tyL_rowD {cs : List Nat} {vs : List D} (w : Str) (h : tyL cs vs) : rowD w (vs.map strD) cs = .tup (.str w :: vs) := by
  obtain ⟨a, b, d⟩ := tyL_vals h
  have hn : vs.any isNo = false := by
    rw [List.any_eq_false]
    intro x hx
    rw [(d x hx).2.2]
    exact Bool.false_ne_true
  have e : valsD (vs.map strD) cs = .lst vs := by
    unfold valsD
    rw [if_pos (by rw [List.length_map]; exact a), b, hn, if_neg Bool.false_ne_true]
  unfold rowD
  rw [e]
theorem tyL_app : ∀ {cs : List Nat} {vs : List D} {c : Nat} {v : D}, tyL cs vs → tyV c v → tyL (cs ++ [c]) (vs ++ [v])
  | [], [], _, _, _, h => ⟨h, trivial⟩
  | [], _ :: _, _, _, h, _ => h.elim
  | _ :: _, [], _, _, h, _ => h.elim
  | _ :: _, _ :: _, _, _, ⟨h1, h2⟩, h => ⟨h1, tyL_app h2 h⟩

theorem at_str (s : Str) (k : Nat) (c : Nat) (h : (tl s)[k]? = some c) (hl : s.length ≤ 100000) : gIx (.str s) (.int (k : Int)) = some (.str ⟨#[c]⟩) := by
  show (if s.length ≤ sizeLine then (atI s.cps.toList (k : Int)).map fun c => D.str ⟨#[c]⟩ else none) = _
  rw [if_pos (by rw [sizeLine_eq]; omega), atI_n h]
  rfl
theorem e_L_values (sh : Str) (ns : List Int) (n0 : Nat) (hs : sh.length ≤ 30) (h0 : n0 ≤ 500) : ∃ vs, f_L_values [.str sh, .scr ns, .int (n0 : Int)] = some (.lst vs) ∧ tyL (tl sh) vs := by
  have hl : sh.length = (tl sh).length := len_tl sh
  have key : ∃ d, f_L_values [.str sh, .scr ns, .int (n0 : Int)] = some d ∧ ∃ vs, d = .lst vs ∧ tyL (tl sh) vs := by
    refine f_ex rfl (w_seq (w_new x_nil (by simp) ?_))
    refine w_seq (w_for (I := fun lft ρ => ∃ (a b : Sl) (k : Nat) (vs : List D), k ≤ (tl sh).length ∧ lft = (List.range' k ((tl sh).length - k)).map (fun (j : Nat) => D.int (0 + (j : Nat))) ∧ ρ = [.val (.str sh), .val (.scr ns), .val (.int (n0 : Int)), .own vs, a, b] ∧ vs.length = k ∧ tyL ((tl sh).take k) vs) (x_Is (x_cons (x_L (x_cons (x_var rfl) x_nil) (x_lenS (by rw [sizeLine_eq]; omega))) x_nil) (x_R1 (by omega))) ⟨.junk, .junk, 0, [], Nat.zero_le _, ?_, rfl, rfl, trivial⟩ ?_ ?_)
    · rw [hl, Nat.sub_zero, ← List.range_eq_range']
      rfl
    · rintro d rest ρ ⟨a, b, k, vs, hk, e2, rfl, lv, ty⟩
      cases hm : (tl sh).length - k with
      | zero => rw [hm] at e2; cases e2
      | succ m =>
        rw [hm, List.range'_succ] at e2
        cases e2
        have hk2 : k < (tl sh).length := by omega
        obtain ⟨c, hc⟩ : ∃ c, (tl sh)[k]? = some c := ⟨(tl sh)[k], by simp [hk2]⟩
        obtain ⟨z, hz⟩ := e_cell ns (n0 + k) (by omega)
        refine ⟨_, rfl, ?_⟩
        have ek : (0 : Int) + (k : Int) = (k : Int) := by omega
        show W _ [.val (.str sh), .val (.scr ns), .val (.int (n0 : Int)), .own vs, .val (.int (0 + (k : Int))), b] _
        rw [ek]
        refine w_seq (w_asg (d := .int z) (x_L (x_cons (x_var rfl) (x_cons (x_f2 (x_var rfl) (x_var rfl) x_add) x_nil)) (by rw [show ((n0 : Int) + (k : Int)) = ((n0 + k : Nat) : Int) from by omega]; exact hz)) ?_)
        show W _ [.val (.str sh), .val (.scr ns), .val (.int (n0 : Int)), .own vs, .val (.int (k : Int)), .val (.int z)] _
        have gi : ∀ {ρ : Rho}, ρ[0]? = some (.val (.str sh)) → ρ[4]? = some (.val (.int (k : Int))) → f2 gIx (fVar 0) (fVar 4) ρ = some (.str ⟨#[c]⟩) := fun h1 h2 => x_f2 (x_var h1) (x_var h2) (at_str sh k c hc (by omega))
        have fin : ∀ v : D, tyV c v → ∃ (a b : Sl) (k' : Nat) (vs' : List D), k' ≤ (tl sh).length ∧ (List.range' (k + 1) m).map (fun (j : Nat) => D.int (0 + (j : Nat))) = (List.range' k' ((tl sh).length - k')).map (fun (j : Nat) => D.int (0 + (j : Nat))) ∧ ([.val (.str sh), .val (.scr ns), .val (.int (n0 : Int)), .own (vs ++ [v]), .val (.int (k : Int)), .val (.int z)] : Rho) = [.val (.str sh), .val (.scr ns), .val (.int (n0 : Int)), .own vs', a, b] ∧ vs'.length = k' ∧ tyL ((tl sh).take k') vs' := fun v hv => by
          refine ⟨_, _, k + 1, vs ++ [v], by omega, ?_, rfl, by rw [List.length_append, lv]; rfl, ?_⟩
          · rw [show (tl sh).length - (k + 1) = m from by omega]
          · rw [List.take_add_one, hc]
            exact tyL_app ty hv
        have sz : vs.length < sizeLine := by rw [lv, sizeLine_eq]; omega
        refine w_if (x := decide (c = 110)) (x_tB ((x_f2 (gi rfl rfl) x_C x_eqS).trans (by rw [eq_sg c "n" 110 tl_n]))) (fun h => ?_) fun h => w_if (x := decide (c = 111)) (x_tB ((x_f2 (gi rfl rfl) x_C x_eqS).trans (by rw [eq_sg c "o" 111 tl_o]))) (fun h2 => ?_) fun h2 => ?_
        · have h := of_decide_eq_true h
          obtain ⟨n, hn, n1, n2⟩ := e_number z
          refine w_app rfl (x_L (x_cons (x_var rfl) x_nil) hn) sz (fin _ ?_)
          unfold tyV
          rw [if_pos h]
          exact ⟨n, rfl, n1, n2⟩
        · have h := of_decide_eq_false h
          have h2 := of_decide_eq_true h2
          obtain ⟨s, hs, ho⟩ := e_office z
          refine w_app rfl (x_L (x_cons (x_var rfl) x_nil) hs) sz (fin _ ?_)
          unfold tyV
          rw [if_neg h, if_pos h2]
          exact ⟨s, rfl, ho⟩
        · have h := of_decide_eq_false h
          have h2 := of_decide_eq_false h2
          obtain ⟨s, hs, ht, hp, hl⟩ := e_L_thing z
          refine w_app rfl (x_L (x_cons (x_var rfl) x_nil) hs) sz (fin _ ?_)
          unfold tyV
          rw [if_neg h, if_neg h2]
          exact ⟨s, rfl, ht, hp, hl⟩
    · rintro ρ ⟨a, b, k, vs, hk, e2, rfl, lv, ty⟩
      have hk2 : k = (tl sh).length := by
        cases hm : (tl sh).length - k with
        | zero => omega
        | succ m => rw [hm, List.range'_succ] at e2; cases e2
      refine w_ret (x_var rfl) ⟨vs, rfl, ?_⟩
      rw [hk2, List.take_length] at ty
      exact ty
  obtain ⟨d, h1, vs, rfl, h2⟩ := key
  exact ⟨vs, h1, h2⟩

theorem str_ext {a b : Str} (h : tl a = tl b) : a = b := by rw [← mk_tl a, h, mk_tl]
def okShape (w sh : Str) : Prop := sh.length ≤ 30 ∧ plain w ∧ w.length ≤ 100 ∧ ∀ ws : List Str, ws.length = (tl sh).length → rowOf w ws = rowD w ws (tl sh)
theorem plain_dec {w : Str} (h : (tl w).all (fun c => decide (33 ≤ c) && decide (c < 128)) = true) : plain w := fun c hc => by
  have := List.all_eq_true.mp h c hc
  rw [Bool.and_eq_true] at this
  exact ⟨of_decide_eq_true this.1, of_decide_eq_true this.2⟩
theorem ok_kv {w sh : Str} (h1 : decide (w = "split") = false) (h2 : decide (w = "join") = false) (h : kv_LINES.lookup w = some sh) (hl : decide (sh.length ≤ 30) = true) (hp : (tl w).all (fun c => decide (33 ≤ c) && decide (c < 128)) = true) (hw : decide (w.length ≤ 100) = true) : okShape w sh := by
  refine ⟨of_decide_eq_true hl, plain_dec hp, of_decide_eq_true hw, fun ws _ => ?_⟩
  unfold rowOf
  rw [if_neg (of_decide_eq_false h1), if_neg (of_decide_eq_false h2), h]
theorem ok_split (k : Nat) (h1 : 2 ≤ k) (h2 : k ≤ 5) : okShape "split" ("i" ++ repS "in" (k : Int)) := by
  have e : tl (("i" : Str) ++ repS "in" (k : Int)) = 105 :: (List.replicate k [105, 110]).flatten := by rw [tl_append, tl_i, tl_repS, tl_in]; rfl
  have el : (tl (("i" : Str) ++ repS "in" (k : Int))).length = 1 + k * 2 := by rw [e, List.length_cons, flat_len]; show k * 2 + 1 = _; omega
  refine ⟨by rw [len_tl, el]; omega, plain_dec (by decide +kernel), by decide, fun ws hw => ?_⟩
  rw [el] at hw
  unfold rowOf rowSp
  rw [if_pos rfl, if_neg (by omega), e]
  unfold spSh
  rw [show (ws.length - 1) / 2 = k from by omega]
theorem ok_join (k : Nat) (h1 : 3 ≤ k) (h2 : k ≤ 7) : okShape "join" (repS "i" (k : Int)) := by
  have e : tl (repS "i" (k : Int)) = (List.replicate k [105]).flatten := by rw [tl_repS, tl_i]
  have el : (tl (repS "i" (k : Int))).length = k := by rw [e, flat_len]; show k * 1 = k; omega
  refine ⟨by rw [len_tl, el]; omega, plain_dec (by decide +kernel), by decide, fun ws hw => ?_⟩
  rw [el] at hw
  unfold rowOf rowJo
  rw [if_neg (by decide), if_pos rfl, if_neg (by omega), e]
  unfold joSh
  rw [hw]
theorem tl_sp : tl (" " : Str) = [32] := by decide +kernel
theorem split_two {w sh : Str} (hw : 32 ∉ tl w) (hs : 32 ∉ tl sh) : Txt.split (w ++ " " ++ sh) " " = [w, sh] := by
  have h := TL.split_join (y := " ") (s := 32) (S := []) tl_sp (by decide +kernel) (parts := [w, sh]) (by simp) (by
    intro p hp
    simp only [List.mem_cons, List.not_mem_nil, or_false] at hp
    rcases hp with rfl | rfl
    · exact hw
    · exact hs)
  exact h
theorem rep_no {z : Str} {k : Nat} (h : 32 ∉ tl z) : 32 ∉ tl (repS z (k : Int)) := fun hc => by
  rw [tl_repS] at hc
  exact h (flat_mem hc)
theorem e_L_shape (c : Int) : ∃ w sh : Str, f_L_shape [.int c] = some (.lst [.str w, .str sh]) ∧ okShape w sh := by
  obtain ⟨q, hq, q4⟩ : ∃ q : Nat, c / 12 % 4 = (q : Int) ∧ q < 4 := ⟨(c / 12 % 4).toNat, by omega, by omega⟩
  obtain ⟨p, hp, p5⟩ : ∃ p : Nat, c / 12 % 5 = (p : Int) ∧ p < 5 := ⟨(c / 12 % 5).toNat, by omega, by omega⟩
  have es : ("split " : Str) ++ "i" ++ repS "in" ((2 + q : Nat) : Int) = ("split" : Str) ++ " " ++ (("i" : Str) ++ repS "in" ((2 + q : Nat) : Int)) := by
    refine str_ext ?_
    simp only [tl_append, List.append_assoc]
    rfl
  have ej : ("join " : Str) ++ repS "i" ((3 + p : Nat) : Int) = ("join" : Str) ++ " " ++ repS "i" ((3 + p : Nat) : Int) := by
    refine str_ext ?_
    simp only [tl_append, List.append_assoc]
    rfl
  let L : List D := [.str "register in", .str "give ino", .str "got ionno", .str "use i", .str "recall i", .str "notice io", .str "receipt in", .str "noted io", .str "pay ion", .str "paid in", .str ("split " ++ "i" ++ repS "in" ((2 + q : Nat) : Int)), .str ("join " ++ repS "i" ((3 + p : Nat) : Int))]
  have sel : ∃ x : Str, atI L (c % 12) = some (.str x) ∧ x.length ≤ 1000 ∧ ∃ w sh, Txt.split x " " = [w, sh] ∧ okShape w sh := by
    have : c % 12 = 0 ∨ c % 12 = 1 ∨ c % 12 = 2 ∨ c % 12 = 3 ∨ c % 12 = 4 ∨ c % 12 = 5 ∨ c % 12 = 6 ∨ c % 12 = 7 ∨ c % 12 = 8 ∨ c % 12 = 9 ∨ c % 12 = 10 ∨ c % 12 = 11 := by omega
    rcases this with h | h | h | h | h | h | h | h | h | h | h | h <;> rw [h]
    · exact ⟨_, rfl, by decide, "register", "in", by decide +kernel, ok_kv (by decide) (by decide) (by decide +kernel) (by decide) (by decide +kernel) (by decide)⟩
    · exact ⟨_, rfl, by decide, "give", "ino", by decide +kernel, ok_kv (by decide) (by decide) (by decide +kernel) (by decide) (by decide +kernel) (by decide)⟩
    · exact ⟨_, rfl, by decide, "got", "ionno", by decide +kernel, ok_kv (by decide) (by decide) (by decide +kernel) (by decide) (by decide +kernel) (by decide)⟩
    · exact ⟨_, rfl, by decide, "use", "i", by decide +kernel, ok_kv (by decide) (by decide) (by decide +kernel) (by decide) (by decide +kernel) (by decide)⟩
    · exact ⟨_, rfl, by decide, "recall", "i", by decide +kernel, ok_kv (by decide) (by decide) (by decide +kernel) (by decide) (by decide +kernel) (by decide)⟩
    · exact ⟨_, rfl, by decide, "notice", "io", by decide +kernel, ok_kv (by decide) (by decide) (by decide +kernel) (by decide) (by decide +kernel) (by decide)⟩
    · exact ⟨_, rfl, by decide, "receipt", "in", by decide +kernel, ok_kv (by decide) (by decide) (by decide +kernel) (by decide) (by decide +kernel) (by decide)⟩
    · exact ⟨_, rfl, by decide, "noted", "io", by decide +kernel, ok_kv (by decide) (by decide) (by decide +kernel) (by decide) (by decide +kernel) (by decide)⟩
    · exact ⟨_, rfl, by decide, "pay", "ion", by decide +kernel, ok_kv (by decide) (by decide) (by decide +kernel) (by decide) (by decide +kernel) (by decide)⟩
    · exact ⟨_, rfl, by decide, "paid", "in", by decide +kernel, ok_kv (by decide) (by decide) (by decide +kernel) (by decide) (by decide +kernel) (by decide)⟩
    · refine ⟨_, rfl, ?_, "split", _, ?_, ok_split (2 + q) (by omega) (by omega)⟩
      · rw [len_tl, tl_append, tl_append, tl_i, tl_repS, tl_in, List.length_append, List.length_append, flat_len, show (tl ("split " : Str)).length = 6 from by decide +kernel]
        show 6 + 1 + (2 + q) * 2 ≤ 1000
        omega
      · rw [es]
        refine split_two (by decide +kernel) ?_
        rw [tl_append, List.mem_append]
        exact fun h => h.elim (by decide +kernel) (rep_no (by decide +kernel))
    · refine ⟨_, rfl, ?_, "join", _, ?_, ok_join (3 + p) (by omega) (by omega)⟩
      · rw [len_tl, tl_append, tl_repS, tl_i, List.length_append, flat_len, show (tl ("join " : Str)).length = 5 from by decide +kernel]
        show 5 + (3 + p) * 1 ≤ 1000
        omega
      · rw [ej]
        exact split_two (by decide +kernel) (rep_no (by decide +kernel))
  obtain ⟨x, hx, hxl, w, sh, hs, ok⟩ := sel
  refine ⟨w, sh, ?_, ok⟩
  have d12 : ∀ {ρ : Rho}, ρ[0]? = some (.val (.int c)) → f2 gDiv (fVar 0) (fC (.int 12)) ρ = some (.int (c / 12)) := fun h => x_f2 (x_var h) x_C (x_div (by decide) (by decide))
  refine f_of rfl (w_seq (w_asg (d := .lst (L.take 9)) (x_L (x_cons x_C (x_cons x_C (x_cons x_C (x_cons x_C (x_cons x_C (x_cons x_C (x_cons x_C (x_cons x_C (x_cons x_C x_nil))))))))) (x_lstD (by rw [sizeLine_eq]; simp))) ?_))
  have m4 : ∀ {ρ : Rho}, ρ[0]? = some (.val (.int c)) → f2 gAdd (fC (.int 2)) (f2 gMod (f2 gDiv (fVar 0) (fC (.int 12))) (fC (.int 4))) ρ = some (.int ((2 + q : Nat) : Int)) := fun h => x_f2 x_C (x_f2 (d12 h) x_C (x_mod (by decide))) (x_add.trans (by rw [hq, show (2 : Int) + (q : Int) = ((2 + q : Nat) : Int) from by omega]))
  have m5 : ∀ {ρ : Rho}, ρ[0]? = some (.val (.int c)) → f2 gAdd (fC (.int 3)) (f2 gMod (f2 gDiv (fVar 0) (fC (.int 12))) (fC (.int 5))) ρ = some (.int ((3 + p : Nat) : Int)) := fun h => x_f2 x_C (x_f2 (d12 h) x_C (x_mod (by decide))) (x_add.trans (by rw [hp, show (3 : Int) + (p : Int) = ((3 + p : Nat) : Int) from by omega]))
  refine w_seq (w_asg (d := .lst L) (x_f2 (x_var rfl) (x_L (x_cons x_C (x_cons (x_f2 (x_f2 x_C x_C (x_addS (by decide))) (x_f2 x_C (m4 rfl) (x_mulS (by decide) (by omega) (by omega))) (x_addS ?_)) (x_cons (x_f2 x_C (x_f2 x_C (m5 rfl) (x_mulS (by decide) (by omega) (by omega))) (x_addS ?_)) x_nil))) (x_lstD (by rw [sizeLine_eq]; simp))) (x_addL (by rw [sizeLine_eq]; simp [L]))) ?_)
  · have h1 : (repS "in" ((2 + q : Nat) : Int)).length = (2 + q) * 2 := by rw [len_tl, tl_repS, flat_len, tl_in]; rfl
    rw [h1, show (("split " : Str) ++ "i").length = 7 from by decide +kernel, sizeLine_eq]
    omega
  · have h1 : (repS "i" ((3 + p : Nat) : Int)).length = (3 + p) * 1 := by rw [len_tl, tl_repS, flat_len, tl_i]; rfl
    rw [h1, show ("join " : Str).length = 5 from by decide +kernel, sizeLine_eq]
    omega
  · refine w_ret (x_M (x_f2 (x_var rfl) (x_f2 (x_var rfl) x_C (x_mod (by decide))) (x_ixL hx)) (x_cons x_C x_nil) ((x_splitM (by decide) (by rw [sizeLine_eq]; omega)).trans (by rw [hs]; rfl))) rfl

/-- a row of the law's drawing -/
structure Good (d : D) : Prop where
  ex : ∃ (w : Str) (vs : List D), d = .tup (.str w :: vs) ∧ plain w ∧ w.length ≤ 100 ∧ vs.length ≤ 30 ∧ (∀ v ∈ vs, okV v ∧ plain (strD v)) ∧ rowOf w (vs.map strD) = d
def lineOf : D → Str
  | .tup vs => Txt.join " " (vs.map strD)
  | _ => Str.empty
theorem len_le {s : Str} (h : s.length ≤ 100) : s.length ≤ 100000 := by omega
theorem Good.split {d : D} (h : Good d) : ∃ w vs, d = .tup (.str w :: vs) ∧ Txt.split (lineOf d) " " = w :: vs.map strD := by
  obtain ⟨w, vs, rfl, h1, h2, h3, h4, h5⟩ := h.ex
  refine ⟨w, vs, rfl, TL.split_join (y := " ") (s := 32) (S := []) tl_sp (by decide +kernel) (parts := w :: vs.map strD) (by simp) fun p hp => ?_⟩
  rcases List.mem_cons.mp hp with rfl | hp
  · exact fun h => by have := h1 32 h; omega
  · obtain ⟨v, hv, rfl⟩ := List.mem_map.mp hp
    exact fun h => by have := (h4 v hv).2 32 h; omega
theorem joinL_len {s : List Nat} {k : Nat} : ∀ {l : List (List Nat)}, (∀ x ∈ l, x.length ≤ k) → s.length ≤ k → (TL.joinL s l).length ≤ l.length * (2 * k)
  | [], _, _ => by simp [TL.joinL]
  | [a], h, _ => by
    have := h a (by simp)
    show a.length ≤ _
    simp
    omega
  | a :: b :: l, h, hs => by
    have h1 := h a (by simp)
    have ih := joinL_len (s := s) (k := k) (l := b :: l) (fun x hx => h x (List.mem_cons_of_mem _ hx)) hs
    show (a ++ (s ++ TL.joinL s (b :: l))).length ≤ _
    rw [List.length_append, List.length_append, List.length_cons, Nat.succ_mul]
    omega
theorem joinL_mem {s : List Nat} {c : Nat} : ∀ {l : List (List Nat)}, c ∈ TL.joinL s l → c ∈ s ∨ ∃ x ∈ l, c ∈ x
  | [], h => by simp [TL.joinL] at h
  | [a], h => .inr ⟨a, by simp, h⟩
  | a :: b :: l, h => by
    have h' : c ∈ a ++ (s ++ TL.joinL s (b :: l)) := h
    rcases List.mem_append.mp h' with h | h
    · exact .inr ⟨a, by simp, h⟩
    · rcases List.mem_append.mp h with h | h
      · exact .inl h
      · rcases joinL_mem h with h | ⟨x, hx, hc⟩
        · exact .inl h
        · exact .inr ⟨x, List.mem_cons_of_mem _ hx, hc⟩
theorem Good.line {d : D} (h : Good d) : (lineOf d).length ≤ 10000 ∧ ∀ c ∈ tl (lineOf d), 32 ≤ c ∧ c < 128 := by
  obtain ⟨w, vs, rfl, h1, h2, h3, h4, h5⟩ := h.ex
  have e : tl (lineOf (.tup (.str w :: vs))) = TL.joinL [32] ((((D.str w) :: vs).map strD).map tl) := by
    show tl (Txt.join " " _) = _
    rw [TL.join_eq, TL.tl_join, tl_sp]
  have all : ∀ x ∈ (((D.str w) :: vs).map strD).map tl, x.length ≤ 100 ∧ ∀ c ∈ x, 33 ≤ c ∧ c < 128 := fun x hx => by
    obtain ⟨s, hs, rfl⟩ := List.mem_map.mp hx
    obtain ⟨v, hv, rfl⟩ := List.mem_map.mp hs
    rcases List.mem_cons.mp hv with rfl | hv
    · exact ⟨by rw [← len_tl]; exact h2, h1⟩
    · exact ⟨by rw [← len_tl]; exact strD_len (h4 v hv).1, (h4 v hv).2⟩
  refine ⟨?_, fun c hc => ?_⟩
  · rw [len_tl, e]
    have := joinL_len (s := [32]) (k := 100) (fun x hx => (all x hx).1) (by simp)
    rw [List.length_map, List.length_map, List.length_cons] at this
    omega
  · rw [e] at hc
    rcases joinL_mem hc with h | ⟨x, hx, hc⟩
    · simp at h; omega
    · have := (all x hx).2 c hc
      omega
theorem Good.parse {d : D} (h : Good d) : f_row_of [.str (lineOf d)] = some d := by
  obtain ⟨w, vs, rfl, h1, h2, h3, h4, h5⟩ := h.ex
  obtain ⟨w', vs', e1, e2⟩ := h.split
  cases e1
  have l := h.line.1
  refine (e_row_of _ w (vs.map strD) e2 (by omega) (fun x hx => ?_) (by rw [List.length_map]; omega)).trans (by rw [h5])
  obtain ⟨v, hv, rfl⟩ := List.mem_map.mp hx
  exact len_le (strD_len (h4 v hv).1)
theorem e_L_row (ns : List Int) (k : Nat) (hk : k ≤ 490) : ∃ d, f_L_row [.scr ns, .int (k : Int)] = some d ∧ Good d := by
  obtain ⟨c, hc⟩ := e_cell ns k (by omega)
  obtain ⟨w, sh, hs, o1, o2, o3, o4⟩ := e_L_shape c
  obtain ⟨vs, hv, ty⟩ := e_L_values sh ns (k + 1) o1 (by omega)
  obtain ⟨t1, t2, t3⟩ := tyL_vals ty
  have hl : vs.length ≤ 30 := by rw [t1, ← len_tl]; exact o1
  refine ⟨.tup (.str w :: vs), f_of rfl (w_seq (w_asg2L (x_L (x_cons (x_L (x_cons (x_var rfl) (x_cons (x_var rfl) x_nil)) hc) x_nil) hs) ?_)), ⟨w, vs, rfl, o2, o3, hl, fun v h => ⟨(t3 v h).1, (t3 v h).2.1⟩, ?_⟩⟩
  · show W _ [.val (.scr ns), .val (.int (k : Int)), .val (.str w), .val (.str sh)] _
    refine w_ret (x_L (x_cons (x_f2 (x_L (x_cons (x_var rfl) x_nil) (x_lstD (by rw [sizeLine_eq]; simp))) (x_L (x_cons (x_var rfl) (x_cons (x_var rfl) (x_cons (x_f2 (x_var rfl) x_C (x_add.trans (by rw [show (k : Int) + 1 = ((k + 1 : Nat) : Int) from by omega]))) x_nil))) hv) (x_addL (by rw [sizeLine_eq]; simp; omega))) x_nil) rfl) rfl
  · rw [o4 _ (by rw [List.length_map]; exact t1)]
    exact tyL_rowD w ty


theorem lay_vals : ∀ {vs : List D}, (∀ v ∈ vs, okV v ∧ plain (strD v)) → PyData.canLayAll0 (D.pyA vs) = true ∧ PyData.depthAll (D.pyA vs) = 0
  | [], _ => ⟨rfl, rfl⟩
  | v :: vs, h => by
    obtain ⟨a, b⟩ := lay_vals (vs := vs) fun x hx => h x (List.mem_cons_of_mem _ hx)
    obtain ⟨h1, h2⟩ := h v (by simp)
    have hv : v.py.canLay0 = true ∧ v.py.depth = 0 := by
      cases v with
      | str s =>
        refine ⟨strOk_of (s := s) fun c hc => ?_, rfl⟩
        have := h2 c hc
        omega
      | int i => exact ⟨rfl, rfl⟩
      | _ => exact h1.elim
    refine ⟨?_, ?_⟩
    · show (v.py.canLay0 && PyData.canLayAll0 (D.pyA vs)) = true
      rw [hv.1, a]; rfl
    · show max v.py.depth (PyData.depthAll (D.pyA vs)) = 0
      rw [hv.2, b]; rfl
theorem Good.lay {d : D} (h : Good d) : d.py.canLay0 = true ∧ d.py.depth = 1 := by
  obtain ⟨w, vs, rfl, h1, h2, h3, h4, h5⟩ := h.ex
  obtain ⟨a, b⟩ := lay_vals (vs := .str w :: vs) fun v hv => by
    rcases List.mem_cons.mp hv with rfl | hv
    · exact ⟨h2, h1⟩
    · exact h4 v hv
  exact ⟨a, by show PyData.depthAll (D.pyA (.str w :: vs)) + 1 = 1; rw [b]⟩
theorem good_list : ∀ {ds : List D}, (∀ d ∈ ds, Good d) → PyData.canLayAll0 (D.pyA ds) = true ∧ PyData.depthAll (D.pyA ds) ≤ 1
  | [], _ => ⟨rfl, Nat.zero_le _⟩
  | d :: ds, h => by
    obtain ⟨a, b⟩ := good_list (ds := ds) fun x hx => h x (List.mem_cons_of_mem _ hx)
    obtain ⟨c, e⟩ := (h d (by simp)).lay
    refine ⟨?_, ?_⟩
    · show (d.py.canLay0 && PyData.canLayAll0 (D.pyA ds)) = true
      rw [c, a]; rfl
    · show max d.py.depth (PyData.depthAll (D.pyA ds)) ≤ 1
      rw [e]; omega
theorem good_eq {ds : List D} (h : ∀ d ∈ ds, Good d) : gEq (.lst ds) (.lst ds) = some (.bool true) ∧ gNe (.lst ds) (.lst ds) = some (.bool false) := by
  obtain ⟨a, b⟩ := good_list h
  have s : SeqAt.shaped (D.lst ds).py = true := by
    unfold SeqAt.shaped
    show (PyData.canLayAll0 (D.pyA ds) && decide (PyData.depthAll (D.pyA ds) + 1 ≤ 64)) = true
    rw [a, decide_eq_true (by omega)]; rfl
  have r : PyData.eqv (D.lst ds).py (D.lst ds).py = true := SeqAt.eqv_refl _ a
  rw [x_eqD rfl s s, x_neD rfl s s, r]
  exact ⟨rfl, rfl⟩

theorem tl_nl : tl ("\n" : Str) = [10] := by decide +kernel

theorem tl_upper (s : Str) : tl (Txt.upper s) = (tl s).flatMap Unicode.upperOf := by
  unfold Txt.upper placed tl
  rw [Array.toList_flatten, Array.toList_mapIdx]
  simp only []
  rw [show (fun (i c : Nat) => (Unicode.upperOf c).toArray) = fun i c => (fun c => (Unicode.upperOf c).toArray) c from rfl, List.mapIdx_eq_zipIdx_map]
  rw [List.map_map, List.flatMap_def]
  congr 1
  have : ∀ (l : List Nat) (k : Nat), List.map (Array.toList ∘ fun x => (Unicode.upperOf x.1).toArray) (l.zipIdx k) = List.map Unicode.upperOf l := by
    intro l
    induction l with
    | nil => intro k; rfl
    | cons c l ih =>
      intro k
      rw [List.zipIdx_cons, List.map_cons, List.map_cons, ih]
      rfl
  exact this _ 0

theorem join_two (a b : Str) (l : List Str) : Txt.join " " (a :: b :: l) = a ++ " " ++ Txt.join " " (b :: l) := by
  refine str_ext ?_
  rw [TL.join_eq, TL.join_eq, TL.tl_join, tl_append, tl_append, TL.tl_join, List.append_assoc]
  rfl
theorem join_one (a : Str) : Txt.join " " [a] = a := by
  refine str_ext ?_
  rw [TL.join_eq, TL.tl_join]
  rfl
theorem join_snoc (x : Str) : ∀ (l : List Str) (a : Str), Txt.join " " (a :: l ++ [x]) = Txt.join " " (a :: l) ++ " " ++ x
  | [], a => by
    show Txt.join " " [a, x] = _
    rw [join_two, join_one, join_one]
  | b :: l, a => by
    show Txt.join " " (a :: b :: (l ++ [x])) = _
    rw [join_two, show b :: (l ++ [x]) = b :: l ++ [x] from rfl, join_snoc x l b, join_two]
    refine str_ext ?_
    simp only [tl_append, List.append_assoc]
theorem join_end (x y : Str) : ∀ (l : List Str), Txt.join " " (l ++ [x]) ++ y = Txt.join " " (l ++ [x ++ y])
  | [] => by
    show Txt.join " " [x] ++ y = Txt.join " " [x ++ y]
    rw [join_one, join_one]
  | a :: l => by
    rw [show a :: l ++ [x] = (a :: l) ++ [x] from rfl, join_snoc x l a, join_snoc (x ++ y) l a]
    refine str_ext ?_
    simp only [tl_append, List.append_assoc]
theorem rep1_of {x y z a b : Str} (hy : y.length ≠ 0) (h : Txt.partition x y = (a, y, b)) : Zl.rep1 x y z = a ++ z ++ b ∧ (Builtin.Str.occurrences x y 0 x.length 1).length = 1 := by
  unfold Txt.partition at h
  have hl := StrLaws.occ_length_le x y 0 x.length 1
  cases ho : Builtin.Str.occurrences x y 0 x.length 1 with
  | nil =>
    rw [ho] at h
    have e : Str.empty = y := congrArg (fun p : Str × Str × Str => p.2.1) h
    exact absurd (by rw [← e]; rfl) hy
  | cons i r =>
    rw [ho] at h hl
    have hr : r = [] := by
      cases r with
      | nil => rfl
      | cons j r => simp at hl
    subst hr
    have e1 : Builtin.Str.strSub x 0 i = a := congrArg (fun p : Str × Str × Str => p.1) h
    have e2 : Builtin.Str.strSub x (i + y.length) x.length = b := congrArg (fun p : Str × Str × Str => p.2.2) h
    refine ⟨?_, rfl⟩
    have hy' : (y.length == 0) = false := by simpa using hy
    unfold Zl.rep1
    rw [ho, hy']
    show Builtin.Str.glued z [Builtin.Str.strSub x 0 i, Builtin.Str.strSub x (i + y.length) x.length] = _
    rw [e1, e2]
    rfl
theorem rep_join (w u : Str) (us : List Str) (hw : 32 ∉ tl w) : Zl.rep1 (Txt.join " " (w :: u :: us)) " " "  " = Txt.join " " (w :: "" :: u :: us) ∧ (Builtin.Str.occurrences (Txt.join " " (w :: u :: us)) " " 0 (Txt.join " " (w :: u :: us)).length 1).length = 1 := by
  have h := TL.partition_app (y := " ") (s := 32) (S := []) tl_sp (a := w) (b := Txt.join " " (u :: us)) hw
  rw [← join_two] at h
  obtain ⟨e1, e2⟩ := rep1_of (z := "  ") (by decide) h
  refine ⟨?_, e2⟩
  rw [e1, join_two, join_two]
  refine str_ext ?_
  simp only [tl_append, List.append_assoc]
  rfl
theorem join_len (l : List Str) (h : ∀ s ∈ l, s.length ≤ 200) : (Txt.join " " l).length ≤ l.length * 400 := by
  rw [len_tl, TL.join_eq, TL.tl_join, tl_sp]
  have := joinL_len (s := [32]) (k := 200) (l := l.map tl) (fun x hx => by
    obtain ⟨s, hs, rfl⟩ := List.mem_map.mp hx
    rw [← len_tl]
    exact h s hs) (by simp)
  rw [List.length_map] at this
  omega
theorem no_count {w : Str} {ws : List Str} {cs : List Nat} (h : ws.length ≠ cs.length) : isNo (rowD w ws cs) = true := by
  have : valsD ws cs = .non := by unfold valsD; rw [if_neg h]
  rw [rowD_non this]; rfl
theorem zipV_get : ∀ {ws : List Str} {cs : List Nat} {k : Nat} {w : Str} {c : Nat}, ws[k]? = some w → cs[k]? = some c → valD c w ∈ zipV ws cs
  | [], _, _, _, _, h, _ => by simp at h
  | _ :: _, [], _, _, _, _, h => by simp at h
  | w :: ws, c :: cs, 0, _, _, h, h2 => by
    simp at h h2
    subst h h2
    exact List.mem_cons_self
  | w :: ws, c :: cs, k + 1, _, _, h, h2 => List.mem_cons_of_mem _ (zipV_get (k := k) (by simpa using h) (by simpa using h2))
theorem no_val {w0 : Str} {ws : List Str} {cs : List Nat} {k : Nat} {w : Str} {c : Nat} (h1 : ws[k]? = some w) (h2 : cs[k]? = some c) (h : isNo (valD c w) = true) : isNo (rowD w0 ws cs) = true := by
  have : valsD ws cs = .non := by
    unfold valsD
    split
    · rw [if_pos (List.any_eq_true.mpr ⟨_, zipV_get h1 h2, h⟩)]
    · rfl
  rw [rowD_non this]; rfl
theorem valD_no {c : Nat} {w : Str} (h1 : numOf (tl w) = none) (h2 : isOff (tl w) = false) (h3 : isThg (tl w) = false) : isNo (valD c w) = true := by
  unfold valD numD
  split
  · rw [h1]; rfl
  · split
    · rw [h2]; rfl
    · rw [h3]; rfl
theorem num_no {l : List Nat} {c : Nat} (h : c ∈ l) (hc : c < 48 ∨ 57 < c) : numOf l = none := by
  unfold numOf
  rw [if_neg]
  intro hb
  have := of_decide_eq_true (List.all_eq_true.mp hb.1 c h)
  omega
theorem off_no {l : List Nat} {c : Nat} (h : c ∈ l) (hc : c < 97 ∨ 122 < c) : isOff l = false := by
  unfold isOff
  rw [Bool.and_eq_false_iff]
  refine .inr ?_
  rw [List.all_eq_false]
  exact ⟨c, h, by simp; omega⟩
theorem thg_no {l : List Nat} {c : Nat} (h : c ∈ l) (hc : c < 45 ∨ 122 < c ∨ (57 < c ∧ c < 97) ∨ c = 46 ∨ c = 47) : isThg l = false := by
  unfold isThg
  cases q : dash l with
  | none => rfl
  | some p =>
    obtain ⟨a, b⟩ := p
    obtain ⟨e, _⟩ := dash_some q
    rw [e, List.mem_append, List.mem_cons] at h
    show (isOff a && (numOf b).isSome) = false
    rcases h with h | h | h
    · rw [off_no h (by omega)]; rfl
    · omega
    · rw [num_no h (by omega), Bool.and_comm]; rfl
theorem val_nl {c : Nat} {w : Str} : isNo (valD c (w ++ "\n")) = true := by
  have h : 10 ∈ tl (w ++ ("\n" : Str)) := by
    rw [tl_append, List.mem_append]
    exact .inr (by decide +kernel)
  exact valD_no (num_no h (by omega)) (off_no h (by omega)) (thg_no h (by omega))


/-- [str(v) for v in ..] -/
theorem e_wordsL {ρ : Rho} {fi : Fs} {vs : List D} {i : Nat} (h1 : fi ρ = some vs) (hi : i < ρ.length) (hv : ∀ d ∈ vs, okV d) (hn : vs.length ≤ 1000) : fLc fi (st1 i) ftYes (fL gStr (fCons (fVar i) fNil)) [i] ρ = some (.lst ((vs.map strD).map D.str)) := by
  refine x_lc h1 (by omega) ?_
  have := x_lcGo (xs := vs) (inj := id) (p := fun _ => true) (v := fun d => D.str (strD d)) (ρ := wipeR ρ [i]) (set := st1 i) (ft := ftYes) (f := fL gStr (fCons (fVar i) fNil)) fun z hz => ⟨(wipeR ρ [i]).set i (.val z), rfl, rfl, fun _ => x_L (x_cons (x_var ?_) x_nil) (e_str (hv z hz))⟩
  · rw [List.map_id, List.filter_eq_self.mpr (fun _ _ => rfl)] at this
    rw [this, List.map_map]
    rfl
  · have hl : (wipeR ρ [i]).length = ρ.length := by
      show (ρ.set i .junk).length = ρ.length
      rw [List.length_set]
    rw [List.getElem?_set_self (by omega)]
/-- " ".join(..) of words -/
theorem x_joinW {l : List Str} (h : ∀ s ∈ l, s.length ≤ 200) (hn : l.length ≤ 60) : gJoin (.str " ") [.lst (l.map D.str)] = some (.str (Txt.join " " l)) := by
  refine x_joinL (strs_map _) ?_
  have h2 := sum_le h
  have : (" " : Str).length = 1 := by decide
  rw [this]
  omega


theorem set_last {α : Type} (S : List α) (c c' : α) : (S ++ [c]).set S.length c' = S ++ [c'] := by
  rw [List.set_append_right _ _ (Nat.le_refl _), Nat.sub_self]
  rfl
theorem get_last {α : Type} (S : List α) (c : α) : (S ++ [c])[S.length]? = some c := by
  rw [List.getElem?_append_right (Nat.le_refl _), Nat.sub_self]
  rfl
/-- a row's value, no row's -/
def isRow (d : D) : Prop := ∃ vs, d = .tup vs
theorem row_isN {d : D} (h : isRow d) : gIsN d .non = some (.bool false) := by obtain ⟨vs, rfl⟩ := h; rfl
theorem sp_parse_journal (t : Str) (lines : List Str) (e : Str) (hs : Txt.split t "\n" = lines ++ [e]) (hl : t.length ≤ 10000000) (hn : lines.length ≤ 1000) (rv : Str → D) (hr : ∀ l ∈ lines, f_row_of [.str l] = some (rv l) ∧ isRow (rv l)) {S : Store} {E : Exn → Store → Prop} :
    Ev (f_parse_journal [.str t] S) (fun d S1 => d = .loc S.length ∧ S1 = S ++ [.lst (lines.map rv)]) E := by
  have hw := e_whole_lines t hl
  rw [hs, List.dropLast_concat] at hw
  refine ev_def rfl (vs_seq (vs_asg (v_disp (v_nil ⟨by simp, _, rfl, then_nx ?_⟩))))
  refine vs_seq (vs_for (v_iP (ds := lines.map D.str) (x_I (x_L (x_cons (x_var rfl) x_nil) hw) rfl) ?_))
  refine go_inv (QG := thenQ _ (endQ _ _)) (fun lft ρ S' => ∃ (pre post : List Str) (a b : Sl), lines = pre ++ post ∧ lft = post.map D.str ∧ ρ = [.val (.str t), .val (.loc S.length), a, b] ∧ S' = S ++ [.lst (pre.map rv)]) (fun _ _ _ _ => trivial) ?_ ?_ _ _ _ ⟨[], lines, _, _, rfl, rfl, rfl, rfl⟩
  · rintro ρ S' ⟨pre, post, a, b, e1, e2, rfl, rfl⟩
    cases post with
    | cons l post => cases e2
    | nil =>
      rw [List.append_nil] at e1
      subst e1
      exact then_nx (vs_ret (v_P rfl ⟨rfl, rfl⟩))
  · rintro d l ρ S' ⟨pre, post, a, b, e1, e2, rfl, rfl⟩
    cases post with
    | nil => cases e2
    | cons x post =>
      cases e2
      obtain ⟨r1, r2⟩ := hr x (by rw [e1]; simp)
      have hp : pre.length + (post.length + 1) ≤ 1000 := by rw [e1] at hn; simpa using hn
      refine vs_seq (vs_asg (v_P (x_L (x_cons (x_var rfl) x_nil) r1) ⟨_, rfl, then_nx ?_⟩))
      refine vs_seq (vs_if (vt_P (b := false) (x_tB (x_f2 (x_var rfl) x_C (row_isN r2))) (iteF (vs_nil (then_nx ?_)))))
      refine vs_drop (v_app (v_P rfl ⟨S.length, _, rfl, get_last _ _, v_P rfl ⟨_, get_last _ _, by rw [List.length_map, sizeLine_eq]; omega, pre ++ [x], post, _, _, by rw [e1]; simp, rfl, rfl, ?_⟩⟩))
      rw [set_last, List.map_append]
      rfl
theorem sp_parse_journalN (t : Str) (pre post : List Str) (b e : Str) (hs : Txt.split t "\n" = (pre ++ b :: post) ++ [e]) (hl : t.length ≤ 10000000) (hn : (pre ++ b :: post).length ≤ 1000) (rv : Str → D) (hr : ∀ l ∈ pre, f_row_of [.str l] = some (rv l) ∧ isRow (rv l)) (hb : f_row_of [.str b] = some .non) {S : Store} {Q : D → Store → Prop} {E : Exn → Store → Prop}
    (q : ∀ S1, E ⟨"InvalidLine", [("line", .int ((pre.length : Int) + 1))]⟩ S1) : Ev (f_parse_journal [.str t] S) Q E := by
  have hw := e_whole_lines t hl
  rw [hs, List.dropLast_concat] at hw
  refine ev_def rfl (vs_seq (vs_asg (v_disp (v_nil ⟨by simp, _, rfl, then_nx ?_⟩))))
  refine vs_seq (vs_for (v_iP (ds := (pre ++ b :: post).map D.str) (x_I (x_L (x_cons (x_var rfl) x_nil) hw) rfl) ?_))
  refine go_inv (QG := thenQ _ (endQ _ _)) (fun lft ρ S' => ∃ (p1 p2 : List Str) (a c : Sl), pre = p1 ++ p2 ∧ lft = (p2 ++ b :: post).map D.str ∧ ρ = [.val (.str t), .val (.loc S.length), a, c] ∧ S' = S ++ [.lst (p1.map rv)]) (fun _ _ _ _ => trivial) ?_ ?_ _ _ _ ⟨[], pre, _, _, rfl, rfl, rfl, rfl⟩
  · rintro ρ S' ⟨p1, p2, a, c, e1, e2, rfl, rfl⟩
    cases p2 <;> cases e2
  · rintro d l ρ S' ⟨p1, p2, a, c, e1, e2, rfl, rfl⟩
    rw [e1] at hn
    simp only [List.length_append, List.length_cons] at hn
    cases p2 with
    | nil =>
      cases e2
      refine vs_seq (vs_asg (v_P (x_L (x_cons (x_var rfl) x_nil) hb) ⟨_, rfl, then_nx ?_⟩))
      refine vs_seq (vs_if (vt_P (b := true) (x_tB (x_f2 (x_var rfl) x_C rfl)) (iteT (vs_raiseF (v_2 (v_L (v_cons (v_P rfl (v_nil ⟨.int ((p1.map rv).length : Nat), ?_, rfl, v_P x_C ⟨.int (((p1.map rv).length : Nat) + 1), x_add, rfl, ?_⟩⟩)))))))))
      · show gLen [view _ (.loc S.length)] = _
        rw [view_at (get_last _ _)]
        rfl
      · have := q (S ++ [.lst (p1.map rv)])
        rw [e1, List.append_nil] at this
        rw [List.length_map]
        exact this
    | cons x p2 =>
      cases e2
      obtain ⟨r1, r2⟩ := hr x (by rw [e1]; simp)
      refine vs_seq (vs_asg (v_P (x_L (x_cons (x_var rfl) x_nil) r1) ⟨_, rfl, then_nx ?_⟩))
      refine vs_seq (vs_if (vt_P (b := false) (x_tB (x_f2 (x_var rfl) x_C (row_isN r2))) (iteF (vs_nil (then_nx ?_)))))
      refine vs_drop (v_app (v_P rfl ⟨S.length, _, rfl, get_last _ _, v_P rfl ⟨_, get_last _ _, by rw [List.length_map, sizeLine_eq]; simp only [List.length_cons] at hn; omega, p1 ++ [x], p2, _, _, by rw [e1]; simp, rfl, rfl, ?_⟩⟩))
      rw [set_last, List.map_append]
      rfl
theorem sp_line_of (t : Str) (pre post : List Str) (b e : Str) (hs : Txt.split t "\n" = (pre ++ b :: post) ++ [e]) (hl : t.length ≤ 10000000) (hn : (pre ++ b :: post).length ≤ 1000) (rv : Str → D) (hr : ∀ l ∈ pre, f_row_of [.str l] = some (rv l) ∧ isRow (rv l)) (hb : f_row_of [.str b] = some .non) {S : Store} {E : Exn → Store → Prop} :
    Ev (f_L_line_of [.str t] S) (fun d _ => d = .int ((pre.length : Int) + 1)) E := by
  refine ev_def rfl (vs_seq (vs_tryAs (vs_drop (v_call (v_cons (v_P rfl (v_nil (sp_parse_journalN t pre post b e hs hl hn rv hr hb fun S1 => ?_))))))))
  refine ⟨true, rfl, iteT ⟨(.rt (.int ((pre.length : Int) + 1)), S1), fun a d => ?_, rfl⟩⟩
  have e2 : mXf2 1 "line" cf_line ⟨"InvalidLine", [("line", .int ((pre.length : Int) + 1))]⟩ a d ((rho0 N_L_line_of [.str t]).set 1 (.exc a d [("line", .int ((pre.length : Int) + 1))])) S1 = some (.ok (.int ((pre.length : Int) + 1)), S1) := v_xf2 (a' := a) (d' := d) (fs' := [("line", .int ((pre.length : Int) + 1))]) (by simp [cf_line]) rfl rfl rfl rfl
  unfold gRet
  rw [e2]
  rfl
/-! names of lines -/
def names : List Str := "split" :: "join" :: kv_LINES.map (·.1)
theorem lookup_in {β : Type} {z : Str} {v : β} : ∀ {l : List (Str × β)}, l.lookup z = some v → z ∈ l.map (·.1)
  | [], h => nomatch h
  | q :: l, h => by
    rw [List.lookup_cons] at h
    cases e : z == q.1 with
    | true => rw [eq_of_beq e]; exact List.mem_cons_self
    | false => rw [e] at h; exact List.mem_cons_of_mem _ (lookup_in h)
theorem row_no {w : Str} (h : w ∉ names) (ws : List Str) : rowOf w ws = .non := by
  unfold rowOf
  rw [if_neg (fun z => h (by rw [z]; exact List.mem_cons_self)), if_neg (fun z => h (by rw [z]; exact List.mem_cons_of_mem _ List.mem_cons_self))]
  cases q : kv_LINES.lookup w with
  | none => rfl
  | some sh => exact absurd (List.mem_cons_of_mem _ (List.mem_cons_of_mem _ (lookup_in q))) h
theorem names_row {w : Str} {ws : List Str} {vs : List D} (h : rowOf w ws = .tup vs) : w ∈ names := by
  by_cases z : w ∈ names
  · exact z
  · rw [row_no z] at h; cases h
def upc (c : Nat) : Nat := if 97 ≤ c ∧ c ≤ 122 then c - 32 else c
def upS (s : Str) : Str := ⟨((tl s).map upc).toArray⟩
theorem names_bad : ∀ w ∈ names, ("x" ++ w) ∉ names ∧ upS w ∉ names := by
  have h : names.all (fun w => decide (("x" ++ w) ∉ names) && decide (upS w ∉ names)) = true := by decide +kernel
  intro w hw
  have := List.all_eq_true.mp h w hw
  rw [Bool.and_eq_true] at this
  exact ⟨of_decide_eq_true this.1, of_decide_eq_true this.2⟩
theorem empty_no : ("" : Str) ∉ names := by decide +kernel
theorem val_empty (c : Nat) : isNo (valD c "") = true := valD_no (by decide +kernel) (by decide +kernel) (by decide +kernel)
theorem rowD_empty {w : Str} {ws : List Str} {cs : List Nat} (h : ("" : Str) ∈ ws) : isNo (rowD w ws cs) = true := by
  by_cases hl : ws.length = cs.length
  · obtain ⟨i, hi, e⟩ := List.getElem_of_mem h
    exact no_val (k := i) (w := "") (c := cs[i]'(by omega)) (by rw [List.getElem?_eq_getElem hi, e]) (List.getElem?_eq_getElem (by omega)) (val_empty _)
  · exact no_count hl
theorem row_empty {w : Str} {ws : List Str} (h : ("" : Str) ∈ ws) : isNo (rowOf w ws) = true := by
  unfold rowOf rowSp rowJo
  split
  · split
    · rfl
    · exact rowD_empty h
  · split
    · split
      · rfl
      · exact rowD_empty h
    · split
      · rfl
      · exact rowD_empty h
theorem row_nil (w : Str) : isNo (rowOf w []) = true := by
  unfold rowOf rowSp rowJo
  split
  · rw [if_pos (.inl (by decide))]; rfl
  · split
    · rw [if_pos (by decide)]; rfl
    · split
      · rfl
      · rename_i sh q
        obtain ⟨y, hy⟩ := lookup_all (p := fun p : Str × Str => decide (1 ≤ (tl p.2).length)) (l := kv_LINES) (by decide +kernel) q
        have hy2 : 1 ≤ (tl sh).length := of_decide_eq_true hy
        exact no_count (by show 0 ≠ _; omega)
/-- a text of words that is no line, also with a blank behind it -/
structure BadL (l : Str) : Prop where
  ex : ∃ (w0 : Str) (ws : List Str), l = Txt.join " " (w0 :: ws) ∧ (∀ p ∈ w0 :: ws, 32 ∉ tl p ∧ 10 ∉ tl p ∧ p.length ≤ 200) ∧ ws.length ≤ 40 ∧ isNo (rowOf w0 ws) = true ∧ isNo (rowOf w0 (ws ++ [("" : Str)])) = true
/-- a text within a journal -/
def okT (s : Str) : Prop := 10 ∉ tl s ∧ s.length ≤ 30000
theorem words_ok {w0 : Str} {ws : List Str} (h : ∀ p ∈ w0 :: ws, 32 ∉ tl p ∧ 10 ∉ tl p ∧ p.length ≤ 200) (hn : ws.length ≤ 41) : okT (Txt.join " " (w0 :: ws)) ∧ f_row_of [.str (Txt.join " " (w0 :: ws))] = some (rowOf w0 ws) := by
  have hl := join_len (w0 :: ws) fun s hs => (h s hs).2.2
  rw [List.length_cons] at hl
  refine ⟨⟨fun hc => ?_, by omega⟩, e_row_of _ w0 ws (TL.split_join (y := " ") (s := 32) (S := []) tl_sp (by decide +kernel) (by simp) fun p hp => (h p hp).1) (by omega) (fun w hw => by have := (h w (List.mem_cons_of_mem _ hw)).2.2; omega) (by omega)⟩
  rw [TL.join_eq, TL.tl_join, tl_sp] at hc
  rcases joinL_mem hc with h1 | ⟨x, hx, h1⟩
  · simp at h1
  · obtain ⟨s, hs, rfl⟩ := List.mem_map.mp hx
    exact (h s hs).2.1 h1
theorem isNo_non {d : D} (h : isNo d = true) : d = .non := isNo_eq h
theorem BadL.row {l : Str} (h : BadL l) : okT l ∧ f_row_of [.str l] = some .non ∧ okT (l ++ " ") ∧ f_row_of [.str (l ++ " ")] = some .non := by
  obtain ⟨w0, ws, rfl, h1, h2, h3, h4⟩ := h.ex
  obtain ⟨a1, a2⟩ := words_ok h1 (by omega)
  have h1' : ∀ p ∈ w0 :: (ws ++ [("" : Str)]), 32 ∉ tl p ∧ 10 ∉ tl p ∧ p.length ≤ 200 := fun p hp => by
    rcases List.mem_cons.mp hp with rfl | hp
    · exact h1 _ List.mem_cons_self
    · rcases List.mem_append.mp hp with hp | hp
      · exact h1 p (List.mem_cons_of_mem _ hp)
      · rw [List.mem_singleton.mp hp]
        decide +kernel
  obtain ⟨b1, b2⟩ := words_ok h1' (by rw [List.length_append]; simp; omega)
  have e : Txt.join " " (w0 :: ws) ++ " " = Txt.join " " (w0 :: (ws ++ [("" : Str)])) := by
    rw [show w0 :: (ws ++ [("" : Str)]) = w0 :: ws ++ [("" : Str)] from rfl, join_snoc]
    exact str_ext (by rw [tl_append, tl_append, tl_append, show tl ("" : Str) = [] from by decide +kernel, List.append_nil])
  rw [e]
  exact ⟨a1, by rw [a2, isNo_non h3], b1, by rw [b2, isNo_non h4]⟩
theorem upOf (c : Nat) (h : c < 128) : Unicode.upperOf c = [upc c] := by
  have : ∀ k : _root_.Fin 128, Unicode.upperOf k.val = [upc k.val] := by decide +kernel
  exact this ⟨c, h⟩
theorem upc_lt {c : Nat} (h : 33 ≤ c ∧ c < 128) : 33 ≤ upc c ∧ upc c < 128 := by
  unfold upc
  split <;> omega
theorem map_joinL (f : Nat → Nat) (h : f 32 = 32) : ∀ l : List (List Nat), (TL.joinL [32] l).map f = TL.joinL [32] (l.map (List.map f))
  | [] => rfl
  | [a] => rfl
  | a :: b :: l => by
    show (a ++ ([32] ++ TL.joinL [32] (b :: l))).map f = a.map f ++ ([32] ++ TL.joinL [32] ((b :: l).map (List.map f)))
    rw [List.map_append, List.map_append, map_joinL f h (b :: l), List.map_singleton, h]
theorem flat_one {f : Nat → List Nat} {g : Nat → Nat} : ∀ {l : List Nat}, (∀ c ∈ l, f c = [g c]) → l.flatMap f = l.map g
  | [], _ => rfl
  | c :: l, h => by
    rw [List.flatMap_cons, List.map_cons, h c List.mem_cons_self, flat_one fun x hx => h x (List.mem_cons_of_mem _ hx)]
    rfl
theorem upper_join {ws : List Str} (h : ∀ s ∈ ws, plain s) : Txt.upper (Txt.join " " ws) = Txt.join " " (ws.map upS) := by
  refine str_ext ?_
  rw [tl_upper, flat_one (g := upc) fun c hc => ?_, TL.join_eq, TL.tl_join, TL.join_eq, TL.tl_join, tl_sp, map_joinL upc rfl, List.map_map, List.map_map]
  · congr 1
  · rw [TL.join_eq, TL.tl_join, tl_sp] at hc
    refine upOf c ?_
    rcases joinL_mem hc with h1 | ⟨x, hx, h1⟩
    · rw [List.mem_singleton] at h1
      omega
    · obtain ⟨s, hs, rfl⟩ := List.mem_map.mp hx
      exact (h s hs c h1).2
theorem upS_ok {s : Str} (h : plain s) : plain (upS s) ∧ (upS s).length = s.length := by
  have e : tl (upS s) = (tl s).map upc := by unfold upS; simp [tl]
  refine ⟨fun c hc => ?_, by rw [len_tl, e, List.length_map, ← len_tl]⟩
  rw [e] at hc
  obtain ⟨c0, h0, rfl⟩ := List.mem_map.mp hc
  exact upc_lt (h c0 h0)
theorem pl_ok {s : Str} (h : plain s) (hl : s.length ≤ 200) : 32 ∉ tl s ∧ 10 ∉ tl s ∧ s.length ≤ 200 := ⟨fun z => by have := h 32 z; omega, fun z => by have := h 10 z; omega, hl⟩
theorem Good.okT {d : D} (h : Good d) : okT (lineOf d) := ⟨fun z => by have := h.line.2 10 z; omega, by have := h.line.1; omega⟩
theorem Good.isRow {d : D} (h : Good d) : Lh.isRow d := by obtain ⟨w, vs, rfl, _⟩ := h.ex; exact ⟨_, rfl⟩
theorem e_bad {d : D} (g : Good d) (c : Int) : ∃ b : Str, f_L_bad [.str (lineOf d), .int c] = some (.str b) ∧ BadL b := by
  obtain ⟨w, vs, rfl, q1, q2, q3, q4, q5⟩ := g.ex
  have hsp := g.split
  obtain ⟨w', vs', e1, hsp⟩ := g.split
  cases e1
  have ll := g.line.1
  have el : lineOf (.tup (.str w :: vs)) = Txt.join " " (w :: vs.map strD) := rfl
  have hin := names_row q5
  obtain ⟨nx, nu⟩ := names_bad w hin
  have okU : ∀ p ∈ vs.map strD, plain p ∧ p.length ≤ 100 := fun p hp => by
    obtain ⟨v, hv, rfl⟩ := List.mem_map.mp hp
    exact ⟨(q4 v hv).2, strD_len (q4 v hv).1⟩
  have okA : ∀ p ∈ vs.map strD, 32 ∉ tl p ∧ 10 ∉ tl p ∧ p.length ≤ 200 := fun p hp => pl_ok (okU p hp).1 (by have := (okU p hp).2; omega)
  have okW : 32 ∉ tl w ∧ 10 ∉ tl w ∧ w.length ≤ 200 := pl_ok q1 (by omega)
  have ok0 : 32 ∉ tl ("" : Str) ∧ 10 ∉ tl ("" : Str) ∧ ("" : Str).length ≤ 200 := by decide +kernel
  have vl : (vs.map strD).length ≤ 30 := by rw [List.length_map]; exact q3
  have b0 : BadL "" := ⟨"", [], (join_one "").symm, fun p hp => by rw [List.mem_singleton.mp hp]; exact ok0, by simp, by rw [row_no empty_no]; rfl, by rw [row_no empty_no]; rfl⟩
  have b1 : BadL (lineOf (.tup (.str w :: vs)) ++ " ") := by
    refine ⟨w, vs.map strD ++ [("" : Str)], ?_, fun p hp => ?_, by rw [List.length_append]; simp only [List.length_cons, List.length_nil]; omega, row_empty (by simp), row_empty (by simp)⟩
    · rw [el, show w :: (vs.map strD ++ [("" : Str)]) = w :: vs.map strD ++ [("" : Str)] from rfl, join_snoc]
      exact str_ext (by rw [tl_append, tl_append, tl_append, show tl ("" : Str) = [] from by decide +kernel, List.append_nil])
    · rcases List.mem_cons.mp hp with rfl | hp
      · exact okW
      · rcases List.mem_append.mp hp with hp | hp
        · exact okA p hp
        · rw [List.mem_singleton.mp hp]
          exact ok0
  have b2 : BadL ("x" ++ lineOf (.tup (.str w :: vs))) := by
    refine ⟨"x" ++ w, vs.map strD, ?_, fun p hp => ?_, by omega, by rw [row_no nx]; rfl, by rw [row_no nx]; rfl⟩
    · rw [el]
      cases vs.map strD with
      | nil => rw [join_one, join_one]
      | cons u us =>
        rw [join_two, join_two]
        exact str_ext (by simp only [tl_append, List.append_assoc])
    · rcases List.mem_cons.mp hp with rfl | hp
      · refine pl_ok (plain_app (plain_dec (by decide +kernel)) q1) ?_
        rw [len_tl, tl_append, List.length_append, ← len_tl, ← len_tl, show ("x" : Str).length = 1 from by decide]
        omega
      · exact okA p hp
  have b3 : BadL w := ⟨w, [], (join_one w).symm, fun p hp => by rw [List.mem_singleton.mp hp]; exact okW, by simp, row_nil w, row_empty (by simp)⟩
  have b4 : BadL (Txt.upper (lineOf (.tup (.str w :: vs)))) := by
    have pw : ∀ s ∈ w :: vs.map strD, plain s := fun s hs => by
      rcases List.mem_cons.mp hs with rfl | hs
      · exact q1
      · exact (okU s hs).1
    refine ⟨upS w, (vs.map strD).map upS, by rw [el, upper_join pw]; rfl, fun p hp => ?_, by rw [List.length_map]; omega, by rw [row_no nu]; rfl, by rw [row_no nu]; rfl⟩
    rcases List.mem_cons.mp hp with rfl | hp
    · obtain ⟨h1, h2⟩ := upS_ok q1
      exact pl_ok h1 (by omega)
    · obtain ⟨s, hs, rfl⟩ := List.mem_map.mp hp
      obtain ⟨h1, h2⟩ := upS_ok (okU s hs).1
      have := (okU s hs).2
      exact pl_ok h1 (by omega)
  have b5 : BadL (" " ++ lineOf (.tup (.str w :: vs))) := by
    refine ⟨"", w :: vs.map strD, ?_, fun p hp => ?_, by rw [List.length_cons]; omega, by rw [row_no empty_no]; rfl, by rw [row_no empty_no]; rfl⟩
    · rw [el, join_two "" w]
      exact str_ext (by rw [tl_append, tl_append, tl_append, show tl ("" : Str) = [] from by decide +kernel, List.nil_append])
    · rcases List.mem_cons.mp hp with rfl | hp
      · exact ok0
      · rcases List.mem_cons.mp hp with rfl | hp
        · exact okW
        · exact okA p hp
  have one : (" " : Str).length = 1 ∧ ("x" : Str).length = 1 := by decide
  generalize hL : lineOf (.tup (.str w :: vs)) = L at *
  have sel : ∃ b : Str, atI [D.str "", .str (L ++ " "), .str ("x" ++ L), .str w, .str (Txt.upper L), .str (" " ++ L)] (c % 6) = some (.str b) ∧ BadL b := by
    have : c % 6 = 0 ∨ c % 6 = 1 ∨ c % 6 = 2 ∨ c % 6 = 3 ∨ c % 6 = 4 ∨ c % 6 = 5 := by omega
    rcases this with h | h | h | h | h | h <;> rw [h]
    · exact ⟨_, rfl, b0⟩
    · exact ⟨_, rfl, b1⟩
    · exact ⟨_, rfl, b2⟩
    · exact ⟨_, rfl, b3⟩
    · exact ⟨_, rfl, b4⟩
    · exact ⟨_, rfl, b5⟩
  obtain ⟨b, hb, hbad⟩ := sel
  refine ⟨b, f_of rfl (w_ret (x_f2 (x_L (x_cons x_C (x_cons (x_f2 (x_var rfl) x_C (x_addS (by rw [one.1, sizeLine_eq]; omega))) (x_cons (x_f2 x_C (x_var rfl) (x_addS (by rw [one.2, sizeLine_eq]; omega))) (x_cons (x_f2 (x_M (x_var rfl) (x_cons x_C x_nil) ((x_splitM (by decide) (by rw [sizeLine_eq]; omega)).trans (by rw [hsp]))) x_C (x_ixL (atI_n (k := 0) rfl))) (x_cons (x_M (x_var rfl) x_nil (x_upperM (by omega))) (x_cons (x_f2 x_C (x_var rfl) (x_addS (by rw [one.1, sizeLine_eq]; omega))) x_nil)))))) (x_lstD (by rw [sizeLine_eq]; simp))) (x_f2 (x_var rfl) x_C (x_mod (by decide))) (x_ixL hb)) rfl), hbad⟩

theorem joinL_snoc {s : List Nat} (x : List Nat) : ∀ (l : List (List Nat)) (a : List Nat), TL.joinL s (a :: l ++ [x]) = TL.joinL s (a :: l) ++ (s ++ x)
  | [], a => rfl
  | b :: l, a => by
    show a ++ (s ++ TL.joinL s (b :: l ++ [x])) = a ++ (s ++ TL.joinL s (b :: l)) ++ (s ++ x)
    rw [joinL_snoc x l b]
    simp [List.append_assoc]
theorem text_split {l : List Str} {a e : Str} (h : ∀ s ∈ a :: l, okT s) (he : 10 ∉ tl e) : Txt.split (Txt.join "\n" (a :: l) ++ "\n" ++ e) "\n" = (a :: l) ++ [e] := by
  have h1 := TL.split_join (y := "\n") (s := 10) (S := []) tl_nl (by decide +kernel) (parts := (a :: l) ++ [e]) (by simp) fun p hp => by
    rcases List.mem_append.mp hp with hp | hp
    · exact (h p hp).1
    · rw [List.mem_singleton.mp hp]; exact he
  have e2 : Txt.join "\n" (a :: l) ++ "\n" ++ e = Txt.join "\n" ((a :: l) ++ [e]) := by
    refine str_ext ?_
    rw [tl_append, tl_append, TL.join_eq, TL.tl_join, TL.join_eq, TL.tl_join, tl_nl, List.map_append, List.map_cons, List.map_cons, List.map_nil, joinL_snoc, List.append_assoc]
  rw [e2]
  exact h1
theorem joinN_len (l : List Str) (h : ∀ s ∈ l, okT s) : (Txt.join "\n" l).length ≤ l.length * 60000 := by
  rw [len_tl, TL.join_eq, TL.tl_join, tl_nl]
  have := joinL_len (s := [10]) (k := 30000) (l := l.map tl) (fun x hx => by
    obtain ⟨s, hs, rfl⟩ := List.mem_map.mp hx
    rw [← len_tl]
    exact (h s hs).2) (by simp)
  rw [List.length_map] at this
  omega
theorem x_joinN {l : List Str} (h : ∀ s ∈ l, okT s) (hn : l.length ≤ 20) : gJoin (.str "\n") [.lst (l.map D.str)] = some (.str (Txt.join "\n" l)) := by
  refine x_joinL (strs_map _) ?_
  have h2 := sum_le (k := 30000) fun s hs => (h s hs).2
  have : ("\n" : Str).length = 1 := by decide
  rw [this]
  omega
/-- the text of a journal's cell, with what stands behind it -/
theorem v_text {n : Nat} {l : List Str} {e : Str} {ρ : Rho} {S : Store} {E : Exn → Store → Prop} {Q : D → Store → Prop} (h2 : ρ[2]? = some (.val (.loc n))) (h3 : ρ[3]? = some (.val (.str e))) (hS : S[n]? = some (.lst (l.map D.str))) (h : ∀ s ∈ l, okT s) (hn : l.length ≤ 20) (he : e.length ≤ 100)
    (q : Q (.str (Txt.join "\n" l ++ "\n" ++ e)) S) : Ev (m2 gAdd (m2 gAdd (mMS gJoin (mP (fC (.str "\n"))) (mCons (mP (fVar 2)) mNil)) (mP (fC (.str "\n")))) (mP (fVar 3)) ρ S) Q E := by
  have jl := joinN_len l h
  have one : ("\n" : Str).length = 1 := by decide
  refine v_2 (v_2 (v_mS (v_P x_C ⟨rfl, v_cons (v_P (x_var h2) (v_nil ⟨.str (Txt.join "\n" l), ?_, rfl, v_P x_C ⟨.str (Txt.join "\n" l ++ "\n"), x_addS (by rw [one, sizeLine_eq]; omega), rfl, v_P (x_var h3) ⟨.str (Txt.join "\n" l ++ "\n" ++ e), x_addS ?_, rfl, q⟩⟩⟩))⟩)))
  · show gJoin (.str "\n") [view S (.loc n)] = _
    rw [view_at hS]
    exact x_joinN h hn
  · rw [len_tl, tl_append, List.length_append, ← len_tl, ← len_tl, one, sizeLine_eq]
    omega
theorem text_len {l : List Str} {e : Str} (h : ∀ s ∈ l, okT s) (hn : l.length ≤ 20) (he : e.length ≤ 100) : (Txt.join "\n" l ++ "\n" ++ e).length ≤ 10000000 := by
  have jl := joinN_len l h
  have one : ("\n" : Str).length = 1 := by decide
  rw [len_tl, tl_append, tl_append, List.length_append, List.length_append, ← len_tl, ← len_tl, ← len_tl, one]
  omega
theorem law_true : ∀ ns : List Int, ns.length ≤ 63 → ∃ S, f_law [.scr ns] [] = some (.ok (.bool true), S) := by
  intro ns _
  obtain ⟨c0, hc0⟩ := e_cell ns 0 (by decide)
  obtain ⟨c1, hc1⟩ := e_cell ns 1 (by decide)
  obtain ⟨c2, hc2⟩ := e_cell ns 2 (by decide)
  obtain ⟨c3, hc3⟩ := e_cell ns 3 (by decide)
  obtain ⟨n, hn, n13⟩ : ∃ n : Nat, c0 % 12 = (n : Int) ∧ n < 12 := ⟨(c0 % 12).toNat, by omega, by omega⟩
  have hrow : ∀ k : Nat, ∃ d, k < 13 → f_L_row [.scr ns, .int ((4 + 5 * k : Nat) : Int)] = some d ∧ Good d := fun k => by
    by_cases hk : k < 13
    · obtain ⟨d, h1, h2⟩ := e_L_row ns (4 + 5 * k) (by omega)
      exact ⟨d, fun _ => ⟨h1, h2⟩⟩
    · exact ⟨.non, fun z => absurd z hk⟩
  let row : Nat → D := fun k => (hrow k).choose
  have hr : ∀ k, k < 13 → f_L_row [.scr ns, .int ((4 + 5 * k : Nat) : Int)] = some (row k) ∧ Good (row k) := fun k hk => (hrow k).choose_spec hk
  let ds : List D := (List.range (1 + n)).map row
  have hds : ds.length = 1 + n := by simp [ds]
  have hg : ∀ d ∈ ds, Good d := fun d hd => by
    obtain ⟨k, hk, rfl⟩ := List.mem_map.mp hd
    exact (hr k (by have := List.mem_range.mp hk; omega)).2
  have hrows : fLc (fIs itR1 (fCons (f2 gAdd (fC (.int 1)) (f2 gMod (fL f_L_cell (fCons (fVar 0) (fCons (fC (.int 0)) fNil))) (fC (.int 12)))) fNil)) (st1 5) ftYes (fL f_L_row (fCons (fVar 0) (fCons (f2 gAdd (fC (.int 4)) (f2 gMul (fC (.int 5)) (fVar 5))) fNil))) [5] (rho0 N_law [.scr ns]) = some (.lst ds) := by
    refine x_lc (x_Is (x_cons (x_f2 x_C (x_f2 (x_L (x_cons (x_var rfl) (x_cons x_C x_nil)) hc0) x_C (x_mod (by decide))) (x_add.trans (by rw [hn, show (1 : Int) + (n : Int) = ((1 + n : Nat) : Int) from by omega]))) x_nil) (x_R1 (by omega))) (by rw [rngD_eq, List.length_map, List.length_range]; omega) ?_
    have := x_lcGo (xs := List.range (1 + n)) (inj := fun (k : Nat) => D.int (0 + (k : Nat))) (p := fun _ => true) (v := row) (ρ := wipeR (rho0 N_law [.scr ns]) [5]) (set := st1 5) (ft := ftYes) (f := fL f_L_row (fCons (fVar 0) (fCons (f2 gAdd (fC (.int 4)) (f2 gMul (fC (.int 5)) (fVar 5))) fNil))) fun k hk => ⟨_, rfl, rfl, fun _ => x_L (x_cons (x_var rfl) (x_cons (x_f2 x_C (x_f2 x_C (x_var rfl) (x_mulL (by decide) (by decide))) x_add) x_nil)) ?_⟩
    · rw [List.filter_eq_self.mpr (fun _ _ => rfl)] at this
      exact this
    · have := List.mem_range.mp hk
      rw [show (4 : Int) + 5 * (0 + (k : Int)) = ((4 + 5 * k : Nat) : Int) from by omega]
      exact (hr k (by omega)).1
  let ls : List Str := ds.map lineOf
  have hls : ls.length = 1 + n := by simp [ls, hds]
  have okl : ∀ s ∈ ls, okT s := fun s hs => by
    obtain ⟨d, hd, rfl⟩ := List.mem_map.mp hs
    exact (hg d hd).okT
  have hlines : fLc (fI itL (fVar 1)) (st1 6) ftYes (fM gJoin (fC (.str " ")) (fCons (fLc (fI itT (fVar 6)) (st1 7) ftYes (fL gStr (fCons (fVar 7) fNil)) [7]) fNil)) [6] [.val (.scr ns), .val (.lst ds), .junk, .junk, .junk, .junk, .junk, .junk] = some (.lst (ls.map D.str)) := by
    refine x_lc (x_I (x_var rfl) rfl) (by omega) ?_
    have := x_lcGo (xs := ds) (inj := id) (p := fun _ => true) (v := fun d => D.str (lineOf d)) (ρ := [.val (.scr ns), .val (.lst ds), .junk, .junk, .junk, .junk, .junk, .junk]) (set := st1 6) (ft := ftYes) (f := fM gJoin (fC (.str " ")) (fCons (fLc (fI itT (fVar 6)) (st1 7) ftYes (fL gStr (fCons (fVar 7) fNil)) [7]) fNil)) fun z hz => ⟨[.val (.scr ns), .val (.lst ds), .junk, .junk, .junk, .junk, .val z, .junk], rfl, rfl, fun _ => ?_⟩
    · rw [List.map_id, List.filter_eq_self.mpr (fun _ _ => rfl)] at this
      show lcGo _ _ _ (wipeR _ _) _ = _
      rw [List.map_map]
      exact this
    · obtain ⟨w, vs, rfl, q1, q2, q3, q4, q5⟩ := (hg z hz).ex
      refine e_words (x_I (x_var rfl) rfl) rfl (fun v hv => ?_) (by rw [List.length_cons]; omega)
      rcases List.mem_cons.mp hv with rfl | hv
      · exact q2
      · exact (q4 v hv).1
  have hend : ∃ e : Str, f2 gIx (fL gLstD (fCons (fC (.str "")) (fCons (fC (.str "give")) (fCons (fC (.str "nonsense")) (fCons (fC (.str " ")) (fCons (fC (.str "use ash-1")) fNil)))))) (f2 gMod (fL f_L_cell (fCons (fVar 0) (fCons (fC (.int 3)) fNil))) (fC (.int 5))) [.val (.scr ns), .val (.lst ds), .val (.loc 0), .junk, .junk, .junk, .junk, .junk] = some (.str e) ∧ 10 ∉ tl e ∧ e.length ≤ 100 := by
    have sel : ∃ e : Str, atI [D.str "", .str "give", .str "nonsense", .str " ", .str "use ash-1"] (c3 % 5) = some (.str e) ∧ 10 ∉ tl e ∧ e.length ≤ 100 := by
      have : c3 % 5 = 0 ∨ c3 % 5 = 1 ∨ c3 % 5 = 2 ∨ c3 % 5 = 3 ∨ c3 % 5 = 4 := by omega
      rcases this with h | h | h | h | h <;> rw [h]
      · exact ⟨_, rfl, by decide +kernel, by decide⟩
      · exact ⟨_, rfl, by decide +kernel, by decide⟩
      · exact ⟨_, rfl, by decide +kernel, by decide⟩
      · exact ⟨_, rfl, by decide +kernel, by decide⟩
      · exact ⟨_, rfl, by decide +kernel, by decide⟩
    obtain ⟨e, h1, h2, h3⟩ := sel
    exact ⟨e, x_f2 (x_L (x_cons x_C (x_cons x_C (x_cons x_C (x_cons x_C (x_cons x_C x_nil))))) (x_lstD (by rw [sizeLine_eq]; simp))) (x_f2 (x_L (x_cons (x_var rfl) (x_cons x_C x_nil)) hc3) x_C (x_mod (by decide))) (x_ixL h1), h2, h3⟩
  obtain ⟨e, he1, he2, he3⟩ := hend
  obtain ⟨l0, lr, hlr⟩ : ∃ a l, ls = a :: l := by
    cases q : ls with
    | nil => rw [q] at hls; simp at hls; omega
    | cons a l => exact ⟨a, l, rfl⟩
  let rv : Str → D := fun l => (f_row_of [.str l]).getD .non
  have rvg : ∀ d ∈ ds, f_row_of [.str (lineOf d)] = some (rv (lineOf d)) ∧ isRow (rv (lineOf d)) ∧ rv (lineOf d) = d := fun d hd => by
    have h1 := (hg d hd).parse
    have h2 : rv (lineOf d) = d := by
      show (f_row_of [.str (lineOf d)]).getD .non = d
      rw [h1]; rfl
    rw [h2]
    exact ⟨h1, (hg d hd).isRow, rfl⟩
  have rvl : ∀ l ∈ ls, f_row_of [.str l] = some (rv l) ∧ isRow (rv l) := fun l hl => by
    obtain ⟨d, hd, rfl⟩ := List.mem_map.mp hl
    exact ⟨(rvg d hd).1, (rvg d hd).2.1⟩
  have mrv : ls.map rv = ds := by
    show (ds.map lineOf).map rv = ds
    rw [List.map_map]
    conv => rhs; rw [← List.map_id ds]
    exact List.map_congr_left fun d hd => (rvg d hd).2.2
  obtain ⟨k, hk, hkl⟩ : ∃ k : Nat, c1 % ((1 + n : Nat) : Int) = (k : Int) ∧ k < 1 + n := by
    have h1 := Int.emod_nonneg c1 (b := ((1 + n : Nat) : Int)) (by omega)
    have h2 := Int.emod_lt_of_pos c1 (b := ((1 + n : Nat) : Int)) (by omega)
    exact ⟨(c1 % ((1 + n : Nat) : Int)).toNat, by omega, by omega⟩
  obtain ⟨dk, hdk⟩ : ∃ d, ds[k]? = some d := ⟨ds[k]'(by omega), by simp [show k < ds.length by omega]⟩
  have gk : Good dk := hg dk (List.mem_of_getElem? hdk)
  have lk : ls[k]? = some (lineOf dk) := by rw [List.getElem?_map, hdk]; rfl
  obtain ⟨b, hb, bad⟩ := e_bad gk c2
  obtain ⟨r1, r2, r3, r4⟩ := bad.row
  -- the spoilt journal: good lines, then a bad one
  have fin : ∀ (fs : List Str) (S : Store), (∃ post b', fs = ls.take k ++ b' :: post ∧ okT b' ∧ (∀ s ∈ post, okT s) ∧ f_row_of [.str b'] = some .non) → fs.length = 1 + n → S[0]? = some (.lst (fs.map D.str)) →
      EG (gRet (m2 gEq (mCall f_L_line_of (mCons (m2 gAdd (m2 gAdd (mMS gJoin (mP (fC (.str "\n"))) (mCons (mP (fVar 2)) mNil)) (mP (fC (.str "\n")))) (mP (fVar 3))) mNil)) (mP (f2 gAdd (fVar 4) (fC (.int 1))))) [.val (.scr ns), .val (.lst ds), .val (.loc 0), .val (.str e), .val (.int (k : Int)), .junk, .junk, .junk] S) (endQ (fun d _ => d = .bool true) (fun _ _ => False)) := fun fs S ⟨post, b', ef, o1, o2, o3⟩ hlen hS => by
    have okf : ∀ s ∈ fs, okT s := fun s hs => by
      rw [ef] at hs
      rcases List.mem_append.mp hs with hs | hs
      · exact okl s (List.take_subset _ _ hs)
      · rcases List.mem_cons.mp hs with rfl | hs
        · exact o1
        · exact o2 s hs
    obtain ⟨f0, fr, hfr⟩ : ∃ a l, fs = a :: l := by
      cases q : fs with
      | nil => rw [q] at hlen; simp at hlen; omega
      | cons a l => exact ⟨a, l, rfl⟩
    have tk : (ls.take k).length = k := by rw [List.length_take]; omega
    have hsplit : Txt.split (Txt.join "\n" fs ++ "\n" ++ e) "\n" = (ls.take k ++ b' :: post) ++ [e] := by
      rw [← ef, hfr]
      exact text_split (by rw [← hfr]; exact okf) he2
    refine vs_ret (v_2 (v_call (v_cons (v_text rfl rfl hS okf (by omega) he3 (v_nil ((sp_line_of _ (ls.take k) post b' e hsplit (text_len okf (by omega) he3) (by rw [← ef]; omega) rv (fun l hl => rvl l (List.take_subset _ _ hl)) o3 (E := fun _ _ => False)).mono (fun d S1 hd => ?_) fun _ _ z => z.elim))))))
    subst hd
    rw [tk]
    exact v_P (x_f2 (x_var rfl) x_C x_add) ⟨.bool true, x_eqI.trans (by simp), rfl, rfl⟩
  have dropk : ls.drop (k + 1) = ls.drop (k + 1) := rfl
  have setk : ls.set k b = ls.take k ++ b :: ls.drop (k + 1) := List.set_eq_take_append_cons_drop .. |>.trans (by rw [if_pos (by omega)])
  have okd : ∀ s ∈ ls.drop (k + 1), okT s := fun s hs => okl s (List.drop_subset _ _ hs)
  have key : Ev (f_law [.scr ns] []) (fun d S => d = .bool true) (fun _ _ => False) := by
    refine ev_def rfl (vs_seq (vs_asg (v_P hrows ⟨_, rfl, then_nx ?_⟩)))
    refine vs_seq (vs_asg (v_cell hlines ⟨_, rfl, then_nx ?_⟩))
    refine vs_seq (vs_asg (v_P he1 ⟨_, rfl, then_nx ?_⟩))
    show EG (gSeq _ _ [.val (.scr ns), .val (.lst ds), .val (.loc 0), .val (.str e), .junk, .junk, .junk, .junk] [.lst (ls.map D.str)]) _
    refine vs_seq (vs_if (vt_B (v_2 (v_call (v_cons (v_text rfl rfl rfl okl (by omega) he3 (v_nil ((sp_parse_journal _ ls e (by rw [hlr]; exact text_split (by rw [← hlr]; exact okl) he2) (text_len okl (by omega) he3) (by omega) rv rvl (E := fun _ _ => False)).mono (fun d S1 ⟨e5, e6⟩ => ?_) fun _ _ z => z.elim))))))))
    subst e5 e6
    rw [mrv]
    refine v_P (x_var rfl) ⟨.bool false, ?_, rfl, false, rfl, iteF (vs_nil (then_nx ?_))⟩
    · exact (good_eq hg).2
    show EG (gSeq _ _ [.val (.scr ns), .val (.lst ds), .val (.loc 0), .val (.str e), .junk, .junk, .junk, .junk] [.lst (ls.map D.str), .lst ds]) _
    refine vs_seq (vs_asg (v_2 (v_P (x_L (x_cons (x_var rfl) (x_cons x_C x_nil)) hc1) (v_L (v_cons (v_P rfl (v_nil ⟨.int ((1 + n : Nat) : Int), ?_, rfl, .int (k : Int), (x_mod (by omega)).trans (by rw [hk]), rfl, _, rfl, then_nx ?_⟩)))))))
    · show gLen [D.lst (ls.map D.str)] = _
      rw [x_lenL, List.length_map, hls]
    show EG (gSeq _ _ [.val (.scr ns), .val (.lst ds), .val (.loc 0), .val (.str e), .val (.int (k : Int)), .junk, .junk, .junk] [.lst (ls.map D.str), .lst ds]) _
    have ixk : ixN (ls.map D.str).length (k : Int) = some k := by
      rw [List.length_map]
      unfold ixN
      rw [if_pos (by omega), if_pos (by omega)]
      rfl
    refine vs_seq (vs_setix (v_callP (v_cons (v_ix (v_P (d := .loc 0) rfl (v_P (d := .int (k : Int)) rfl ⟨ls.map D.str, (k : Int), .str (lineOf dk), .inl rfl, rfl, atI_n (by rw [List.getElem?_map, lk]; rfl), v_cons (v_P (x_L (x_cons (x_var rfl) (x_cons x_C x_nil)) hc2) (v_nil ⟨.str b, hb, v_P rfl (v_P rfl ⟨0, ls.map D.str, (k : Int), k, rfl, rfl, rfl, ixk, then_nx ?_⟩)⟩))⟩))))))
    have e7 : (ls.map D.str).set k (.str b) = (ls.set k b).map D.str := by rw [List.map_set]
    show EG (gSeq _ _ [.val (.scr ns), .val (.lst ds), .val (.loc 0), .val (.str e), .val (.int (k : Int)), .junk, .junk, .junk] [.lst ((ls.map D.str).set k (.str b)), .lst ds]) _
    rw [e7]
    have len2 : (ls.set k b).length = 1 + n := by rw [List.length_set, hls]
    refine vs_seq (vs_if (vt_P (b := decide (c1 / 12 % 2 = 1)) (x_tB (x_f2 (x_f2 (x_f2 (x_L (x_cons (x_var rfl) (x_cons x_C x_nil)) hc1) x_C (x_div (by decide) (by decide))) x_C (x_mod (by decide))) x_C x_eqI)) ?_))
    cases hq : decide (c1 / 12 % 2 = 1) with
    | false =>
      exact iteF (vs_nil (then_nx (fin (ls.set k b) _ ⟨ls.drop (k + 1), b, setk, r1, okd, r2⟩ len2 rfl)))
    | true =>
      obtain ⟨z, hz⟩ : ∃ z, (ls.set k b)[n]? = some z := ⟨(ls.set k b)[n]'(by omega), by simp [show n < (ls.set k b).length by omega]⟩
      have hlen3 : gLen [D.lst ((ls.set k b).map D.str)] = some (.int ((1 + n : Nat) : Int)) := by rw [x_lenL, List.length_map, len2]
      have ixn : ixN ((ls.set k b).map D.str).length (n : Int) = some n := by
        rw [List.length_map]
        unfold ixN
        rw [if_pos (by omega), if_pos (by omega)]
        rfl
      have sub1 : gSub (.int ((1 + n : Nat) : Int)) (.int 1) = some (.int (n : Int)) := x_sub.trans (by rw [show ((1 + n : Nat) : Int) - 1 = (n : Int) from by omega])
      have okz : okT z ∧ okT (z ++ " ") := by
        have hm := List.mem_of_getElem? hz
        rcases List.mem_or_eq_of_mem_set hm with hm | rfl
        · obtain ⟨d, hd, rfl⟩ := List.mem_map.mp hm
          refine ⟨(hg d hd).okT, fun h => ?_, ?_⟩
          · rw [tl_append, List.mem_append] at h
            exact h.elim (hg d hd).okT.1 (by decide +kernel)
          · have := (hg d hd).line.1
            rw [len_tl, tl_append, List.length_append, ← len_tl, tl_sp]
            simp only [List.length_cons, List.length_nil]
            omega
        · exact ⟨r1, r3⟩
      refine iteT (vs_setix (v_2 (v_ix (v_P (d := .loc 0) rfl (v_2 (v_L (v_cons (v_P rfl (v_nil ⟨.int ((1 + n : Nat) : Int), hlen3, rfl, v_P x_C ⟨.int (n : Int), sub1, rfl, (ls.set k b).map D.str, (n : Int), .str z, .inl rfl, rfl, atI_n (by rw [List.getElem?_map, hz]; rfl), v_P x_C ⟨.str (z ++ " "), x_addS ?_, rfl, ?_⟩⟩⟩)))))))))
      · have := okz.1.2
        rw [show (" " : Str).length = 1 from by decide, sizeLine_eq]
        omega
      refine v_P rfl (v_2 (v_L (v_cons (v_P rfl (v_nil ⟨.int ((1 + n : Nat) : Int), hlen3, rfl, v_P x_C ⟨.int (n : Int), sub1, rfl, 0, (ls.set k b).map D.str, (n : Int), n, rfl, rfl, rfl, ixn, then_nx ?_⟩⟩)))))
      have e8 : ((ls.set k b).map D.str).set n (.str (z ++ " ")) = ((ls.set k b).set n (z ++ " ")).map D.str := by simp only [List.map_set]
      have len4 : ((ls.set k b).set n (z ++ " ")).length = 1 + n := by rw [List.length_set, len2]
      refine fin ((ls.set k b).set n (z ++ " ")) _ ?_ len4 (by show some (Cell.lst (((ls.set k b).map D.str).set n (.str (z ++ " ")))) = _; rw [e8])
      have set4 : (ls.set k b).set n (z ++ " ") = (ls.set k b).take n ++ [z ++ " "] := by
        rw [List.set_eq_take_append_cons_drop, if_pos (by omega), List.drop_eq_nil_of_le (by omega)]
      by_cases hkn : k = n
      · subst hkn
        have hzb : z = b := by
          rw [List.getElem?_set_self (by omega)] at hz
          exact (Option.some.inj hz).symm
        subst hzb
        refine ⟨[], z ++ " ", ?_, r3, by simp, r4⟩
        rw [set4, List.take_set_of_le (Nat.le_refl _)]
      · refine ⟨(ls.drop (k + 1)).take (n - (k + 1)) ++ [z ++ " "], b, ?_, r1, fun s hs => ?_, r2⟩
        · rw [set4, setk, List.take_append, List.length_take, show min k ls.length = k from by omega, List.take_take, Nat.min_eq_right (by omega), show n - k = (n - (k + 1)) + 1 from by omega, List.take_succ_cons, List.append_assoc]
          rfl
        · rcases List.mem_append.mp hs with hs | hs
          · exact okd s (List.take_subset _ _ hs)
          · rw [List.mem_singleton.mp hs]
            exact okz.2
  cases q : f_law [.scr ns] [] with
  | none => rw [q] at key; exact key.elim
  | some p =>
    obtain ⟨r, S⟩ := p
    rw [q] at key
    cases r with
    | ok d => exact ⟨S, by rw [show d = .bool true from key]⟩
    | er x => exact key.elim
end Lh

namespace Lh
open PySem PySem.Spec L2 SkE Pd
open PyProof.Rows hiding St
theorem all_mk {l : PySem.W.OpenLaw} {w : World} {K : PySem.W.Frag} {h : Heap} {mg : Str → Option Value} {fa : Addr} (X : K.In h) (G : h.Ns mainGlobals mg) (hfa : mg "law" = some (.ref fa))
    {KInvalidLine : Addr}
    (a_InvalidLine : PySem.W.nsIn K mainGlobals "InvalidLine" = some (some (.ref KInvalidLine)))
    (b_InvalidLine : PySem.W.subIn K (.ref KInvalidLine) (.type "BaseException") = some true)
    (t_InvalidLine : PySem.W.typeIn K (.ref KInvalidLine) = some (.type "type"))
    (hd_InvalidLine : PySem.W.hasDictIn K KInvalidLine = true)
    {nm_InvalidLine q_InvalidLine fi_InvalidLine : Str} {N_InvalidLine fx_InvalidLine ca_InvalidLine cc_InvalidLine : Addr} {bs_InvalidLine bm_InvalidLine sub_InvalidLine : List Value} {sn_InvalidLine : List Str} {ab_InvalidLine : Bool} {col_InvalidLine : Option Bool} {dd_InvalidLine xod_InvalidLine xan_InvalidLine xcd_InvalidLine xld_InvalidLine : Option Addr} {u0_InvalidLine u1_InvalidLine u2_InvalidLine u3_InvalidLine u5_InvalidLine : Option Value} {xoc_InvalidLine xkV_InvalidLine xdc_InvalidLine xpm_InvalidLine xct_InvalidLine xcc_InvalidLine xcl_InvalidLine : Value} {xsl_InvalidLine xcs_InvalidLine xls_InvalidLine : Array (Option Value)} {vs_InvalidLine : Array Value} {tf_InvalidLine : Tok}
    (lx_InvalidLine : K.lookup KInvalidLine = some (excClassObj nm_InvalidLine q_InvalidLine KInvalidLine N_InvalidLine bs_InvalidLine bm_InvalidLine true sn_InvalidLine sub_InvalidLine ab_InvalidLine col_InvalidLine dd_InvalidLine u0_InvalidLine u1_InvalidLine u2_InvalidLine u3_InvalidLine u5_InvalidLine "ValueError.__new__"))
    (rv_InvalidLine : PySem.HandSPX.refsVE bm_InvalidLine = true)
    (sa_InvalidLine : PySem.W.findIn K (.ref KInvalidLine) "__setattr__" = some (some (.builtin "object.__setattr__")))
    (kp_InvalidLine : PySem.W.keepIn K (.ref KInvalidLine) = true)
    (su_InvalidLine : PySem.W.ks_superIn K KInvalidLine KInvalidLine "__init__" = some (some (.builtin "ValueError.__init__")))
    (ve_InvalidLine : PySem.W.subIn K (.ref KInvalidLine) (.type "ValueError") = some true)
    (se_InvalidLine : PySem.W.mroIn K KInvalidLine (.ref KInvalidLine) = some true)
    (fl_InvalidLine : PySem.W.findIn K (.ref KInvalidLine) "line" = some none)
    (in_InvalidLine : PySem.W.findIn K (.ref KInvalidLine) "__init__" = some (some (.ref fx_InvalidLine)))
    (ty_InvalidLine : PySem.W.typeIn K (.ref fx_InvalidLine) = some (.type "function"))
    (lf_InvalidLine : K.lookup fx_InvalidLine = some ⟨xoc_InvalidLine, xod_InvalidLine, .func (PySem.W.ksFn "__init__" "InvalidLine.__init__" (defArgs s_XInvalidLine) (defBody s_XInvalidLine) (defScope s_XInvalidLine) .none xkV_InvalidLine xdc_InvalidLine xpm_InvalidLine xan_InvalidLine (.ref ca_InvalidLine) xct_InvalidLine cc_InvalidLine), xsl_InvalidLine⟩)
    (cd_InvalidLine : PySem.W.codeIn K (.ref ca_InvalidLine) "InvalidLine.__init__" = true)
    (lc_InvalidLine : K.lookup ca_InvalidLine = some ⟨xcc_InvalidLine, xcd_InvalidLine, .fields vs_InvalidLine, xcs_InvalidLine⟩)
    (vf_InvalidLine : vs_InvalidLine[2]? = some (.str fi_InvalidLine tf_InvalidLine))
    (hf_InvalidLine : ((l.prog.main.file : Str) == fi_InvalidLine) = true)
    (ce_InvalidLine : K.lookup cc_InvalidLine = some ⟨xcl_InvalidLine, xld_InvalidLine, .cell (some (.ref KInvalidLine)), xls_InvalidLine⟩)
    (z_super : PySem.W.nsIn K mainGlobals "super" = some none)
    (op_x : PySem.W.nsIn K cStatics "thirdparty.any" = some none)
    (tp_x : (l.prog.main.scope.names.lookup ("super" : Str)).isSome = false)
    (s_InvalidLine_InvalidLine : PySem.W.subIn K (.ref KInvalidLine) (.ref KInvalidLine) = some true)
    (hn_x : PySem.W.specialIn K (.builtin "object.__class__") "__get__" = some (some (.builtin "getset_descriptor.__get__")))
    (ht_x : PySem.W.takesIn K (.builtin "object.__class__") = some true)
    (eg_InvalidLine : PySem.W.findIn K (.ref KInvalidLine) "__getattribute__" = some (some (.builtin "BaseException.__getattribute__")))
    (ek_InvalidLine : PySem.W.findIn K (.ref KInvalidLine) "__getattr__" = some none)
    (ed_InvalidLine : PySem.W.hasDictIn K KInvalidLine = true)
    (ea_InvalidLine : PySem.W.findIn K (.ref KInvalidLine) "__class__" = some (some (.builtin "object.__class__")))
    (em_InvalidLine : PySem.W.mroIn K KInvalidLine (.type "object") = some true)
    {f0 : Addr} {od0 an0 : Option Addr} {sl0 : Array (Option Value)} {oc0 kV0 dc0 pm0 cd0 ct0 : Value}
    (a0 : PySem.W.nsIn K mainGlobals "is_office" = some (some (.ref f0)))
    (l0 : K.lookup f0 = some ⟨oc0, od0, .func (PySem.W.fnOf "is_office" "is_office" (defArgs s_is_office) (defBody s_is_office) (defScope s_is_office) .none kV0 dc0 pm0 an0 cd0 ct0), sl0⟩)
    (c0 : PySem.W.codeIn K cd0 "is_office" = true)
    (k0 : PySem.W.keepIn K (.ref f0) = true)
    {f1 : Addr} {od1 an1 : Option Addr} {sl1 : Array (Option Value)} {oc1 kV1 dc1 pm1 cd1 ct1 : Value}
    (a1 : PySem.W.nsIn K mainGlobals "number_of" = some (some (.ref f1)))
    (l1 : K.lookup f1 = some ⟨oc1, od1, .func (PySem.W.fnOf "number_of" "number_of" (defArgs s_number_of) (defBody s_number_of) (defScope s_number_of) .none kV1 dc1 pm1 an1 cd1 ct1), sl1⟩)
    (c1 : PySem.W.codeIn K cd1 "number_of" = true)
    (k1 : PySem.W.keepIn K (.ref f1) = true)
    {f2 : Addr} {od2 an2 : Option Addr} {sl2 : Array (Option Value)} {oc2 kV2 dc2 pm2 cd2 ct2 : Value}
    (a2 : PySem.W.nsIn K mainGlobals "is_thing" = some (some (.ref f2)))
    (l2 : K.lookup f2 = some ⟨oc2, od2, .func (PySem.W.fnOf "is_thing" "is_thing" (defArgs s_is_thing) (defBody s_is_thing) (defScope s_is_thing) .none kV2 dc2 pm2 an2 cd2 ct2), sl2⟩)
    (c2 : PySem.W.codeIn K cd2 "is_thing" = true)
    (k2 : PySem.W.keepIn K (.ref f2) = true)
    {f3 : Addr} {od3 an3 : Option Addr} {sl3 : Array (Option Value)} {oc3 kV3 dc3 pm3 cd3 ct3 : Value}
    (a3 : PySem.W.nsIn K mainGlobals "value_of" = some (some (.ref f3)))
    (l3 : K.lookup f3 = some ⟨oc3, od3, .func (PySem.W.fnOf "value_of" "value_of" (defArgs s_value_of) (defBody s_value_of) (defScope s_value_of) .none kV3 dc3 pm3 an3 cd3 ct3), sl3⟩)
    (c3 : PySem.W.codeIn K cd3 "value_of" = true)
    (k3 : PySem.W.keepIn K (.ref f3) = true)
    {f4 : Addr} {od4 an4 : Option Addr} {sl4 : Array (Option Value)} {oc4 kV4 dc4 pm4 cd4 ct4 : Value}
    (a4 : PySem.W.nsIn K mainGlobals "values_of" = some (some (.ref f4)))
    (l4 : K.lookup f4 = some ⟨oc4, od4, .func (PySem.W.fnOf "values_of" "values_of" (defArgs s_values_of) (defBody s_values_of) (defScope s_values_of) .none kV4 dc4 pm4 an4 cd4 ct4), sl4⟩)
    (c4 : PySem.W.codeIn K cd4 "values_of" = true)
    (k4 : PySem.W.keepIn K (.ref f4) = true)
    {f5 : Addr} {od5 an5 : Option Addr} {sl5 : Array (Option Value)} {oc5 kV5 dc5 pm5 cd5 ct5 : Value}
    (a5 : PySem.W.nsIn K mainGlobals "parse_split" = some (some (.ref f5)))
    (l5 : K.lookup f5 = some ⟨oc5, od5, .func (PySem.W.fnOf "parse_split" "parse_split" (defArgs s_parse_split) (defBody s_parse_split) (defScope s_parse_split) .none kV5 dc5 pm5 an5 cd5 ct5), sl5⟩)
    (c5 : PySem.W.codeIn K cd5 "parse_split" = true)
    (k5 : PySem.W.keepIn K (.ref f5) = true)
    {f6 : Addr} {od6 an6 : Option Addr} {sl6 : Array (Option Value)} {oc6 kV6 dc6 pm6 cd6 ct6 : Value}
    (a6 : PySem.W.nsIn K mainGlobals "parse_join" = some (some (.ref f6)))
    (l6 : K.lookup f6 = some ⟨oc6, od6, .func (PySem.W.fnOf "parse_join" "parse_join" (defArgs s_parse_join) (defBody s_parse_join) (defScope s_parse_join) .none kV6 dc6 pm6 an6 cd6 ct6), sl6⟩)
    (c6 : PySem.W.codeIn K cd6 "parse_join" = true)
    (k6 : PySem.W.keepIn K (.ref f6) = true)
    {f7 : Addr} {od7 an7 : Option Addr} {sl7 : Array (Option Value)} {oc7 kV7 dc7 pm7 cd7 ct7 : Value}
    (a7 : PySem.W.nsIn K mainGlobals "row_of" = some (some (.ref f7)))
    (l7 : K.lookup f7 = some ⟨oc7, od7, .func (PySem.W.fnOf "row_of" "row_of" (defArgs s_row_of) (defBody s_row_of) (defScope s_row_of) .none kV7 dc7 pm7 an7 cd7 ct7), sl7⟩)
    (c7 : PySem.W.codeIn K cd7 "row_of" = true)
    (k7 : PySem.W.keepIn K (.ref f7) = true)
    {f8 : Addr} {od8 an8 : Option Addr} {sl8 : Array (Option Value)} {oc8 kV8 dc8 pm8 cd8 ct8 : Value}
    (a8 : PySem.W.nsIn K mainGlobals "whole_lines" = some (some (.ref f8)))
    (l8 : K.lookup f8 = some ⟨oc8, od8, .func (PySem.W.fnOf "whole_lines" "whole_lines" (defArgs s_whole_lines) (defBody s_whole_lines) (defScope s_whole_lines) .none kV8 dc8 pm8 an8 cd8 ct8), sl8⟩)
    (c8 : PySem.W.codeIn K cd8 "whole_lines" = true)
    (k8 : PySem.W.keepIn K (.ref f8) = true)
    {f9 : Addr} {od9 an9 : Option Addr} {sl9 : Array (Option Value)} {oc9 kV9 dc9 pm9 cd9 ct9 : Value}
    (a9 : PySem.W.nsIn K mainGlobals "parse_journal" = some (some (.ref f9)))
    (l9 : K.lookup f9 = some ⟨oc9, od9, .func (PySem.W.fnOf "parse_journal" "parse_journal" (defArgs s_parse_journal) (defBody s_parse_journal) (defScope s_parse_journal) .none kV9 dc9 pm9 an9 cd9 ct9), sl9⟩)
    (c9 : PySem.W.codeIn K cd9 "parse_journal" = true)
    (k9 : PySem.W.keepIn K (.ref f9) = true)
    {f10 : Addr} {od10 an10 : Option Addr} {sl10 : Array (Option Value)} {oc10 kV10 dc10 pm10 cd10 ct10 : Value}
    (a10 : PySem.W.nsIn K mainGlobals "_law_cell" = some (some (.ref f10)))
    (l10 : K.lookup f10 = some ⟨oc10, od10, .func (PySem.W.fnOf "_law_cell" "_law_cell" (defArgs s_L_cell) (defBody s_L_cell) (defScope s_L_cell) .none kV10 dc10 pm10 an10 cd10 ct10), sl10⟩)
    (c10 : PySem.W.codeIn K cd10 "_law_cell" = true)
    (k10 : PySem.W.keepIn K (.ref f10) = true)
    {f11 : Addr} {od11 an11 : Option Addr} {sl11 : Array (Option Value)} {oc11 kV11 dc11 pm11 cd11 ct11 : Value}
    (a11 : PySem.W.nsIn K mainGlobals "_law_office" = some (some (.ref f11)))
    (l11 : K.lookup f11 = some ⟨oc11, od11, .func (PySem.W.fnOf "_law_office" "_law_office" (defArgs s_L_office) (defBody s_L_office) (defScope s_L_office) .none kV11 dc11 pm11 an11 cd11 ct11), sl11⟩)
    (c11 : PySem.W.codeIn K cd11 "_law_office" = true)
    (k11 : PySem.W.keepIn K (.ref f11) = true)
    {f12 : Addr} {od12 an12 : Option Addr} {sl12 : Array (Option Value)} {oc12 kV12 dc12 pm12 cd12 ct12 : Value}
    (a12 : PySem.W.nsIn K mainGlobals "_law_number" = some (some (.ref f12)))
    (l12 : K.lookup f12 = some ⟨oc12, od12, .func (PySem.W.fnOf "_law_number" "_law_number" (defArgs s_L_number) (defBody s_L_number) (defScope s_L_number) .none kV12 dc12 pm12 an12 cd12 ct12), sl12⟩)
    (c12 : PySem.W.codeIn K cd12 "_law_number" = true)
    (k12 : PySem.W.keepIn K (.ref f12) = true)
    {f13 : Addr} {od13 an13 : Option Addr} {sl13 : Array (Option Value)} {oc13 kV13 dc13 pm13 cd13 ct13 : Value}
    (a13 : PySem.W.nsIn K mainGlobals "_law_thing" = some (some (.ref f13)))
    (l13 : K.lookup f13 = some ⟨oc13, od13, .func (PySem.W.fnOf "_law_thing" "_law_thing" (defArgs s_L_thing) (defBody s_L_thing) (defScope s_L_thing) .none kV13 dc13 pm13 an13 cd13 ct13), sl13⟩)
    (c13 : PySem.W.codeIn K cd13 "_law_thing" = true)
    (k13 : PySem.W.keepIn K (.ref f13) = true)
    {f14 : Addr} {od14 an14 : Option Addr} {sl14 : Array (Option Value)} {oc14 kV14 dc14 pm14 cd14 ct14 : Value}
    (a14 : PySem.W.nsIn K mainGlobals "_law_values" = some (some (.ref f14)))
    (l14 : K.lookup f14 = some ⟨oc14, od14, .func (PySem.W.fnOf "_law_values" "_law_values" (defArgs s_L_values) (defBody s_L_values) (defScope s_L_values) .none kV14 dc14 pm14 an14 cd14 ct14), sl14⟩)
    (c14 : PySem.W.codeIn K cd14 "_law_values" = true)
    (k14 : PySem.W.keepIn K (.ref f14) = true)
    {f15 : Addr} {od15 an15 : Option Addr} {sl15 : Array (Option Value)} {oc15 kV15 dc15 pm15 cd15 ct15 : Value}
    (a15 : PySem.W.nsIn K mainGlobals "_law_shape" = some (some (.ref f15)))
    (l15 : K.lookup f15 = some ⟨oc15, od15, .func (PySem.W.fnOf "_law_shape" "_law_shape" (defArgs s_L_shape) (defBody s_L_shape) (defScope s_L_shape) .none kV15 dc15 pm15 an15 cd15 ct15), sl15⟩)
    (c15 : PySem.W.codeIn K cd15 "_law_shape" = true)
    (k15 : PySem.W.keepIn K (.ref f15) = true)
    {f16 : Addr} {od16 an16 : Option Addr} {sl16 : Array (Option Value)} {oc16 kV16 dc16 pm16 cd16 ct16 : Value}
    (a16 : PySem.W.nsIn K mainGlobals "_law_row" = some (some (.ref f16)))
    (l16 : K.lookup f16 = some ⟨oc16, od16, .func (PySem.W.fnOf "_law_row" "_law_row" (defArgs s_L_row) (defBody s_L_row) (defScope s_L_row) .none kV16 dc16 pm16 an16 cd16 ct16), sl16⟩)
    (c16 : PySem.W.codeIn K cd16 "_law_row" = true)
    (k16 : PySem.W.keepIn K (.ref f16) = true)
    {f17 : Addr} {od17 an17 : Option Addr} {sl17 : Array (Option Value)} {oc17 kV17 dc17 pm17 cd17 ct17 : Value}
    (a17 : PySem.W.nsIn K mainGlobals "_law_bad" = some (some (.ref f17)))
    (l17 : K.lookup f17 = some ⟨oc17, od17, .func (PySem.W.fnOf "_law_bad" "_law_bad" (defArgs s_L_bad) (defBody s_L_bad) (defScope s_L_bad) .none kV17 dc17 pm17 an17 cd17 ct17), sl17⟩)
    (c17 : PySem.W.codeIn K cd17 "_law_bad" = true)
    (k17 : PySem.W.keepIn K (.ref f17) = true)
    {f18 : Addr} {od18 an18 : Option Addr} {sl18 : Array (Option Value)} {oc18 kV18 dc18 pm18 cd18 ct18 : Value}
    (a18 : PySem.W.nsIn K mainGlobals "_law_line_of" = some (some (.ref f18)))
    (l18 : K.lookup f18 = some ⟨oc18, od18, .func (PySem.W.fnOf "_law_line_of" "_law_line_of" (defArgs s_L_line_of) (defBody s_L_line_of) (defScope s_L_line_of) .none kV18 dc18 pm18 an18 cd18 ct18), sl18⟩)
    (c18 : PySem.W.codeIn K cd18 "_law_line_of" = true)
    (k18 : PySem.W.keepIn K (.ref f18) = true)
    {f19 : Addr} {od19 an19 : Option Addr} {sl19 : Array (Option Value)} {oc19 kV19 dc19 pm19 cd19 ct19 : Value}
    (a19 : PySem.W.nsIn K mainGlobals "law" = some (some (.ref f19)))
    (l19 : K.lookup f19 = some ⟨oc19, od19, .func (PySem.W.fnOf "law" "law" (defArgs s_law) (defBody s_law) (defScope s_law) .none kV19 dc19 pm19 an19 cd19 ct19), sl19⟩)
    (c19 : PySem.W.codeIn K cd19 "law" = true)
    (k19 : PySem.W.keepIn K (.ref f19) = true)
    (z_len : PySem.W.nsIn K mainGlobals "len" = some none)
    (z_int : PySem.W.nsIn K mainGlobals "int" = some none)
    (z_zip : PySem.W.nsIn K mainGlobals "zip" = some none)
    (z_range : PySem.W.nsIn K mainGlobals "range" = some none)
    (z_abs : PySem.W.nsIn K mainGlobals "abs" = some none)
    (z_str : PySem.W.nsIn K mainGlobals "str" = some none)
    (z_tuple : PySem.W.nsIn K mainGlobals "tuple" = some none)
    {t_LETTERS : Tok}
    (z_LETTERS : PySem.W.nsIn K mainGlobals "LETTERS" = some (some (.str "abcdefghijklmnopqrstuvwxyz" t_LETTERS)))
    {t_GREATEST : Tok}
    (z_GREATEST : PySem.W.nsIn K mainGlobals "GREATEST" = some (some (.int 1000000000 t_GREATEST)))
    {t_DIGITS : Tok}
    (z_DIGITS : PySem.W.nsIn K mainGlobals "DIGITS" = some (some (.str "0123456789" t_DIGITS)))
    {d_LINES : Addr} {n_LINES : Nat} {h_LINES0 h_LINES1 h_LINES2 h_LINES3 h_LINES4 h_LINES5 h_LINES6 h_LINES7 h_LINES8 h_LINES9 : Int} {t_LINES0 u_LINES0 t_LINES1 u_LINES1 t_LINES2 u_LINES2 t_LINES3 u_LINES3 t_LINES4 u_LINES4 t_LINES5 u_LINES5 t_LINES6 u_LINES6 t_LINES7 u_LINES7 t_LINES8 u_LINES8 t_LINES9 u_LINES9 : Tok}
    (a_LINES : PySem.W.nsIn K mainGlobals "LINES" = some (some (.ref d_LINES)))
    (l_LINES : K.lookup d_LINES = some ⟨.type "dict", none, .dict #[⟨h_LINES0, .str "register" t_LINES0, .str "in" u_LINES0⟩, ⟨h_LINES1, .str "give" t_LINES1, .str "ino" u_LINES1⟩, ⟨h_LINES2, .str "got" t_LINES2, .str "ionno" u_LINES2⟩, ⟨h_LINES3, .str "use" t_LINES3, .str "i" u_LINES3⟩, ⟨h_LINES4, .str "recall" t_LINES4, .str "i" u_LINES4⟩, ⟨h_LINES5, .str "notice" t_LINES5, .str "io" u_LINES5⟩, ⟨h_LINES6, .str "receipt" t_LINES6, .str "in" u_LINES6⟩, ⟨h_LINES7, .str "noted" t_LINES7, .str "io" u_LINES7⟩, ⟨h_LINES8, .str "pay" t_LINES8, .str "ion" u_LINES8⟩, ⟨h_LINES9, .str "paid" t_LINES9, .str "in" u_LINES9⟩] n_LINES, #[]⟩)
    (y_LINES : PySem.W.KeysLit w.params [⟨h_LINES0, .str "register" t_LINES0, .str "in" u_LINES0⟩, ⟨h_LINES1, .str "give" t_LINES1, .str "ino" u_LINES1⟩, ⟨h_LINES2, .str "got" t_LINES2, .str "ionno" u_LINES2⟩, ⟨h_LINES3, .str "use" t_LINES3, .str "i" u_LINES3⟩, ⟨h_LINES4, .str "recall" t_LINES4, .str "i" u_LINES4⟩, ⟨h_LINES5, .str "notice" t_LINES5, .str "io" u_LINES5⟩, ⟨h_LINES6, .str "receipt" t_LINES6, .str "in" u_LINES6⟩, ⟨h_LINES7, .str "noted" t_LINES7, .str "io" u_LINES7⟩, ⟨h_LINES8, .str "pay" t_LINES8, .str "ion" u_LINES8⟩, ⟨h_LINES9, .str "paid" t_LINES9, .str "in" u_LINES9⟩])
    (o_LINES : (d_LINES == sysModules) = false)
    : ∃ fd : FuncData, (∀ (s : Shared) (v : Value), BindsTo s fd ⟨[v], []⟩ [("_law_script", v)]) ∧ ∀ base : Heap, K.In base → base.Ns mainGlobals mg → FnOk l.prog w K mg base (L2.CX l.prog w) 9 fa fd P_law (spL K) := by
  have e := hfa.symm.trans (PySem.W.mg_of X G a19)
  cases e
  have T : Txt K w mg := ⟨⟨d_LINES, _, n_LINES, PySem.W.mg_of X G a_LINES, ⟨l_LINES, y_LINES, o_LINES⟩, kt_of (l := [(h_LINES0, "register", t_LINES0, "in", u_LINES0), (h_LINES1, "give", t_LINES1, "ino", u_LINES1), (h_LINES2, "got", t_LINES2, "ionno", u_LINES2), (h_LINES3, "use", t_LINES3, "i", u_LINES3), (h_LINES4, "recall", t_LINES4, "i", u_LINES4), (h_LINES5, "notice", t_LINES5, "io", u_LINES5), (h_LINES6, "receipt", t_LINES6, "in", u_LINES6), (h_LINES7, "noted", t_LINES7, "io", u_LINES7), (h_LINES8, "pay", t_LINES8, "ion", u_LINES8), (h_LINES9, "paid", t_LINES9, "in", u_LINES9)]) l_LINES⟩, PySem.W.mg_none_of X G z_len, PySem.W.mg_none_of X G z_int, PySem.W.mg_none_of X G z_zip, PySem.W.mg_none_of X G z_range, PySem.W.mg_none_of X G z_abs, PySem.W.mg_none_of X G z_str, PySem.W.mg_none_of X G z_tuple, ⟨_, PySem.W.mg_of X G z_LETTERS⟩, ⟨_, PySem.W.mg_of X G z_GREATEST⟩, ⟨_, PySem.W.mg_of X G z_DIGITS⟩, ⟨KInvalidLine, PySem.W.mg_of X G a_InvalidLine, (tab_cons tab_nil (PySem.W.mg_of X G a_InvalidLine) (PySem.W.exm_ref b_InvalidLine hd_InvalidLine t_InvalidLine s_InvalidLine_InvalidLine))⟩, (xfl_cons xfl_nil (PySem.W.mg_of X G a_InvalidLine) ⟨eg_InvalidLine, ek_InvalidLine, b_InvalidLine, ed_InvalidLine⟩ fl_InvalidLine), trivial⟩
  have XC_InvalidLine : Xs.XiC K KInvalidLine "line" := ⟨⟨⟨_, _, _, _, _, _, _, _, _, _, _, _, _, _, _, lx_InvalidLine, rv_InvalidLine⟩, sa_InvalidLine, b_InvalidLine, t_InvalidLine, kp_InvalidLine⟩, su_InvalidLine, ve_InvalidLine, se_InvalidLine, fl_InvalidLine, op_x⟩
  have XJ_InvalidLine : ∀ base : Heap, Xki l.prog w K mg base 1 "InvalidLine" "line" := fun base => ⟨KInvalidLine, fx_InvalidLine, _, _, PySem.W.mg_of X G a_InvalidLine, XC_InvalidLine, in_InvalidLine, ty_InvalidLine, Binds.all (ps := ["self", "line"]) (fun us hl => match us, hl with | [_, _], _ => rfl), xi_InvalidLine XC_InvalidLine lf_InvalidLine cd_InvalidLine lc_InvalidLine vf_InvalidLine hf_InvalidLine ce_InvalidLine (PySem.W.mg_none_of X G z_super) tp_x⟩
  have F0 := fun_mk (st := s_is_office) l0 c0 k0
  have b0 := F0.binds (ps := P_is_office) fun _ _ _ _ _ _ us hl => match us, hl with | [_], _ => rfl
  have F1 := fun_mk (st := s_number_of) l1 c1 k1
  have b1 := F1.binds (ps := P_number_of) fun _ _ _ _ _ _ us hl => match us, hl with | [_], _ => rfl
  have F2 := fun_mk (st := s_is_thing) l2 c2 k2
  have b2 := F2.binds (ps := P_is_thing) fun _ _ _ _ _ _ us hl => match us, hl with | [_], _ => rfl
  have F3 := fun_mk (st := s_value_of) l3 c3 k3
  have b3 := F3.binds (ps := P_value_of) fun _ _ _ _ _ _ us hl => match us, hl with | [_, _], _ => rfl
  have F4 := fun_mk (st := s_values_of) l4 c4 k4
  have b4 := F4.binds (ps := P_values_of) fun _ _ _ _ _ _ us hl => match us, hl with | [_, _], _ => rfl
  have F5 := fun_mk (st := s_parse_split) l5 c5 k5
  have b5 := F5.binds (ps := P_parse_split) fun _ _ _ _ _ _ us hl => match us, hl with | [_], _ => rfl
  have F6 := fun_mk (st := s_parse_join) l6 c6 k6
  have b6 := F6.binds (ps := P_parse_join) fun _ _ _ _ _ _ us hl => match us, hl with | [_], _ => rfl
  have F7 := fun_mk (st := s_row_of) l7 c7 k7
  have b7 := F7.binds (ps := P_row_of) fun _ _ _ _ _ _ us hl => match us, hl with | [_], _ => rfl
  have F8 := fun_mk (st := s_whole_lines) l8 c8 k8
  have b8 := F8.binds (ps := P_whole_lines) fun _ _ _ _ _ _ us hl => match us, hl with | [_], _ => rfl
  have F9 := fun_mk (st := s_parse_journal) l9 c9 k9
  have b9 := F9.binds (ps := P_parse_journal) fun _ _ _ _ _ _ us hl => match us, hl with | [_], _ => rfl
  have F10 := fun_mk (st := s_L_cell) l10 c10 k10
  have b10 := F10.binds (ps := P_L_cell) fun _ _ _ _ _ _ us hl => match us, hl with | [_, _], _ => rfl
  have F11 := fun_mk (st := s_L_office) l11 c11 k11
  have b11 := F11.binds (ps := P_L_office) fun _ _ _ _ _ _ us hl => match us, hl with | [_], _ => rfl
  have F12 := fun_mk (st := s_L_number) l12 c12 k12
  have b12 := F12.binds (ps := P_L_number) fun _ _ _ _ _ _ us hl => match us, hl with | [_], _ => rfl
  have F13 := fun_mk (st := s_L_thing) l13 c13 k13
  have b13 := F13.binds (ps := P_L_thing) fun _ _ _ _ _ _ us hl => match us, hl with | [_], _ => rfl
  have F14 := fun_mk (st := s_L_values) l14 c14 k14
  have b14 := F14.binds (ps := P_L_values) fun _ _ _ _ _ _ us hl => match us, hl with | [_, _, _], _ => rfl
  have F15 := fun_mk (st := s_L_shape) l15 c15 k15
  have b15 := F15.binds (ps := P_L_shape) fun _ _ _ _ _ _ us hl => match us, hl with | [_], _ => rfl
  have F16 := fun_mk (st := s_L_row) l16 c16 k16
  have b16 := F16.binds (ps := P_L_row) fun _ _ _ _ _ _ us hl => match us, hl with | [_, _], _ => rfl
  have F17 := fun_mk (st := s_L_bad) l17 c17 k17
  have b17 := F17.binds (ps := P_L_bad) fun _ _ _ _ _ _ us hl => match us, hl with | [_, _], _ => rfl
  have F18 := fun_mk (st := s_L_line_of) l18 c18 k18
  have b18 := F18.binds (ps := P_L_line_of) fun _ _ _ _ _ _ us hl => match us, hl with | [_], _ => rfl
  have F19 := fun_mk (st := s_law) l19 c19 k19
  refine ⟨PySem.W.fnOf "law" "law" (defArgs s_law) (defBody s_law) (defScope s_law) .none kV19 dc19 pm19 an19 cd19 ct19, fun s v => .of_eq rfl, fun base _ _ => ?_⟩
  have C0 : Df l.prog w K mg base 1 "is_office" P_is_office f_is_office := ⟨f0, _, (ok_is_office (base := base) T F0), PySem.W.mg_of X G a0, k0, b0⟩
  have C1 : Df l.prog w K mg base 1 "number_of" P_number_of f_number_of := ⟨f1, _, (ok_number_of (base := base) T F1), PySem.W.mg_of X G a1, k1, b1⟩
  have C2 : Df l.prog w K mg base 2 "is_thing" P_is_thing f_is_thing := ⟨f2, _, (ok_is_thing (base := base) T C1 C0 F2), PySem.W.mg_of X G a2, k2, b2⟩
  have C3 : Df l.prog w K mg base 3 "value_of" P_value_of f_value_of := ⟨f3, _, (ok_value_of (base := base) T C2 C0 C1 F3), PySem.W.mg_of X G a3, k3, b3⟩
  have C4 : Df l.prog w K mg base 4 "values_of" P_values_of f_values_of := ⟨f4, _, (ok_values_of (base := base) T C3 F4), PySem.W.mg_of X G a4, k4, b4⟩
  have C5 : Df l.prog w K mg base 5 "parse_split" P_parse_split f_parse_split := ⟨f5, _, (ok_parse_split (base := base) T C4 F5), PySem.W.mg_of X G a5, k5, b5⟩
  have C6 : Df l.prog w K mg base 5 "parse_join" P_parse_join f_parse_join := ⟨f6, _, (ok_parse_join (base := base) T C4 F6), PySem.W.mg_of X G a6, k6, b6⟩
  have C7 : Df l.prog w K mg base 6 "row_of" P_row_of f_row_of := ⟨f7, _, (ok_row_of (base := base) T C4 C6 C5 F7), PySem.W.mg_of X G a7, k7, b7⟩
  have C8 : Df l.prog w K mg base 1 "whole_lines" P_whole_lines f_whole_lines := ⟨f8, _, (ok_whole_lines (base := base) T F8), PySem.W.mg_of X G a8, k8, b8⟩
  have C9 : Dm l.prog w K mg base 7 "parse_journal" P_parse_journal f_parse_journal := ⟨f9, _, (ok_parse_journal (base := base) T C8 C7 (XJ_InvalidLine base) F9), PySem.W.mg_of X G a9, k9, b9⟩
  have C10 : Df l.prog w K mg base 1 "_law_cell" P_L_cell f_L_cell := ⟨f10, _, (ok_L_cell (base := base) T F10), PySem.W.mg_of X G a10, k10, b10⟩
  have C11 : Df l.prog w K mg base 1 "_law_office" P_L_office f_L_office := ⟨f11, _, (ok_L_office (base := base) T F11), PySem.W.mg_of X G a11, k11, b11⟩
  have C12 : Df l.prog w K mg base 1 "_law_number" P_L_number f_L_number := ⟨f12, _, (ok_L_number (base := base) T F12), PySem.W.mg_of X G a12, k12, b12⟩
  have C13 : Df l.prog w K mg base 2 "_law_thing" P_L_thing f_L_thing := ⟨f13, _, (ok_L_thing (base := base) T C11 C12 F13), PySem.W.mg_of X G a13, k13, b13⟩
  have C14 : Df l.prog w K mg base 3 "_law_values" P_L_values f_L_values := ⟨f14, _, (ok_L_values (base := base) T C12 C11 C13 C10 F14), PySem.W.mg_of X G a14, k14, b14⟩
  have C15 : Df l.prog w K mg base 1 "_law_shape" P_L_shape f_L_shape := ⟨f15, _, (ok_L_shape (base := base) T F15), PySem.W.mg_of X G a15, k15, b15⟩
  have C16 : Df l.prog w K mg base 4 "_law_row" P_L_row f_L_row := ⟨f16, _, (ok_L_row (base := base) T C14 C15 C10 F16), PySem.W.mg_of X G a16, k16, b16⟩
  have C17 : Df l.prog w K mg base 1 "_law_bad" P_L_bad f_L_bad := ⟨f17, _, (ok_L_bad (base := base) T F17), PySem.W.mg_of X G a17, k17, b17⟩
  have C18 : Dm l.prog w K mg base 8 "_law_line_of" P_L_line_of f_L_line_of := ⟨f18, _, (ok_L_line_of (base := base) T C9 F18), PySem.W.mg_of X G a18, k18, b18⟩
  exact FnOk.imp (ok_law (base := base) T C10 C17 C16 C18 C9 F19) (law_spM law_true)
theorem walk {l : PySem.W.OpenLaw} {q : Program} {loose : List Str} {XP : (Str → Option Value) → Heap → Prop} {YP : World → Heap → Prop} {d : DefRec} {K : Params → PySem.W.Frag} (hn : l.most = some 63) (hdf : d.params.defaults = [])
    (hY : ∀ (w : World) (h : Heap), YP w h → (K w.params).In h)
    (F : ∀ (w : World) (mg : Str → Option Value) (fa : Addr) (h : Heap), (K w.params).In h → h.Ns mainGlobals mg → mg d.name = some (.ref fa) →
      ∃ fd : FuncData, (∀ (s : Shared) (u : Value), BindsTo s fd ⟨[u], []⟩ [("_law_script", u)]) ∧ ∀ base : Heap, (K w.params).In base → base.Ns mainGlobals mg → FnOk l.prog w (K w.params) mg base (L2.CX l.prog w) 9 fa fd P_law (spL (K w.params))) :
    PySem.W.WalkO q loose XP YP l.row.toRowW d [] (fun f vs => PySem.call f vs) :=
  L2.walk_of (n := 63) (k := 9) (x := "_law_script") (CX := fun w => L2.CX l.prog w) (sp := fun w => spL (K w.params)) hn (by decide) hdf ⟨rfl, by decide, by decide⟩ hY F (fun w H a ns hl _ hS => spL_of H a ns hl hS) fun _ _ _ _ _ z => cx_none z
end Lh
open PySem PySem.W PyProof.Rows in
set_option maxRecDepth 100000 in
set_option maxHeartbeats 0 in
theorem PySem.Challenge.cw_letterheld_k12_first_invalid_line_of_a_j_holds : PySem.Challenge.rw_letterheld_k12_first_invalid_line_of_a_j.Holds := by
  w_on; o_law; k_head; (case hw => w_witness2)
  k_fill
  refine Lh.walk (l := PySem.Challenge.rw_letterheld_k12_first_invalid_line_of_a_j) rfl rfl (fun w h Y => PySem.W.kIn_of Y) ?F
  case F =>
    intro w mg fa h KX G hmg
    refine' Lh.all_mk KX G hmg ?a_InvalidLine ?b_InvalidLine ?t_InvalidLine ?hd_InvalidLine ?lx_InvalidLine ?rv_InvalidLine ?sa_InvalidLine ?kp_InvalidLine ?su_InvalidLine ?ve_InvalidLine ?se_InvalidLine ?fl_InvalidLine ?in_InvalidLine ?ty_InvalidLine ?lf_InvalidLine ?cd_InvalidLine ?lc_InvalidLine ?vf_InvalidLine ?hf_InvalidLine ?ce_InvalidLine ?z_super ?op_x ?tp_x ?s_InvalidLine_InvalidLine ?hn_x ?ht_x ?eg_InvalidLine ?ek_InvalidLine ?ed_InvalidLine ?ea_InvalidLine ?em_InvalidLine ?a0 ?l0 ?c0 ?k0 ?a1 ?l1 ?c1 ?k1 ?a2 ?l2 ?c2 ?k2 ?a3 ?l3 ?c3 ?k3 ?a4 ?l4 ?c4 ?k4 ?a5 ?l5 ?c5 ?k5 ?a6 ?l6 ?c6 ?k6 ?a7 ?l7 ?c7 ?k7 ?a8 ?l8 ?c8 ?k8 ?a9 ?l9 ?c9 ?k9 ?a10 ?l10 ?c10 ?k10 ?a11 ?l11 ?c11 ?k11 ?a12 ?l12 ?c12 ?k12 ?a13 ?l13 ?c13 ?k13 ?a14 ?l14 ?c14 ?k14 ?a15 ?l15 ?c15 ?k15 ?a16 ?l16 ?c16 ?k16 ?a17 ?l17 ?c17 ?k17 ?a18 ?l18 ?c18 ?k18 ?a19 ?l19 ?c19 ?k19 ?z_len ?z_int ?z_zip ?z_range ?z_abs ?z_str ?z_tuple ?z_LETTERS ?z_GREATEST ?z_DIGITS ?a_LINES ?l_LINES ?y_LINES ?o_LINES
    (case a_InvalidLine => k_is)
    (case b_InvalidLine => k_is)
    (case t_InvalidLine => k_is)
    (case hd_InvalidLine => k_is)
    (case lx_InvalidLine => k_is)
    (case rv_InvalidLine => decide +kernel)
    (case sa_InvalidLine => k_is)
    (case kp_InvalidLine => k_is)
    (case su_InvalidLine => ks_is)
    (case ve_InvalidLine => k_is)
    (case se_InvalidLine => k_is)
    (case fl_InvalidLine => k_is)
    (case in_InvalidLine => k_is)
    (case ty_InvalidLine => k_is)
    (case lf_InvalidLine => k_is)
    (case cd_InvalidLine => k_is)
    (case lc_InvalidLine => k_is)
    (case vf_InvalidLine => rfl)
    (case hf_InvalidLine => first | rfl | decide +kernel)
    (case ce_InvalidLine => k_is)
    (case z_super => k_is)
    (case op_x => k_is)
    (case tp_x => first | rfl | decide +kernel)
    (case s_InvalidLine_InvalidLine => k_is)
    (case hn_x => k_is)
    (case ht_x => k_is)
    (case eg_InvalidLine => k_is)
    (case ek_InvalidLine => k_is)
    (case ed_InvalidLine => k_is)
    (case ea_InvalidLine => k_is)
    (case em_InvalidLine => k_is)
    (case a0 => k_is)
    (case l0 => k_is)
    (case c0 => k_is)
    (case k0 => k_is)
    (case a1 => k_is)
    (case l1 => k_is)
    (case c1 => k_is)
    (case k1 => k_is)
    (case a2 => k_is)
    (case l2 => k_is)
    (case c2 => k_is)
    (case k2 => k_is)
    (case a3 => k_is)
    (case l3 => k_is)
    (case c3 => k_is)
    (case k3 => k_is)
    (case a4 => k_is)
    (case l4 => k_is)
    (case c4 => k_is)
    (case k4 => k_is)
    (case a5 => k_is)
    (case l5 => k_is)
    (case c5 => k_is)
    (case k5 => k_is)
    (case a6 => k_is)
    (case l6 => k_is)
    (case c6 => k_is)
    (case k6 => k_is)
    (case a7 => k_is)
    (case l7 => k_is)
    (case c7 => k_is)
    (case k7 => k_is)
    (case a8 => k_is)
    (case l8 => k_is)
    (case c8 => k_is)
    (case k8 => k_is)
    (case a9 => k_is)
    (case l9 => k_is)
    (case c9 => k_is)
    (case k9 => k_is)
    (case a10 => k_is)
    (case l10 => k_is)
    (case c10 => k_is)
    (case k10 => k_is)
    (case a11 => k_is)
    (case l11 => k_is)
    (case c11 => k_is)
    (case k11 => k_is)
    (case a12 => k_is)
    (case l12 => k_is)
    (case c12 => k_is)
    (case k12 => k_is)
    (case a13 => k_is)
    (case l13 => k_is)
    (case c13 => k_is)
    (case k13 => k_is)
    (case a14 => k_is)
    (case l14 => k_is)
    (case c14 => k_is)
    (case k14 => k_is)
    (case a15 => k_is)
    (case l15 => k_is)
    (case c15 => k_is)
    (case k15 => k_is)
    (case a16 => k_is)
    (case l16 => k_is)
    (case c16 => k_is)
    (case k16 => k_is)
    (case a17 => k_is)
    (case l17 => k_is)
    (case c17 => k_is)
    (case k17 => k_is)
    (case a18 => k_is)
    (case l18 => k_is)
    (case c18 => k_is)
    (case k18 => k_is)
    (case a19 => k_is)
    (case l19 => k_is)
    (case c19 => k_is)
    (case k19 => k_is)
    (case z_len => k_is)
    (case z_int => k_is)
    (case z_zip => k_is)
    (case z_range => k_is)
    (case z_abs => k_is)
    (case z_str => k_is)
    (case z_tuple => k_is)
    (case z_LETTERS => k_is)
    (case z_GREATEST => k_is)
    (case z_DIGITS => k_is)
    (case a_LINES => k_is)
    (case l_LINES => k_is)
    (case y_LINES => k_keys)
    (case o_LINES => decide)
#print axioms PySem.Challenge.cw_letterheld_k12_first_invalid_line_of_a_j_holds

